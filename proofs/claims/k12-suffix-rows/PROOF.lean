import PyProof.Rows.All
import Wide.All
import OpenK.AllK
import Wide.FinOn
import KE.KStateDown
import Lean
import HandS.ForMost
import HandS.Defaults
import HandS.Head0
import HandS.Head1
import HandS.Head2
import HandS.HeadEnd
import HandS.HeadHook1
import HandS.HeadHook2
import HandS.HeadHook3
import HandS.HeadHook4
import HandS.More
import HandS.IsInst
import HandS.SortKw
import HandS.SortInts
import HandS.Evl
import HandS.Wide
import HandS.WideBits
import HandS.Replace
import HandS.RaiseMore
import HandS.Flt
import HandS.Deep
import HandS.SetFor
import HandS.Steps
import HandS.More
import HandS.TryOnly
import HandS.ExcOwn
import HandS.ExcIs
import HandS.ExcInit
import HandS.ExcField
import HandS.WordsExc
import HandS.FStr
import KE.KExcIs
import KE.BitLaws
import HandS.SortInts
import HandS.SetFor
import HandS.Strs
import HandS.DictComp
import HandS.SortRule
import HandS.Defaults
import HandS.MakeKw
import HandS.MakeKwOnly
import KE.KRevSl
import KE.SortData
import KE.SortKeyHeap
import KE.KLam
import HandS.Lambda
import HandS.EndTab
import HandS.HeadWalk
import KE.KNestM
import PySem.Challenge.RW_homereads_k12_suffix_rows
set_option Elab.async false
set_option linter.all false
set_option maxRecDepth 100000
set_option maxHeartbeats 4000000
namespace Fw
open PySem PySem.Spec PyProof.Rows L2

/-! ### facts that stay while the heap grows -/
structure Ck where
  p : Hp → Prop
  mono : ∀ {F F' : Hp}, Same F F' → p F → p F'
def AllC : List Ck → Hp → Prop
  | [], _ => True
  | c :: r, F => c.p F ∧ AllC r F
theorem AllC.mono : ∀ {Cs : List Ck} {F F' : Hp}, Same F F' → AllC Cs F → AllC Cs F'
  | [], _, _, _, _ => trivial
  | c :: r, _, _, s, h => ⟨c.mono s h.1, AllC.mono s h.2⟩
theorem AllC.get : ∀ {Cs : List Ck} {F : Hp} {i : Nat} {c : Ck}, AllC Cs F → Cs[i]? = some c → c.p F
  | [], _, _, _, _, e => by simp at e
  | c :: r, _, 0, _, h, e => by
    have e1 : c = _ := Option.some.inj e
    rw [← e1]
    exact h.1
  | c :: r, _, i + 1, d, h, e => AllC.get (Cs := r) (i := i) (c := d) h.2 e
def cL (a : Addr) (xs : List V) : Ck := ⟨fun F => F a = some (.lst xs), fun s h => s _ _ h⟩
def cT (a : Addr) (xs : List V) : Ck := ⟨fun F => F a = some (.tup xs), fun s h => s _ _ h⟩
def cO (a : Addr) (o : HO) : Ck := ⟨fun F => F a = some o, fun s h => s _ _ h⟩
theorem Same.sqt {K : PySem.W.Frag} {H H' : Hp} {a : Addr} {xs : List V} (e : Same H H') (h : SqT K H a xs) : SqT K H' a xs := by
  rcases h with (h | ⟨o, h⟩) | h
  · exact .inl (.inl (e _ _ h))
  · exact .inl (.inr ⟨o, e _ _ h⟩)
  · exact .inr h
mutual
theorem Dp.mono {K : PySem.W.Frag} {H H' : Hp} (e : Same H H') : ∀ (d : PyData) (v : V), Dp K H v d → Dp K H' v d
  | .none, _, h => by cases h; exact .non
  | .bool b, _, h => by cases h; exact .bl b
  | .int i, _, h => by cases h; exact .int i
  | .str x, _, h => by cases h; exact .str x
  | .list ds, _, h => by
    cases h with
    | lst hs ha => exact .lst (e.seq hs) (DpAll.mono e ds _ ha)
  | .tuple ds, _, h => by
    cases h with
    | tup hs ha => exact .tup (Same.sqt e hs) (DpAll.mono e ds _ ha)
  | .dict _, _, h => by cases h
theorem DpAll.mono {K : PySem.W.Frag} {H H' : Hp} (e : Same H H') : ∀ (ds : List PyData) (vs : List V), DpAll K H vs ds → DpAll K H' vs ds
  | [], _, h => by cases h; exact .nil
  | d :: ds, _, h => by
    cases h with
    | cons h1 h2 => exact .cons (Dp.mono e d _ h1) (DpAll.mono e ds _ h2)
end
def cS (K : PySem.W.Frag) (a : Addr) (xs : List V) : Ck := ⟨fun F => SqL K F a xs, fun s h => s.seq h⟩
def cU (K : PySem.W.Frag) (a : Addr) (xs : List V) : Ck := ⟨fun F => SqT K F a xs, fun s h => Same.sqt s h⟩
def cD (K : PySem.W.Frag) (v : V) (d : PyData) : Ck := ⟨fun F => Dp K F v d, fun s h => Dp.mono s _ _ h⟩
def cDs (K : PySem.W.Frag) (vs : List V) (ds : List PyData) : Ck := ⟨fun F => DpAll K F vs ds, fun s h => DpAll.mono s _ _ h⟩

/-! ### the heap's parts -/
/-- F0, H0: frozen part and heap at the entry; F: the frozen part now, H: the heap now; L: the def's own objects, each may still change -/
structure Own (F0 H0 F H : Hp) (L : List (Addr × HO)) (C : List Ck) : Prop where
  f0 : Same F0 F
  fh : Same F H
  hh : Same H0 H
  new : ∀ a o, F a = some o → F0 a = some o ∨ H0 a = none
  own : ∀ q ∈ L, F q.1 = none ∧ H0 q.1 = none ∧ H q.1 = some q.2
  nd : (L.map Prod.fst).Nodup
  cs : AllC C F
/-- what a call may do: F' F grown by new objects, all kept -/
structure Ext (F H F' H' : Hp) : Prop where
  ff : Same F F'
  fh : Same F' H'
  hh : Same H H'
  new : ∀ a o, F' a = some o → F a = some o ∨ H a = none
structure OwnNew (H F' H' : Hp) (L : List (Addr × HO)) : Prop where
  at_ : ∀ q ∈ L, F' q.1 = none ∧ H q.1 = none ∧ H' q.1 = some q.2
  nd : (L.map Prod.fst).Nodup
section
variable {F0 H0 F H F' H' : Hp} {L L' : List (Addr × HO)} {C C' : List Ck} {p a : Addr} {o o' : HO} {K : PySem.W.Frag} {xs : List V} {i : Nat}
theorem Own.start (s : Same F H) (cs : AllC C F) : Own F H F H [] C := ⟨Same.refl _, s, Same.refl _, fun _ _ h => .inl h, fun _ h => (nomatch h), List.nodup_nil, cs⟩
theorem Own.ck (O : Own F0 H0 F H L C) (i : Nat) {c : Ck} (h : C[i]? = some c := by rfl) : c.p F := O.cs.get h
theorem Own.push (O : Own F0 H0 F H L C) (c : Ck) (h : c.p F) : Own F0 H0 F H L (c :: C) := { O with cs := ⟨h, O.cs⟩ }
theorem Own.chunks (O : Own F0 H0 F H L C) (h : AllC C' F) : Own F0 H0 F H L C' := { O with cs := h }
theorem Own.at_ (O : Own F0 H0 F H L C) (i : Nat) {a : Addr} {o : HO} (h : L[i]? = some (a, o) := by rfl) : H a = some o := (O.own (a, o) (List.mem_of_getElem? h)).2.2
theorem Own.none0 (O : Own F0 H0 F H L C) (np : H p = none) : F p = none ∧ H0 p = none := ⟨O.fh.free np, O.hh.free np⟩
theorem Own.alloc (O : Own F0 H0 F H L C) (np : H p = none) (o : HO) : Own F0 H0 F (upd H p o) ((p, o) :: L) C := by
  have s : Same H (upd H p o) := fun b u e => by rw [upd_ne (ne_of_none e np)]; exact e
  refine ⟨O.f0, O.fh.trans s, O.hh.trans s, O.new, fun q hq => ?_, ?_, O.cs⟩
  · rcases List.mem_cons.mp hq with e | hq
    · subst e
      exact ⟨(O.none0 np).1, (O.none0 np).2, upd_same⟩
    · obtain ⟨h1, h2, h3⟩ := O.own q hq
      exact ⟨h1, h2, s _ _ h3⟩
  · rw [List.map_cons]
    refine List.nodup_cons.mpr ⟨fun hm => ?_, O.nd⟩
    obtain ⟨q, hq, e⟩ := List.mem_map.mp hm
    have h3 := (O.own q hq).2.2
    rw [e, np] at h3
    cases h3
/-- a new object that is frozen at once -/
theorem Own.ice (O : Own F0 H0 F H L C) (np : H p = none) (o : HO) : Own F0 H0 (upd F p o) (upd H p o) L (cO p o :: C) := by
  have s : Same H (upd H p o) := fun b u e => by rw [upd_ne (ne_of_none e np)]; exact e
  have sF : Same F (upd F p o) := fun b u e => by rw [upd_ne (ne_of_none e (O.none0 np).1)]; exact e
  refine ⟨O.f0.trans sF, fun b u e => ?_, O.hh.trans s, fun b u e => ?_, fun q hq => ?_, O.nd, ⟨upd_same, O.cs.mono sF⟩⟩
  · by_cases hb : b = p
    · subst hb
      rw [upd_same] at e ⊢
      exact e
    · rw [upd_ne hb] at e ⊢
      exact O.fh b u e
  · by_cases hb : b = p
    · subst hb
      exact .inr (O.none0 np).2
    · rw [upd_ne hb] at e
      exact O.new b u e
  · obtain ⟨h1, h2, h3⟩ := O.own q hq
    refine ⟨?_, h2, s _ _ h3⟩
    rw [upd_ne (ne_of_none h3 np)]
    exact h1
theorem nodup_map_get {L : List (Addr × HO)} (nd : (L.map Prod.fst).Nodup) {i j : Nat} {q r : Addr × HO} (h1 : L[i]? = some q) (h2 : L[j]? = some r) (e : q.1 = r.1) : i = j := by
  have a1 : (L.map Prod.fst)[i]? = some q.1 := by rw [List.getElem?_map, h1]; rfl
  have a2 : (L.map Prod.fst)[j]? = some q.1 := by rw [List.getElem?_map, h2, e]; rfl
  obtain ⟨l1, e1⟩ := List.getElem?_eq_some_iff.mp a1
  obtain ⟨l2, e2⟩ := List.getElem?_eq_some_iff.mp a2
  exact (List.getElem_inj nd).mp (e1.trans e2.symm)
theorem Own.set (O : Own F0 H0 F H L C) (i : Nat) {a : Addr} {o : HO} (hi : L[i]? = some (a, o)) (o' : HO) : Own F0 H0 F (upd H a o') (L.set i (a, o')) C := by
  obtain ⟨hF, hH0, hH⟩ := O.own (a, o) (List.mem_of_getElem? hi)
  have keep : ∀ b u, b ≠ a → H b = some u → upd H a o' b = some u := fun b u n e => by rw [upd_ne n]; exact e
  refine ⟨O.f0, fun b u e => keep b u (ne_of_none e hF) (O.fh b u e), fun b u e => keep b u (ne_of_none e hH0) (O.hh b u e), O.new, fun q hq => ?_, ?_, O.cs⟩
  · obtain ⟨j, hj⟩ := List.mem_iff_getElem?.mp hq
    by_cases e : i = j
    · subst e
      have hlt : i < L.length := (List.getElem?_eq_some_iff.mp hi).1
      rw [List.getElem?_set_self hlt] at hj
      cases hj
      exact ⟨hF, hH0, upd_same⟩
    · rw [List.getElem?_set_ne e] at hj
      obtain ⟨h1, h2, h3⟩ := O.own q (List.mem_of_getElem? hj)
      exact ⟨h1, h2, keep _ _ (fun z => e (nodup_map_get O.nd hi hj z.symm)) h3⟩
  · have e : (L.set i (a, o')).map Prod.fst = L.map Prod.fst := by
      rw [List.map_set]
      refine List.ext_getElem? fun j => ?_
      by_cases h : i = j
      · subst h
        have hlt : i < (L.map Prod.fst).length := by rw [List.length_map]; exact (List.getElem?_eq_some_iff.mp hi).1
        rw [List.getElem?_set_self hlt, List.getElem?_map, hi]
        rfl
      · rw [List.getElem?_set_ne h]
    rw [e]
    exact O.nd
theorem Own.sub (O : Own F0 H0 F H L C) (h : L'.Sublist L) : Own F0 H0 F H L' C := ⟨O.f0, O.fh, O.hh, O.new, fun q hq => O.own q (h.subset hq), O.nd.sublist (h.map _), O.cs⟩
/-- the last made own object is frozen -/
theorem Own.freeze (O : Own F0 H0 F H ((p, o) :: L) C) : Own F0 H0 (upd F p o) H L (cO p o :: C) := by
  obtain ⟨hF, hH0, hH⟩ := O.own (p, o) List.mem_cons_self
  have sF : Same F (upd F p o) := fun b u e => by rw [upd_ne (ne_of_none e hF)]; exact e
  have nd := O.nd
  rw [List.map_cons] at nd
  obtain ⟨n1, n2⟩ := List.nodup_cons.mp nd
  refine ⟨O.f0.trans sF, fun b u e => ?_, O.hh, fun b u e => ?_, fun q hq => ?_, n2, ⟨upd_same, O.cs.mono sF⟩⟩
  · by_cases hb : b = p
    · subst hb
      rw [upd_same] at e
      cases e
      exact hH
    · rw [upd_ne hb] at e
      exact O.fh b u e
  · by_cases hb : b = p
    · subst hb
      exact .inr hH0
    · rw [upd_ne hb] at e
      exact O.new b u e
  · obtain ⟨h1, h2, h3⟩ := O.own q (List.mem_cons_of_mem _ hq)
    refine ⟨?_, h2, h3⟩
    rw [upd_ne (fun z => n1 (by
      have m := List.mem_map_of_mem (f := Prod.fst) hq
      rw [z] at m
      exact m))]
    exact h1
theorem Own.grow (O : Own F0 H0 F H L C) (e : Ext F H F' H') (n : OwnNew H F' H' L') : Own F0 H0 F' H' (L' ++ L) C := by
  refine ⟨O.f0.trans e.ff, e.fh, O.hh.trans e.hh, fun b u h => ?_, fun q hq => ?_, ?_, O.cs.mono e.ff⟩
  · rcases e.new b u h with h | h
    · exact O.new b u h
    · exact .inr (O.hh.free h)
  · rcases List.mem_append.mp hq with hq | hq
    · obtain ⟨h1, h2, h3⟩ := n.at_ q hq
      exact ⟨h1, O.hh.free h2, h3⟩
    · obtain ⟨h1, h2, h3⟩ := O.own q hq
      refine ⟨?_, h2, e.hh _ _ h3⟩
      cases z : F' q.1 with
      | none => rfl
      | some u =>
        rcases e.new _ _ z with h | h
        · rw [h1] at h; cases h
        · rw [h3] at h; cases h
  · rw [List.map_append]
    refine List.nodup_append.mpr ⟨n.nd, O.nd, fun x hx y hy e2 => ?_⟩
    obtain ⟨q, hq, rfl⟩ := List.mem_map.mp hx
    obtain ⟨r, hr, rfl⟩ := List.mem_map.mp hy
    have h3 := (O.own r hr).2.2
    rw [← e2, (n.at_ q hq).2.1] at h3
    cases h3
/-- the heap alone grew -/
theorem Own.more (O : Own F0 H0 F H L C) (e : Same H H') : Own F0 H0 F H' L C := by
  have g := O.grow (F' := F) (H' := H') (L' := []) ⟨Same.refl _, O.fh.trans e, e, fun _ _ h => .inl h⟩ ⟨fun _ h => (nomatch h), List.nodup_nil⟩
  exact g
theorem Own.ext (O : Own F H F' H' L C) : Ext F H F' H' := ⟨O.f0, O.fh, O.hh, O.new⟩
theorem Own.news (O : Own F H F' H' L C) : OwnNew H F' H' L := ⟨fun q hq => let ⟨h1, h2, h3⟩ := O.own q hq; ⟨h1, h2, h3⟩, O.nd⟩
/-! what stands where -/
theorem Own.lst (O : Own F0 H0 F H L C) (i : Nat) {a : Addr} {xs : List V} (h : L[i]? = some (a, .lst xs) := by rfl) : SqL K H a xs := .inl (.inl (O.at_ i h))
theorem Own.tL (O : Own F0 H0 F H L C) (i : Nat) {a : Addr} {xs : List V} (h : C[i]? = some (cL a xs) := by rfl) : H a = some (.lst xs) := O.fh _ _ (O.cs.get h)
theorem Own.tT (O : Own F0 H0 F H L C) (i : Nat) {a : Addr} {xs : List V} (h : C[i]? = some (cT a xs) := by rfl) : H a = some (.tup xs) := O.fh _ _ (O.cs.get h)
theorem Own.tO (O : Own F0 H0 F H L C) (i : Nat) {a : Addr} {o : HO} (h : C[i]? = some (cO a o) := by rfl) : H a = some o := O.fh _ _ (O.cs.get h)
theorem Own.tS (O : Own F0 H0 F H L C) (i : Nat) {a : Addr} {xs : List V} (h : C[i]? = some (cS K a xs) := by rfl) : SqL K H a xs := O.fh.seq (O.cs.get h)
theorem Own.tU (O : Own F0 H0 F H L C) (i : Nat) {a : Addr} {xs : List V} (h : C[i]? = some (cU K a xs) := by rfl) : SqT K H a xs := Same.sqt O.fh (O.cs.get h)
theorem Own.tD (O : Own F0 H0 F H L C) (i : Nat) {v : V} {d : PyData} (h : C[i]? = some (cD K v d) := by rfl) : Dp K H v d := Dp.mono O.fh _ _ (O.cs.get h)
end

/-! ### promises -/
/-- a def whose result is told by R: the value, its new own objects, the frozen part behind it -/
def Spec (A : Hp → Prop) (R : V → List (Addr × HO) → Hp → Prop) (H : Hp) (Q : VK) : Prop :=
  ∃ F, Same F H ∧ A F ∧ ∀ F' H' v L, Ext F H F' H' → OwnNew H F' H' L → R v L F' → Q v H'
section
variable {F0 H0 F H F' H' : Hp} {L L' : List (Addr × HO)} {C C' : List Ck} {A : Hp → Prop} {R : V → List (Addr × HO) → Hp → Prop} {Q : VK}
theorem Own.call (O : Own F0 H0 F H L C) (hA : A F) (k : ∀ v L' F' H', R v L' F' → Own F0 H0 F' H' (L' ++ L) C → Q v H') : Spec A R H Q :=
  ⟨F, O.fh, hA, fun _ _ _ _ e n r => k _ _ _ _ r (O.grow e n)⟩
theorem Own.ret (O : Own F H F' H' L C) {v : V} (q : ∀ F' H' v L, Ext F H F' H' → OwnNew H F' H' L → R v L F' → Q v H') (r : R v L F') : Q v H' := q _ _ _ _ O.ext O.news r
end
/-- a fresh list of flat things -/
def RL (P : List V → Prop) : V → List (Addr × HO) → Hp → Prop := fun v L _ => ∃ p xs, v = .ref p ∧ L = [(p, .lst xs)] ∧ P xs
/-- a plain value -/
def RV (P : V → Prop) : V → List (Addr × HO) → Hp → Prop := fun v L _ => L = [] ∧ P v
/-- frozen data -/
def RD (K : PySem.W.Frag) (P : PyData → Prop) : V → List (Addr × HO) → Hp → Prop := fun v L F => ∃ d, L = [] ∧ Dp K F v d ∧ P d

def Lk (K : PySem.W.Frag) (f : Addr) (fd : FuncData) : Prop := ∃ oc od osl, K.lookup f = some ⟨oc, od, .func fd, osl⟩
/-- a def that keeps its promise, with what a caller needs -/
def Dn (P : Program) (w : World) (K : PySem.W.Frag) (mg : Str → Option Value) (base : Heap) (k : Nat) (f : Addr) (ps : List Str) (sp : Sp) : Prop :=
  ∃ fd, FnOk P w K mg base CX0 k f fd ps sp ∧ Binds K fd ps [] ∧ PySem.W.keepIn K (.ref f) = true ∧ Lk K f fd
abbrev FnP (K : PySem.W.Frag) (x q : Str) (st : Stmt) (f : Addr) (fd : FuncData) : Prop := FunD K x q (defArgs st) (defBody st) (defScope st) [] [] f fd

/-! ### steps -/
section
variable {nx bk ct : L2.St → Hp → Prop} {rt : VK} {t u : TS} {σ : L2.St} {H : Hp} {te ta tb : TE} {tt tt' : TT} {Q : VK} {i : Nat} {v x y : V} {g : TG}
theorem w_seq (h : t ⟨u ⟨nx, rt, bk, ct⟩, rt, bk, ct⟩ σ H) : tSeq t u ⟨nx, rt, bk, ct⟩ σ H := h
theorem w_next (h : nx σ H) : tNext ⟨nx, rt, bk, ct⟩ σ H := h
theorem w_brk (h : bk σ H) : tBreak ⟨nx, rt, bk, ct⟩ σ H := h
theorem w_cont (h : ct σ H) : tCont ⟨nx, rt, bk, ct⟩ σ H := h
theorem w_asg (h : te σ H fun x H1 => nx (σ.set i (some x)) H1) : tAsg te (gName i) ⟨nx, rt, bk, ct⟩ σ H := h
theorem w_asgG (h : te σ H fun x H1 => g x σ H1 nx) : tAsg te g ⟨nx, rt, bk, ct⟩ σ H := h
theorem w_aug {f : Int → Int → Int} {a : Int} (hx : σ[i]? = some (some (.int a))) (h : te σ H fun y H1 => ∃ b, y = .int b ∧ nx (σ.set i (some (.int (f a b)))) H1) : tAug i te (ipI f) ⟨nx, rt, bk, ct⟩ σ H := by
  refine ⟨_, hx, ?_⟩
  have e : (fun y H1 => ∃ b, y = V.int b ∧ nx (σ.set i (some (.int (f a b)))) H1) = (fun y H1 => ipI f (.int a) y H1 fun z H2 => nx (σ.set i (some z)) H2) := by
    funext y H1
    apply propext
    constructor
    · rintro ⟨b, rfl, q⟩
      exact ⟨a, b, rfl, rfl, q⟩
    · rintro ⟨a', b, e1, rfl, q⟩
      cases e1
      exact ⟨b, rfl, q⟩
  rw [e] at h
  exact h
theorem w_ret (h : te σ H rt) : tRet te ⟨nx, rt, bk, ct⟩ σ H := h
theorem w_retN (h : rt .non H) : tRetN ⟨nx, rt, bk, ct⟩ σ H := h
theorem w_drop (h : te σ H fun _ H1 => nx σ H1) : tDrop te ⟨nx, rt, bk, ct⟩ σ H := h
theorem w_if (h : tt σ H fun b H1 => if b = true then t ⟨nx, rt, bk, ct⟩ σ H1 else u ⟨nx, rt, bk, ct⟩ σ H1) : tIfS tt t u ⟨nx, rt, bk, ct⟩ σ H := h
theorem w_var (h : σ[i]? = some (some v)) (q : Q v H) : tVar i σ H Q := ⟨v, h, q⟩
theorem w_c (q : Q v H) : tC v σ H Q := q
theorem w_op {r : R2} (h : ta σ H fun x H1 => tb σ H1 fun y H2 => r x y H2 Q) : tOp r ta tb σ H Q := h
theorem w_un {r : V → Hp → VK → Prop} (h : ta σ H fun x H1 => r x H1 Q) : tUn r ta σ H Q := h
theorem w_cb {r : List V → Hp → VK → Prop} {tA : TA} (h : tA σ H fun vs H1 => r vs H1 Q) : tCB r tA σ H Q := h
theorem w_nil {Q : List V → Hp → Prop} (h : Q [] H) : tNil σ H Q := h
theorem w_cons {tA : TA} {Q : List V → Hp → Prop} (h : ta σ H fun x H1 => tA σ H1 fun xs H2 => Q (x :: xs) H2) : tCons ta tA σ H Q := h
theorem w_call {sp : Sp} {dvs : List V} {E : XK} {tA : TA} (h : tA σ H fun vs H1 => sp (vs ++ dvs) H1 Q E) : tCall sp dvs E tA σ H Q := h
theorem w_test {Q : Bool → Hp → Prop} (h : te σ H fun x H1 => ∃ k, x = .bl k ∧ Q k H1) : tTest te σ H Q := h
theorem w_tB {Q : Bool → Hp → Prop} (h : te σ H fun x H1 => ∃ k, x = .bl k ∧ Q k H1) : tB te σ H Q := h
theorem w_bl {Q : Bool → Prop} {b : Bool} (h : Q b) : ∃ k, V.bl b = .bl k ∧ Q k := ⟨b, rfl, h⟩
theorem w_intP {Q : Int → Prop} {b : Int} (h : Q b) : ∃ k, V.int b = .int k ∧ Q k := ⟨b, rfl, h⟩
theorem w_and {Q : Bool → Hp → Prop} (h : tt σ H fun c H1 => if c = true then tt' σ H1 Q else Q false H1) : tAnd tt tt' σ H Q := h
theorem w_or {Q : Bool → Hp → Prop} (h : tt σ H fun c H1 => if c = true then Q true H1 else tt' σ H1 Q) : tOr tt tt' σ H Q := h
theorem w_not {Q : Bool → Hp → Prop} (h : tt σ H fun c H1 => Q (!c) H1) : tNot tt σ H Q := h
theorem w_andV (h : ta σ H fun x H1 => ∃ c, x = .bl c ∧ if c = true then tb σ H1 Q else Q (.bl false) H1) : tAndV ta tb σ H Q := h
theorem w_orV (h : ta σ H fun x H1 => ∃ c, x = .bl c ∧ if c = true then Q (.bl true) H1 else tb σ H1 Q) : tOrV ta tb σ H Q := h
theorem w_notV (h : ta σ H fun x H1 => ∃ c, x = .bl c ∧ Q (.bl (!c)) H1) : tNotV ta σ H Q := h
theorem w_ifE (h : tt σ H fun c H1 => if c = true then ta σ H1 Q else tb σ H1 Q) : tIf tt ta tb σ H Q := h
theorem w_iteD {c : Prop} [Decidable c] {A B : Prop} (h1 : c → A) (h2 : ¬ c → B) : if decide c = true then A else B := by
  by_cases h : c
  · rw [if_pos (decide_eq_true h)]; exact h1 h
  · rw [if_neg (by rw [decide_eq_false h]; decide)]; exact h2 h
theorem w_iteN {c : Prop} [Decidable c] {A B : Prop} (h1 : ¬ c → A) (h2 : c → B) : if (!decide c) = true then A else B := by
  by_cases h : c
  · rw [if_neg (by rw [decide_eq_true h]; decide)]; exact h2 h
  · rw [if_pos (by rw [decide_eq_false h]; rfl)]; exact h1 h
theorem w_iteB {b : Bool} {A B : Prop} (h1 : b = true → A) (h2 : b = false → B) : if b = true then A else B := by
  cases b with
  | true => rw [if_pos rfl]; exact h1 rfl
  | false => rw [if_neg Bool.false_ne_true]; exact h2 rfl
theorem w_I0 {g : Int → Int → V} {i j : Int} (q : Q (g i j) H) : rI0 g (.int i) (.int j) H Q := ⟨i, j, rfl, rfl, q⟩
theorem w_I {P : Int → Int → Prop} {g : Int → Int → V} {i j : Int} (q : Q (g i j) H) (hc : P i j) : rI P g (.int i) (.int j) H Q := ⟨i, j, rfl, rfl, hc, q⟩
theorem w_U {g : Int → V} {i : Int} (q : Q (g i) H) : rU g (.int i) H Q := ⟨i, rfl, q⟩
theorem w_eqI {i j : Int} (q : Q (.bl (decide (i = j))) H) : rEq (.int i) (.int j) H Q := ⟨rfl, by
  rw [show decide (V.int i = V.int j) = decide (i = j) from decide_eq_decide.mpr ⟨fun h => V.int.inj h, fun h => by rw [h]⟩]
  exact q⟩
theorem w_neI {i j : Int} (q : Q (.bl (!decide (i = j))) H) : rNe (.int i) (.int j) H Q := ⟨rfl, by
  rw [show decide (V.int i = V.int j) = decide (i = j) from decide_eq_decide.mpr ⟨fun h => V.int.inj h, fun h => by rw [h]⟩]
  exact q⟩
theorem w_eqS {i j : Str} (q : Q (.bl (decide (i = j))) H) : rEq (.str i) (.str j) H Q := ⟨rfl, by
  rw [show decide (V.str i = V.str j) = decide (i = j) from decide_eq_decide.mpr ⟨fun h => V.str.inj h, fun h => by rw [h]⟩]
  exact q⟩
theorem w_neS {i j : Str} (q : Q (.bl (!decide (i = j))) H) : rNe (.str i) (.str j) H Q := ⟨rfl, by
  rw [show decide (V.str i = V.str j) = decide (i = j) from decide_eq_decide.mpr ⟨fun h => V.str.inj h, fun h => by rw [h]⟩]
  exact q⟩
theorem w_eqB {i j : Bool} (q : Q (.bl (decide (i = j))) H) : rEq (.bl i) (.bl j) H Q := ⟨rfl, by
  rw [show decide (V.bl i = V.bl j) = decide (i = j) from decide_eq_decide.mpr ⟨fun h => V.bl.inj h, fun h => by rw [h]⟩]
  exact q⟩
theorem w_neB {i j : Bool} (q : Q (.bl (!decide (i = j))) H) : rNe (.bl i) (.bl j) H Q := ⟨rfl, by
  rw [show decide (V.bl i = V.bl j) = decide (i = j) from decide_eq_decide.mpr ⟨fun h => V.bl.inj h, fun h => by rw [h]⟩]
  exact q⟩
end
end Fw

namespace Fw
open PySem PySem.Spec PyProof.Rows L2

/-! ### texts by their signs -/
def S (l : List Nat) : Str := ⟨l.toArray⟩
theorem S_inj {l m : List Nat} : S l = S m ↔ l = m := ⟨fun h => by
  have e := congrArg (fun z : Str => z.cps.toList) h
  simpa [S] using e, fun h => by rw [h]⟩
theorem S_len (l : List Nat) : (S l).length = l.length := by simp [S, Str.length]
theorem S_app (l m : List Nat) : S l ++ S m = S (l ++ m) := by
  show Str.append (S l) (S m) = S (l ++ m)
  unfold Str.append S
  simp
theorem S_of (z : Str) : z = S z.cps.toList := by
  obtain ⟨a⟩ := z
  simp [S]
theorem S_list (l : List Nat) : (S l).cps.toList = l := by simp [S]
/-- l[lo:hi] -/
def cutN (l : List Nat) (lo hi : Option Int) : List Nat := (l.drop (HT.sIx l.length 0 lo)).take (HT.sIx l.length l.length hi - HT.sIx l.length 0 lo)
theorem S_cut (l : List Nat) (lo hi : Option Int) : cutS (S l) lo hi = S (cutN l lo hi) := by
  unfold cutS cutN
  rw [S_len, S_list]
  rfl
abbrev vS (l : List Nat) : V := .str (S l)

/-! ### rules with named readings -/
section
variable {X : Cx}
theorem pe_strL {x : Str} {l : List Nat} {j : Nat} {pos : Pos} (h : x = S l) : PE X (.Constant (.str x) j pos) (tC (vS l)) := by
  rw [h]
  exact pe_str
theorem pe_globS {x : Str} {l : List Nat} {pos : Pos} (hg : Gl X x) (hm : ∃ t, X.mg x = some (.str (S l) t)) (hd : (x == ("__debug__" : Str)) = false := by decide) : PE X (.Name x pos) (tC (vS l)) := by
  obtain ⟨t, hm⟩ := hm
  exact pe_glob hg hm ⟨_, rfl⟩ hd
theorem pe_globI {x : Str} {i : Int} {pos : Pos} (hg : Gl X x) (hm : ∃ t, X.mg x = some (.int i t)) (hd : (x == ("__debug__" : Str)) = false := by decide) : PE X (.Name x pos) (tC (.int i)) := by
  obtain ⟨t, hm⟩ := hm
  exact pe_glob hg hm ⟨_, rfl⟩ hd
theorem pe_globR {x : Str} {a : Addr} {pos : Pos} (hg : Gl X x) (hm : X.mg x = some (.ref a)) (hd : (x == ("__debug__" : Str)) = false := by decide) : PE X (.Name x pos) (tC (.ref a)) := pe_glob hg hm rfl hd
def rAbs : List V → Hp → VK → Prop := fun xs H Q => ∃ i : Int, xs = [.int i] ∧ Q (.int (i.natAbs : Nat)) H
theorem k_abs : CallR X (.builtin "abs") rAbs := by
  intro pins s σ H vs us Q I r h
  obtain ⟨i, e, q⟩ := h
  refine call_abs pins s σ H vs us Q I r ⟨i, e, ?_⟩
  have e2 : (if i < 0 then -i else i) = ((i.natAbs : Nat) : Int) := by split <;> omega
  rw [e2]
  exact q
def rInt : List V → Hp → VK → Prop := fun xs H Q => ∃ i : Int, xs = [.int i] ∧ Q (.int i) H
theorem k_int : CallR X (.type "int") rInt := fun pins s σ H vs us Q I r ⟨i, e, q⟩ => call_int1 pins s σ H vs us Q I r (.inl ⟨i, e, q⟩)
def rIntB : List V → Hp → VK → Prop := fun xs H Q => ∃ b : Bool, xs = [.bl b] ∧ Q (.int (if b then 1 else 0)) H
theorem k_intB : CallR X (.type "int") rIntB := fun pins s σ H vs us Q I r ⟨i, e, q⟩ => call_int1 pins s σ H vs us Q I r (.inr ⟨i, e, q⟩)
def rLenS : List V → Hp → VK → Prop := fun xs H Q => ∃ l, xs = [vS l] ∧ l.length ≤ sizeLine ∧ Q (.int (l.length : Nat)) H
theorem k_lenS : CallR X (.builtin "len") rLenS := fun pins s σ H vs us Q I r ⟨l, e, hz, q⟩ => call_len_str pins s σ H vs us Q I r ⟨S l, e, by rw [S_len]; exact hz, by rw [S_len]; exact q⟩
def rAddS : R2 := fun x y H Q => ∃ l m, x = vS l ∧ y = vS m ∧ l.length + m.length ≤ sizeLine ∧ Q (vS (l ++ m)) H
theorem k_addS : OpR X (binaryOp .Add) rAddS := fun pins s σ H x y u v Q I rx ry ⟨l, m, e1, e2, hz, q⟩ => op_add_str pins s σ H x y u v Q I rx ry ⟨S l, S m, e1, e2, by rw [S_len, S_len]; exact hz, by rw [S_app]; exact q⟩
def rIxSg : R2 := fun x y H Q => ∃ l i c, x = vS l ∧ y = .int i ∧ l.length ≤ sizeLine ∧ atI l i = some c ∧ Q (vS [c]) H
theorem k_ixS : IxR X rIxSg := by
  intro value slice pins s σ H x y u v Q I rx ry h
  obtain ⟨l, i, c, e1, e2, hz, ha, q⟩ := h
  exact ix_str value slice pins s σ H x y u v Q I rx ry ⟨S l, i, c, e1, e2, by rw [S_len]; exact hz, by rw [S_list]; exact ha, q⟩
def rSlSg : V → Option Int → Option Int → Hp → VK → Prop := fun x lo hi H Q => ∃ l, x = vS l ∧ l.length ≤ sizeLine ∧ Q (vS (cutN l lo hi)) H
theorem SlR.weak {r r' : V → Option Int → Option Int → Hp → VK → Prop} (h : SlR X r) (w : ∀ x lo hi H Q, r' x lo hi H Q → r x lo hi H Q) : SlR X r' := by
  unfold SlR at *
  intros
  rename_i a b
  first
    | exact h _ _ _ _ _ _ _ _ _ _ _ _ (by assumption) (by assumption) (by assumption) (by assumption) (by assumption) (w _ _ _ _ _ (by assumption))
theorem k_slS : SlR X rSlSg := SlR.weak sl_str fun x lo hi H Q ⟨l, e, hz, q⟩ => ⟨S l, e, by rw [S_len]; exact hz, by rw [S_cut]; exact q⟩
def rIsi (K : PySem.W.Frag) : List V → Hp → VK → Prop := L2.rIsi K
theorem k_isi : CallR X (.builtin "isinstance") (rIsi X.K) := call_isi
def rLenQ (K : PySem.W.Frag) : List V → Hp → VK → Prop := fun vs H Q => ∃ a xs, vs = [.ref a] ∧ (SqL K H a xs ∨ SqT K H a xs) ∧ Q (.int (xs.length : Nat)) H
theorem k_lenQ : CallR X (.builtin "len") (rLenQ X.K) := fun pins s σ H vs us Q I r ⟨a, xs, e, h, q⟩ => call_len_seq pins s σ H vs us Q I r ⟨a, xs, e, h, q⟩
/-! the written part by its own letter -/
theorem ixL_ {K : PySem.W.Frag} (e : X.K = K := by rfl) : IxR X (rIxL K) := e ▸ ix_list
theorem ixT_ {K : PySem.W.Frag} (e : X.K = K := by rfl) : IxR X (rIxT K) := e ▸ ix_tup
theorem lenQ_ {K : PySem.W.Frag} (e : X.K = K := by rfl) : CallR X (.builtin "len") (rLenQ K) := e ▸ k_lenQ
theorem isi_ {K : PySem.W.Frag} (e : X.K = K := by rfl) : CallR X (.builtin "isinstance") (rIsi K) := e ▸ k_isi
theorem eqD_ {K : PySem.W.Frag} (hu : X.A.units + 64 < cLine) (e : X.K = K := by rfl) : OpR X (compareOp .Eq) (rEqD K) := e ▸ op_eqD hu
theorem neD_ {K : PySem.W.Frag} (hu : X.A.units + 64 < cLine) (e : X.K = K := by rfl) : OpR X (compareOp .NotEq) (rNeD K) := e ▸ op_neD hu
theorem inQ_ {K : PySem.W.Frag} (e : X.K = K := by rfl) : OpR X (compareOp .In) (rIn K false) := e ▸ op_in_seq
theorem notInQ_ {K : PySem.W.Frag} (e : X.K = K := by rfl) : OpR X (compareOp .NotIn) (rIn K true) := e ▸ op_notIn_seq
theorem max_ {K : PySem.W.Frag} (hc : X.calm = true) (e : X.K = K := by rfl) : CallR X (.builtin "max") (rMax K) := e ▸ cr_max hc
theorem min_ {K : PySem.W.Frag} (hc : X.calm = true) (e : X.K = K := by rfl) : CallR X (.builtin "min") (rMin K) := e ▸ cr_min hc
theorem sum_ {K : PySem.W.Frag} (hc : X.calm = true) (e : X.K = K := by rfl) : CallR X (.builtin "sum") (rSum K) := e ▸ cr_sum hc
theorem all_ {K : PySem.W.Frag} (hc : X.calm = true) (e : X.K = K := by rfl) : CallR X (.builtin "all") (rAll K) := e ▸ cr_all hc
theorem any_ {K : PySem.W.Frag} (hc : X.calm = true) (e : X.K = K := by rfl) : CallR X (.builtin "any") (rAny K) := e ▸ cr_any hc
theorem slL_ {K : PySem.W.Frag} (e : X.K = K := by rfl) : SlR X (rSlL K) := e ▸ sl_list
theorem slT_ {K : PySem.W.Frag} (e : X.K = K := by rfl) : SlR X (rSlT K) := e ▸ sl_tup
theorem iL_ {K : PySem.W.Frag} {tg l : Expr} {tl : TE} (h : PE X l tl) (e : X.K = K := by rfl) : PI X tg l (iList K tl) := e ▸ pi_list h
theorem iT_ {K : PySem.W.Frag} {tg l : Expr} {tl : TE} (h : PE X l tl) (e : X.K = K := by rfl) : PI X tg l (iTup K tl) := e ▸ pi_tup h
section
variable {K : PySem.W.Frag} {T : String} {name : Str} {id : String} {o e : Expr} {es : List Expr} {apos cpos p pos tpos : Pos} {r : V → List V → Hp → VK → Prop} {to : TE} {t ta : TA} {tg : Expr}
theorem bm0_ (pa : PlainAttrs T) (slot : Slot T name id) (hty : typeOf (.builtin id) = pure (.type "method_descriptor")) (hm : MtR X id r) (ho : PE X o to) (eK : X.K = K := by rfl)
    (hbase : attributeBase o name X.env (eval o X.env) = eval o X.env := by rfl) (hline : (apos.endLine == cpos.line) = true := by rfl) : PE X (.Call (.Attribute o name apos) [] [] cpos) (tBM0 K T r to) := by
  subst eK
  exact pe_bm0 pa slot hty hm ho hbase hline
theorem bm_ (pa : PlainAttrs T) (slot : Slot T name id) (hty : typeOf (.builtin id) = pure (.type "method_descriptor")) (hm : MtR X id r) (ho : PE X o to) (ha : PA X (e :: es) t) (eK : X.K = K := by rfl)
    (hbase : attributeBase o name X.env (eval o X.env) = eval o X.env := by rfl)
    (hfew : ((backTo cpos (starEach (e :: es) X.env)).all (fun x => !x.1) && (backToKw cpos (keywordEach [] X.env)).all (fun x => x.1.isSome)
      && decide ((e :: es).length + ([] : List Keyword).length + (if ([] : List Keyword).isEmpty then 0 else 1) < 30)) = true := by rfl)
    (hline : (apos.endLine == cpos.line) = true := by rfl) (hs : starEach (e :: es) X.env = (false, eval e X.env) :: starEach es X.env := by rfl) (hplain : (backTo cpos (starEach es X.env)).any (·.1) = false := by rfl) :
    PE X (.Call (.Attribute o name apos) (e :: es) [] cpos) (tBM K T r to t) := by
  subst eK
  exact pe_bm pa slot hty hm ho ha hbase hfew hline hs hplain
theorem gt_ {es : List Expr} {k : Nat} {t : TGs} {n : Nat} (hc : X.calm = true) (h : PGs X es t) (eK : X.K = K := by rfl)
    (hn : (assignEach es X.env).length = n := by rfl) (hst : (assignEach es X.env).findIdx? (·.1) = none := by rfl) : PG X (.Tuple es k pos) (gTup K n t) := by
  subst eK
  exact pg_tup hc h hn hst
theorem rev_ (hg : Gl X "reversed") (hm : X.mg "reversed" = none) (ha : PA X [e] ta) (eK : X.K = K := by rfl) (hs : starEach [e] X.env = [(false, eval e X.env)] := by rfl) : PI X tg (.Call (.Name "reversed" p) [e] [] pos) (iRev K ta) := by
  subst eK
  exact pi_reversed hg hm ha hs
theorem enum_ {elts : List Expr} {kk : Nat} (hg : Gl X "enumerate") (hm : X.mg "enumerate" = none) (ha : PA X [e] ta) (eK : X.K = K := by rfl) (hs : starEach [e] X.env = [(false, eval e X.env)] := by rfl) : PI X (.Tuple elts kk tpos) (.Call (.Name "enumerate" p) [e] [] pos) (iEnum K ta) := by
  subst eK
  exact pi_enum hg hm ha hs
theorem sortRev_ {b : Bool} (eK : X.K = K := by rfl) : CallRK X (.builtin "sorted") [Str.ofString "reverse"] (rSortedKw K b [.bl b]) := eK ▸ cr_sortedRev
end
/-- text * n -/
def rMulS : R2 := fun x y H Q => ∃ l, ∃ k : Int, x = vS l ∧ y = .int k ∧ 0 ≤ k ∧ k < 2 ^ 30 ∧ l.length * k.toNat ≤ sizeLine ∧ Q (vS (List.replicate k.toNat l).flatten) H
theorem mul_flat (l : List Nat) : ∀ n acc, ((List.replicate n l.toArray).foldl (fun (a b : Array Nat) => a ++ b) acc) = acc ++ (List.replicate n l).flatten.toArray
  | 0, acc => by simp
  | n + 1, acc => by
    rw [List.replicate_succ, List.foldl_cons, mul_flat l n, List.replicate_succ, List.flatten_cons]
    simp
theorem txt_mul {l : List Nat} {k : Int} (hk : 0 ≤ k) : Txt.mul (S l) k = S (List.replicate k.toNat l).flatten := by
  unfold Txt.mul
  by_cases h1 : k < 1
  · have e : k = 0 := by omega
    subst e
    rw [if_pos h1]
    rfl
  · rw [if_neg h1]
    by_cases h2 : (k == 1 || (S l).length == 0) = true
    · rw [if_pos h2]
      rcases (Bool.or_eq_true _ _).mp h2 with e | e
      · have e1 : k = 1 := eq_of_beq e
        subst e1
        show S l = S (List.replicate 1 l).flatten
        simp
      · have e1 : (S l).length = 0 := eq_of_beq e
        rw [S_len] at e1
        have e2 : l = [] := List.eq_nil_of_length_eq_zero e1
        subst e2
        show S [] = _
        rw [S_inj]
        induction k.toNat with
        | zero => rfl
        | succ n ih => rw [List.replicate_succ, List.flatten_cons, ← ih]; rfl
    · rw [if_neg h2]
      show (⟨(List.replicate k.toNat l.toArray).foldl (fun (a b : Array Nat) => a ++ b) #[]⟩ : Str) = _
      rw [mul_flat]
      simp [S]
theorem k_mulS : OpR X (binaryOp .Mult) rMulS := by
  intro pins s σ H x y u v Q I rx ry h
  obtain ⟨l, k, rfl, rfl, h0, h1, hz, q⟩ := h
  obtain ⟨t, rfl⟩ := rx
  obtain ⟨t2, rfl⟩ := ry
  rw [sizeLine_eq] at hz
  refine SB.mul (x := S l) ⟨?_, fun a b => ?_, fun a b => ?_⟩ fun t' tk => ⟨vS (List.replicate k.toNat l).flatten, H, I.tok tk, ⟨t', by rw [txt_mul h0]⟩, q⟩
  · rw [decide_eq_false (by omega), decide_eq_false (by omega)] <;> rfl
  · rw [S_len]
    have h3 : (l.length : Int) * k ≤ 16777216 := by
      have e : ((l.length * k.toNat : Nat) : Int) = (l.length : Int) * k := by
        rw [Int.natCast_mul, Int.toNat_of_nonneg h0]
      omega
    have h4 : (l.length : Int) ≤ (2 ^ 63 - 1) / k := by
      refine Int.le_ediv_of_mul_le (by omega) ?_
      omega
    omega
  · rw [S_len]
    exact decide_eq_false (by rw [sizeLine_eq]; omega)
end
end Fw

namespace Fw
open PySem PySem.Spec PyProof.Rows L2
section
variable {nx bk ct : L2.St → Hp → Prop} {rt : VK} {t u tb : TS} {H : Hp} {te ta tb' : TE} {Q : VK} {v x y : V} {g : TG}

theorem w_var0 {σ : L2.St} (q : Q v H) : tVar 0 (some v :: σ) H Q := ⟨v, rfl, q⟩
theorem w_asg0 {o : Option V} {σ : L2.St} (h : te (o :: σ) H fun x H1 => nx (some x :: σ) H1) : tAsg te (gName 0) ⟨nx, rt, bk, ct⟩ (o :: σ) H := h
theorem w_gn0 {o : Option V} {σ : L2.St} {R : L2.St → Hp → Prop} (h : R (some v :: σ) H) : gName 0 v (o :: σ) H R := h
theorem w_aug0 {f : Int → Int → Int} {a : Int} {σ : L2.St} (h : te (some (.int a) :: σ) H fun y H1 => ∃ b, y = .int b ∧ nx (some (.int (f a b)) :: σ) H1) : tAug 0 te (ipI f) ⟨nx, rt, bk, ct⟩ (some (.int a) :: σ) H := w_aug (i := 0) rfl h
theorem w_var1 {x0 : Option V} {σ : L2.St} (q : Q v H) : tVar 1 (x0 :: some v :: σ) H Q := ⟨v, rfl, q⟩
theorem w_asg1 {x0 : Option V} {o : Option V} {σ : L2.St} (h : te (x0 :: o :: σ) H fun x H1 => nx (x0 :: some x :: σ) H1) : tAsg te (gName 1) ⟨nx, rt, bk, ct⟩ (x0 :: o :: σ) H := h
theorem w_gn1 {x0 : Option V} {o : Option V} {σ : L2.St} {R : L2.St → Hp → Prop} (h : R (x0 :: some v :: σ) H) : gName 1 v (x0 :: o :: σ) H R := h
theorem w_aug1 {x0 : Option V} {f : Int → Int → Int} {a : Int} {σ : L2.St} (h : te (x0 :: some (.int a) :: σ) H fun y H1 => ∃ b, y = .int b ∧ nx (x0 :: some (.int (f a b)) :: σ) H1) : tAug 1 te (ipI f) ⟨nx, rt, bk, ct⟩ (x0 :: some (.int a) :: σ) H := w_aug (i := 1) rfl h
theorem w_var2 {x0 x1 : Option V} {σ : L2.St} (q : Q v H) : tVar 2 (x0 :: x1 :: some v :: σ) H Q := ⟨v, rfl, q⟩
theorem w_asg2 {x0 x1 : Option V} {o : Option V} {σ : L2.St} (h : te (x0 :: x1 :: o :: σ) H fun x H1 => nx (x0 :: x1 :: some x :: σ) H1) : tAsg te (gName 2) ⟨nx, rt, bk, ct⟩ (x0 :: x1 :: o :: σ) H := h
theorem w_gn2 {x0 x1 : Option V} {o : Option V} {σ : L2.St} {R : L2.St → Hp → Prop} (h : R (x0 :: x1 :: some v :: σ) H) : gName 2 v (x0 :: x1 :: o :: σ) H R := h
theorem w_aug2 {x0 x1 : Option V} {f : Int → Int → Int} {a : Int} {σ : L2.St} (h : te (x0 :: x1 :: some (.int a) :: σ) H fun y H1 => ∃ b, y = .int b ∧ nx (x0 :: x1 :: some (.int (f a b)) :: σ) H1) : tAug 2 te (ipI f) ⟨nx, rt, bk, ct⟩ (x0 :: x1 :: some (.int a) :: σ) H := w_aug (i := 2) rfl h
theorem w_var3 {x0 x1 x2 : Option V} {σ : L2.St} (q : Q v H) : tVar 3 (x0 :: x1 :: x2 :: some v :: σ) H Q := ⟨v, rfl, q⟩
theorem w_asg3 {x0 x1 x2 : Option V} {o : Option V} {σ : L2.St} (h : te (x0 :: x1 :: x2 :: o :: σ) H fun x H1 => nx (x0 :: x1 :: x2 :: some x :: σ) H1) : tAsg te (gName 3) ⟨nx, rt, bk, ct⟩ (x0 :: x1 :: x2 :: o :: σ) H := h
theorem w_gn3 {x0 x1 x2 : Option V} {o : Option V} {σ : L2.St} {R : L2.St → Hp → Prop} (h : R (x0 :: x1 :: x2 :: some v :: σ) H) : gName 3 v (x0 :: x1 :: x2 :: o :: σ) H R := h
theorem w_aug3 {x0 x1 x2 : Option V} {f : Int → Int → Int} {a : Int} {σ : L2.St} (h : te (x0 :: x1 :: x2 :: some (.int a) :: σ) H fun y H1 => ∃ b, y = .int b ∧ nx (x0 :: x1 :: x2 :: some (.int (f a b)) :: σ) H1) : tAug 3 te (ipI f) ⟨nx, rt, bk, ct⟩ (x0 :: x1 :: x2 :: some (.int a) :: σ) H := w_aug (i := 3) rfl h
theorem w_var4 {x0 x1 x2 x3 : Option V} {σ : L2.St} (q : Q v H) : tVar 4 (x0 :: x1 :: x2 :: x3 :: some v :: σ) H Q := ⟨v, rfl, q⟩
theorem w_asg4 {x0 x1 x2 x3 : Option V} {o : Option V} {σ : L2.St} (h : te (x0 :: x1 :: x2 :: x3 :: o :: σ) H fun x H1 => nx (x0 :: x1 :: x2 :: x3 :: some x :: σ) H1) : tAsg te (gName 4) ⟨nx, rt, bk, ct⟩ (x0 :: x1 :: x2 :: x3 :: o :: σ) H := h
theorem w_gn4 {x0 x1 x2 x3 : Option V} {o : Option V} {σ : L2.St} {R : L2.St → Hp → Prop} (h : R (x0 :: x1 :: x2 :: x3 :: some v :: σ) H) : gName 4 v (x0 :: x1 :: x2 :: x3 :: o :: σ) H R := h
theorem w_aug4 {x0 x1 x2 x3 : Option V} {f : Int → Int → Int} {a : Int} {σ : L2.St} (h : te (x0 :: x1 :: x2 :: x3 :: some (.int a) :: σ) H fun y H1 => ∃ b, y = .int b ∧ nx (x0 :: x1 :: x2 :: x3 :: some (.int (f a b)) :: σ) H1) : tAug 4 te (ipI f) ⟨nx, rt, bk, ct⟩ (x0 :: x1 :: x2 :: x3 :: some (.int a) :: σ) H := w_aug (i := 4) rfl h
theorem w_var5 {x0 x1 x2 x3 x4 : Option V} {σ : L2.St} (q : Q v H) : tVar 5 (x0 :: x1 :: x2 :: x3 :: x4 :: some v :: σ) H Q := ⟨v, rfl, q⟩
theorem w_asg5 {x0 x1 x2 x3 x4 : Option V} {o : Option V} {σ : L2.St} (h : te (x0 :: x1 :: x2 :: x3 :: x4 :: o :: σ) H fun x H1 => nx (x0 :: x1 :: x2 :: x3 :: x4 :: some x :: σ) H1) : tAsg te (gName 5) ⟨nx, rt, bk, ct⟩ (x0 :: x1 :: x2 :: x3 :: x4 :: o :: σ) H := h
theorem w_gn5 {x0 x1 x2 x3 x4 : Option V} {o : Option V} {σ : L2.St} {R : L2.St → Hp → Prop} (h : R (x0 :: x1 :: x2 :: x3 :: x4 :: some v :: σ) H) : gName 5 v (x0 :: x1 :: x2 :: x3 :: x4 :: o :: σ) H R := h
theorem w_aug5 {x0 x1 x2 x3 x4 : Option V} {f : Int → Int → Int} {a : Int} {σ : L2.St} (h : te (x0 :: x1 :: x2 :: x3 :: x4 :: some (.int a) :: σ) H fun y H1 => ∃ b, y = .int b ∧ nx (x0 :: x1 :: x2 :: x3 :: x4 :: some (.int (f a b)) :: σ) H1) : tAug 5 te (ipI f) ⟨nx, rt, bk, ct⟩ (x0 :: x1 :: x2 :: x3 :: x4 :: some (.int a) :: σ) H := w_aug (i := 5) rfl h
theorem w_var6 {x0 x1 x2 x3 x4 x5 : Option V} {σ : L2.St} (q : Q v H) : tVar 6 (x0 :: x1 :: x2 :: x3 :: x4 :: x5 :: some v :: σ) H Q := ⟨v, rfl, q⟩
theorem w_asg6 {x0 x1 x2 x3 x4 x5 : Option V} {o : Option V} {σ : L2.St} (h : te (x0 :: x1 :: x2 :: x3 :: x4 :: x5 :: o :: σ) H fun x H1 => nx (x0 :: x1 :: x2 :: x3 :: x4 :: x5 :: some x :: σ) H1) : tAsg te (gName 6) ⟨nx, rt, bk, ct⟩ (x0 :: x1 :: x2 :: x3 :: x4 :: x5 :: o :: σ) H := h
theorem w_gn6 {x0 x1 x2 x3 x4 x5 : Option V} {o : Option V} {σ : L2.St} {R : L2.St → Hp → Prop} (h : R (x0 :: x1 :: x2 :: x3 :: x4 :: x5 :: some v :: σ) H) : gName 6 v (x0 :: x1 :: x2 :: x3 :: x4 :: x5 :: o :: σ) H R := h
theorem w_aug6 {x0 x1 x2 x3 x4 x5 : Option V} {f : Int → Int → Int} {a : Int} {σ : L2.St} (h : te (x0 :: x1 :: x2 :: x3 :: x4 :: x5 :: some (.int a) :: σ) H fun y H1 => ∃ b, y = .int b ∧ nx (x0 :: x1 :: x2 :: x3 :: x4 :: x5 :: some (.int (f a b)) :: σ) H1) : tAug 6 te (ipI f) ⟨nx, rt, bk, ct⟩ (x0 :: x1 :: x2 :: x3 :: x4 :: x5 :: some (.int a) :: σ) H := w_aug (i := 6) rfl h
theorem w_var7 {x0 x1 x2 x3 x4 x5 x6 : Option V} {σ : L2.St} (q : Q v H) : tVar 7 (x0 :: x1 :: x2 :: x3 :: x4 :: x5 :: x6 :: some v :: σ) H Q := ⟨v, rfl, q⟩
theorem w_asg7 {x0 x1 x2 x3 x4 x5 x6 : Option V} {o : Option V} {σ : L2.St} (h : te (x0 :: x1 :: x2 :: x3 :: x4 :: x5 :: x6 :: o :: σ) H fun x H1 => nx (x0 :: x1 :: x2 :: x3 :: x4 :: x5 :: x6 :: some x :: σ) H1) : tAsg te (gName 7) ⟨nx, rt, bk, ct⟩ (x0 :: x1 :: x2 :: x3 :: x4 :: x5 :: x6 :: o :: σ) H := h
theorem w_gn7 {x0 x1 x2 x3 x4 x5 x6 : Option V} {o : Option V} {σ : L2.St} {R : L2.St → Hp → Prop} (h : R (x0 :: x1 :: x2 :: x3 :: x4 :: x5 :: x6 :: some v :: σ) H) : gName 7 v (x0 :: x1 :: x2 :: x3 :: x4 :: x5 :: x6 :: o :: σ) H R := h
theorem w_aug7 {x0 x1 x2 x3 x4 x5 x6 : Option V} {f : Int → Int → Int} {a : Int} {σ : L2.St} (h : te (x0 :: x1 :: x2 :: x3 :: x4 :: x5 :: x6 :: some (.int a) :: σ) H fun y H1 => ∃ b, y = .int b ∧ nx (x0 :: x1 :: x2 :: x3 :: x4 :: x5 :: x6 :: some (.int (f a b)) :: σ) H1) : tAug 7 te (ipI f) ⟨nx, rt, bk, ct⟩ (x0 :: x1 :: x2 :: x3 :: x4 :: x5 :: x6 :: some (.int a) :: σ) H := w_aug (i := 7) rfl h
theorem w_var8 {x0 x1 x2 x3 x4 x5 x6 x7 : Option V} {σ : L2.St} (q : Q v H) : tVar 8 (x0 :: x1 :: x2 :: x3 :: x4 :: x5 :: x6 :: x7 :: some v :: σ) H Q := ⟨v, rfl, q⟩
theorem w_asg8 {x0 x1 x2 x3 x4 x5 x6 x7 : Option V} {o : Option V} {σ : L2.St} (h : te (x0 :: x1 :: x2 :: x3 :: x4 :: x5 :: x6 :: x7 :: o :: σ) H fun x H1 => nx (x0 :: x1 :: x2 :: x3 :: x4 :: x5 :: x6 :: x7 :: some x :: σ) H1) : tAsg te (gName 8) ⟨nx, rt, bk, ct⟩ (x0 :: x1 :: x2 :: x3 :: x4 :: x5 :: x6 :: x7 :: o :: σ) H := h
theorem w_gn8 {x0 x1 x2 x3 x4 x5 x6 x7 : Option V} {o : Option V} {σ : L2.St} {R : L2.St → Hp → Prop} (h : R (x0 :: x1 :: x2 :: x3 :: x4 :: x5 :: x6 :: x7 :: some v :: σ) H) : gName 8 v (x0 :: x1 :: x2 :: x3 :: x4 :: x5 :: x6 :: x7 :: o :: σ) H R := h
theorem w_aug8 {x0 x1 x2 x3 x4 x5 x6 x7 : Option V} {f : Int → Int → Int} {a : Int} {σ : L2.St} (h : te (x0 :: x1 :: x2 :: x3 :: x4 :: x5 :: x6 :: x7 :: some (.int a) :: σ) H fun y H1 => ∃ b, y = .int b ∧ nx (x0 :: x1 :: x2 :: x3 :: x4 :: x5 :: x6 :: x7 :: some (.int (f a b)) :: σ) H1) : tAug 8 te (ipI f) ⟨nx, rt, bk, ct⟩ (x0 :: x1 :: x2 :: x3 :: x4 :: x5 :: x6 :: x7 :: some (.int a) :: σ) H := w_aug (i := 8) rfl h
theorem w_var9 {x0 x1 x2 x3 x4 x5 x6 x7 x8 : Option V} {σ : L2.St} (q : Q v H) : tVar 9 (x0 :: x1 :: x2 :: x3 :: x4 :: x5 :: x6 :: x7 :: x8 :: some v :: σ) H Q := ⟨v, rfl, q⟩
theorem w_asg9 {x0 x1 x2 x3 x4 x5 x6 x7 x8 : Option V} {o : Option V} {σ : L2.St} (h : te (x0 :: x1 :: x2 :: x3 :: x4 :: x5 :: x6 :: x7 :: x8 :: o :: σ) H fun x H1 => nx (x0 :: x1 :: x2 :: x3 :: x4 :: x5 :: x6 :: x7 :: x8 :: some x :: σ) H1) : tAsg te (gName 9) ⟨nx, rt, bk, ct⟩ (x0 :: x1 :: x2 :: x3 :: x4 :: x5 :: x6 :: x7 :: x8 :: o :: σ) H := h
theorem w_gn9 {x0 x1 x2 x3 x4 x5 x6 x7 x8 : Option V} {o : Option V} {σ : L2.St} {R : L2.St → Hp → Prop} (h : R (x0 :: x1 :: x2 :: x3 :: x4 :: x5 :: x6 :: x7 :: x8 :: some v :: σ) H) : gName 9 v (x0 :: x1 :: x2 :: x3 :: x4 :: x5 :: x6 :: x7 :: x8 :: o :: σ) H R := h
theorem w_aug9 {x0 x1 x2 x3 x4 x5 x6 x7 x8 : Option V} {f : Int → Int → Int} {a : Int} {σ : L2.St} (h : te (x0 :: x1 :: x2 :: x3 :: x4 :: x5 :: x6 :: x7 :: x8 :: some (.int a) :: σ) H fun y H1 => ∃ b, y = .int b ∧ nx (x0 :: x1 :: x2 :: x3 :: x4 :: x5 :: x6 :: x7 :: x8 :: some (.int (f a b)) :: σ) H1) : tAug 9 te (ipI f) ⟨nx, rt, bk, ct⟩ (x0 :: x1 :: x2 :: x3 :: x4 :: x5 :: x6 :: x7 :: x8 :: some (.int a) :: σ) H := w_aug (i := 9) rfl h
theorem w_var10 {x0 x1 x2 x3 x4 x5 x6 x7 x8 x9 : Option V} {σ : L2.St} (q : Q v H) : tVar 10 (x0 :: x1 :: x2 :: x3 :: x4 :: x5 :: x6 :: x7 :: x8 :: x9 :: some v :: σ) H Q := ⟨v, rfl, q⟩
theorem w_asg10 {x0 x1 x2 x3 x4 x5 x6 x7 x8 x9 : Option V} {o : Option V} {σ : L2.St} (h : te (x0 :: x1 :: x2 :: x3 :: x4 :: x5 :: x6 :: x7 :: x8 :: x9 :: o :: σ) H fun x H1 => nx (x0 :: x1 :: x2 :: x3 :: x4 :: x5 :: x6 :: x7 :: x8 :: x9 :: some x :: σ) H1) : tAsg te (gName 10) ⟨nx, rt, bk, ct⟩ (x0 :: x1 :: x2 :: x3 :: x4 :: x5 :: x6 :: x7 :: x8 :: x9 :: o :: σ) H := h
theorem w_gn10 {x0 x1 x2 x3 x4 x5 x6 x7 x8 x9 : Option V} {o : Option V} {σ : L2.St} {R : L2.St → Hp → Prop} (h : R (x0 :: x1 :: x2 :: x3 :: x4 :: x5 :: x6 :: x7 :: x8 :: x9 :: some v :: σ) H) : gName 10 v (x0 :: x1 :: x2 :: x3 :: x4 :: x5 :: x6 :: x7 :: x8 :: x9 :: o :: σ) H R := h
theorem w_aug10 {x0 x1 x2 x3 x4 x5 x6 x7 x8 x9 : Option V} {f : Int → Int → Int} {a : Int} {σ : L2.St} (h : te (x0 :: x1 :: x2 :: x3 :: x4 :: x5 :: x6 :: x7 :: x8 :: x9 :: some (.int a) :: σ) H fun y H1 => ∃ b, y = .int b ∧ nx (x0 :: x1 :: x2 :: x3 :: x4 :: x5 :: x6 :: x7 :: x8 :: x9 :: some (.int (f a b)) :: σ) H1) : tAug 10 te (ipI f) ⟨nx, rt, bk, ct⟩ (x0 :: x1 :: x2 :: x3 :: x4 :: x5 :: x6 :: x7 :: x8 :: x9 :: some (.int a) :: σ) H := w_aug (i := 10) rfl h
theorem w_var11 {x0 x1 x2 x3 x4 x5 x6 x7 x8 x9 x10 : Option V} {σ : L2.St} (q : Q v H) : tVar 11 (x0 :: x1 :: x2 :: x3 :: x4 :: x5 :: x6 :: x7 :: x8 :: x9 :: x10 :: some v :: σ) H Q := ⟨v, rfl, q⟩
theorem w_asg11 {x0 x1 x2 x3 x4 x5 x6 x7 x8 x9 x10 : Option V} {o : Option V} {σ : L2.St} (h : te (x0 :: x1 :: x2 :: x3 :: x4 :: x5 :: x6 :: x7 :: x8 :: x9 :: x10 :: o :: σ) H fun x H1 => nx (x0 :: x1 :: x2 :: x3 :: x4 :: x5 :: x6 :: x7 :: x8 :: x9 :: x10 :: some x :: σ) H1) : tAsg te (gName 11) ⟨nx, rt, bk, ct⟩ (x0 :: x1 :: x2 :: x3 :: x4 :: x5 :: x6 :: x7 :: x8 :: x9 :: x10 :: o :: σ) H := h
theorem w_gn11 {x0 x1 x2 x3 x4 x5 x6 x7 x8 x9 x10 : Option V} {o : Option V} {σ : L2.St} {R : L2.St → Hp → Prop} (h : R (x0 :: x1 :: x2 :: x3 :: x4 :: x5 :: x6 :: x7 :: x8 :: x9 :: x10 :: some v :: σ) H) : gName 11 v (x0 :: x1 :: x2 :: x3 :: x4 :: x5 :: x6 :: x7 :: x8 :: x9 :: x10 :: o :: σ) H R := h
theorem w_aug11 {x0 x1 x2 x3 x4 x5 x6 x7 x8 x9 x10 : Option V} {f : Int → Int → Int} {a : Int} {σ : L2.St} (h : te (x0 :: x1 :: x2 :: x3 :: x4 :: x5 :: x6 :: x7 :: x8 :: x9 :: x10 :: some (.int a) :: σ) H fun y H1 => ∃ b, y = .int b ∧ nx (x0 :: x1 :: x2 :: x3 :: x4 :: x5 :: x6 :: x7 :: x8 :: x9 :: x10 :: some (.int (f a b)) :: σ) H1) : tAug 11 te (ipI f) ⟨nx, rt, bk, ct⟩ (x0 :: x1 :: x2 :: x3 :: x4 :: x5 :: x6 :: x7 :: x8 :: x9 :: x10 :: some (.int a) :: σ) H := w_aug (i := 11) rfl h
theorem w_var12 {x0 x1 x2 x3 x4 x5 x6 x7 x8 x9 x10 x11 : Option V} {σ : L2.St} (q : Q v H) : tVar 12 (x0 :: x1 :: x2 :: x3 :: x4 :: x5 :: x6 :: x7 :: x8 :: x9 :: x10 :: x11 :: some v :: σ) H Q := ⟨v, rfl, q⟩
theorem w_asg12 {x0 x1 x2 x3 x4 x5 x6 x7 x8 x9 x10 x11 : Option V} {o : Option V} {σ : L2.St} (h : te (x0 :: x1 :: x2 :: x3 :: x4 :: x5 :: x6 :: x7 :: x8 :: x9 :: x10 :: x11 :: o :: σ) H fun x H1 => nx (x0 :: x1 :: x2 :: x3 :: x4 :: x5 :: x6 :: x7 :: x8 :: x9 :: x10 :: x11 :: some x :: σ) H1) : tAsg te (gName 12) ⟨nx, rt, bk, ct⟩ (x0 :: x1 :: x2 :: x3 :: x4 :: x5 :: x6 :: x7 :: x8 :: x9 :: x10 :: x11 :: o :: σ) H := h
theorem w_gn12 {x0 x1 x2 x3 x4 x5 x6 x7 x8 x9 x10 x11 : Option V} {o : Option V} {σ : L2.St} {R : L2.St → Hp → Prop} (h : R (x0 :: x1 :: x2 :: x3 :: x4 :: x5 :: x6 :: x7 :: x8 :: x9 :: x10 :: x11 :: some v :: σ) H) : gName 12 v (x0 :: x1 :: x2 :: x3 :: x4 :: x5 :: x6 :: x7 :: x8 :: x9 :: x10 :: x11 :: o :: σ) H R := h
theorem w_aug12 {x0 x1 x2 x3 x4 x5 x6 x7 x8 x9 x10 x11 : Option V} {f : Int → Int → Int} {a : Int} {σ : L2.St} (h : te (x0 :: x1 :: x2 :: x3 :: x4 :: x5 :: x6 :: x7 :: x8 :: x9 :: x10 :: x11 :: some (.int a) :: σ) H fun y H1 => ∃ b, y = .int b ∧ nx (x0 :: x1 :: x2 :: x3 :: x4 :: x5 :: x6 :: x7 :: x8 :: x9 :: x10 :: x11 :: some (.int (f a b)) :: σ) H1) : tAug 12 te (ipI f) ⟨nx, rt, bk, ct⟩ (x0 :: x1 :: x2 :: x3 :: x4 :: x5 :: x6 :: x7 :: x8 :: x9 :: x10 :: x11 :: some (.int a) :: σ) H := w_aug (i := 12) rfl h
theorem w_var13 {x0 x1 x2 x3 x4 x5 x6 x7 x8 x9 x10 x11 x12 : Option V} {σ : L2.St} (q : Q v H) : tVar 13 (x0 :: x1 :: x2 :: x3 :: x4 :: x5 :: x6 :: x7 :: x8 :: x9 :: x10 :: x11 :: x12 :: some v :: σ) H Q := ⟨v, rfl, q⟩
theorem w_asg13 {x0 x1 x2 x3 x4 x5 x6 x7 x8 x9 x10 x11 x12 : Option V} {o : Option V} {σ : L2.St} (h : te (x0 :: x1 :: x2 :: x3 :: x4 :: x5 :: x6 :: x7 :: x8 :: x9 :: x10 :: x11 :: x12 :: o :: σ) H fun x H1 => nx (x0 :: x1 :: x2 :: x3 :: x4 :: x5 :: x6 :: x7 :: x8 :: x9 :: x10 :: x11 :: x12 :: some x :: σ) H1) : tAsg te (gName 13) ⟨nx, rt, bk, ct⟩ (x0 :: x1 :: x2 :: x3 :: x4 :: x5 :: x6 :: x7 :: x8 :: x9 :: x10 :: x11 :: x12 :: o :: σ) H := h
theorem w_gn13 {x0 x1 x2 x3 x4 x5 x6 x7 x8 x9 x10 x11 x12 : Option V} {o : Option V} {σ : L2.St} {R : L2.St → Hp → Prop} (h : R (x0 :: x1 :: x2 :: x3 :: x4 :: x5 :: x6 :: x7 :: x8 :: x9 :: x10 :: x11 :: x12 :: some v :: σ) H) : gName 13 v (x0 :: x1 :: x2 :: x3 :: x4 :: x5 :: x6 :: x7 :: x8 :: x9 :: x10 :: x11 :: x12 :: o :: σ) H R := h
theorem w_aug13 {x0 x1 x2 x3 x4 x5 x6 x7 x8 x9 x10 x11 x12 : Option V} {f : Int → Int → Int} {a : Int} {σ : L2.St} (h : te (x0 :: x1 :: x2 :: x3 :: x4 :: x5 :: x6 :: x7 :: x8 :: x9 :: x10 :: x11 :: x12 :: some (.int a) :: σ) H fun y H1 => ∃ b, y = .int b ∧ nx (x0 :: x1 :: x2 :: x3 :: x4 :: x5 :: x6 :: x7 :: x8 :: x9 :: x10 :: x11 :: x12 :: some (.int (f a b)) :: σ) H1) : tAug 13 te (ipI f) ⟨nx, rt, bk, ct⟩ (x0 :: x1 :: x2 :: x3 :: x4 :: x5 :: x6 :: x7 :: x8 :: x9 :: x10 :: x11 :: x12 :: some (.int a) :: σ) H := w_aug (i := 13) rfl h
theorem w_var14 {x0 x1 x2 x3 x4 x5 x6 x7 x8 x9 x10 x11 x12 x13 : Option V} {σ : L2.St} (q : Q v H) : tVar 14 (x0 :: x1 :: x2 :: x3 :: x4 :: x5 :: x6 :: x7 :: x8 :: x9 :: x10 :: x11 :: x12 :: x13 :: some v :: σ) H Q := ⟨v, rfl, q⟩
theorem w_asg14 {x0 x1 x2 x3 x4 x5 x6 x7 x8 x9 x10 x11 x12 x13 : Option V} {o : Option V} {σ : L2.St} (h : te (x0 :: x1 :: x2 :: x3 :: x4 :: x5 :: x6 :: x7 :: x8 :: x9 :: x10 :: x11 :: x12 :: x13 :: o :: σ) H fun x H1 => nx (x0 :: x1 :: x2 :: x3 :: x4 :: x5 :: x6 :: x7 :: x8 :: x9 :: x10 :: x11 :: x12 :: x13 :: some x :: σ) H1) : tAsg te (gName 14) ⟨nx, rt, bk, ct⟩ (x0 :: x1 :: x2 :: x3 :: x4 :: x5 :: x6 :: x7 :: x8 :: x9 :: x10 :: x11 :: x12 :: x13 :: o :: σ) H := h
theorem w_gn14 {x0 x1 x2 x3 x4 x5 x6 x7 x8 x9 x10 x11 x12 x13 : Option V} {o : Option V} {σ : L2.St} {R : L2.St → Hp → Prop} (h : R (x0 :: x1 :: x2 :: x3 :: x4 :: x5 :: x6 :: x7 :: x8 :: x9 :: x10 :: x11 :: x12 :: x13 :: some v :: σ) H) : gName 14 v (x0 :: x1 :: x2 :: x3 :: x4 :: x5 :: x6 :: x7 :: x8 :: x9 :: x10 :: x11 :: x12 :: x13 :: o :: σ) H R := h
theorem w_aug14 {x0 x1 x2 x3 x4 x5 x6 x7 x8 x9 x10 x11 x12 x13 : Option V} {f : Int → Int → Int} {a : Int} {σ : L2.St} (h : te (x0 :: x1 :: x2 :: x3 :: x4 :: x5 :: x6 :: x7 :: x8 :: x9 :: x10 :: x11 :: x12 :: x13 :: some (.int a) :: σ) H fun y H1 => ∃ b, y = .int b ∧ nx (x0 :: x1 :: x2 :: x3 :: x4 :: x5 :: x6 :: x7 :: x8 :: x9 :: x10 :: x11 :: x12 :: x13 :: some (.int (f a b)) :: σ) H1) : tAug 14 te (ipI f) ⟨nx, rt, bk, ct⟩ (x0 :: x1 :: x2 :: x3 :: x4 :: x5 :: x6 :: x7 :: x8 :: x9 :: x10 :: x11 :: x12 :: x13 :: some (.int a) :: σ) H := w_aug (i := 14) rfl h
theorem w_var15 {x0 x1 x2 x3 x4 x5 x6 x7 x8 x9 x10 x11 x12 x13 x14 : Option V} {σ : L2.St} (q : Q v H) : tVar 15 (x0 :: x1 :: x2 :: x3 :: x4 :: x5 :: x6 :: x7 :: x8 :: x9 :: x10 :: x11 :: x12 :: x13 :: x14 :: some v :: σ) H Q := ⟨v, rfl, q⟩
theorem w_asg15 {x0 x1 x2 x3 x4 x5 x6 x7 x8 x9 x10 x11 x12 x13 x14 : Option V} {o : Option V} {σ : L2.St} (h : te (x0 :: x1 :: x2 :: x3 :: x4 :: x5 :: x6 :: x7 :: x8 :: x9 :: x10 :: x11 :: x12 :: x13 :: x14 :: o :: σ) H fun x H1 => nx (x0 :: x1 :: x2 :: x3 :: x4 :: x5 :: x6 :: x7 :: x8 :: x9 :: x10 :: x11 :: x12 :: x13 :: x14 :: some x :: σ) H1) : tAsg te (gName 15) ⟨nx, rt, bk, ct⟩ (x0 :: x1 :: x2 :: x3 :: x4 :: x5 :: x6 :: x7 :: x8 :: x9 :: x10 :: x11 :: x12 :: x13 :: x14 :: o :: σ) H := h
theorem w_gn15 {x0 x1 x2 x3 x4 x5 x6 x7 x8 x9 x10 x11 x12 x13 x14 : Option V} {o : Option V} {σ : L2.St} {R : L2.St → Hp → Prop} (h : R (x0 :: x1 :: x2 :: x3 :: x4 :: x5 :: x6 :: x7 :: x8 :: x9 :: x10 :: x11 :: x12 :: x13 :: x14 :: some v :: σ) H) : gName 15 v (x0 :: x1 :: x2 :: x3 :: x4 :: x5 :: x6 :: x7 :: x8 :: x9 :: x10 :: x11 :: x12 :: x13 :: x14 :: o :: σ) H R := h
theorem w_aug15 {x0 x1 x2 x3 x4 x5 x6 x7 x8 x9 x10 x11 x12 x13 x14 : Option V} {f : Int → Int → Int} {a : Int} {σ : L2.St} (h : te (x0 :: x1 :: x2 :: x3 :: x4 :: x5 :: x6 :: x7 :: x8 :: x9 :: x10 :: x11 :: x12 :: x13 :: x14 :: some (.int a) :: σ) H fun y H1 => ∃ b, y = .int b ∧ nx (x0 :: x1 :: x2 :: x3 :: x4 :: x5 :: x6 :: x7 :: x8 :: x9 :: x10 :: x11 :: x12 :: x13 :: x14 :: some (.int (f a b)) :: σ) H1) : tAug 15 te (ipI f) ⟨nx, rt, bk, ct⟩ (x0 :: x1 :: x2 :: x3 :: x4 :: x5 :: x6 :: x7 :: x8 :: x9 :: x10 :: x11 :: x12 :: x13 :: x14 :: some (.int a) :: σ) H := w_aug (i := 15) rfl h
theorem w_var16 {x0 x1 x2 x3 x4 x5 x6 x7 x8 x9 x10 x11 x12 x13 x14 x15 : Option V} {σ : L2.St} (q : Q v H) : tVar 16 (x0 :: x1 :: x2 :: x3 :: x4 :: x5 :: x6 :: x7 :: x8 :: x9 :: x10 :: x11 :: x12 :: x13 :: x14 :: x15 :: some v :: σ) H Q := ⟨v, rfl, q⟩
theorem w_asg16 {x0 x1 x2 x3 x4 x5 x6 x7 x8 x9 x10 x11 x12 x13 x14 x15 : Option V} {o : Option V} {σ : L2.St} (h : te (x0 :: x1 :: x2 :: x3 :: x4 :: x5 :: x6 :: x7 :: x8 :: x9 :: x10 :: x11 :: x12 :: x13 :: x14 :: x15 :: o :: σ) H fun x H1 => nx (x0 :: x1 :: x2 :: x3 :: x4 :: x5 :: x6 :: x7 :: x8 :: x9 :: x10 :: x11 :: x12 :: x13 :: x14 :: x15 :: some x :: σ) H1) : tAsg te (gName 16) ⟨nx, rt, bk, ct⟩ (x0 :: x1 :: x2 :: x3 :: x4 :: x5 :: x6 :: x7 :: x8 :: x9 :: x10 :: x11 :: x12 :: x13 :: x14 :: x15 :: o :: σ) H := h
theorem w_gn16 {x0 x1 x2 x3 x4 x5 x6 x7 x8 x9 x10 x11 x12 x13 x14 x15 : Option V} {o : Option V} {σ : L2.St} {R : L2.St → Hp → Prop} (h : R (x0 :: x1 :: x2 :: x3 :: x4 :: x5 :: x6 :: x7 :: x8 :: x9 :: x10 :: x11 :: x12 :: x13 :: x14 :: x15 :: some v :: σ) H) : gName 16 v (x0 :: x1 :: x2 :: x3 :: x4 :: x5 :: x6 :: x7 :: x8 :: x9 :: x10 :: x11 :: x12 :: x13 :: x14 :: x15 :: o :: σ) H R := h
theorem w_aug16 {x0 x1 x2 x3 x4 x5 x6 x7 x8 x9 x10 x11 x12 x13 x14 x15 : Option V} {f : Int → Int → Int} {a : Int} {σ : L2.St} (h : te (x0 :: x1 :: x2 :: x3 :: x4 :: x5 :: x6 :: x7 :: x8 :: x9 :: x10 :: x11 :: x12 :: x13 :: x14 :: x15 :: some (.int a) :: σ) H fun y H1 => ∃ b, y = .int b ∧ nx (x0 :: x1 :: x2 :: x3 :: x4 :: x5 :: x6 :: x7 :: x8 :: x9 :: x10 :: x11 :: x12 :: x13 :: x14 :: x15 :: some (.int (f a b)) :: σ) H1) : tAug 16 te (ipI f) ⟨nx, rt, bk, ct⟩ (x0 :: x1 :: x2 :: x3 :: x4 :: x5 :: x6 :: x7 :: x8 :: x9 :: x10 :: x11 :: x12 :: x13 :: x14 :: x15 :: some (.int a) :: σ) H := w_aug (i := 16) rfl h
theorem w_var17 {x0 x1 x2 x3 x4 x5 x6 x7 x8 x9 x10 x11 x12 x13 x14 x15 x16 : Option V} {σ : L2.St} (q : Q v H) : tVar 17 (x0 :: x1 :: x2 :: x3 :: x4 :: x5 :: x6 :: x7 :: x8 :: x9 :: x10 :: x11 :: x12 :: x13 :: x14 :: x15 :: x16 :: some v :: σ) H Q := ⟨v, rfl, q⟩
theorem w_asg17 {x0 x1 x2 x3 x4 x5 x6 x7 x8 x9 x10 x11 x12 x13 x14 x15 x16 : Option V} {o : Option V} {σ : L2.St} (h : te (x0 :: x1 :: x2 :: x3 :: x4 :: x5 :: x6 :: x7 :: x8 :: x9 :: x10 :: x11 :: x12 :: x13 :: x14 :: x15 :: x16 :: o :: σ) H fun x H1 => nx (x0 :: x1 :: x2 :: x3 :: x4 :: x5 :: x6 :: x7 :: x8 :: x9 :: x10 :: x11 :: x12 :: x13 :: x14 :: x15 :: x16 :: some x :: σ) H1) : tAsg te (gName 17) ⟨nx, rt, bk, ct⟩ (x0 :: x1 :: x2 :: x3 :: x4 :: x5 :: x6 :: x7 :: x8 :: x9 :: x10 :: x11 :: x12 :: x13 :: x14 :: x15 :: x16 :: o :: σ) H := h
theorem w_gn17 {x0 x1 x2 x3 x4 x5 x6 x7 x8 x9 x10 x11 x12 x13 x14 x15 x16 : Option V} {o : Option V} {σ : L2.St} {R : L2.St → Hp → Prop} (h : R (x0 :: x1 :: x2 :: x3 :: x4 :: x5 :: x6 :: x7 :: x8 :: x9 :: x10 :: x11 :: x12 :: x13 :: x14 :: x15 :: x16 :: some v :: σ) H) : gName 17 v (x0 :: x1 :: x2 :: x3 :: x4 :: x5 :: x6 :: x7 :: x8 :: x9 :: x10 :: x11 :: x12 :: x13 :: x14 :: x15 :: x16 :: o :: σ) H R := h
theorem w_aug17 {x0 x1 x2 x3 x4 x5 x6 x7 x8 x9 x10 x11 x12 x13 x14 x15 x16 : Option V} {f : Int → Int → Int} {a : Int} {σ : L2.St} (h : te (x0 :: x1 :: x2 :: x3 :: x4 :: x5 :: x6 :: x7 :: x8 :: x9 :: x10 :: x11 :: x12 :: x13 :: x14 :: x15 :: x16 :: some (.int a) :: σ) H fun y H1 => ∃ b, y = .int b ∧ nx (x0 :: x1 :: x2 :: x3 :: x4 :: x5 :: x6 :: x7 :: x8 :: x9 :: x10 :: x11 :: x12 :: x13 :: x14 :: x15 :: x16 :: some (.int (f a b)) :: σ) H1) : tAug 17 te (ipI f) ⟨nx, rt, bk, ct⟩ (x0 :: x1 :: x2 :: x3 :: x4 :: x5 :: x6 :: x7 :: x8 :: x9 :: x10 :: x11 :: x12 :: x13 :: x14 :: x15 :: x16 :: some (.int a) :: σ) H := w_aug (i := 17) rfl h
theorem w_var18 {x0 x1 x2 x3 x4 x5 x6 x7 x8 x9 x10 x11 x12 x13 x14 x15 x16 x17 : Option V} {σ : L2.St} (q : Q v H) : tVar 18 (x0 :: x1 :: x2 :: x3 :: x4 :: x5 :: x6 :: x7 :: x8 :: x9 :: x10 :: x11 :: x12 :: x13 :: x14 :: x15 :: x16 :: x17 :: some v :: σ) H Q := ⟨v, rfl, q⟩
theorem w_asg18 {x0 x1 x2 x3 x4 x5 x6 x7 x8 x9 x10 x11 x12 x13 x14 x15 x16 x17 : Option V} {o : Option V} {σ : L2.St} (h : te (x0 :: x1 :: x2 :: x3 :: x4 :: x5 :: x6 :: x7 :: x8 :: x9 :: x10 :: x11 :: x12 :: x13 :: x14 :: x15 :: x16 :: x17 :: o :: σ) H fun x H1 => nx (x0 :: x1 :: x2 :: x3 :: x4 :: x5 :: x6 :: x7 :: x8 :: x9 :: x10 :: x11 :: x12 :: x13 :: x14 :: x15 :: x16 :: x17 :: some x :: σ) H1) : tAsg te (gName 18) ⟨nx, rt, bk, ct⟩ (x0 :: x1 :: x2 :: x3 :: x4 :: x5 :: x6 :: x7 :: x8 :: x9 :: x10 :: x11 :: x12 :: x13 :: x14 :: x15 :: x16 :: x17 :: o :: σ) H := h
theorem w_gn18 {x0 x1 x2 x3 x4 x5 x6 x7 x8 x9 x10 x11 x12 x13 x14 x15 x16 x17 : Option V} {o : Option V} {σ : L2.St} {R : L2.St → Hp → Prop} (h : R (x0 :: x1 :: x2 :: x3 :: x4 :: x5 :: x6 :: x7 :: x8 :: x9 :: x10 :: x11 :: x12 :: x13 :: x14 :: x15 :: x16 :: x17 :: some v :: σ) H) : gName 18 v (x0 :: x1 :: x2 :: x3 :: x4 :: x5 :: x6 :: x7 :: x8 :: x9 :: x10 :: x11 :: x12 :: x13 :: x14 :: x15 :: x16 :: x17 :: o :: σ) H R := h
theorem w_aug18 {x0 x1 x2 x3 x4 x5 x6 x7 x8 x9 x10 x11 x12 x13 x14 x15 x16 x17 : Option V} {f : Int → Int → Int} {a : Int} {σ : L2.St} (h : te (x0 :: x1 :: x2 :: x3 :: x4 :: x5 :: x6 :: x7 :: x8 :: x9 :: x10 :: x11 :: x12 :: x13 :: x14 :: x15 :: x16 :: x17 :: some (.int a) :: σ) H fun y H1 => ∃ b, y = .int b ∧ nx (x0 :: x1 :: x2 :: x3 :: x4 :: x5 :: x6 :: x7 :: x8 :: x9 :: x10 :: x11 :: x12 :: x13 :: x14 :: x15 :: x16 :: x17 :: some (.int (f a b)) :: σ) H1) : tAug 18 te (ipI f) ⟨nx, rt, bk, ct⟩ (x0 :: x1 :: x2 :: x3 :: x4 :: x5 :: x6 :: x7 :: x8 :: x9 :: x10 :: x11 :: x12 :: x13 :: x14 :: x15 :: x16 :: x17 :: some (.int a) :: σ) H := w_aug (i := 18) rfl h
theorem w_var19 {x0 x1 x2 x3 x4 x5 x6 x7 x8 x9 x10 x11 x12 x13 x14 x15 x16 x17 x18 : Option V} {σ : L2.St} (q : Q v H) : tVar 19 (x0 :: x1 :: x2 :: x3 :: x4 :: x5 :: x6 :: x7 :: x8 :: x9 :: x10 :: x11 :: x12 :: x13 :: x14 :: x15 :: x16 :: x17 :: x18 :: some v :: σ) H Q := ⟨v, rfl, q⟩
theorem w_asg19 {x0 x1 x2 x3 x4 x5 x6 x7 x8 x9 x10 x11 x12 x13 x14 x15 x16 x17 x18 : Option V} {o : Option V} {σ : L2.St} (h : te (x0 :: x1 :: x2 :: x3 :: x4 :: x5 :: x6 :: x7 :: x8 :: x9 :: x10 :: x11 :: x12 :: x13 :: x14 :: x15 :: x16 :: x17 :: x18 :: o :: σ) H fun x H1 => nx (x0 :: x1 :: x2 :: x3 :: x4 :: x5 :: x6 :: x7 :: x8 :: x9 :: x10 :: x11 :: x12 :: x13 :: x14 :: x15 :: x16 :: x17 :: x18 :: some x :: σ) H1) : tAsg te (gName 19) ⟨nx, rt, bk, ct⟩ (x0 :: x1 :: x2 :: x3 :: x4 :: x5 :: x6 :: x7 :: x8 :: x9 :: x10 :: x11 :: x12 :: x13 :: x14 :: x15 :: x16 :: x17 :: x18 :: o :: σ) H := h
theorem w_gn19 {x0 x1 x2 x3 x4 x5 x6 x7 x8 x9 x10 x11 x12 x13 x14 x15 x16 x17 x18 : Option V} {o : Option V} {σ : L2.St} {R : L2.St → Hp → Prop} (h : R (x0 :: x1 :: x2 :: x3 :: x4 :: x5 :: x6 :: x7 :: x8 :: x9 :: x10 :: x11 :: x12 :: x13 :: x14 :: x15 :: x16 :: x17 :: x18 :: some v :: σ) H) : gName 19 v (x0 :: x1 :: x2 :: x3 :: x4 :: x5 :: x6 :: x7 :: x8 :: x9 :: x10 :: x11 :: x12 :: x13 :: x14 :: x15 :: x16 :: x17 :: x18 :: o :: σ) H R := h
theorem w_aug19 {x0 x1 x2 x3 x4 x5 x6 x7 x8 x9 x10 x11 x12 x13 x14 x15 x16 x17 x18 : Option V} {f : Int → Int → Int} {a : Int} {σ : L2.St} (h : te (x0 :: x1 :: x2 :: x3 :: x4 :: x5 :: x6 :: x7 :: x8 :: x9 :: x10 :: x11 :: x12 :: x13 :: x14 :: x15 :: x16 :: x17 :: x18 :: some (.int a) :: σ) H fun y H1 => ∃ b, y = .int b ∧ nx (x0 :: x1 :: x2 :: x3 :: x4 :: x5 :: x6 :: x7 :: x8 :: x9 :: x10 :: x11 :: x12 :: x13 :: x14 :: x15 :: x16 :: x17 :: x18 :: some (.int (f a b)) :: σ) H1) : tAug 19 te (ipI f) ⟨nx, rt, bk, ct⟩ (x0 :: x1 :: x2 :: x3 :: x4 :: x5 :: x6 :: x7 :: x8 :: x9 :: x10 :: x11 :: x12 :: x13 :: x14 :: x15 :: x16 :: x17 :: x18 :: some (.int a) :: σ) H := w_aug (i := 19) rfl h
theorem cut {P : L2.St → Hp → Prop} {σ0 : L2.St} (σ : L2.St) (e : σ0 = σ) (h : P σ H) : P σ0 H := by
  rw [e]
  exact h
end
section
variable {nx bk ct : L2.St → Hp → Prop} {rt : VK} {t u tb : TS} {σ : L2.St} {H F0 H0 F : Hp} {L : List (Addr × HO)} {C : List Ck} {te ta tc : TE} {tA : TA} {Q : VK} {v x y : V} {g : TG} {K : PySem.W.Frag} {a : Addr} {xs : List V} {l m : List Nat} {i : Int} {c : Nat}
theorem isVar {i : Nat} (h : tVar i σ H Q) : tVar i σ H Q := h
theorem isAsg {i : Nat} {D : Ends} (h : tAsg te (gName i) D σ H) : tAsg te (gName i) D σ H := h
theorem isGn {i : Nat} {R : L2.St → Hp → Prop} (h : gName i v σ H R) : gName i v σ H R := h
theorem isAug {i : Nat} {f : Int → Int → Int} {D : Ends} (h : tAug i te (ipI f) D σ H) : tAug i te (ipI f) D σ H := h
theorem w_abs (q : Q (.int (i.natAbs : Nat)) H) : rAbs [.int i] H Q := ⟨i, rfl, q⟩
theorem w_toint (q : Q (.int i) H) : rInt [.int i] H Q := ⟨i, rfl, q⟩
theorem w_tointB {b : Bool} (q : Q (.int (if b then 1 else 0)) H) : rIntB [.bl b] H Q := ⟨b, rfl, q⟩
theorem w_lenS (q : Q (.int (l.length : Nat)) H) (hz : l.length ≤ sizeLine) : rLenS [vS l] H Q := ⟨l, rfl, hz, q⟩
theorem w_addS (q : Q (vS (l ++ m)) H) (hz : l.length + m.length ≤ sizeLine) : rAddS (vS l) (vS m) H Q := ⟨l, m, rfl, rfl, hz, q⟩
theorem w_ixS (q : Q (vS [c]) H) (ha : atI l i = some c) (hz : l.length ≤ sizeLine) : rIxSg (vS l) (.int i) H Q := ⟨l, i, c, rfl, rfl, hz, ha, q⟩
theorem w_mulS (q : Q (vS (List.replicate i.toNat l).flatten) H) (h : 0 ≤ i ∧ i < 2 ^ 30) (hz : l.length * i.toNat ≤ sizeLine) : rMulS (vS l) (.int i) H Q := ⟨l, i, rfl, rfl, h.1, h.2, hz, q⟩
theorem w_slS {lo hi : Option Int} (q : Q (vS (cutN l lo hi)) H) (hz : l.length ≤ sizeLine) : rSlSg (vS l) lo hi H Q := ⟨l, rfl, hz, q⟩
theorem w_sl {r : V → Option Int → Option Int → Hp → VK → Prop} {tl th : TO} (h : te σ H fun x H1 => tl σ H1 fun lo H2 => th σ H2 fun hi H3 => r x lo hi H3 Q) : tSl r te tl th σ H Q := h
theorem w_noP {R : Option Int → Hp → Prop} (h : R none H) : tNoPart σ H R := h
theorem w_part {R : Option Int → Hp → Prop} (h : te σ H fun x H1 => ∃ i, x = .int i ∧ R (some i) H1) : tPart te σ H R := h
theorem w_ixL (q : Q v H) (hs : SqL K H a xs) (ha : atI xs i = some v) : rIxL K (.ref a) (.int i) H Q := ⟨a, xs, i, v, rfl, rfl, hs, ha, q⟩
theorem w_ixT (q : Q v H) (hs : SqT K H a xs) (ha : atI xs i = some v) : rIxT K (.ref a) (.int i) H Q := ⟨a, xs, i, v, rfl, rfl, hs, ha, q⟩
theorem w_lenL (q : Q (.int (xs.length : Nat)) H) (hs : SqL K H a xs) : rLenQ K [.ref a] H Q := ⟨a, xs, rfl, .inl hs, q⟩
theorem w_lenT (q : Q (.int (xs.length : Nat)) H) (hs : SqT K H a xs) : rLenQ K [.ref a] H Q := ⟨a, xs, rfl, .inr hs, q⟩
def NewL (xs : List V) (H : Hp) (Q : VK) : Prop := xs.length ≤ sizeLine ∧ ∀ p, H p = none → Q (.ref p) (upd H p (.lst xs))
def NewT (xs : List V) (H : Hp) (Q : VK) : Prop := xs.length ≤ sizeLine ∧ ∀ p, H p = none → Q (.ref p) (upd H p (.tup xs))
theorem w_lst (h : tA σ H fun xs H1 => NewL xs H1 Q) : tLst tA σ H Q := h
theorem w_tup (h : tA σ H fun xs H1 => NewT xs H1 Q) : tTup tA σ H Q := h
theorem w_newL (O : Own F0 H0 F H L C) (k : ∀ p H', Own F0 H0 F H' ((p, .lst xs) :: L) C → Q (.ref p) H') (hz : xs.length ≤ sizeLine) : NewL xs H Q := ⟨hz, fun p np => k p _ (O.alloc np _)⟩
theorem w_newT (O : Own F0 H0 F H L C) (k : ∀ p F' H', Own F0 H0 F' H' L (cO p (.tup xs) :: C) → Q (.ref p) H') (hz : xs.length ≤ sizeLine) : NewT xs H Q := ⟨hz, fun p np => k p _ _ (O.ice np _)⟩
theorem w_bm {T : String} {r : V → List V → Hp → VK → Prop} {to : TE} (h : to σ H fun x H1 => tyV K T x H1 ∧ tA σ H1 fun vs H2 => r x vs H2 Q) : tBM K T r to tA σ H Q := h
theorem w_bm0 {T : String} {r : V → List V → Hp → VK → Prop} {to : TE} (h : to σ H fun x H1 => tyV K T x H1 ∧ r x [] H1 Q) : tBM0 K T r to σ H Q := h
theorem w_tyL {P : Prop} (h : P) (hs : SqL K H a xs) : tyV K "list" (.ref a) H ∧ P := ⟨.inl ⟨rfl, _, hs⟩, h⟩
theorem w_app {j : Nat} (O : Own F0 H0 F H L C) (hi : L[j]? = some (a, .lst xs)) (k : ∀ H', Own F0 H0 F H' (L.set j (a, .lst (xs ++ [v]))) C → Q .non H') (hz : xs.length < sizeLine) : rAppend (.ref a) [v] H Q :=
  ⟨a, xs, v, rfl, rfl, O.at_ j hi, hz, k _ (O.set j hi _)⟩
theorem w_app0 (O : Own F0 H0 F H ((a, .lst xs) :: L) C) (k : ∀ H', Own F0 H0 F H' ((a, .lst (xs ++ [v])) :: L) C → Q .non H') (hz : xs.length < sizeLine) : rAppend (.ref a) [v] H Q := w_app (j := 0) O rfl k hz
theorem w_app1 {q : Addr × HO} (O : Own F0 H0 F H (q :: (a, .lst xs) :: L) C) (k : ∀ H', Own F0 H0 F H' (q :: (a, .lst (xs ++ [v])) :: L) C → Q .non H') (hz : xs.length < sizeLine) : rAppend (.ref a) [v] H Q := w_app (j := 1) O rfl k hz
theorem w_app2 {q q' : Addr × HO} (O : Own F0 H0 F H (q :: q' :: (a, .lst xs) :: L) C) (k : ∀ H', Own F0 H0 F H' (q :: q' :: (a, .lst (xs ++ [v])) :: L) C → Q .non H') (hz : xs.length < sizeLine) : rAppend (.ref a) [v] H Q := w_app (j := 2) O rfl k hz
/-! loops -/
def LoopEnd (J : It) (g : TG) (tb : TS) (D : Ends) (σ : L2.St) (H : Hp) : Prop := ∃ W : Nat → Nat → L2.St → Hp → Prop, (∃ m, W 0 m σ H) ∧ ∀ i m σ H, W i m σ H →
  (J.stop i H ∧ D.nx σ H) ∨ (J.go i H ∧ ∃ N : L2.St → Hp → Prop, (∀ σ' H', N σ' H' → ∃ m', m' < m ∧ W (i + 1) m' σ' H') ∧ ∀ x H', J.yld i H x H' → g x σ H' fun σ2 H2 => tb { D with nx := N, ct := N, bk := D.nx } σ2 H2)
theorem w_for {wi : TI} (h : wi σ H fun J H1 => LoopEnd J g tb ⟨nx, rt, bk, ct⟩ σ H1) : tFor wi g tb ⟨nx, rt, bk, ct⟩ σ H := h
def Rg1 (vs : List V) (H : Hp) (R : It → Hp → Prop) : Prop := ∃ j : Int, vs = [.int j] ∧ -(2 ^ 62) ≤ j ∧ j < 2 ^ 62 ∧ R (Itr 0 j.toNat) H
theorem w_iRng1 {R : It → Hp → Prop} (h : tA σ H fun vs H1 => Rg1 vs H1 R) : iRng1 tA σ H R := h
theorem w_rg1 {n : Int} (hn : -(2 ^ 62) ≤ n ∧ n < 2 ^ 62) (Pv : Nat → L2.St → Hp → Prop) (h0 : Pv 0 σ H)
    (hs : ∀ (i : Nat) σ' H', (i : Int) < n → Pv i σ' H' → g (.int (i : Nat)) σ' H' fun σ2 H2 => tb ⟨Pv (i + 1), rt, nx, Pv (i + 1)⟩ σ2 H2) (hd : ∀ σ' H', Pv n.toNat σ' H' → nx σ' H') :
    Rg1 [.int n] H fun J H1 => LoopEnd J g tb ⟨nx, rt, bk, ct⟩ σ H1 := by
  refine ⟨n, rfl, hn.1, hn.2, for_range (lo := 0) (n := n.toNat) (D := ⟨nx, rt, bk, ct⟩) Pv h0 (fun i σ' H' hi p => ?_) hd⟩
  have q := hs i σ' H' (by omega) p
  rw [show (0 : Int) + (i : Int) = (i : Int) from Int.zero_add _]
  exact q
def Rg2 (vs : List V) (H : Hp) (R : It → Hp → Prop) : Prop := ∃ i j : Int, vs = [.int i, .int j] ∧ (-(2 ^ 62) ≤ i ∧ i < 2 ^ 62 ∧ -(2 ^ 62) ≤ j ∧ j < 2 ^ 62) ∧ R (Itr i (j - i).toNat) H
theorem w_iRng2 {R : It → Hp → Prop} (h : tA σ H fun vs H1 => Rg2 vs H1 R) : iRng2 tA σ H R := h
theorem w_rg2 {b n : Int} (hn : -(2 ^ 62) ≤ b ∧ b < 2 ^ 62 ∧ -(2 ^ 62) ≤ n ∧ n < 2 ^ 62) (Pv : Nat → L2.St → Hp → Prop) (h0 : Pv 0 σ H)
    (hs : ∀ (i : Nat) σ' H', b + (i : Int) < n → Pv i σ' H' → g (.int (b + (i : Nat))) σ' H' fun σ2 H2 => tb ⟨Pv (i + 1), rt, nx, Pv (i + 1)⟩ σ2 H2) (hd : ∀ σ' H', Pv (n - b).toNat σ' H' → nx σ' H') :
    Rg2 [.int b, .int n] H fun J H1 => LoopEnd J g tb ⟨nx, rt, bk, ct⟩ σ H1 :=
  ⟨b, n, rfl, hn, for_range (lo := b) (n := (n - b).toNat) (D := ⟨nx, rt, bk, ct⟩) Pv h0 (fun i σ' H' hi p => hs i σ' H' (by omega) p) hd⟩
def Rg3 (vs : List V) (H : Hp) (R : It → Hp → Prop) : Prop := ∃ (i j c : Int) (n : Nat), vs = [.int i, .int j, .int c] ∧ RgC i j c n ∧ R (Itc i c n) H
theorem w_iRng3 {R : It → Hp → Prop} (h : tA σ H fun vs H1 => Rg3 vs H1 R) : iRng3 tA σ H R := h
theorem w_rg3 {b e c : Int} {n : Nat} (hn : RgC b e c n) (Pv : Nat → L2.St → Hp → Prop) (h0 : Pv 0 σ H)
    (hs : ∀ (i : Nat) σ' H', i < n → Pv i σ' H' → g (.int (b + (i : Nat) * c)) σ' H' fun σ2 H2 => tb ⟨Pv (i + 1), rt, nx, Pv (i + 1)⟩ σ2 H2) (hd : ∀ σ' H', Pv n σ' H' → nx σ' H') :
    Rg3 [.int b, .int e, .int c] H fun J H1 => LoopEnd J g tb ⟨nx, rt, bk, ct⟩ σ H1 :=
  ⟨b, e, c, n, rfl, hn, for_rangeC (lo := b) (c := c) (n := n) (D := ⟨nx, rt, bk, ct⟩) Pv h0 (fun i σ' H' hi p => hs i σ' H' hi p) hd⟩
def FoL (K : PySem.W.Frag) (x : V) (H : Hp) (R : It → Hp → Prop) : Prop := ∃ a, x = .ref a ∧ (∃ xs, SqL K H a xs) ∧ R (Itl K a) H
theorem w_iList {R : It → Hp → Prop} (h : te σ H fun x H1 => FoL K x H1 R) : iList K te σ H R := h
theorem w_foL (Pv : Nat → L2.St → Hp → Prop) (hx : SqL K H a xs) (h0 : Pv 0 σ H) (hl : ∀ i σ' H', i ≤ xs.length → Pv i σ' H' → SqL K H' a xs)
    (hs : ∀ (i : Nat) x σ' H', xs[i]? = some x → Pv i σ' H' → g x σ' H' fun σ2 H2 => tb ⟨Pv (i + 1), rt, nx, Pv (i + 1)⟩ σ2 H2) (hd : ∀ σ' H', Pv xs.length σ' H' → nx σ' H') :
    FoL K (.ref a) H fun J H1 => LoopEnd J g tb ⟨nx, rt, bk, ct⟩ σ H1 :=
  ⟨a, rfl, ⟨xs, hx⟩, for_list (D := ⟨nx, rt, bk, ct⟩) Pv h0 hl (fun i x σ' H' hi p => hs i x σ' H' hi p) hd⟩
def FoT (K : PySem.W.Frag) (x : V) (H : Hp) (R : It → Hp → Prop) : Prop := ∃ a, x = .ref a ∧ (∃ xs, SqT K H a xs) ∧ R (Itt K a) H
theorem w_iTup {R : It → Hp → Prop} (h : te σ H fun x H1 => FoT K x H1 R) : iTup K te σ H R := h
theorem w_foT (Pv : Nat → L2.St → Hp → Prop) (hx : SqT K H a xs) (h0 : Pv 0 σ H) (hl : ∀ i σ' H', i ≤ xs.length → Pv i σ' H' → SqT K H' a xs)
    (hs : ∀ (i : Nat) x σ' H', xs[i]? = some x → Pv i σ' H' → g x σ' H' fun σ2 H2 => tb ⟨Pv (i + 1), rt, nx, Pv (i + 1)⟩ σ2 H2) (hd : ∀ σ' H', Pv xs.length σ' H' → nx σ' H') :
    FoT K (.ref a) H fun J H1 => LoopEnd J g tb ⟨nx, rt, bk, ct⟩ σ H1 :=
  ⟨a, rfl, ⟨xs, hx⟩, for_tup (D := ⟨nx, rt, bk, ct⟩) Pv h0 hl (fun i x σ' H' hi p => hs i x σ' H' hi p) hd⟩
def FoS (x : V) (H : Hp) (R : It → Hp → Prop) : Prop := ∃ z, x = .str z ∧ R (Its z) H
theorem w_iStr {R : It → Hp → Prop} (h : te σ H fun x H1 => FoS x H1 R) : iStr te σ H R := h
theorem w_foS (Pv : Nat → L2.St → Hp → Prop) (h0 : Pv 0 σ H)
    (hs : ∀ (i : Nat) (c : Nat) σ' H', l[i]? = some c → Pv i σ' H' → g (vS [c]) σ' H' fun σ2 H2 => tb ⟨Pv (i + 1), rt, nx, Pv (i + 1)⟩ σ2 H2) (hd : ∀ σ' H', Pv l.length σ' H' → nx σ' H') :
    FoS (vS l) H fun J H1 => LoopEnd J g tb ⟨nx, rt, bk, ct⟩ σ H1 := by
  refine ⟨S l, rfl, fun i k σ' H' => k = l.length - i ∧ i ≤ l.length ∧ Pv i σ' H', ⟨l.length, by simp, Nat.zero_le _, h0⟩, ?_⟩
  rintro i k σ' H' ⟨rfl, hi, p⟩
  have hsz : (S l).cps.size = l.length := by simp [S]
  by_cases hlt : i < l.length
  · refine .inr ⟨by show i < (S l).cps.size; rw [hsz]; exact hlt, Pv (i + 1), fun σ2 H2 p' => ⟨l.length - (i + 1), by omega, rfl, hlt, p'⟩, ?_⟩
    rintro x H2 ⟨rfl, c, hc, rfl⟩
    refine hs i c σ' _ ?_ p
    simpa [S] using hc
  · have e : i = l.length := by omega
    subst e
    exact .inl ⟨by show (S l).cps.size ≤ l.length; rw [hsz]; exact Nat.le_refl _, hd _ _ p⟩
def FoR (K : PySem.W.Frag) (vs : List V) (H : Hp) (R : It → Hp → Prop) : Prop := ∃ (a : Addr) (xs : List V), vs = [.ref a] ∧ SqL K H a xs ∧ R (Itv K a xs.length) H
theorem w_iRev {R : It → Hp → Prop} (h : tA σ H fun vs H1 => FoR K vs H1 R) : iRev K tA σ H R := h
/-- i: the turns done; the item is the one at length - 1 - i -/
theorem w_foR (Pv : Nat → L2.St → Hp → Prop) (hx : SqL K H a xs) (h0 : Pv 0 σ H) (hl : ∀ i σ' H', Pv i σ' H' → SqL K H' a xs)
    (hs : ∀ (i : Nat) x σ' H', i < xs.length → xs[xs.length - 1 - i]? = some x → Pv i σ' H' → g x σ' H' fun σ2 H2 => tb ⟨Pv (i + 1), rt, nx, Pv (i + 1)⟩ σ2 H2) (hd : ∀ σ' H', Pv xs.length σ' H' → nx σ' H') :
    FoR K [.ref a] H fun J H1 => LoopEnd J g tb ⟨nx, rt, bk, ct⟩ σ H1 := by
  refine ⟨a, xs, rfl, hx, fun i k σ' H' => k = xs.length - i ∧ i ≤ xs.length ∧ Pv i σ' H', ⟨xs.length, by simp, Nat.zero_le _, h0⟩, ?_⟩
  rintro i k σ' H' ⟨rfl, hi, p⟩
  by_cases hlt : i < xs.length
  · have hs1 : SqL K H' a xs := hl i σ' H' p
    have hg : xs[xs.length - 1 - i]? = some (xs[xs.length - 1 - i]'(by omega)) := List.getElem?_eq_getElem (by omega)
    refine .inr ⟨⟨hlt, xs, _, hs1, hg⟩, Pv (i + 1), fun σ2 H2 p' => ⟨xs.length - (i + 1), by omega, rfl, hlt, p'⟩, ?_⟩
    rintro x H2 ⟨rfl, hx2⟩
    exact hs i x σ' _ hlt (hx2 xs hs1) p
  · have e : i = xs.length := by omega
    subst e
    exact .inl ⟨Nat.le_refl _, hd _ _ p⟩
def FoE (K : PySem.W.Frag) (vs : List V) (H : Hp) (R : It → Hp → Prop) : Prop := ∃ (a : Addr) (xs : List V), vs = [.ref a] ∧ SqL K H a xs ∧ R (Ite K a) H
theorem w_iEnum {R : It → Hp → Prop} (h : tA σ H fun vs H1 => FoE K vs H1 R) : iEnum K tA σ H R := h
theorem w_foE (Pv : Nat → L2.St → Hp → Prop) (hx : SqL K H a xs) (h0 : Pv 0 σ H) (hl : ∀ i σ' H', Pv i σ' H' → SqL K H' a xs)
    (hs : ∀ (i : Nat) x σ' H' T, xs[i]? = some x → Pv i σ' H' → H' T = none → g (.ref T) σ' (upd H' T (.tup [.int (i : Nat), x])) fun σ2 H2 => tb ⟨Pv (i + 1), rt, nx, Pv (i + 1)⟩ σ2 H2) (hd : ∀ σ' H', Pv xs.length σ' H' → nx σ' H') :
    FoE K [.ref a] H fun J H1 => LoopEnd J g tb ⟨nx, rt, bk, ct⟩ σ H1 := by
  refine ⟨a, xs, rfl, hx, fun i k σ' H' => k = xs.length - i ∧ i ≤ xs.length ∧ Pv i σ' H', ⟨xs.length, by simp, Nat.zero_le _, h0⟩, ?_⟩
  rintro i k σ' H' ⟨rfl, hi, p⟩
  have hs1 : SqL K H' a xs := hl i σ' H' p
  by_cases hlt : i < xs.length
  · refine .inr ⟨⟨xs, _, hs1, List.getElem?_eq_getElem hlt⟩, Pv (i + 1), fun σ2 H2 p' => ⟨xs.length - (i + 1), by omega, rfl, hlt, p'⟩, ?_⟩
    rintro v H2 ⟨T, x, rfl, nT, rfl, hx2⟩
    exact hs i x σ' H' T (hx2 xs hs1) p nT
  · have e : i = xs.length := by omega
    subst e
    exact .inl ⟨⟨xs, hs1, Nat.le_refl _⟩, hd _ _ p⟩
/-- while: Pv with a number that falls -/
theorem w_while (Pv : Nat → L2.St → Hp → Prop) (m0 : Nat) (h0 : Pv m0 σ H) {c : TT}
    (hs : ∀ m σ' H', Pv m σ' H' → c σ' H' fun b H1 => if b = true then tb ⟨fun σ2 H2 => ∃ m', m' < m ∧ Pv m' σ2 H2, rt, nx, fun σ2 H2 => ∃ m', m' < m ∧ Pv m' σ2 H2⟩ σ' H1 else nx σ' H1)
    (mono : ∀ σ H (Q Q' : Bool → Hp → Prop), (∀ b H1, Q b H1 → Q' b H1) → c σ H Q → c σ H Q') : tWhile c tb ⟨nx, rt, bk, ct⟩ σ H := by
  refine ⟨Pv, ⟨m0, h0⟩, fun m σ' H' p => mono σ' H' _ _ (fun b H1 q => ?_) (hs m σ' H' p)⟩
  cases b with
  | true => exact ⟨_, fun _ _ z => z, q⟩
  | false => exact q
/-! comprehensions -/
def LcEnd (J : It) (g : TG) (tt : TT) (te : TE) (vs : List Nat) (σ : L2.St) (H1 : Hp) (Q : VK) : Prop := ∀ D, H1 D = none → ∃ W : Nat → Nat → Hp → Prop, (∃ m, W 0 m (upd H1 D (.lst []))) ∧ ∀ i m H, W i m H →
  (J.stop i H ∧ Q (.ref D) H) ∨ (J.go i H ∧ ∃ Nx : Hp → Prop, (∀ H', Nx H' → ∃ m', m' < m ∧ W (i + 1) m' H') ∧ ∀ x H', J.yld i H x H' → g x (wipe σ vs) H' fun σ2 H2 => wipe σ2 vs = wipe σ vs ∧ tt σ2 H2 fun b H3 =>
    if b = true then te σ2 H3 fun y H4 => ∃ acc, H4 D = some (.lst acc) ∧ acc.length < sizeLine ∧ Nx (upd H4 D (.lst (acc ++ [y]))) else Nx H3)
theorem w_lc {wi : TI} {tt : TT} {vs : List Nat} (h : wi σ H fun J H1 => LcEnd J g tt te vs σ H1 Q) : tLc wi g tt te vs σ H Q := h
/-- the item is put behind the list at D -/
def Put (D : Addr) (N : Hp → Prop) (y : V) (H4 : Hp) : Prop := ∃ acc, H4 D = some (.lst acc) ∧ acc.length < sizeLine ∧ N (upd H4 D (.lst (acc ++ [y])))
/-- what holds between two turns of a comprehension -/
def Btw (F0 H0 F : Hp) (L : List (Addr × HO)) (C : List Ck) (D : Addr) (Iv : List V → Hp → Prop) (H' : Hp) : Prop := ∃ F' acc, Own F0 H0 F' H' ((D, .lst acc) :: L) C ∧ Same F F' ∧ Iv acc F'
theorem w_put {Iv : List V → Hp → Prop} {D : Addr} {acc : List V} {F1 : Hp} (O : Own F0 H0 F1 H ((D, .lst acc) :: L) C) (sF : Same F F1) (hI : Iv (acc ++ [y]) F1) (hz : acc.length < sizeLine) : Put D (Btw F0 H0 F L C D Iv) y H :=
  ⟨acc, O.at_ 0, hz, F1, _, O.set 0 rfl _, sF, hI⟩
theorem w_skip {Iv : List V → Hp → Prop} {D : Addr} {acc : List V} {F1 : Hp} (O : Own F0 H0 F1 H ((D, .lst acc) :: L) C) (sF : Same F F1) (hI : Iv acc F1) : Btw F0 H0 F L C D Iv H := ⟨F1, acc, O, sF, hI⟩
theorem w_yes {Q : Bool → Hp → Prop} (h : Q true H) : tYes σ H Q := h
theorem w_iteT {A B : Prop} (h : A) : if true = true then A else B := by rw [if_pos rfl]; exact h
theorem w_iteF {A B : Prop} (h : B) : if false = true then A else B := by rw [if_neg Bool.false_ne_true]; exact h
theorem lc_any {J : It} {tt : TT} {vs : List Nat} (n : Nat) (Y : Nat → V → Prop) (O : Own F0 H0 F H L C) (Iv : Nat → List V → Hp → Prop) (h0 : Iv 0 [] F)
    (go : ∀ i H' F' acc D, i < n → Own F0 H0 F' H' ((D, .lst acc) :: L) C → Same F F' → J.go i H') (stop : ∀ H' F' acc D, Own F0 H0 F' H' ((D, .lst acc) :: L) C → Same F F' → J.stop n H')
    (yld : ∀ i x H' H2 F' acc D, i < n → Own F0 H0 F' H' ((D, .lst acc) :: L) C → Same F F' → J.yld i H' x H2 → H2 = H' ∧ Y i x)
    (turn : ∀ (i : Nat) x acc D F' H', i < n → Y i x → Iv i acc F' → Same F F' → Own F0 H0 F' H' ((D, .lst acc) :: L) C → g x (wipe σ vs) H' fun σ2 H2 => wipe σ2 vs = wipe σ vs ∧ tt σ2 H2 fun b H3 =>
      if b = true then te σ2 H3 (Put D (Btw F0 H0 F L C D (Iv (i + 1)))) else Btw F0 H0 F L C D (Iv (i + 1)) H3)
    (done : ∀ acc D F' H', Iv n acc F' → Same F F' → Own F0 H0 F' H' ((D, .lst acc) :: L) C → Q (.ref D) H') :
    LcEnd J g tt te vs σ H Q := by
  intro D hD
  refine ⟨fun i k H' => k = n - i ∧ i ≤ n ∧ Btw F0 H0 F L C D (Iv i) H', ⟨n, by omega, Nat.zero_le _, F, [], O.alloc hD _, Same.refl _, h0⟩, ?_⟩
  rintro i k H' ⟨rfl, hi, F', acc, O', sF, hI⟩
  by_cases hlt : i < n
  · refine .inr ⟨go i H' F' acc D hlt O' sF, Btw F0 H0 F L C D (Iv (i + 1)), fun H2 p' => ⟨n - (i + 1), by omega, rfl, hlt, p'⟩, fun x H2 hy => ?_⟩
    obtain ⟨rfl, hY⟩ := yld i x H' H2 F' acc D hlt O' sF hy
    exact turn i x acc D F' _ hlt hY hI sF O'
  · have e : i = n := by omega
    subst e
    exact .inl ⟨stop H' F' acc D O' sF, done acc D F' H' hI sF O'⟩
/-- [te for x in xs], xs a list that the frozen part or another own object holds -/
theorem w_lcL {tt : TT} {vs : List Nat} (O : Own F0 H0 F H L C) (hx : SqL K H a xs) (hl : ∀ {F' H' acc D}, Own F0 H0 F' H' ((D, .lst acc) :: L) C → Same F F' → SqL K H' a xs) (Iv : Nat → List V → Hp → Prop) (h0 : Iv 0 [] F)
    (turn : ∀ (i : Nat) x acc D F' H', xs[i]? = some x → Iv i acc F' → Same F F' → Own F0 H0 F' H' ((D, .lst acc) :: L) C → g x (wipe σ vs) H' fun σ2 H2 => wipe σ2 vs = wipe σ vs ∧ tt σ2 H2 fun b H3 =>
      if b = true then te σ2 H3 (Put D (Btw F0 H0 F L C D (Iv (i + 1)))) else Btw F0 H0 F L C D (Iv (i + 1)) H3)
    (done : ∀ acc D F' H', Iv xs.length acc F' → Same F F' → Own F0 H0 F' H' ((D, .lst acc) :: L) C → Q (.ref D) H') :
    FoL K (.ref a) H fun J H1 => LcEnd J g tt te vs σ H1 Q := by
  refine ⟨a, rfl, ⟨xs, hx⟩, lc_any xs.length (fun i x => xs[i]? = some x) O Iv h0 (fun i H' F' acc D hi O' sF => ?_) (fun H' F' acc D O' sF => ⟨xs, hl O' sF, Nat.le_refl _⟩) (fun i x H' H2 F' acc D hi O' sF hy => ⟨hy.1, hy.2 xs (hl O' sF)⟩) (fun i x acc D F' H' _ hY => turn i x acc D F' H' hY) done⟩
  exact ⟨xs, _, hl O' sF, List.getElem?_eq_getElem hi⟩
theorem w_lcT {tt : TT} {vs : List Nat} (O : Own F0 H0 F H L C) (hx : SqT K H a xs) (hl : ∀ {F' H' acc D}, Own F0 H0 F' H' ((D, .lst acc) :: L) C → Same F F' → SqT K H' a xs) (Iv : Nat → List V → Hp → Prop) (h0 : Iv 0 [] F)
    (turn : ∀ (i : Nat) x acc D F' H', xs[i]? = some x → Iv i acc F' → Same F F' → Own F0 H0 F' H' ((D, .lst acc) :: L) C → g x (wipe σ vs) H' fun σ2 H2 => wipe σ2 vs = wipe σ vs ∧ tt σ2 H2 fun b H3 =>
      if b = true then te σ2 H3 (Put D (Btw F0 H0 F L C D (Iv (i + 1)))) else Btw F0 H0 F L C D (Iv (i + 1)) H3)
    (done : ∀ acc D F' H', Iv xs.length acc F' → Same F F' → Own F0 H0 F' H' ((D, .lst acc) :: L) C → Q (.ref D) H') :
    FoT K (.ref a) H fun J H1 => LcEnd J g tt te vs σ H1 Q := by
  refine ⟨a, rfl, ⟨xs, hx⟩, lc_any xs.length (fun i x => xs[i]? = some x) O Iv h0 (fun i H' F' acc D hi O' sF => ?_) (fun H' F' acc D O' sF => ⟨xs, hl O' sF, Nat.le_refl _⟩) (fun i x H' H2 F' acc D hi O' sF hy => ⟨hy.1, hy.2 xs (hl O' sF)⟩) (fun i x acc D F' H' _ hY => turn i x acc D F' H' hY) done⟩
  exact ⟨xs, _, hl O' sF, List.getElem?_eq_getElem hi⟩
theorem w_lcR1 {tt : TT} {vs : List Nat} {n : Int} (O : Own F0 H0 F H L C) (hn : -(2 ^ 62) ≤ n ∧ n < 2 ^ 62) (Iv : Nat → List V → Hp → Prop) (h0 : Iv 0 [] F)
    (turn : ∀ (i : Nat) acc D F' H', (i : Int) < n → Iv i acc F' → Same F F' → Own F0 H0 F' H' ((D, .lst acc) :: L) C → g (.int (i : Nat)) (wipe σ vs) H' fun σ2 H2 => wipe σ2 vs = wipe σ vs ∧ tt σ2 H2 fun b H3 =>
      if b = true then te σ2 H3 (Put D (Btw F0 H0 F L C D (Iv (i + 1)))) else Btw F0 H0 F L C D (Iv (i + 1)) H3)
    (done : ∀ acc D F' H', Iv n.toNat acc F' → Same F F' → Own F0 H0 F' H' ((D, .lst acc) :: L) C → Q (.ref D) H') :
    Rg1 [.int n] H fun J H1 => LcEnd J g tt te vs σ H1 Q := by
  refine ⟨n, rfl, hn.1, hn.2, lc_any n.toNat (fun i x => x = .int (i : Nat)) O Iv h0 (fun i H' F' acc D hi O' sF => hi) (fun H' F' acc D O' sF => Nat.le_refl _) (fun i x H' H2 F' acc D hi O' sF hy => ⟨hy.1, by rw [hy.2, Int.zero_add]⟩) (fun i x acc D F' H' hi hY => ?_) done⟩
  intro h1 h2 h3
  rw [show x = .int (i : Nat) from hY]
  exact turn i acc D F' H' (by omega) h1 h2 h3
theorem w_lcS {tt : TT} {vs : List Nat} (O : Own F0 H0 F H L C) (Iv : Nat → List V → Hp → Prop) (h0 : Iv 0 [] F)
    (turn : ∀ (i : Nat) (c : Nat) acc D F' H', l[i]? = some c → Iv i acc F' → Same F F' → Own F0 H0 F' H' ((D, .lst acc) :: L) C → g (vS [c]) (wipe σ vs) H' fun σ2 H2 => wipe σ2 vs = wipe σ vs ∧ tt σ2 H2 fun b H3 =>
      if b = true then te σ2 H3 (Put D (Btw F0 H0 F L C D (Iv (i + 1)))) else Btw F0 H0 F L C D (Iv (i + 1)) H3)
    (done : ∀ acc D F' H', Iv l.length acc F' → Same F F' → Own F0 H0 F' H' ((D, .lst acc) :: L) C → Q (.ref D) H') :
    FoS (vS l) H fun J H1 => LcEnd J g tt te vs σ H1 Q := by
  have hsz : (S l).cps.size = l.length := by simp [S]
  refine ⟨S l, rfl, lc_any l.length (fun i x => ∃ c, l[i]? = some c ∧ x = vS [c]) O Iv h0 (fun i H' F' acc D hi O' sF => ?_) (fun H' F' acc D O' sF => ?_) (fun i x H' H2 F' acc D hi O' sF hy => ?_) (fun i x acc D F' H' hi hY => ?_) done⟩
  · show i < (S l).cps.size
    rw [hsz]; exact hi
  · show (S l).cps.size ≤ l.length
    rw [hsz]; exact Nat.le_refl _
  · obtain ⟨h1, c, hc, rfl⟩ := hy
    exact ⟨h1, c, by simpa [S] using hc, rfl⟩
  · obtain ⟨c, hc, rfl⟩ := hY
    exact turn i c acc D F' H' hc
end

/-! ### defs -/
section
variable {P : Program} {w : World} {K : PySem.W.Frag} {mg : Str → Option Value} {base : Heap}
theorem dn_mk {x q : Str} {st : Stmt} {f : Addr} {N ps : List Str} {k : Nat} {sp : Sp} (F : ∃ fd, FnP K x q st f fd) (S : FnScope N ps (defScope st))
    (hb : ∀ (kV doc pm : Value) (an : Option Addr) (cdv ct : Value) (us : List Value), us.length = ps.length → bindArgs (PySem.W.fnOf x q (defArgs st) (defBody st) (defScope st) .none kV doc pm an cdv ct) ⟨us, []⟩ = pure (ps.zip us))
    (len : ∀ vs H Q E, sp vs H Q E → vs.length = ps.length)
    (hbody : ∀ (cdv : Value) (A : Around) (outer : List Env) (s : Shared) (H : Hp) (vs : List V) (Q : VK) (E : XK), Room k (A.deeper (envOfC q (defScope st) s.heap.objs.size f cdv)) → sp vs H Q E →
      ∃ t, PSs (cxOf CX0 P w K mg base N q (defScope st) f cdv A outer s H E).nox (defBody st) t ∧ t ⟨fun _ H' => Q .non H', Q, fun _ _ => False, fun _ _ => False⟩ (start N vs) H) : Dn P w K mg base (k + 1) f ps sp := by
  obtain ⟨fd, F⟩ := F
  refine ⟨fd, F.ok S len fun cdv A outer s H vs Q E hr hsp => ?_, F.bindsN hb, F.kp, ?_⟩
  · obtain ⟨t, h, q⟩ := hbody cdv A outer s H vs Q E hr hsp
    exact ⟨t, h.nox, q⟩
  · obtain ⟨oc, od, dV, kV, doc, pm, an, cdv, ct, osl, e, lk, _⟩ := F.ex
    exact ⟨_, _, _, lk⟩
theorem lk_same {f : Addr} {fd fd' : FuncData} (h : Lk K f fd) (h' : Lk K f fd') : fd = fd' := by
  obtain ⟨oc, od, osl, lk⟩ := h
  obtain ⟨oc', od', osl', lk'⟩ := h'
  rw [lk] at lk'
  injection lk' with e
  injection e with _ _ e _
  injection e
theorem lk_of {x q : Str} {st : Stmt} {f : Addr} {fd : FuncData} (F : FnP K x q st f fd) : Lk K f fd := by
  obtain ⟨oc, od, dV, kV, doc, pm, an, cdv, ct, osl, e, lk, _⟩ := F.ex
  exact ⟨_, _, _, lk⟩
end

/-! ### promises of defs that hand back a plain value -/
def SpecV (A : Hp → Prop) (R : V → Prop) (H : Hp) (Q : VK) : Prop := ∃ F, Same F H ∧ A F ∧ ∀ v H', Same H H' → R v → Q v H'
theorem Own.callV {F0 H0 F H : Hp} {L : List (Addr × HO)} {C : List Ck} {A : Hp → Prop} {R : V → Prop} {Q : VK} (O : Own F0 H0 F H L C) (hA : A F) (k : ∀ v H', R v → Own F0 H0 F H' L C → Q v H') : SpecV A R H Q :=
  ⟨F, O.fh, hA, fun _ _ s r => k _ _ r (O.more s)⟩
theorem Own.retV {F H F' H' : Hp} {L : List (Addr × HO)} {C : List Ck} {R : V → Prop} {Q : VK} {v : V} (O : Own F H F' H' L C) (q : ∀ v H', Same H H' → R v → Q v H') (r : R v) : Q v H' := q _ _ O.hh r

/-! ### items -/
section
variable {H : Hp} {Q : VK} {K : PySem.W.Frag} {a : Addr} {l : List Nat} {ns : List Int} {i : Int}
theorem atI_get {α : Type} {xs : List α} {d : α} (h : 0 ≤ i ∧ i < xs.length) : atI xs i = some (xs.getD i.toNat d) := by
  have e : i = ((i.toNat : Nat) : Int) := (Int.toNat_of_nonneg h.1).symm
  have hl : i.toNat < xs.length := by omega
  have h2 := atI_nat (xs := xs) (j := i.toNat) (v := xs.getD i.toNat d) (by rw [List.getD_eq_getElem?_getD, List.getElem?_eq_getElem hl]; rfl)
  rw [← e] at h2
  exact h2
theorem w_ixN (q : Q (.int (ns.getD i.toNat 0)) H) (hs : SqL K H a (ns.map V.int)) (h : 0 ≤ i ∧ i < ns.length) : rIxL K (.ref a) (.int i) H Q := by
  refine w_ixL q hs ?_
  have h2 := atI_get (xs := ns.map V.int) (d := .int 0) (i := i) (by rw [List.length_map]; exact h)
  rw [h2]
  congr 1
  rw [List.getD_eq_getElem?_getD, List.getD_eq_getElem?_getD, List.getElem?_map]
  cases ns[i.toNat]? <;> rfl
theorem w_ixC (q : Q (vS [l.getD i.toNat 0]) H) (h : 0 ≤ i ∧ i < l.length) (hz : l.length ≤ sizeLine) : rIxSg (vS l) (.int i) H Q := w_ixS q (atI_get h) hz
theorem getD_map_int (ns : List Int) (n : Nat) : (ns.map V.int).getD n (.int 0) = .int (ns.getD n 0) := by
  rw [List.getD_eq_getElem?_getD, List.getD_eq_getElem?_getD, List.getElem?_map]
  cases ns[n]? <;> rfl
theorem getD_mem {α : Type} {xs : List α} {n : Nat} {d : α} (h : n < xs.length) : xs.getD n d ∈ xs := by
  rw [List.getD_eq_getElem?_getD, List.getElem?_eq_getElem h]
  exact List.getElem_mem h
end
end Fw

namespace Fw
open PySem PySem.Spec PyProof.Rows L2
/-! ### the same steps as equations -/
section
variable {nx bk ct : L2.St → Hp → Prop} {rt : VK} {t u tb : TS} {H : Hp} {te ta tc : TE} {Q : VK} {v x y : V} {g : TG} {tt tt' : TT} {tA : TA} {K : PySem.W.Frag} {σs : L2.St}

theorem q_var0 {σ : L2.St} : tVar 0 (some v :: σ) H Q = Q v H := propext ⟨fun ⟨_, e, q⟩ => by cases (show some v = some _ from Option.some.inj e); exact q, fun q => ⟨v, rfl, q⟩⟩
theorem q_asg0 {o : Option V} {σ : L2.St} : tAsg te (gName 0) ⟨nx, rt, bk, ct⟩ (o :: σ) H = te (o :: σ) H fun x H1 => nx (some x :: σ) H1 := rfl
theorem q_gn0 {o : Option V} {σ : L2.St} {R : L2.St → Hp → Prop} : gName 0 v (o :: σ) H R = R (some v :: σ) H := rfl
theorem q_aug0 {f : Int → Int → Int} {a : Int} {σ : L2.St} : tAug 0 te (ipI f) ⟨nx, rt, bk, ct⟩ (some (.int a) :: σ) H = te (some (.int a) :: σ) H fun y H1 => ∃ b, y = .int b ∧ nx (some (.int (f a b)) :: σ) H1 := by
  have e : (fun y H1 => ∃ b, y = V.int b ∧ nx (some (.int (f a b)) :: σ) H1) = (fun y H1 => ipI f (.int a) y H1 fun z H2 => nx (some z :: σ) H2) := by
    funext y H1
    exact propext ⟨fun ⟨b, e1, q⟩ => ⟨a, b, rfl, e1, q⟩, fun ⟨a', b, e0, e1, q⟩ => by cases e0; exact ⟨b, e1, q⟩⟩
  rw [e]
  exact propext ⟨fun ⟨x, e, q⟩ => by cases (show some (V.int a) = some _ from Option.some.inj e); exact q, fun q => ⟨_, rfl, q⟩⟩
theorem q_var1 {x0 : Option V} {σ : L2.St} : tVar 1 (x0 :: some v :: σ) H Q = Q v H := propext ⟨fun ⟨_, e, q⟩ => by cases (show some v = some _ from Option.some.inj e); exact q, fun q => ⟨v, rfl, q⟩⟩
theorem q_asg1 {x0 : Option V} {o : Option V} {σ : L2.St} : tAsg te (gName 1) ⟨nx, rt, bk, ct⟩ (x0 :: o :: σ) H = te (x0 :: o :: σ) H fun x H1 => nx (x0 :: some x :: σ) H1 := rfl
theorem q_gn1 {x0 : Option V} {o : Option V} {σ : L2.St} {R : L2.St → Hp → Prop} : gName 1 v (x0 :: o :: σ) H R = R (x0 :: some v :: σ) H := rfl
theorem q_aug1 {x0 : Option V} {f : Int → Int → Int} {a : Int} {σ : L2.St} : tAug 1 te (ipI f) ⟨nx, rt, bk, ct⟩ (x0 :: some (.int a) :: σ) H = te (x0 :: some (.int a) :: σ) H fun y H1 => ∃ b, y = .int b ∧ nx (x0 :: some (.int (f a b)) :: σ) H1 := by
  have e : (fun y H1 => ∃ b, y = V.int b ∧ nx (x0 :: some (.int (f a b)) :: σ) H1) = (fun y H1 => ipI f (.int a) y H1 fun z H2 => nx (x0 :: some z :: σ) H2) := by
    funext y H1
    exact propext ⟨fun ⟨b, e1, q⟩ => ⟨a, b, rfl, e1, q⟩, fun ⟨a', b, e0, e1, q⟩ => by cases e0; exact ⟨b, e1, q⟩⟩
  rw [e]
  exact propext ⟨fun ⟨x, e, q⟩ => by cases (show some (V.int a) = some _ from Option.some.inj e); exact q, fun q => ⟨_, rfl, q⟩⟩
theorem q_var2 {x0 x1 : Option V} {σ : L2.St} : tVar 2 (x0 :: x1 :: some v :: σ) H Q = Q v H := propext ⟨fun ⟨_, e, q⟩ => by cases (show some v = some _ from Option.some.inj e); exact q, fun q => ⟨v, rfl, q⟩⟩
theorem q_asg2 {x0 x1 : Option V} {o : Option V} {σ : L2.St} : tAsg te (gName 2) ⟨nx, rt, bk, ct⟩ (x0 :: x1 :: o :: σ) H = te (x0 :: x1 :: o :: σ) H fun x H1 => nx (x0 :: x1 :: some x :: σ) H1 := rfl
theorem q_gn2 {x0 x1 : Option V} {o : Option V} {σ : L2.St} {R : L2.St → Hp → Prop} : gName 2 v (x0 :: x1 :: o :: σ) H R = R (x0 :: x1 :: some v :: σ) H := rfl
theorem q_aug2 {x0 x1 : Option V} {f : Int → Int → Int} {a : Int} {σ : L2.St} : tAug 2 te (ipI f) ⟨nx, rt, bk, ct⟩ (x0 :: x1 :: some (.int a) :: σ) H = te (x0 :: x1 :: some (.int a) :: σ) H fun y H1 => ∃ b, y = .int b ∧ nx (x0 :: x1 :: some (.int (f a b)) :: σ) H1 := by
  have e : (fun y H1 => ∃ b, y = V.int b ∧ nx (x0 :: x1 :: some (.int (f a b)) :: σ) H1) = (fun y H1 => ipI f (.int a) y H1 fun z H2 => nx (x0 :: x1 :: some z :: σ) H2) := by
    funext y H1
    exact propext ⟨fun ⟨b, e1, q⟩ => ⟨a, b, rfl, e1, q⟩, fun ⟨a', b, e0, e1, q⟩ => by cases e0; exact ⟨b, e1, q⟩⟩
  rw [e]
  exact propext ⟨fun ⟨x, e, q⟩ => by cases (show some (V.int a) = some _ from Option.some.inj e); exact q, fun q => ⟨_, rfl, q⟩⟩
theorem q_var3 {x0 x1 x2 : Option V} {σ : L2.St} : tVar 3 (x0 :: x1 :: x2 :: some v :: σ) H Q = Q v H := propext ⟨fun ⟨_, e, q⟩ => by cases (show some v = some _ from Option.some.inj e); exact q, fun q => ⟨v, rfl, q⟩⟩
theorem q_asg3 {x0 x1 x2 : Option V} {o : Option V} {σ : L2.St} : tAsg te (gName 3) ⟨nx, rt, bk, ct⟩ (x0 :: x1 :: x2 :: o :: σ) H = te (x0 :: x1 :: x2 :: o :: σ) H fun x H1 => nx (x0 :: x1 :: x2 :: some x :: σ) H1 := rfl
theorem q_gn3 {x0 x1 x2 : Option V} {o : Option V} {σ : L2.St} {R : L2.St → Hp → Prop} : gName 3 v (x0 :: x1 :: x2 :: o :: σ) H R = R (x0 :: x1 :: x2 :: some v :: σ) H := rfl
theorem q_aug3 {x0 x1 x2 : Option V} {f : Int → Int → Int} {a : Int} {σ : L2.St} : tAug 3 te (ipI f) ⟨nx, rt, bk, ct⟩ (x0 :: x1 :: x2 :: some (.int a) :: σ) H = te (x0 :: x1 :: x2 :: some (.int a) :: σ) H fun y H1 => ∃ b, y = .int b ∧ nx (x0 :: x1 :: x2 :: some (.int (f a b)) :: σ) H1 := by
  have e : (fun y H1 => ∃ b, y = V.int b ∧ nx (x0 :: x1 :: x2 :: some (.int (f a b)) :: σ) H1) = (fun y H1 => ipI f (.int a) y H1 fun z H2 => nx (x0 :: x1 :: x2 :: some z :: σ) H2) := by
    funext y H1
    exact propext ⟨fun ⟨b, e1, q⟩ => ⟨a, b, rfl, e1, q⟩, fun ⟨a', b, e0, e1, q⟩ => by cases e0; exact ⟨b, e1, q⟩⟩
  rw [e]
  exact propext ⟨fun ⟨x, e, q⟩ => by cases (show some (V.int a) = some _ from Option.some.inj e); exact q, fun q => ⟨_, rfl, q⟩⟩
theorem q_var4 {x0 x1 x2 x3 : Option V} {σ : L2.St} : tVar 4 (x0 :: x1 :: x2 :: x3 :: some v :: σ) H Q = Q v H := propext ⟨fun ⟨_, e, q⟩ => by cases (show some v = some _ from Option.some.inj e); exact q, fun q => ⟨v, rfl, q⟩⟩
theorem q_asg4 {x0 x1 x2 x3 : Option V} {o : Option V} {σ : L2.St} : tAsg te (gName 4) ⟨nx, rt, bk, ct⟩ (x0 :: x1 :: x2 :: x3 :: o :: σ) H = te (x0 :: x1 :: x2 :: x3 :: o :: σ) H fun x H1 => nx (x0 :: x1 :: x2 :: x3 :: some x :: σ) H1 := rfl
theorem q_gn4 {x0 x1 x2 x3 : Option V} {o : Option V} {σ : L2.St} {R : L2.St → Hp → Prop} : gName 4 v (x0 :: x1 :: x2 :: x3 :: o :: σ) H R = R (x0 :: x1 :: x2 :: x3 :: some v :: σ) H := rfl
theorem q_aug4 {x0 x1 x2 x3 : Option V} {f : Int → Int → Int} {a : Int} {σ : L2.St} : tAug 4 te (ipI f) ⟨nx, rt, bk, ct⟩ (x0 :: x1 :: x2 :: x3 :: some (.int a) :: σ) H = te (x0 :: x1 :: x2 :: x3 :: some (.int a) :: σ) H fun y H1 => ∃ b, y = .int b ∧ nx (x0 :: x1 :: x2 :: x3 :: some (.int (f a b)) :: σ) H1 := by
  have e : (fun y H1 => ∃ b, y = V.int b ∧ nx (x0 :: x1 :: x2 :: x3 :: some (.int (f a b)) :: σ) H1) = (fun y H1 => ipI f (.int a) y H1 fun z H2 => nx (x0 :: x1 :: x2 :: x3 :: some z :: σ) H2) := by
    funext y H1
    exact propext ⟨fun ⟨b, e1, q⟩ => ⟨a, b, rfl, e1, q⟩, fun ⟨a', b, e0, e1, q⟩ => by cases e0; exact ⟨b, e1, q⟩⟩
  rw [e]
  exact propext ⟨fun ⟨x, e, q⟩ => by cases (show some (V.int a) = some _ from Option.some.inj e); exact q, fun q => ⟨_, rfl, q⟩⟩
theorem q_var5 {x0 x1 x2 x3 x4 : Option V} {σ : L2.St} : tVar 5 (x0 :: x1 :: x2 :: x3 :: x4 :: some v :: σ) H Q = Q v H := propext ⟨fun ⟨_, e, q⟩ => by cases (show some v = some _ from Option.some.inj e); exact q, fun q => ⟨v, rfl, q⟩⟩
theorem q_asg5 {x0 x1 x2 x3 x4 : Option V} {o : Option V} {σ : L2.St} : tAsg te (gName 5) ⟨nx, rt, bk, ct⟩ (x0 :: x1 :: x2 :: x3 :: x4 :: o :: σ) H = te (x0 :: x1 :: x2 :: x3 :: x4 :: o :: σ) H fun x H1 => nx (x0 :: x1 :: x2 :: x3 :: x4 :: some x :: σ) H1 := rfl
theorem q_gn5 {x0 x1 x2 x3 x4 : Option V} {o : Option V} {σ : L2.St} {R : L2.St → Hp → Prop} : gName 5 v (x0 :: x1 :: x2 :: x3 :: x4 :: o :: σ) H R = R (x0 :: x1 :: x2 :: x3 :: x4 :: some v :: σ) H := rfl
theorem q_aug5 {x0 x1 x2 x3 x4 : Option V} {f : Int → Int → Int} {a : Int} {σ : L2.St} : tAug 5 te (ipI f) ⟨nx, rt, bk, ct⟩ (x0 :: x1 :: x2 :: x3 :: x4 :: some (.int a) :: σ) H = te (x0 :: x1 :: x2 :: x3 :: x4 :: some (.int a) :: σ) H fun y H1 => ∃ b, y = .int b ∧ nx (x0 :: x1 :: x2 :: x3 :: x4 :: some (.int (f a b)) :: σ) H1 := by
  have e : (fun y H1 => ∃ b, y = V.int b ∧ nx (x0 :: x1 :: x2 :: x3 :: x4 :: some (.int (f a b)) :: σ) H1) = (fun y H1 => ipI f (.int a) y H1 fun z H2 => nx (x0 :: x1 :: x2 :: x3 :: x4 :: some z :: σ) H2) := by
    funext y H1
    exact propext ⟨fun ⟨b, e1, q⟩ => ⟨a, b, rfl, e1, q⟩, fun ⟨a', b, e0, e1, q⟩ => by cases e0; exact ⟨b, e1, q⟩⟩
  rw [e]
  exact propext ⟨fun ⟨x, e, q⟩ => by cases (show some (V.int a) = some _ from Option.some.inj e); exact q, fun q => ⟨_, rfl, q⟩⟩
theorem q_var6 {x0 x1 x2 x3 x4 x5 : Option V} {σ : L2.St} : tVar 6 (x0 :: x1 :: x2 :: x3 :: x4 :: x5 :: some v :: σ) H Q = Q v H := propext ⟨fun ⟨_, e, q⟩ => by cases (show some v = some _ from Option.some.inj e); exact q, fun q => ⟨v, rfl, q⟩⟩
theorem q_asg6 {x0 x1 x2 x3 x4 x5 : Option V} {o : Option V} {σ : L2.St} : tAsg te (gName 6) ⟨nx, rt, bk, ct⟩ (x0 :: x1 :: x2 :: x3 :: x4 :: x5 :: o :: σ) H = te (x0 :: x1 :: x2 :: x3 :: x4 :: x5 :: o :: σ) H fun x H1 => nx (x0 :: x1 :: x2 :: x3 :: x4 :: x5 :: some x :: σ) H1 := rfl
theorem q_gn6 {x0 x1 x2 x3 x4 x5 : Option V} {o : Option V} {σ : L2.St} {R : L2.St → Hp → Prop} : gName 6 v (x0 :: x1 :: x2 :: x3 :: x4 :: x5 :: o :: σ) H R = R (x0 :: x1 :: x2 :: x3 :: x4 :: x5 :: some v :: σ) H := rfl
theorem q_aug6 {x0 x1 x2 x3 x4 x5 : Option V} {f : Int → Int → Int} {a : Int} {σ : L2.St} : tAug 6 te (ipI f) ⟨nx, rt, bk, ct⟩ (x0 :: x1 :: x2 :: x3 :: x4 :: x5 :: some (.int a) :: σ) H = te (x0 :: x1 :: x2 :: x3 :: x4 :: x5 :: some (.int a) :: σ) H fun y H1 => ∃ b, y = .int b ∧ nx (x0 :: x1 :: x2 :: x3 :: x4 :: x5 :: some (.int (f a b)) :: σ) H1 := by
  have e : (fun y H1 => ∃ b, y = V.int b ∧ nx (x0 :: x1 :: x2 :: x3 :: x4 :: x5 :: some (.int (f a b)) :: σ) H1) = (fun y H1 => ipI f (.int a) y H1 fun z H2 => nx (x0 :: x1 :: x2 :: x3 :: x4 :: x5 :: some z :: σ) H2) := by
    funext y H1
    exact propext ⟨fun ⟨b, e1, q⟩ => ⟨a, b, rfl, e1, q⟩, fun ⟨a', b, e0, e1, q⟩ => by cases e0; exact ⟨b, e1, q⟩⟩
  rw [e]
  exact propext ⟨fun ⟨x, e, q⟩ => by cases (show some (V.int a) = some _ from Option.some.inj e); exact q, fun q => ⟨_, rfl, q⟩⟩
theorem q_var7 {x0 x1 x2 x3 x4 x5 x6 : Option V} {σ : L2.St} : tVar 7 (x0 :: x1 :: x2 :: x3 :: x4 :: x5 :: x6 :: some v :: σ) H Q = Q v H := propext ⟨fun ⟨_, e, q⟩ => by cases (show some v = some _ from Option.some.inj e); exact q, fun q => ⟨v, rfl, q⟩⟩
theorem q_asg7 {x0 x1 x2 x3 x4 x5 x6 : Option V} {o : Option V} {σ : L2.St} : tAsg te (gName 7) ⟨nx, rt, bk, ct⟩ (x0 :: x1 :: x2 :: x3 :: x4 :: x5 :: x6 :: o :: σ) H = te (x0 :: x1 :: x2 :: x3 :: x4 :: x5 :: x6 :: o :: σ) H fun x H1 => nx (x0 :: x1 :: x2 :: x3 :: x4 :: x5 :: x6 :: some x :: σ) H1 := rfl
theorem q_gn7 {x0 x1 x2 x3 x4 x5 x6 : Option V} {o : Option V} {σ : L2.St} {R : L2.St → Hp → Prop} : gName 7 v (x0 :: x1 :: x2 :: x3 :: x4 :: x5 :: x6 :: o :: σ) H R = R (x0 :: x1 :: x2 :: x3 :: x4 :: x5 :: x6 :: some v :: σ) H := rfl
theorem q_aug7 {x0 x1 x2 x3 x4 x5 x6 : Option V} {f : Int → Int → Int} {a : Int} {σ : L2.St} : tAug 7 te (ipI f) ⟨nx, rt, bk, ct⟩ (x0 :: x1 :: x2 :: x3 :: x4 :: x5 :: x6 :: some (.int a) :: σ) H = te (x0 :: x1 :: x2 :: x3 :: x4 :: x5 :: x6 :: some (.int a) :: σ) H fun y H1 => ∃ b, y = .int b ∧ nx (x0 :: x1 :: x2 :: x3 :: x4 :: x5 :: x6 :: some (.int (f a b)) :: σ) H1 := by
  have e : (fun y H1 => ∃ b, y = V.int b ∧ nx (x0 :: x1 :: x2 :: x3 :: x4 :: x5 :: x6 :: some (.int (f a b)) :: σ) H1) = (fun y H1 => ipI f (.int a) y H1 fun z H2 => nx (x0 :: x1 :: x2 :: x3 :: x4 :: x5 :: x6 :: some z :: σ) H2) := by
    funext y H1
    exact propext ⟨fun ⟨b, e1, q⟩ => ⟨a, b, rfl, e1, q⟩, fun ⟨a', b, e0, e1, q⟩ => by cases e0; exact ⟨b, e1, q⟩⟩
  rw [e]
  exact propext ⟨fun ⟨x, e, q⟩ => by cases (show some (V.int a) = some _ from Option.some.inj e); exact q, fun q => ⟨_, rfl, q⟩⟩
theorem q_var8 {x0 x1 x2 x3 x4 x5 x6 x7 : Option V} {σ : L2.St} : tVar 8 (x0 :: x1 :: x2 :: x3 :: x4 :: x5 :: x6 :: x7 :: some v :: σ) H Q = Q v H := propext ⟨fun ⟨_, e, q⟩ => by cases (show some v = some _ from Option.some.inj e); exact q, fun q => ⟨v, rfl, q⟩⟩
theorem q_asg8 {x0 x1 x2 x3 x4 x5 x6 x7 : Option V} {o : Option V} {σ : L2.St} : tAsg te (gName 8) ⟨nx, rt, bk, ct⟩ (x0 :: x1 :: x2 :: x3 :: x4 :: x5 :: x6 :: x7 :: o :: σ) H = te (x0 :: x1 :: x2 :: x3 :: x4 :: x5 :: x6 :: x7 :: o :: σ) H fun x H1 => nx (x0 :: x1 :: x2 :: x3 :: x4 :: x5 :: x6 :: x7 :: some x :: σ) H1 := rfl
theorem q_gn8 {x0 x1 x2 x3 x4 x5 x6 x7 : Option V} {o : Option V} {σ : L2.St} {R : L2.St → Hp → Prop} : gName 8 v (x0 :: x1 :: x2 :: x3 :: x4 :: x5 :: x6 :: x7 :: o :: σ) H R = R (x0 :: x1 :: x2 :: x3 :: x4 :: x5 :: x6 :: x7 :: some v :: σ) H := rfl
theorem q_aug8 {x0 x1 x2 x3 x4 x5 x6 x7 : Option V} {f : Int → Int → Int} {a : Int} {σ : L2.St} : tAug 8 te (ipI f) ⟨nx, rt, bk, ct⟩ (x0 :: x1 :: x2 :: x3 :: x4 :: x5 :: x6 :: x7 :: some (.int a) :: σ) H = te (x0 :: x1 :: x2 :: x3 :: x4 :: x5 :: x6 :: x7 :: some (.int a) :: σ) H fun y H1 => ∃ b, y = .int b ∧ nx (x0 :: x1 :: x2 :: x3 :: x4 :: x5 :: x6 :: x7 :: some (.int (f a b)) :: σ) H1 := by
  have e : (fun y H1 => ∃ b, y = V.int b ∧ nx (x0 :: x1 :: x2 :: x3 :: x4 :: x5 :: x6 :: x7 :: some (.int (f a b)) :: σ) H1) = (fun y H1 => ipI f (.int a) y H1 fun z H2 => nx (x0 :: x1 :: x2 :: x3 :: x4 :: x5 :: x6 :: x7 :: some z :: σ) H2) := by
    funext y H1
    exact propext ⟨fun ⟨b, e1, q⟩ => ⟨a, b, rfl, e1, q⟩, fun ⟨a', b, e0, e1, q⟩ => by cases e0; exact ⟨b, e1, q⟩⟩
  rw [e]
  exact propext ⟨fun ⟨x, e, q⟩ => by cases (show some (V.int a) = some _ from Option.some.inj e); exact q, fun q => ⟨_, rfl, q⟩⟩
theorem q_var9 {x0 x1 x2 x3 x4 x5 x6 x7 x8 : Option V} {σ : L2.St} : tVar 9 (x0 :: x1 :: x2 :: x3 :: x4 :: x5 :: x6 :: x7 :: x8 :: some v :: σ) H Q = Q v H := propext ⟨fun ⟨_, e, q⟩ => by cases (show some v = some _ from Option.some.inj e); exact q, fun q => ⟨v, rfl, q⟩⟩
theorem q_asg9 {x0 x1 x2 x3 x4 x5 x6 x7 x8 : Option V} {o : Option V} {σ : L2.St} : tAsg te (gName 9) ⟨nx, rt, bk, ct⟩ (x0 :: x1 :: x2 :: x3 :: x4 :: x5 :: x6 :: x7 :: x8 :: o :: σ) H = te (x0 :: x1 :: x2 :: x3 :: x4 :: x5 :: x6 :: x7 :: x8 :: o :: σ) H fun x H1 => nx (x0 :: x1 :: x2 :: x3 :: x4 :: x5 :: x6 :: x7 :: x8 :: some x :: σ) H1 := rfl
theorem q_gn9 {x0 x1 x2 x3 x4 x5 x6 x7 x8 : Option V} {o : Option V} {σ : L2.St} {R : L2.St → Hp → Prop} : gName 9 v (x0 :: x1 :: x2 :: x3 :: x4 :: x5 :: x6 :: x7 :: x8 :: o :: σ) H R = R (x0 :: x1 :: x2 :: x3 :: x4 :: x5 :: x6 :: x7 :: x8 :: some v :: σ) H := rfl
theorem q_aug9 {x0 x1 x2 x3 x4 x5 x6 x7 x8 : Option V} {f : Int → Int → Int} {a : Int} {σ : L2.St} : tAug 9 te (ipI f) ⟨nx, rt, bk, ct⟩ (x0 :: x1 :: x2 :: x3 :: x4 :: x5 :: x6 :: x7 :: x8 :: some (.int a) :: σ) H = te (x0 :: x1 :: x2 :: x3 :: x4 :: x5 :: x6 :: x7 :: x8 :: some (.int a) :: σ) H fun y H1 => ∃ b, y = .int b ∧ nx (x0 :: x1 :: x2 :: x3 :: x4 :: x5 :: x6 :: x7 :: x8 :: some (.int (f a b)) :: σ) H1 := by
  have e : (fun y H1 => ∃ b, y = V.int b ∧ nx (x0 :: x1 :: x2 :: x3 :: x4 :: x5 :: x6 :: x7 :: x8 :: some (.int (f a b)) :: σ) H1) = (fun y H1 => ipI f (.int a) y H1 fun z H2 => nx (x0 :: x1 :: x2 :: x3 :: x4 :: x5 :: x6 :: x7 :: x8 :: some z :: σ) H2) := by
    funext y H1
    exact propext ⟨fun ⟨b, e1, q⟩ => ⟨a, b, rfl, e1, q⟩, fun ⟨a', b, e0, e1, q⟩ => by cases e0; exact ⟨b, e1, q⟩⟩
  rw [e]
  exact propext ⟨fun ⟨x, e, q⟩ => by cases (show some (V.int a) = some _ from Option.some.inj e); exact q, fun q => ⟨_, rfl, q⟩⟩
theorem q_var10 {x0 x1 x2 x3 x4 x5 x6 x7 x8 x9 : Option V} {σ : L2.St} : tVar 10 (x0 :: x1 :: x2 :: x3 :: x4 :: x5 :: x6 :: x7 :: x8 :: x9 :: some v :: σ) H Q = Q v H := propext ⟨fun ⟨_, e, q⟩ => by cases (show some v = some _ from Option.some.inj e); exact q, fun q => ⟨v, rfl, q⟩⟩
theorem q_asg10 {x0 x1 x2 x3 x4 x5 x6 x7 x8 x9 : Option V} {o : Option V} {σ : L2.St} : tAsg te (gName 10) ⟨nx, rt, bk, ct⟩ (x0 :: x1 :: x2 :: x3 :: x4 :: x5 :: x6 :: x7 :: x8 :: x9 :: o :: σ) H = te (x0 :: x1 :: x2 :: x3 :: x4 :: x5 :: x6 :: x7 :: x8 :: x9 :: o :: σ) H fun x H1 => nx (x0 :: x1 :: x2 :: x3 :: x4 :: x5 :: x6 :: x7 :: x8 :: x9 :: some x :: σ) H1 := rfl
theorem q_gn10 {x0 x1 x2 x3 x4 x5 x6 x7 x8 x9 : Option V} {o : Option V} {σ : L2.St} {R : L2.St → Hp → Prop} : gName 10 v (x0 :: x1 :: x2 :: x3 :: x4 :: x5 :: x6 :: x7 :: x8 :: x9 :: o :: σ) H R = R (x0 :: x1 :: x2 :: x3 :: x4 :: x5 :: x6 :: x7 :: x8 :: x9 :: some v :: σ) H := rfl
theorem q_aug10 {x0 x1 x2 x3 x4 x5 x6 x7 x8 x9 : Option V} {f : Int → Int → Int} {a : Int} {σ : L2.St} : tAug 10 te (ipI f) ⟨nx, rt, bk, ct⟩ (x0 :: x1 :: x2 :: x3 :: x4 :: x5 :: x6 :: x7 :: x8 :: x9 :: some (.int a) :: σ) H = te (x0 :: x1 :: x2 :: x3 :: x4 :: x5 :: x6 :: x7 :: x8 :: x9 :: some (.int a) :: σ) H fun y H1 => ∃ b, y = .int b ∧ nx (x0 :: x1 :: x2 :: x3 :: x4 :: x5 :: x6 :: x7 :: x8 :: x9 :: some (.int (f a b)) :: σ) H1 := by
  have e : (fun y H1 => ∃ b, y = V.int b ∧ nx (x0 :: x1 :: x2 :: x3 :: x4 :: x5 :: x6 :: x7 :: x8 :: x9 :: some (.int (f a b)) :: σ) H1) = (fun y H1 => ipI f (.int a) y H1 fun z H2 => nx (x0 :: x1 :: x2 :: x3 :: x4 :: x5 :: x6 :: x7 :: x8 :: x9 :: some z :: σ) H2) := by
    funext y H1
    exact propext ⟨fun ⟨b, e1, q⟩ => ⟨a, b, rfl, e1, q⟩, fun ⟨a', b, e0, e1, q⟩ => by cases e0; exact ⟨b, e1, q⟩⟩
  rw [e]
  exact propext ⟨fun ⟨x, e, q⟩ => by cases (show some (V.int a) = some _ from Option.some.inj e); exact q, fun q => ⟨_, rfl, q⟩⟩
theorem q_var11 {x0 x1 x2 x3 x4 x5 x6 x7 x8 x9 x10 : Option V} {σ : L2.St} : tVar 11 (x0 :: x1 :: x2 :: x3 :: x4 :: x5 :: x6 :: x7 :: x8 :: x9 :: x10 :: some v :: σ) H Q = Q v H := propext ⟨fun ⟨_, e, q⟩ => by cases (show some v = some _ from Option.some.inj e); exact q, fun q => ⟨v, rfl, q⟩⟩
theorem q_asg11 {x0 x1 x2 x3 x4 x5 x6 x7 x8 x9 x10 : Option V} {o : Option V} {σ : L2.St} : tAsg te (gName 11) ⟨nx, rt, bk, ct⟩ (x0 :: x1 :: x2 :: x3 :: x4 :: x5 :: x6 :: x7 :: x8 :: x9 :: x10 :: o :: σ) H = te (x0 :: x1 :: x2 :: x3 :: x4 :: x5 :: x6 :: x7 :: x8 :: x9 :: x10 :: o :: σ) H fun x H1 => nx (x0 :: x1 :: x2 :: x3 :: x4 :: x5 :: x6 :: x7 :: x8 :: x9 :: x10 :: some x :: σ) H1 := rfl
theorem q_gn11 {x0 x1 x2 x3 x4 x5 x6 x7 x8 x9 x10 : Option V} {o : Option V} {σ : L2.St} {R : L2.St → Hp → Prop} : gName 11 v (x0 :: x1 :: x2 :: x3 :: x4 :: x5 :: x6 :: x7 :: x8 :: x9 :: x10 :: o :: σ) H R = R (x0 :: x1 :: x2 :: x3 :: x4 :: x5 :: x6 :: x7 :: x8 :: x9 :: x10 :: some v :: σ) H := rfl
theorem q_aug11 {x0 x1 x2 x3 x4 x5 x6 x7 x8 x9 x10 : Option V} {f : Int → Int → Int} {a : Int} {σ : L2.St} : tAug 11 te (ipI f) ⟨nx, rt, bk, ct⟩ (x0 :: x1 :: x2 :: x3 :: x4 :: x5 :: x6 :: x7 :: x8 :: x9 :: x10 :: some (.int a) :: σ) H = te (x0 :: x1 :: x2 :: x3 :: x4 :: x5 :: x6 :: x7 :: x8 :: x9 :: x10 :: some (.int a) :: σ) H fun y H1 => ∃ b, y = .int b ∧ nx (x0 :: x1 :: x2 :: x3 :: x4 :: x5 :: x6 :: x7 :: x8 :: x9 :: x10 :: some (.int (f a b)) :: σ) H1 := by
  have e : (fun y H1 => ∃ b, y = V.int b ∧ nx (x0 :: x1 :: x2 :: x3 :: x4 :: x5 :: x6 :: x7 :: x8 :: x9 :: x10 :: some (.int (f a b)) :: σ) H1) = (fun y H1 => ipI f (.int a) y H1 fun z H2 => nx (x0 :: x1 :: x2 :: x3 :: x4 :: x5 :: x6 :: x7 :: x8 :: x9 :: x10 :: some z :: σ) H2) := by
    funext y H1
    exact propext ⟨fun ⟨b, e1, q⟩ => ⟨a, b, rfl, e1, q⟩, fun ⟨a', b, e0, e1, q⟩ => by cases e0; exact ⟨b, e1, q⟩⟩
  rw [e]
  exact propext ⟨fun ⟨x, e, q⟩ => by cases (show some (V.int a) = some _ from Option.some.inj e); exact q, fun q => ⟨_, rfl, q⟩⟩
theorem q_var12 {x0 x1 x2 x3 x4 x5 x6 x7 x8 x9 x10 x11 : Option V} {σ : L2.St} : tVar 12 (x0 :: x1 :: x2 :: x3 :: x4 :: x5 :: x6 :: x7 :: x8 :: x9 :: x10 :: x11 :: some v :: σ) H Q = Q v H := propext ⟨fun ⟨_, e, q⟩ => by cases (show some v = some _ from Option.some.inj e); exact q, fun q => ⟨v, rfl, q⟩⟩
theorem q_asg12 {x0 x1 x2 x3 x4 x5 x6 x7 x8 x9 x10 x11 : Option V} {o : Option V} {σ : L2.St} : tAsg te (gName 12) ⟨nx, rt, bk, ct⟩ (x0 :: x1 :: x2 :: x3 :: x4 :: x5 :: x6 :: x7 :: x8 :: x9 :: x10 :: x11 :: o :: σ) H = te (x0 :: x1 :: x2 :: x3 :: x4 :: x5 :: x6 :: x7 :: x8 :: x9 :: x10 :: x11 :: o :: σ) H fun x H1 => nx (x0 :: x1 :: x2 :: x3 :: x4 :: x5 :: x6 :: x7 :: x8 :: x9 :: x10 :: x11 :: some x :: σ) H1 := rfl
theorem q_gn12 {x0 x1 x2 x3 x4 x5 x6 x7 x8 x9 x10 x11 : Option V} {o : Option V} {σ : L2.St} {R : L2.St → Hp → Prop} : gName 12 v (x0 :: x1 :: x2 :: x3 :: x4 :: x5 :: x6 :: x7 :: x8 :: x9 :: x10 :: x11 :: o :: σ) H R = R (x0 :: x1 :: x2 :: x3 :: x4 :: x5 :: x6 :: x7 :: x8 :: x9 :: x10 :: x11 :: some v :: σ) H := rfl
theorem q_aug12 {x0 x1 x2 x3 x4 x5 x6 x7 x8 x9 x10 x11 : Option V} {f : Int → Int → Int} {a : Int} {σ : L2.St} : tAug 12 te (ipI f) ⟨nx, rt, bk, ct⟩ (x0 :: x1 :: x2 :: x3 :: x4 :: x5 :: x6 :: x7 :: x8 :: x9 :: x10 :: x11 :: some (.int a) :: σ) H = te (x0 :: x1 :: x2 :: x3 :: x4 :: x5 :: x6 :: x7 :: x8 :: x9 :: x10 :: x11 :: some (.int a) :: σ) H fun y H1 => ∃ b, y = .int b ∧ nx (x0 :: x1 :: x2 :: x3 :: x4 :: x5 :: x6 :: x7 :: x8 :: x9 :: x10 :: x11 :: some (.int (f a b)) :: σ) H1 := by
  have e : (fun y H1 => ∃ b, y = V.int b ∧ nx (x0 :: x1 :: x2 :: x3 :: x4 :: x5 :: x6 :: x7 :: x8 :: x9 :: x10 :: x11 :: some (.int (f a b)) :: σ) H1) = (fun y H1 => ipI f (.int a) y H1 fun z H2 => nx (x0 :: x1 :: x2 :: x3 :: x4 :: x5 :: x6 :: x7 :: x8 :: x9 :: x10 :: x11 :: some z :: σ) H2) := by
    funext y H1
    exact propext ⟨fun ⟨b, e1, q⟩ => ⟨a, b, rfl, e1, q⟩, fun ⟨a', b, e0, e1, q⟩ => by cases e0; exact ⟨b, e1, q⟩⟩
  rw [e]
  exact propext ⟨fun ⟨x, e, q⟩ => by cases (show some (V.int a) = some _ from Option.some.inj e); exact q, fun q => ⟨_, rfl, q⟩⟩
theorem q_var13 {x0 x1 x2 x3 x4 x5 x6 x7 x8 x9 x10 x11 x12 : Option V} {σ : L2.St} : tVar 13 (x0 :: x1 :: x2 :: x3 :: x4 :: x5 :: x6 :: x7 :: x8 :: x9 :: x10 :: x11 :: x12 :: some v :: σ) H Q = Q v H := propext ⟨fun ⟨_, e, q⟩ => by cases (show some v = some _ from Option.some.inj e); exact q, fun q => ⟨v, rfl, q⟩⟩
theorem q_asg13 {x0 x1 x2 x3 x4 x5 x6 x7 x8 x9 x10 x11 x12 : Option V} {o : Option V} {σ : L2.St} : tAsg te (gName 13) ⟨nx, rt, bk, ct⟩ (x0 :: x1 :: x2 :: x3 :: x4 :: x5 :: x6 :: x7 :: x8 :: x9 :: x10 :: x11 :: x12 :: o :: σ) H = te (x0 :: x1 :: x2 :: x3 :: x4 :: x5 :: x6 :: x7 :: x8 :: x9 :: x10 :: x11 :: x12 :: o :: σ) H fun x H1 => nx (x0 :: x1 :: x2 :: x3 :: x4 :: x5 :: x6 :: x7 :: x8 :: x9 :: x10 :: x11 :: x12 :: some x :: σ) H1 := rfl
theorem q_gn13 {x0 x1 x2 x3 x4 x5 x6 x7 x8 x9 x10 x11 x12 : Option V} {o : Option V} {σ : L2.St} {R : L2.St → Hp → Prop} : gName 13 v (x0 :: x1 :: x2 :: x3 :: x4 :: x5 :: x6 :: x7 :: x8 :: x9 :: x10 :: x11 :: x12 :: o :: σ) H R = R (x0 :: x1 :: x2 :: x3 :: x4 :: x5 :: x6 :: x7 :: x8 :: x9 :: x10 :: x11 :: x12 :: some v :: σ) H := rfl
theorem q_aug13 {x0 x1 x2 x3 x4 x5 x6 x7 x8 x9 x10 x11 x12 : Option V} {f : Int → Int → Int} {a : Int} {σ : L2.St} : tAug 13 te (ipI f) ⟨nx, rt, bk, ct⟩ (x0 :: x1 :: x2 :: x3 :: x4 :: x5 :: x6 :: x7 :: x8 :: x9 :: x10 :: x11 :: x12 :: some (.int a) :: σ) H = te (x0 :: x1 :: x2 :: x3 :: x4 :: x5 :: x6 :: x7 :: x8 :: x9 :: x10 :: x11 :: x12 :: some (.int a) :: σ) H fun y H1 => ∃ b, y = .int b ∧ nx (x0 :: x1 :: x2 :: x3 :: x4 :: x5 :: x6 :: x7 :: x8 :: x9 :: x10 :: x11 :: x12 :: some (.int (f a b)) :: σ) H1 := by
  have e : (fun y H1 => ∃ b, y = V.int b ∧ nx (x0 :: x1 :: x2 :: x3 :: x4 :: x5 :: x6 :: x7 :: x8 :: x9 :: x10 :: x11 :: x12 :: some (.int (f a b)) :: σ) H1) = (fun y H1 => ipI f (.int a) y H1 fun z H2 => nx (x0 :: x1 :: x2 :: x3 :: x4 :: x5 :: x6 :: x7 :: x8 :: x9 :: x10 :: x11 :: x12 :: some z :: σ) H2) := by
    funext y H1
    exact propext ⟨fun ⟨b, e1, q⟩ => ⟨a, b, rfl, e1, q⟩, fun ⟨a', b, e0, e1, q⟩ => by cases e0; exact ⟨b, e1, q⟩⟩
  rw [e]
  exact propext ⟨fun ⟨x, e, q⟩ => by cases (show some (V.int a) = some _ from Option.some.inj e); exact q, fun q => ⟨_, rfl, q⟩⟩
theorem q_var14 {x0 x1 x2 x3 x4 x5 x6 x7 x8 x9 x10 x11 x12 x13 : Option V} {σ : L2.St} : tVar 14 (x0 :: x1 :: x2 :: x3 :: x4 :: x5 :: x6 :: x7 :: x8 :: x9 :: x10 :: x11 :: x12 :: x13 :: some v :: σ) H Q = Q v H := propext ⟨fun ⟨_, e, q⟩ => by cases (show some v = some _ from Option.some.inj e); exact q, fun q => ⟨v, rfl, q⟩⟩
theorem q_asg14 {x0 x1 x2 x3 x4 x5 x6 x7 x8 x9 x10 x11 x12 x13 : Option V} {o : Option V} {σ : L2.St} : tAsg te (gName 14) ⟨nx, rt, bk, ct⟩ (x0 :: x1 :: x2 :: x3 :: x4 :: x5 :: x6 :: x7 :: x8 :: x9 :: x10 :: x11 :: x12 :: x13 :: o :: σ) H = te (x0 :: x1 :: x2 :: x3 :: x4 :: x5 :: x6 :: x7 :: x8 :: x9 :: x10 :: x11 :: x12 :: x13 :: o :: σ) H fun x H1 => nx (x0 :: x1 :: x2 :: x3 :: x4 :: x5 :: x6 :: x7 :: x8 :: x9 :: x10 :: x11 :: x12 :: x13 :: some x :: σ) H1 := rfl
theorem q_gn14 {x0 x1 x2 x3 x4 x5 x6 x7 x8 x9 x10 x11 x12 x13 : Option V} {o : Option V} {σ : L2.St} {R : L2.St → Hp → Prop} : gName 14 v (x0 :: x1 :: x2 :: x3 :: x4 :: x5 :: x6 :: x7 :: x8 :: x9 :: x10 :: x11 :: x12 :: x13 :: o :: σ) H R = R (x0 :: x1 :: x2 :: x3 :: x4 :: x5 :: x6 :: x7 :: x8 :: x9 :: x10 :: x11 :: x12 :: x13 :: some v :: σ) H := rfl
theorem q_aug14 {x0 x1 x2 x3 x4 x5 x6 x7 x8 x9 x10 x11 x12 x13 : Option V} {f : Int → Int → Int} {a : Int} {σ : L2.St} : tAug 14 te (ipI f) ⟨nx, rt, bk, ct⟩ (x0 :: x1 :: x2 :: x3 :: x4 :: x5 :: x6 :: x7 :: x8 :: x9 :: x10 :: x11 :: x12 :: x13 :: some (.int a) :: σ) H = te (x0 :: x1 :: x2 :: x3 :: x4 :: x5 :: x6 :: x7 :: x8 :: x9 :: x10 :: x11 :: x12 :: x13 :: some (.int a) :: σ) H fun y H1 => ∃ b, y = .int b ∧ nx (x0 :: x1 :: x2 :: x3 :: x4 :: x5 :: x6 :: x7 :: x8 :: x9 :: x10 :: x11 :: x12 :: x13 :: some (.int (f a b)) :: σ) H1 := by
  have e : (fun y H1 => ∃ b, y = V.int b ∧ nx (x0 :: x1 :: x2 :: x3 :: x4 :: x5 :: x6 :: x7 :: x8 :: x9 :: x10 :: x11 :: x12 :: x13 :: some (.int (f a b)) :: σ) H1) = (fun y H1 => ipI f (.int a) y H1 fun z H2 => nx (x0 :: x1 :: x2 :: x3 :: x4 :: x5 :: x6 :: x7 :: x8 :: x9 :: x10 :: x11 :: x12 :: x13 :: some z :: σ) H2) := by
    funext y H1
    exact propext ⟨fun ⟨b, e1, q⟩ => ⟨a, b, rfl, e1, q⟩, fun ⟨a', b, e0, e1, q⟩ => by cases e0; exact ⟨b, e1, q⟩⟩
  rw [e]
  exact propext ⟨fun ⟨x, e, q⟩ => by cases (show some (V.int a) = some _ from Option.some.inj e); exact q, fun q => ⟨_, rfl, q⟩⟩
theorem q_var15 {x0 x1 x2 x3 x4 x5 x6 x7 x8 x9 x10 x11 x12 x13 x14 : Option V} {σ : L2.St} : tVar 15 (x0 :: x1 :: x2 :: x3 :: x4 :: x5 :: x6 :: x7 :: x8 :: x9 :: x10 :: x11 :: x12 :: x13 :: x14 :: some v :: σ) H Q = Q v H := propext ⟨fun ⟨_, e, q⟩ => by cases (show some v = some _ from Option.some.inj e); exact q, fun q => ⟨v, rfl, q⟩⟩
theorem q_asg15 {x0 x1 x2 x3 x4 x5 x6 x7 x8 x9 x10 x11 x12 x13 x14 : Option V} {o : Option V} {σ : L2.St} : tAsg te (gName 15) ⟨nx, rt, bk, ct⟩ (x0 :: x1 :: x2 :: x3 :: x4 :: x5 :: x6 :: x7 :: x8 :: x9 :: x10 :: x11 :: x12 :: x13 :: x14 :: o :: σ) H = te (x0 :: x1 :: x2 :: x3 :: x4 :: x5 :: x6 :: x7 :: x8 :: x9 :: x10 :: x11 :: x12 :: x13 :: x14 :: o :: σ) H fun x H1 => nx (x0 :: x1 :: x2 :: x3 :: x4 :: x5 :: x6 :: x7 :: x8 :: x9 :: x10 :: x11 :: x12 :: x13 :: x14 :: some x :: σ) H1 := rfl
theorem q_gn15 {x0 x1 x2 x3 x4 x5 x6 x7 x8 x9 x10 x11 x12 x13 x14 : Option V} {o : Option V} {σ : L2.St} {R : L2.St → Hp → Prop} : gName 15 v (x0 :: x1 :: x2 :: x3 :: x4 :: x5 :: x6 :: x7 :: x8 :: x9 :: x10 :: x11 :: x12 :: x13 :: x14 :: o :: σ) H R = R (x0 :: x1 :: x2 :: x3 :: x4 :: x5 :: x6 :: x7 :: x8 :: x9 :: x10 :: x11 :: x12 :: x13 :: x14 :: some v :: σ) H := rfl
theorem q_aug15 {x0 x1 x2 x3 x4 x5 x6 x7 x8 x9 x10 x11 x12 x13 x14 : Option V} {f : Int → Int → Int} {a : Int} {σ : L2.St} : tAug 15 te (ipI f) ⟨nx, rt, bk, ct⟩ (x0 :: x1 :: x2 :: x3 :: x4 :: x5 :: x6 :: x7 :: x8 :: x9 :: x10 :: x11 :: x12 :: x13 :: x14 :: some (.int a) :: σ) H = te (x0 :: x1 :: x2 :: x3 :: x4 :: x5 :: x6 :: x7 :: x8 :: x9 :: x10 :: x11 :: x12 :: x13 :: x14 :: some (.int a) :: σ) H fun y H1 => ∃ b, y = .int b ∧ nx (x0 :: x1 :: x2 :: x3 :: x4 :: x5 :: x6 :: x7 :: x8 :: x9 :: x10 :: x11 :: x12 :: x13 :: x14 :: some (.int (f a b)) :: σ) H1 := by
  have e : (fun y H1 => ∃ b, y = V.int b ∧ nx (x0 :: x1 :: x2 :: x3 :: x4 :: x5 :: x6 :: x7 :: x8 :: x9 :: x10 :: x11 :: x12 :: x13 :: x14 :: some (.int (f a b)) :: σ) H1) = (fun y H1 => ipI f (.int a) y H1 fun z H2 => nx (x0 :: x1 :: x2 :: x3 :: x4 :: x5 :: x6 :: x7 :: x8 :: x9 :: x10 :: x11 :: x12 :: x13 :: x14 :: some z :: σ) H2) := by
    funext y H1
    exact propext ⟨fun ⟨b, e1, q⟩ => ⟨a, b, rfl, e1, q⟩, fun ⟨a', b, e0, e1, q⟩ => by cases e0; exact ⟨b, e1, q⟩⟩
  rw [e]
  exact propext ⟨fun ⟨x, e, q⟩ => by cases (show some (V.int a) = some _ from Option.some.inj e); exact q, fun q => ⟨_, rfl, q⟩⟩
theorem q_var16 {x0 x1 x2 x3 x4 x5 x6 x7 x8 x9 x10 x11 x12 x13 x14 x15 : Option V} {σ : L2.St} : tVar 16 (x0 :: x1 :: x2 :: x3 :: x4 :: x5 :: x6 :: x7 :: x8 :: x9 :: x10 :: x11 :: x12 :: x13 :: x14 :: x15 :: some v :: σ) H Q = Q v H := propext ⟨fun ⟨_, e, q⟩ => by cases (show some v = some _ from Option.some.inj e); exact q, fun q => ⟨v, rfl, q⟩⟩
theorem q_asg16 {x0 x1 x2 x3 x4 x5 x6 x7 x8 x9 x10 x11 x12 x13 x14 x15 : Option V} {o : Option V} {σ : L2.St} : tAsg te (gName 16) ⟨nx, rt, bk, ct⟩ (x0 :: x1 :: x2 :: x3 :: x4 :: x5 :: x6 :: x7 :: x8 :: x9 :: x10 :: x11 :: x12 :: x13 :: x14 :: x15 :: o :: σ) H = te (x0 :: x1 :: x2 :: x3 :: x4 :: x5 :: x6 :: x7 :: x8 :: x9 :: x10 :: x11 :: x12 :: x13 :: x14 :: x15 :: o :: σ) H fun x H1 => nx (x0 :: x1 :: x2 :: x3 :: x4 :: x5 :: x6 :: x7 :: x8 :: x9 :: x10 :: x11 :: x12 :: x13 :: x14 :: x15 :: some x :: σ) H1 := rfl
theorem q_gn16 {x0 x1 x2 x3 x4 x5 x6 x7 x8 x9 x10 x11 x12 x13 x14 x15 : Option V} {o : Option V} {σ : L2.St} {R : L2.St → Hp → Prop} : gName 16 v (x0 :: x1 :: x2 :: x3 :: x4 :: x5 :: x6 :: x7 :: x8 :: x9 :: x10 :: x11 :: x12 :: x13 :: x14 :: x15 :: o :: σ) H R = R (x0 :: x1 :: x2 :: x3 :: x4 :: x5 :: x6 :: x7 :: x8 :: x9 :: x10 :: x11 :: x12 :: x13 :: x14 :: x15 :: some v :: σ) H := rfl
theorem q_aug16 {x0 x1 x2 x3 x4 x5 x6 x7 x8 x9 x10 x11 x12 x13 x14 x15 : Option V} {f : Int → Int → Int} {a : Int} {σ : L2.St} : tAug 16 te (ipI f) ⟨nx, rt, bk, ct⟩ (x0 :: x1 :: x2 :: x3 :: x4 :: x5 :: x6 :: x7 :: x8 :: x9 :: x10 :: x11 :: x12 :: x13 :: x14 :: x15 :: some (.int a) :: σ) H = te (x0 :: x1 :: x2 :: x3 :: x4 :: x5 :: x6 :: x7 :: x8 :: x9 :: x10 :: x11 :: x12 :: x13 :: x14 :: x15 :: some (.int a) :: σ) H fun y H1 => ∃ b, y = .int b ∧ nx (x0 :: x1 :: x2 :: x3 :: x4 :: x5 :: x6 :: x7 :: x8 :: x9 :: x10 :: x11 :: x12 :: x13 :: x14 :: x15 :: some (.int (f a b)) :: σ) H1 := by
  have e : (fun y H1 => ∃ b, y = V.int b ∧ nx (x0 :: x1 :: x2 :: x3 :: x4 :: x5 :: x6 :: x7 :: x8 :: x9 :: x10 :: x11 :: x12 :: x13 :: x14 :: x15 :: some (.int (f a b)) :: σ) H1) = (fun y H1 => ipI f (.int a) y H1 fun z H2 => nx (x0 :: x1 :: x2 :: x3 :: x4 :: x5 :: x6 :: x7 :: x8 :: x9 :: x10 :: x11 :: x12 :: x13 :: x14 :: x15 :: some z :: σ) H2) := by
    funext y H1
    exact propext ⟨fun ⟨b, e1, q⟩ => ⟨a, b, rfl, e1, q⟩, fun ⟨a', b, e0, e1, q⟩ => by cases e0; exact ⟨b, e1, q⟩⟩
  rw [e]
  exact propext ⟨fun ⟨x, e, q⟩ => by cases (show some (V.int a) = some _ from Option.some.inj e); exact q, fun q => ⟨_, rfl, q⟩⟩
theorem q_var17 {x0 x1 x2 x3 x4 x5 x6 x7 x8 x9 x10 x11 x12 x13 x14 x15 x16 : Option V} {σ : L2.St} : tVar 17 (x0 :: x1 :: x2 :: x3 :: x4 :: x5 :: x6 :: x7 :: x8 :: x9 :: x10 :: x11 :: x12 :: x13 :: x14 :: x15 :: x16 :: some v :: σ) H Q = Q v H := propext ⟨fun ⟨_, e, q⟩ => by cases (show some v = some _ from Option.some.inj e); exact q, fun q => ⟨v, rfl, q⟩⟩
theorem q_asg17 {x0 x1 x2 x3 x4 x5 x6 x7 x8 x9 x10 x11 x12 x13 x14 x15 x16 : Option V} {o : Option V} {σ : L2.St} : tAsg te (gName 17) ⟨nx, rt, bk, ct⟩ (x0 :: x1 :: x2 :: x3 :: x4 :: x5 :: x6 :: x7 :: x8 :: x9 :: x10 :: x11 :: x12 :: x13 :: x14 :: x15 :: x16 :: o :: σ) H = te (x0 :: x1 :: x2 :: x3 :: x4 :: x5 :: x6 :: x7 :: x8 :: x9 :: x10 :: x11 :: x12 :: x13 :: x14 :: x15 :: x16 :: o :: σ) H fun x H1 => nx (x0 :: x1 :: x2 :: x3 :: x4 :: x5 :: x6 :: x7 :: x8 :: x9 :: x10 :: x11 :: x12 :: x13 :: x14 :: x15 :: x16 :: some x :: σ) H1 := rfl
theorem q_gn17 {x0 x1 x2 x3 x4 x5 x6 x7 x8 x9 x10 x11 x12 x13 x14 x15 x16 : Option V} {o : Option V} {σ : L2.St} {R : L2.St → Hp → Prop} : gName 17 v (x0 :: x1 :: x2 :: x3 :: x4 :: x5 :: x6 :: x7 :: x8 :: x9 :: x10 :: x11 :: x12 :: x13 :: x14 :: x15 :: x16 :: o :: σ) H R = R (x0 :: x1 :: x2 :: x3 :: x4 :: x5 :: x6 :: x7 :: x8 :: x9 :: x10 :: x11 :: x12 :: x13 :: x14 :: x15 :: x16 :: some v :: σ) H := rfl
theorem q_aug17 {x0 x1 x2 x3 x4 x5 x6 x7 x8 x9 x10 x11 x12 x13 x14 x15 x16 : Option V} {f : Int → Int → Int} {a : Int} {σ : L2.St} : tAug 17 te (ipI f) ⟨nx, rt, bk, ct⟩ (x0 :: x1 :: x2 :: x3 :: x4 :: x5 :: x6 :: x7 :: x8 :: x9 :: x10 :: x11 :: x12 :: x13 :: x14 :: x15 :: x16 :: some (.int a) :: σ) H = te (x0 :: x1 :: x2 :: x3 :: x4 :: x5 :: x6 :: x7 :: x8 :: x9 :: x10 :: x11 :: x12 :: x13 :: x14 :: x15 :: x16 :: some (.int a) :: σ) H fun y H1 => ∃ b, y = .int b ∧ nx (x0 :: x1 :: x2 :: x3 :: x4 :: x5 :: x6 :: x7 :: x8 :: x9 :: x10 :: x11 :: x12 :: x13 :: x14 :: x15 :: x16 :: some (.int (f a b)) :: σ) H1 := by
  have e : (fun y H1 => ∃ b, y = V.int b ∧ nx (x0 :: x1 :: x2 :: x3 :: x4 :: x5 :: x6 :: x7 :: x8 :: x9 :: x10 :: x11 :: x12 :: x13 :: x14 :: x15 :: x16 :: some (.int (f a b)) :: σ) H1) = (fun y H1 => ipI f (.int a) y H1 fun z H2 => nx (x0 :: x1 :: x2 :: x3 :: x4 :: x5 :: x6 :: x7 :: x8 :: x9 :: x10 :: x11 :: x12 :: x13 :: x14 :: x15 :: x16 :: some z :: σ) H2) := by
    funext y H1
    exact propext ⟨fun ⟨b, e1, q⟩ => ⟨a, b, rfl, e1, q⟩, fun ⟨a', b, e0, e1, q⟩ => by cases e0; exact ⟨b, e1, q⟩⟩
  rw [e]
  exact propext ⟨fun ⟨x, e, q⟩ => by cases (show some (V.int a) = some _ from Option.some.inj e); exact q, fun q => ⟨_, rfl, q⟩⟩
theorem q_var18 {x0 x1 x2 x3 x4 x5 x6 x7 x8 x9 x10 x11 x12 x13 x14 x15 x16 x17 : Option V} {σ : L2.St} : tVar 18 (x0 :: x1 :: x2 :: x3 :: x4 :: x5 :: x6 :: x7 :: x8 :: x9 :: x10 :: x11 :: x12 :: x13 :: x14 :: x15 :: x16 :: x17 :: some v :: σ) H Q = Q v H := propext ⟨fun ⟨_, e, q⟩ => by cases (show some v = some _ from Option.some.inj e); exact q, fun q => ⟨v, rfl, q⟩⟩
theorem q_asg18 {x0 x1 x2 x3 x4 x5 x6 x7 x8 x9 x10 x11 x12 x13 x14 x15 x16 x17 : Option V} {o : Option V} {σ : L2.St} : tAsg te (gName 18) ⟨nx, rt, bk, ct⟩ (x0 :: x1 :: x2 :: x3 :: x4 :: x5 :: x6 :: x7 :: x8 :: x9 :: x10 :: x11 :: x12 :: x13 :: x14 :: x15 :: x16 :: x17 :: o :: σ) H = te (x0 :: x1 :: x2 :: x3 :: x4 :: x5 :: x6 :: x7 :: x8 :: x9 :: x10 :: x11 :: x12 :: x13 :: x14 :: x15 :: x16 :: x17 :: o :: σ) H fun x H1 => nx (x0 :: x1 :: x2 :: x3 :: x4 :: x5 :: x6 :: x7 :: x8 :: x9 :: x10 :: x11 :: x12 :: x13 :: x14 :: x15 :: x16 :: x17 :: some x :: σ) H1 := rfl
theorem q_gn18 {x0 x1 x2 x3 x4 x5 x6 x7 x8 x9 x10 x11 x12 x13 x14 x15 x16 x17 : Option V} {o : Option V} {σ : L2.St} {R : L2.St → Hp → Prop} : gName 18 v (x0 :: x1 :: x2 :: x3 :: x4 :: x5 :: x6 :: x7 :: x8 :: x9 :: x10 :: x11 :: x12 :: x13 :: x14 :: x15 :: x16 :: x17 :: o :: σ) H R = R (x0 :: x1 :: x2 :: x3 :: x4 :: x5 :: x6 :: x7 :: x8 :: x9 :: x10 :: x11 :: x12 :: x13 :: x14 :: x15 :: x16 :: x17 :: some v :: σ) H := rfl
theorem q_aug18 {x0 x1 x2 x3 x4 x5 x6 x7 x8 x9 x10 x11 x12 x13 x14 x15 x16 x17 : Option V} {f : Int → Int → Int} {a : Int} {σ : L2.St} : tAug 18 te (ipI f) ⟨nx, rt, bk, ct⟩ (x0 :: x1 :: x2 :: x3 :: x4 :: x5 :: x6 :: x7 :: x8 :: x9 :: x10 :: x11 :: x12 :: x13 :: x14 :: x15 :: x16 :: x17 :: some (.int a) :: σ) H = te (x0 :: x1 :: x2 :: x3 :: x4 :: x5 :: x6 :: x7 :: x8 :: x9 :: x10 :: x11 :: x12 :: x13 :: x14 :: x15 :: x16 :: x17 :: some (.int a) :: σ) H fun y H1 => ∃ b, y = .int b ∧ nx (x0 :: x1 :: x2 :: x3 :: x4 :: x5 :: x6 :: x7 :: x8 :: x9 :: x10 :: x11 :: x12 :: x13 :: x14 :: x15 :: x16 :: x17 :: some (.int (f a b)) :: σ) H1 := by
  have e : (fun y H1 => ∃ b, y = V.int b ∧ nx (x0 :: x1 :: x2 :: x3 :: x4 :: x5 :: x6 :: x7 :: x8 :: x9 :: x10 :: x11 :: x12 :: x13 :: x14 :: x15 :: x16 :: x17 :: some (.int (f a b)) :: σ) H1) = (fun y H1 => ipI f (.int a) y H1 fun z H2 => nx (x0 :: x1 :: x2 :: x3 :: x4 :: x5 :: x6 :: x7 :: x8 :: x9 :: x10 :: x11 :: x12 :: x13 :: x14 :: x15 :: x16 :: x17 :: some z :: σ) H2) := by
    funext y H1
    exact propext ⟨fun ⟨b, e1, q⟩ => ⟨a, b, rfl, e1, q⟩, fun ⟨a', b, e0, e1, q⟩ => by cases e0; exact ⟨b, e1, q⟩⟩
  rw [e]
  exact propext ⟨fun ⟨x, e, q⟩ => by cases (show some (V.int a) = some _ from Option.some.inj e); exact q, fun q => ⟨_, rfl, q⟩⟩
theorem q_var19 {x0 x1 x2 x3 x4 x5 x6 x7 x8 x9 x10 x11 x12 x13 x14 x15 x16 x17 x18 : Option V} {σ : L2.St} : tVar 19 (x0 :: x1 :: x2 :: x3 :: x4 :: x5 :: x6 :: x7 :: x8 :: x9 :: x10 :: x11 :: x12 :: x13 :: x14 :: x15 :: x16 :: x17 :: x18 :: some v :: σ) H Q = Q v H := propext ⟨fun ⟨_, e, q⟩ => by cases (show some v = some _ from Option.some.inj e); exact q, fun q => ⟨v, rfl, q⟩⟩
theorem q_asg19 {x0 x1 x2 x3 x4 x5 x6 x7 x8 x9 x10 x11 x12 x13 x14 x15 x16 x17 x18 : Option V} {o : Option V} {σ : L2.St} : tAsg te (gName 19) ⟨nx, rt, bk, ct⟩ (x0 :: x1 :: x2 :: x3 :: x4 :: x5 :: x6 :: x7 :: x8 :: x9 :: x10 :: x11 :: x12 :: x13 :: x14 :: x15 :: x16 :: x17 :: x18 :: o :: σ) H = te (x0 :: x1 :: x2 :: x3 :: x4 :: x5 :: x6 :: x7 :: x8 :: x9 :: x10 :: x11 :: x12 :: x13 :: x14 :: x15 :: x16 :: x17 :: x18 :: o :: σ) H fun x H1 => nx (x0 :: x1 :: x2 :: x3 :: x4 :: x5 :: x6 :: x7 :: x8 :: x9 :: x10 :: x11 :: x12 :: x13 :: x14 :: x15 :: x16 :: x17 :: x18 :: some x :: σ) H1 := rfl
theorem q_gn19 {x0 x1 x2 x3 x4 x5 x6 x7 x8 x9 x10 x11 x12 x13 x14 x15 x16 x17 x18 : Option V} {o : Option V} {σ : L2.St} {R : L2.St → Hp → Prop} : gName 19 v (x0 :: x1 :: x2 :: x3 :: x4 :: x5 :: x6 :: x7 :: x8 :: x9 :: x10 :: x11 :: x12 :: x13 :: x14 :: x15 :: x16 :: x17 :: x18 :: o :: σ) H R = R (x0 :: x1 :: x2 :: x3 :: x4 :: x5 :: x6 :: x7 :: x8 :: x9 :: x10 :: x11 :: x12 :: x13 :: x14 :: x15 :: x16 :: x17 :: x18 :: some v :: σ) H := rfl
theorem q_aug19 {x0 x1 x2 x3 x4 x5 x6 x7 x8 x9 x10 x11 x12 x13 x14 x15 x16 x17 x18 : Option V} {f : Int → Int → Int} {a : Int} {σ : L2.St} : tAug 19 te (ipI f) ⟨nx, rt, bk, ct⟩ (x0 :: x1 :: x2 :: x3 :: x4 :: x5 :: x6 :: x7 :: x8 :: x9 :: x10 :: x11 :: x12 :: x13 :: x14 :: x15 :: x16 :: x17 :: x18 :: some (.int a) :: σ) H = te (x0 :: x1 :: x2 :: x3 :: x4 :: x5 :: x6 :: x7 :: x8 :: x9 :: x10 :: x11 :: x12 :: x13 :: x14 :: x15 :: x16 :: x17 :: x18 :: some (.int a) :: σ) H fun y H1 => ∃ b, y = .int b ∧ nx (x0 :: x1 :: x2 :: x3 :: x4 :: x5 :: x6 :: x7 :: x8 :: x9 :: x10 :: x11 :: x12 :: x13 :: x14 :: x15 :: x16 :: x17 :: x18 :: some (.int (f a b)) :: σ) H1 := by
  have e : (fun y H1 => ∃ b, y = V.int b ∧ nx (x0 :: x1 :: x2 :: x3 :: x4 :: x5 :: x6 :: x7 :: x8 :: x9 :: x10 :: x11 :: x12 :: x13 :: x14 :: x15 :: x16 :: x17 :: x18 :: some (.int (f a b)) :: σ) H1) = (fun y H1 => ipI f (.int a) y H1 fun z H2 => nx (x0 :: x1 :: x2 :: x3 :: x4 :: x5 :: x6 :: x7 :: x8 :: x9 :: x10 :: x11 :: x12 :: x13 :: x14 :: x15 :: x16 :: x17 :: x18 :: some z :: σ) H2) := by
    funext y H1
    exact propext ⟨fun ⟨b, e1, q⟩ => ⟨a, b, rfl, e1, q⟩, fun ⟨a', b, e0, e1, q⟩ => by cases e0; exact ⟨b, e1, q⟩⟩
  rw [e]
  exact propext ⟨fun ⟨x, e, q⟩ => by cases (show some (V.int a) = some _ from Option.some.inj e); exact q, fun q => ⟨_, rfl, q⟩⟩
theorem q_var20 {x0 x1 x2 x3 x4 x5 x6 x7 x8 x9 x10 x11 x12 x13 x14 x15 x16 x17 x18 x19 : Option V} {σ : L2.St} : tVar 20 (x0 :: x1 :: x2 :: x3 :: x4 :: x5 :: x6 :: x7 :: x8 :: x9 :: x10 :: x11 :: x12 :: x13 :: x14 :: x15 :: x16 :: x17 :: x18 :: x19 :: some v :: σ) H Q = Q v H := propext ⟨fun ⟨_, e, q⟩ => by cases (show some v = some _ from Option.some.inj e); exact q, fun q => ⟨v, rfl, q⟩⟩
theorem q_asg20 {x0 x1 x2 x3 x4 x5 x6 x7 x8 x9 x10 x11 x12 x13 x14 x15 x16 x17 x18 x19 : Option V} {o : Option V} {σ : L2.St} : tAsg te (gName 20) ⟨nx, rt, bk, ct⟩ (x0 :: x1 :: x2 :: x3 :: x4 :: x5 :: x6 :: x7 :: x8 :: x9 :: x10 :: x11 :: x12 :: x13 :: x14 :: x15 :: x16 :: x17 :: x18 :: x19 :: o :: σ) H = te (x0 :: x1 :: x2 :: x3 :: x4 :: x5 :: x6 :: x7 :: x8 :: x9 :: x10 :: x11 :: x12 :: x13 :: x14 :: x15 :: x16 :: x17 :: x18 :: x19 :: o :: σ) H fun x H1 => nx (x0 :: x1 :: x2 :: x3 :: x4 :: x5 :: x6 :: x7 :: x8 :: x9 :: x10 :: x11 :: x12 :: x13 :: x14 :: x15 :: x16 :: x17 :: x18 :: x19 :: some x :: σ) H1 := rfl
theorem q_gn20 {x0 x1 x2 x3 x4 x5 x6 x7 x8 x9 x10 x11 x12 x13 x14 x15 x16 x17 x18 x19 : Option V} {o : Option V} {σ : L2.St} {R : L2.St → Hp → Prop} : gName 20 v (x0 :: x1 :: x2 :: x3 :: x4 :: x5 :: x6 :: x7 :: x8 :: x9 :: x10 :: x11 :: x12 :: x13 :: x14 :: x15 :: x16 :: x17 :: x18 :: x19 :: o :: σ) H R = R (x0 :: x1 :: x2 :: x3 :: x4 :: x5 :: x6 :: x7 :: x8 :: x9 :: x10 :: x11 :: x12 :: x13 :: x14 :: x15 :: x16 :: x17 :: x18 :: x19 :: some v :: σ) H := rfl
theorem q_aug20 {x0 x1 x2 x3 x4 x5 x6 x7 x8 x9 x10 x11 x12 x13 x14 x15 x16 x17 x18 x19 : Option V} {f : Int → Int → Int} {a : Int} {σ : L2.St} : tAug 20 te (ipI f) ⟨nx, rt, bk, ct⟩ (x0 :: x1 :: x2 :: x3 :: x4 :: x5 :: x6 :: x7 :: x8 :: x9 :: x10 :: x11 :: x12 :: x13 :: x14 :: x15 :: x16 :: x17 :: x18 :: x19 :: some (.int a) :: σ) H = te (x0 :: x1 :: x2 :: x3 :: x4 :: x5 :: x6 :: x7 :: x8 :: x9 :: x10 :: x11 :: x12 :: x13 :: x14 :: x15 :: x16 :: x17 :: x18 :: x19 :: some (.int a) :: σ) H fun y H1 => ∃ b, y = .int b ∧ nx (x0 :: x1 :: x2 :: x3 :: x4 :: x5 :: x6 :: x7 :: x8 :: x9 :: x10 :: x11 :: x12 :: x13 :: x14 :: x15 :: x16 :: x17 :: x18 :: x19 :: some (.int (f a b)) :: σ) H1 := by
  have e : (fun y H1 => ∃ b, y = V.int b ∧ nx (x0 :: x1 :: x2 :: x3 :: x4 :: x5 :: x6 :: x7 :: x8 :: x9 :: x10 :: x11 :: x12 :: x13 :: x14 :: x15 :: x16 :: x17 :: x18 :: x19 :: some (.int (f a b)) :: σ) H1) = (fun y H1 => ipI f (.int a) y H1 fun z H2 => nx (x0 :: x1 :: x2 :: x3 :: x4 :: x5 :: x6 :: x7 :: x8 :: x9 :: x10 :: x11 :: x12 :: x13 :: x14 :: x15 :: x16 :: x17 :: x18 :: x19 :: some z :: σ) H2) := by
    funext y H1
    exact propext ⟨fun ⟨b, e1, q⟩ => ⟨a, b, rfl, e1, q⟩, fun ⟨a', b, e0, e1, q⟩ => by cases e0; exact ⟨b, e1, q⟩⟩
  rw [e]
  exact propext ⟨fun ⟨x, e, q⟩ => by cases (show some (V.int a) = some _ from Option.some.inj e); exact q, fun q => ⟨_, rfl, q⟩⟩
theorem q_var21 {x0 x1 x2 x3 x4 x5 x6 x7 x8 x9 x10 x11 x12 x13 x14 x15 x16 x17 x18 x19 x20 : Option V} {σ : L2.St} : tVar 21 (x0 :: x1 :: x2 :: x3 :: x4 :: x5 :: x6 :: x7 :: x8 :: x9 :: x10 :: x11 :: x12 :: x13 :: x14 :: x15 :: x16 :: x17 :: x18 :: x19 :: x20 :: some v :: σ) H Q = Q v H := propext ⟨fun ⟨_, e, q⟩ => by cases (show some v = some _ from Option.some.inj e); exact q, fun q => ⟨v, rfl, q⟩⟩
theorem q_asg21 {x0 x1 x2 x3 x4 x5 x6 x7 x8 x9 x10 x11 x12 x13 x14 x15 x16 x17 x18 x19 x20 : Option V} {o : Option V} {σ : L2.St} : tAsg te (gName 21) ⟨nx, rt, bk, ct⟩ (x0 :: x1 :: x2 :: x3 :: x4 :: x5 :: x6 :: x7 :: x8 :: x9 :: x10 :: x11 :: x12 :: x13 :: x14 :: x15 :: x16 :: x17 :: x18 :: x19 :: x20 :: o :: σ) H = te (x0 :: x1 :: x2 :: x3 :: x4 :: x5 :: x6 :: x7 :: x8 :: x9 :: x10 :: x11 :: x12 :: x13 :: x14 :: x15 :: x16 :: x17 :: x18 :: x19 :: x20 :: o :: σ) H fun x H1 => nx (x0 :: x1 :: x2 :: x3 :: x4 :: x5 :: x6 :: x7 :: x8 :: x9 :: x10 :: x11 :: x12 :: x13 :: x14 :: x15 :: x16 :: x17 :: x18 :: x19 :: x20 :: some x :: σ) H1 := rfl
theorem q_gn21 {x0 x1 x2 x3 x4 x5 x6 x7 x8 x9 x10 x11 x12 x13 x14 x15 x16 x17 x18 x19 x20 : Option V} {o : Option V} {σ : L2.St} {R : L2.St → Hp → Prop} : gName 21 v (x0 :: x1 :: x2 :: x3 :: x4 :: x5 :: x6 :: x7 :: x8 :: x9 :: x10 :: x11 :: x12 :: x13 :: x14 :: x15 :: x16 :: x17 :: x18 :: x19 :: x20 :: o :: σ) H R = R (x0 :: x1 :: x2 :: x3 :: x4 :: x5 :: x6 :: x7 :: x8 :: x9 :: x10 :: x11 :: x12 :: x13 :: x14 :: x15 :: x16 :: x17 :: x18 :: x19 :: x20 :: some v :: σ) H := rfl
theorem q_aug21 {x0 x1 x2 x3 x4 x5 x6 x7 x8 x9 x10 x11 x12 x13 x14 x15 x16 x17 x18 x19 x20 : Option V} {f : Int → Int → Int} {a : Int} {σ : L2.St} : tAug 21 te (ipI f) ⟨nx, rt, bk, ct⟩ (x0 :: x1 :: x2 :: x3 :: x4 :: x5 :: x6 :: x7 :: x8 :: x9 :: x10 :: x11 :: x12 :: x13 :: x14 :: x15 :: x16 :: x17 :: x18 :: x19 :: x20 :: some (.int a) :: σ) H = te (x0 :: x1 :: x2 :: x3 :: x4 :: x5 :: x6 :: x7 :: x8 :: x9 :: x10 :: x11 :: x12 :: x13 :: x14 :: x15 :: x16 :: x17 :: x18 :: x19 :: x20 :: some (.int a) :: σ) H fun y H1 => ∃ b, y = .int b ∧ nx (x0 :: x1 :: x2 :: x3 :: x4 :: x5 :: x6 :: x7 :: x8 :: x9 :: x10 :: x11 :: x12 :: x13 :: x14 :: x15 :: x16 :: x17 :: x18 :: x19 :: x20 :: some (.int (f a b)) :: σ) H1 := by
  have e : (fun y H1 => ∃ b, y = V.int b ∧ nx (x0 :: x1 :: x2 :: x3 :: x4 :: x5 :: x6 :: x7 :: x8 :: x9 :: x10 :: x11 :: x12 :: x13 :: x14 :: x15 :: x16 :: x17 :: x18 :: x19 :: x20 :: some (.int (f a b)) :: σ) H1) = (fun y H1 => ipI f (.int a) y H1 fun z H2 => nx (x0 :: x1 :: x2 :: x3 :: x4 :: x5 :: x6 :: x7 :: x8 :: x9 :: x10 :: x11 :: x12 :: x13 :: x14 :: x15 :: x16 :: x17 :: x18 :: x19 :: x20 :: some z :: σ) H2) := by
    funext y H1
    exact propext ⟨fun ⟨b, e1, q⟩ => ⟨a, b, rfl, e1, q⟩, fun ⟨a', b, e0, e1, q⟩ => by cases e0; exact ⟨b, e1, q⟩⟩
  rw [e]
  exact propext ⟨fun ⟨x, e, q⟩ => by cases (show some (V.int a) = some _ from Option.some.inj e); exact q, fun q => ⟨_, rfl, q⟩⟩
theorem q_var22 {x0 x1 x2 x3 x4 x5 x6 x7 x8 x9 x10 x11 x12 x13 x14 x15 x16 x17 x18 x19 x20 x21 : Option V} {σ : L2.St} : tVar 22 (x0 :: x1 :: x2 :: x3 :: x4 :: x5 :: x6 :: x7 :: x8 :: x9 :: x10 :: x11 :: x12 :: x13 :: x14 :: x15 :: x16 :: x17 :: x18 :: x19 :: x20 :: x21 :: some v :: σ) H Q = Q v H := propext ⟨fun ⟨_, e, q⟩ => by cases (show some v = some _ from Option.some.inj e); exact q, fun q => ⟨v, rfl, q⟩⟩
theorem q_asg22 {x0 x1 x2 x3 x4 x5 x6 x7 x8 x9 x10 x11 x12 x13 x14 x15 x16 x17 x18 x19 x20 x21 : Option V} {o : Option V} {σ : L2.St} : tAsg te (gName 22) ⟨nx, rt, bk, ct⟩ (x0 :: x1 :: x2 :: x3 :: x4 :: x5 :: x6 :: x7 :: x8 :: x9 :: x10 :: x11 :: x12 :: x13 :: x14 :: x15 :: x16 :: x17 :: x18 :: x19 :: x20 :: x21 :: o :: σ) H = te (x0 :: x1 :: x2 :: x3 :: x4 :: x5 :: x6 :: x7 :: x8 :: x9 :: x10 :: x11 :: x12 :: x13 :: x14 :: x15 :: x16 :: x17 :: x18 :: x19 :: x20 :: x21 :: o :: σ) H fun x H1 => nx (x0 :: x1 :: x2 :: x3 :: x4 :: x5 :: x6 :: x7 :: x8 :: x9 :: x10 :: x11 :: x12 :: x13 :: x14 :: x15 :: x16 :: x17 :: x18 :: x19 :: x20 :: x21 :: some x :: σ) H1 := rfl
theorem q_gn22 {x0 x1 x2 x3 x4 x5 x6 x7 x8 x9 x10 x11 x12 x13 x14 x15 x16 x17 x18 x19 x20 x21 : Option V} {o : Option V} {σ : L2.St} {R : L2.St → Hp → Prop} : gName 22 v (x0 :: x1 :: x2 :: x3 :: x4 :: x5 :: x6 :: x7 :: x8 :: x9 :: x10 :: x11 :: x12 :: x13 :: x14 :: x15 :: x16 :: x17 :: x18 :: x19 :: x20 :: x21 :: o :: σ) H R = R (x0 :: x1 :: x2 :: x3 :: x4 :: x5 :: x6 :: x7 :: x8 :: x9 :: x10 :: x11 :: x12 :: x13 :: x14 :: x15 :: x16 :: x17 :: x18 :: x19 :: x20 :: x21 :: some v :: σ) H := rfl
theorem q_aug22 {x0 x1 x2 x3 x4 x5 x6 x7 x8 x9 x10 x11 x12 x13 x14 x15 x16 x17 x18 x19 x20 x21 : Option V} {f : Int → Int → Int} {a : Int} {σ : L2.St} : tAug 22 te (ipI f) ⟨nx, rt, bk, ct⟩ (x0 :: x1 :: x2 :: x3 :: x4 :: x5 :: x6 :: x7 :: x8 :: x9 :: x10 :: x11 :: x12 :: x13 :: x14 :: x15 :: x16 :: x17 :: x18 :: x19 :: x20 :: x21 :: some (.int a) :: σ) H = te (x0 :: x1 :: x2 :: x3 :: x4 :: x5 :: x6 :: x7 :: x8 :: x9 :: x10 :: x11 :: x12 :: x13 :: x14 :: x15 :: x16 :: x17 :: x18 :: x19 :: x20 :: x21 :: some (.int a) :: σ) H fun y H1 => ∃ b, y = .int b ∧ nx (x0 :: x1 :: x2 :: x3 :: x4 :: x5 :: x6 :: x7 :: x8 :: x9 :: x10 :: x11 :: x12 :: x13 :: x14 :: x15 :: x16 :: x17 :: x18 :: x19 :: x20 :: x21 :: some (.int (f a b)) :: σ) H1 := by
  have e : (fun y H1 => ∃ b, y = V.int b ∧ nx (x0 :: x1 :: x2 :: x3 :: x4 :: x5 :: x6 :: x7 :: x8 :: x9 :: x10 :: x11 :: x12 :: x13 :: x14 :: x15 :: x16 :: x17 :: x18 :: x19 :: x20 :: x21 :: some (.int (f a b)) :: σ) H1) = (fun y H1 => ipI f (.int a) y H1 fun z H2 => nx (x0 :: x1 :: x2 :: x3 :: x4 :: x5 :: x6 :: x7 :: x8 :: x9 :: x10 :: x11 :: x12 :: x13 :: x14 :: x15 :: x16 :: x17 :: x18 :: x19 :: x20 :: x21 :: some z :: σ) H2) := by
    funext y H1
    exact propext ⟨fun ⟨b, e1, q⟩ => ⟨a, b, rfl, e1, q⟩, fun ⟨a', b, e0, e1, q⟩ => by cases e0; exact ⟨b, e1, q⟩⟩
  rw [e]
  exact propext ⟨fun ⟨x, e, q⟩ => by cases (show some (V.int a) = some _ from Option.some.inj e); exact q, fun q => ⟨_, rfl, q⟩⟩
theorem q_var23 {x0 x1 x2 x3 x4 x5 x6 x7 x8 x9 x10 x11 x12 x13 x14 x15 x16 x17 x18 x19 x20 x21 x22 : Option V} {σ : L2.St} : tVar 23 (x0 :: x1 :: x2 :: x3 :: x4 :: x5 :: x6 :: x7 :: x8 :: x9 :: x10 :: x11 :: x12 :: x13 :: x14 :: x15 :: x16 :: x17 :: x18 :: x19 :: x20 :: x21 :: x22 :: some v :: σ) H Q = Q v H := propext ⟨fun ⟨_, e, q⟩ => by cases (show some v = some _ from Option.some.inj e); exact q, fun q => ⟨v, rfl, q⟩⟩
theorem q_asg23 {x0 x1 x2 x3 x4 x5 x6 x7 x8 x9 x10 x11 x12 x13 x14 x15 x16 x17 x18 x19 x20 x21 x22 : Option V} {o : Option V} {σ : L2.St} : tAsg te (gName 23) ⟨nx, rt, bk, ct⟩ (x0 :: x1 :: x2 :: x3 :: x4 :: x5 :: x6 :: x7 :: x8 :: x9 :: x10 :: x11 :: x12 :: x13 :: x14 :: x15 :: x16 :: x17 :: x18 :: x19 :: x20 :: x21 :: x22 :: o :: σ) H = te (x0 :: x1 :: x2 :: x3 :: x4 :: x5 :: x6 :: x7 :: x8 :: x9 :: x10 :: x11 :: x12 :: x13 :: x14 :: x15 :: x16 :: x17 :: x18 :: x19 :: x20 :: x21 :: x22 :: o :: σ) H fun x H1 => nx (x0 :: x1 :: x2 :: x3 :: x4 :: x5 :: x6 :: x7 :: x8 :: x9 :: x10 :: x11 :: x12 :: x13 :: x14 :: x15 :: x16 :: x17 :: x18 :: x19 :: x20 :: x21 :: x22 :: some x :: σ) H1 := rfl
theorem q_gn23 {x0 x1 x2 x3 x4 x5 x6 x7 x8 x9 x10 x11 x12 x13 x14 x15 x16 x17 x18 x19 x20 x21 x22 : Option V} {o : Option V} {σ : L2.St} {R : L2.St → Hp → Prop} : gName 23 v (x0 :: x1 :: x2 :: x3 :: x4 :: x5 :: x6 :: x7 :: x8 :: x9 :: x10 :: x11 :: x12 :: x13 :: x14 :: x15 :: x16 :: x17 :: x18 :: x19 :: x20 :: x21 :: x22 :: o :: σ) H R = R (x0 :: x1 :: x2 :: x3 :: x4 :: x5 :: x6 :: x7 :: x8 :: x9 :: x10 :: x11 :: x12 :: x13 :: x14 :: x15 :: x16 :: x17 :: x18 :: x19 :: x20 :: x21 :: x22 :: some v :: σ) H := rfl
theorem q_aug23 {x0 x1 x2 x3 x4 x5 x6 x7 x8 x9 x10 x11 x12 x13 x14 x15 x16 x17 x18 x19 x20 x21 x22 : Option V} {f : Int → Int → Int} {a : Int} {σ : L2.St} : tAug 23 te (ipI f) ⟨nx, rt, bk, ct⟩ (x0 :: x1 :: x2 :: x3 :: x4 :: x5 :: x6 :: x7 :: x8 :: x9 :: x10 :: x11 :: x12 :: x13 :: x14 :: x15 :: x16 :: x17 :: x18 :: x19 :: x20 :: x21 :: x22 :: some (.int a) :: σ) H = te (x0 :: x1 :: x2 :: x3 :: x4 :: x5 :: x6 :: x7 :: x8 :: x9 :: x10 :: x11 :: x12 :: x13 :: x14 :: x15 :: x16 :: x17 :: x18 :: x19 :: x20 :: x21 :: x22 :: some (.int a) :: σ) H fun y H1 => ∃ b, y = .int b ∧ nx (x0 :: x1 :: x2 :: x3 :: x4 :: x5 :: x6 :: x7 :: x8 :: x9 :: x10 :: x11 :: x12 :: x13 :: x14 :: x15 :: x16 :: x17 :: x18 :: x19 :: x20 :: x21 :: x22 :: some (.int (f a b)) :: σ) H1 := by
  have e : (fun y H1 => ∃ b, y = V.int b ∧ nx (x0 :: x1 :: x2 :: x3 :: x4 :: x5 :: x6 :: x7 :: x8 :: x9 :: x10 :: x11 :: x12 :: x13 :: x14 :: x15 :: x16 :: x17 :: x18 :: x19 :: x20 :: x21 :: x22 :: some (.int (f a b)) :: σ) H1) = (fun y H1 => ipI f (.int a) y H1 fun z H2 => nx (x0 :: x1 :: x2 :: x3 :: x4 :: x5 :: x6 :: x7 :: x8 :: x9 :: x10 :: x11 :: x12 :: x13 :: x14 :: x15 :: x16 :: x17 :: x18 :: x19 :: x20 :: x21 :: x22 :: some z :: σ) H2) := by
    funext y H1
    exact propext ⟨fun ⟨b, e1, q⟩ => ⟨a, b, rfl, e1, q⟩, fun ⟨a', b, e0, e1, q⟩ => by cases e0; exact ⟨b, e1, q⟩⟩
  rw [e]
  exact propext ⟨fun ⟨x, e, q⟩ => by cases (show some (V.int a) = some _ from Option.some.inj e); exact q, fun q => ⟨_, rfl, q⟩⟩
theorem q_seq : tSeq t u ⟨nx, rt, bk, ct⟩ σs H = t ⟨u ⟨nx, rt, bk, ct⟩, rt, bk, ct⟩ σs H := rfl
theorem q_next : tNext ⟨nx, rt, bk, ct⟩ σs H = nx σs H := rfl
theorem q_brk : tBreak ⟨nx, rt, bk, ct⟩ σs H = bk σs H := rfl
theorem q_cont : tCont ⟨nx, rt, bk, ct⟩ σs H = ct σs H := rfl
theorem q_ret : tRet te ⟨nx, rt, bk, ct⟩ σs H = te σs H rt := rfl
theorem q_retN : tRetN ⟨nx, rt, bk, ct⟩ σs H = rt .non H := rfl
theorem q_drop : tDrop te ⟨nx, rt, bk, ct⟩ σs H = te σs H fun _ H1 => nx σs H1 := rfl
theorem q_if : tIfS tt t u ⟨nx, rt, bk, ct⟩ σs H = tt σs H fun b H1 => if b = true then t ⟨nx, rt, bk, ct⟩ σs H1 else u ⟨nx, rt, bk, ct⟩ σs H1 := rfl
theorem q_c : tC v σs H Q = Q v H := rfl
theorem q_op {r : R2} : tOp r ta tc σs H Q = ta σs H fun x H1 => tc σs H1 fun y H2 => r x y H2 Q := rfl
theorem q_un {r : V → Hp → VK → Prop} : tUn r ta σs H Q = ta σs H fun x H1 => r x H1 Q := rfl
theorem q_cb {r : List V → Hp → VK → Prop} : tCB r tA σs H Q = tA σs H fun vs H1 => r vs H1 Q := rfl
theorem q_nil {R : List V → Hp → Prop} : tNil σs H R = R [] H := rfl
theorem q_cons {R : List V → Hp → Prop} : tCons ta tA σs H R = ta σs H fun x H1 => tA σs H1 fun xs H2 => R (x :: xs) H2 := rfl
theorem q_call {sp : Sp} {E : XK} : tCall sp [] E tA σs H Q = tA σs H fun vs H1 => sp vs H1 Q E := by
  have e : (fun vs H1 => sp (vs ++ []) H1 Q E) = (fun vs H1 => sp vs H1 Q E) := by funext vs H1; rw [List.append_nil]
  show (tA σs H fun vs H1 => sp (vs ++ []) H1 Q E) = _
  rw [e]
theorem q_test {R : Bool → Hp → Prop} : tTest te σs H R = te σs H fun x H1 => ∃ k, x = .bl k ∧ R k H1 := rfl
theorem q_tB {R : Bool → Hp → Prop} : tB te σs H R = te σs H fun x H1 => ∃ k, x = .bl k ∧ R k H1 := rfl
theorem q_bl {R : Bool → Prop} {b : Bool} : (∃ k, V.bl b = .bl k ∧ R k) = R b := propext ⟨fun ⟨k, e, q⟩ => by cases e; exact q, fun q => ⟨b, rfl, q⟩⟩
theorem q_int {R : Int → Prop} {b : Int} : (∃ k, V.int b = .int k ∧ R k) = R b := propext ⟨fun ⟨k, e, q⟩ => by cases e; exact q, fun q => ⟨b, rfl, q⟩⟩
theorem q_and {R : Bool → Hp → Prop} : tAnd tt tt' σs H R = tt σs H fun c H1 => if c = true then tt' σs H1 R else R false H1 := rfl
theorem q_or {R : Bool → Hp → Prop} : tOr tt tt' σs H R = tt σs H fun c H1 => if c = true then R true H1 else tt' σs H1 R := rfl
theorem q_not {R : Bool → Hp → Prop} : tNot tt σs H R = tt σs H fun c H1 => R (!c) H1 := rfl
theorem q_andV : tAndV ta tc σs H Q = ta σs H fun x H1 => ∃ c, x = .bl c ∧ if c = true then tc σs H1 Q else Q (.bl false) H1 := rfl
theorem q_orV : tOrV ta tc σs H Q = ta σs H fun x H1 => ∃ c, x = .bl c ∧ if c = true then Q (.bl true) H1 else tc σs H1 Q := rfl
theorem q_notV : tNotV ta σs H Q = ta σs H fun x H1 => ∃ c, x = .bl c ∧ Q (.bl (!c)) H1 := rfl
theorem q_ifE : tIf tt ta tc σs H Q = tt σs H fun c H1 => if c = true then ta σs H1 Q else tc σs H1 Q := rfl
theorem q_I0 {g : Int → Int → V} {i j : Int} : rI0 g (.int i) (.int j) H Q = Q (g i j) H := propext ⟨fun ⟨a, b, e1, e2, q⟩ => by cases e1; cases e2; exact q, fun q => ⟨i, j, rfl, rfl, q⟩⟩
theorem q_I {P : Int → Int → Prop} {g : Int → Int → V} {i j : Int} : rI P g (.int i) (.int j) H Q = (P i j ∧ Q (g i j) H) := propext ⟨fun ⟨a, b, e1, e2, q⟩ => by cases e1; cases e2; exact q, fun q => ⟨i, j, rfl, rfl, q⟩⟩
theorem q_U {g : Int → V} {i : Int} : rU g (.int i) H Q = Q (g i) H := propext ⟨fun ⟨a, e1, q⟩ => by cases e1; exact q, fun q => ⟨i, rfl, q⟩⟩
theorem q_eqI {i j : Int} : rEq (.int i) (.int j) H Q = Q (.bl (decide (i = j))) H := by
  have e : decide (V.int i = V.int j) = decide (i = j) := decide_eq_decide.mpr ⟨fun h => V.int.inj h, fun h => by rw [h]⟩
  refine propext ⟨fun ⟨_, q⟩ => ?_, fun q => ⟨rfl, ?_⟩⟩
  · rw [e] at q; exact q
  · rw [e]; exact q
theorem q_neI {i j : Int} : rNe (.int i) (.int j) H Q = Q (.bl (!decide (i = j))) H := by
  have e : decide (V.int i = V.int j) = decide (i = j) := decide_eq_decide.mpr ⟨fun h => V.int.inj h, fun h => by rw [h]⟩
  refine propext ⟨fun ⟨_, q⟩ => ?_, fun q => ⟨rfl, ?_⟩⟩
  · rw [e] at q; exact q
  · rw [e]; exact q
theorem q_eqS {i j : Str} : rEq (.str i) (.str j) H Q = Q (.bl (decide (i = j))) H := by
  have e : decide (V.str i = V.str j) = decide (i = j) := decide_eq_decide.mpr ⟨fun h => V.str.inj h, fun h => by rw [h]⟩
  refine propext ⟨fun ⟨_, q⟩ => ?_, fun q => ⟨rfl, ?_⟩⟩
  · rw [e] at q; exact q
  · rw [e]; exact q
theorem q_neS {i j : Str} : rNe (.str i) (.str j) H Q = Q (.bl (!decide (i = j))) H := by
  have e : decide (V.str i = V.str j) = decide (i = j) := decide_eq_decide.mpr ⟨fun h => V.str.inj h, fun h => by rw [h]⟩
  refine propext ⟨fun ⟨_, q⟩ => ?_, fun q => ⟨rfl, ?_⟩⟩
  · rw [e] at q; exact q
  · rw [e]; exact q
theorem q_eqB {i j : Bool} : rEq (.bl i) (.bl j) H Q = Q (.bl (decide (i = j))) H := by
  have e : decide (V.bl i = V.bl j) = decide (i = j) := decide_eq_decide.mpr ⟨fun h => V.bl.inj h, fun h => by rw [h]⟩
  refine propext ⟨fun ⟨_, q⟩ => ?_, fun q => ⟨rfl, ?_⟩⟩
  · rw [e] at q; exact q
  · rw [e]; exact q
theorem q_neB {i j : Bool} : rNe (.bl i) (.bl j) H Q = Q (.bl (!decide (i = j))) H := by
  have e : decide (V.bl i = V.bl j) = decide (i = j) := decide_eq_decide.mpr ⟨fun h => V.bl.inj h, fun h => by rw [h]⟩
  refine propext ⟨fun ⟨_, q⟩ => ?_, fun q => ⟨rfl, ?_⟩⟩
  · rw [e] at q; exact q
  · rw [e]; exact q
theorem q_abs {i : Int} : rAbs [.int i] H Q = Q (.int (i.natAbs : Nat)) H := propext ⟨fun ⟨a, e, q⟩ => by cases e; exact q, fun q => ⟨i, rfl, q⟩⟩
theorem q_toint {i : Int} : rInt [.int i] H Q = Q (.int i) H := propext ⟨fun ⟨a, e, q⟩ => by cases e; exact q, fun q => ⟨i, rfl, q⟩⟩
theorem q_tointB {b : Bool} : rIntB [.bl b] H Q = Q (.int (if b then 1 else 0)) H := propext ⟨fun ⟨a, e, q⟩ => by cases e; exact q, fun q => ⟨b, rfl, q⟩⟩
theorem q_lenS {l : List Nat} : rLenS [vS l] H Q = (l.length ≤ sizeLine ∧ Q (.int (l.length : Nat)) H) := propext ⟨fun ⟨m, e, q⟩ => by have e := S_inj.mp (V.str.inj (List.cons.inj e).1); subst e; exact q, fun q => ⟨l, rfl, q⟩⟩
theorem q_addS {l m : List Nat} : rAddS (vS l) (vS m) H Q = (l.length + m.length ≤ sizeLine ∧ Q (vS (l ++ m)) H) := propext ⟨fun ⟨a, b, e, e2, q⟩ => by have e := S_inj.mp (V.str.inj e); subst e; have e2 := S_inj.mp (V.str.inj e2); subst e2; exact q, fun q => ⟨l, m, rfl, rfl, q⟩⟩
theorem q_slS {l : List Nat} {lo hi : Option Int} : rSlSg (vS l) lo hi H Q = (l.length ≤ sizeLine ∧ Q (vS (cutN l lo hi)) H) := propext ⟨fun ⟨a, e, q⟩ => by have e := S_inj.mp (V.str.inj e); subst e; exact q, fun q => ⟨l, rfl, q⟩⟩
theorem q_sl {r : V → Option Int → Option Int → Hp → VK → Prop} {tl th : TO} : tSl r te tl th σs H Q = te σs H fun x H1 => tl σs H1 fun lo H2 => th σs H2 fun hi H3 => r x lo hi H3 Q := rfl
theorem q_noP {R : Option Int → Hp → Prop} : tNoPart σs H R = R none H := rfl
theorem q_part {R : Option Int → Hp → Prop} : tPart te σs H R = te σs H fun x H1 => ∃ i, x = .int i ∧ R (some i) H1 := rfl
theorem q_lst : tLst tA σs H Q = tA σs H fun xs H1 => NewL xs H1 Q := rfl
theorem q_tup : tTup tA σs H Q = tA σs H fun xs H1 => NewT xs H1 Q := rfl
theorem q_bm {T : String} {r : V → List V → Hp → VK → Prop} {to : TE} : tBM K T r to tA σs H Q = to σs H fun x H1 => tyV K T x H1 ∧ tA σs H1 fun vs H2 => r x vs H2 Q := rfl
theorem q_bm0 {T : String} {r : V → List V → Hp → VK → Prop} {to : TE} : tBM0 K T r to σs H Q = to σs H fun x H1 => tyV K T x H1 ∧ r x [] H1 Q := rfl
theorem q_for {wi : TI} : tFor wi g tb ⟨nx, rt, bk, ct⟩ σs H = wi σs H fun J H1 => LoopEnd J g tb ⟨nx, rt, bk, ct⟩ σs H1 := rfl
theorem q_iRng1 {R : It → Hp → Prop} : iRng1 tA σs H R = tA σs H fun vs H1 => Rg1 vs H1 R := rfl
theorem q_iRng2 {R : It → Hp → Prop} : iRng2 tA σs H R = tA σs H fun vs H1 => Rg2 vs H1 R := rfl
theorem q_iRng3 {R : It → Hp → Prop} : iRng3 tA σs H R = tA σs H fun vs H1 => Rg3 vs H1 R := rfl
theorem q_iList {R : It → Hp → Prop} : iList K te σs H R = te σs H fun x H1 => FoL K x H1 R := rfl
theorem q_iTup {R : It → Hp → Prop} : iTup K te σs H R = te σs H fun x H1 => FoT K x H1 R := rfl
theorem q_iStr {R : It → Hp → Prop} : iStr te σs H R = te σs H fun x H1 => FoS x H1 R := rfl
theorem q_iRev {R : It → Hp → Prop} : iRev K tA σs H R = tA σs H fun vs H1 => FoR K vs H1 R := rfl
theorem q_iEnum {R : It → Hp → Prop} : iEnum K tA σs H R = tA σs H fun vs H1 => FoE K vs H1 R := rfl
theorem q_yes {R : Bool → Hp → Prop} : tYes σs H R = R true H := rfl
theorem q_lc {wi : TI} {vs : List Nat} : tLc wi g tt te vs σs H Q = wi σs H fun J H1 => LcEnd J g tt te vs σs H1 Q := rfl
theorem q_iteT {A B : Prop} : (if true = true then A else B) = A := if_pos rfl
theorem q_iteF {A B : Prop} : (if false = true then A else B) = B := if_neg Bool.false_ne_true
theorem w_cdiv {i j : Int} (h1 : 0 < j) (h2 : j < 1073741824) : CDiv i j := ⟨h1, h2⟩
theorem w_cmul1 {i j : Int} (h1 : -(2 ^ 64) < i) (h2 : i < 2 ^ 64) : CMul i j := .inl ⟨h1, h2⟩
theorem w_cmul2 {i j : Int} (h1 : -(2 ^ 64) < j) (h2 : j < 2 ^ 64) : CMul i j := .inr ⟨h1, h2⟩
theorem w_size {n : Nat} (h : n ≤ 16777216) : n ≤ sizeLine := by rw [sizeLine_eq]; exact h
theorem w_sizel {n : Nat} (h : n < 16777216) : n < sizeLine := by rw [sizeLine_eq]; exact h
theorem w_conj {A B : Prop} (h2 : B) (h1 : A) : A ∧ B := ⟨h1, h2⟩
end
end Fw
namespace Fw
open PySem PySem.Spec PyProof.Rows L2
/-! ### isinstance of built-in kinds -/
section
variable {K : PySem.W.Frag} {H : Hp} {Q : VK} {x : V} {i : Int} {z : Str} {bb : Bool} {a : Addr} {xs : List V} {F0 H0 F : Hp} {L : List (Addr × HO)} {C : List Ck}
theorem w_isi {b : Bool} (t n : String) (b : Bool) (ty : TyX K H x (.type t)) (h : kitB t n = some b) (q : Q (.bl b) H) : rIsi K [x, .ty n] H Q := ⟨x, .ty n, _, _, b, rfl, .ty n, ty, kit_ty h, q⟩
theorem w_isiII (q : Q (.bl true) H) : rIsi K [.int i, .ty "int"] H Q := w_isi (b := true) "int" "int" true (.base (.int i)) (by decide +kernel) q
theorem w_isiIB (q : Q (.bl false) H) : rIsi K [.int i, .ty "bool"] H Q := w_isi (b := true) "int" "bool" false (.base (.int i)) (by decide +kernel) q
theorem w_isiBB (q : Q (.bl true) H) : rIsi K [.bl bb, .ty "bool"] H Q := w_isi (b := true) "bool" "bool" true (.base (.bl bb)) (by decide +kernel) q
theorem w_isiSS (q : Q (.bl true) H) : rIsi K [.str z, .ty "str"] H Q := w_isi (b := true) "str" "str" true (.base (.str z)) (by decide +kernel) q
theorem w_isiLL (q : Q (.bl true) H) (h : H a = some (.lst xs)) : rIsi K [.ref a, .ty "list"] H Q := w_isi (b := true) "list" "list" true (.base (.lst h)) (by decide +kernel) q
theorem w_isiTT (q : Q (.bl true) H) (h : H a = some (.tup xs)) : rIsi K [.ref a, .ty "tuple"] H Q := w_isi (b := true) "tuple" "tuple" true (.base (.tup h)) (by decide +kernel) q
end
end Fw
namespace Fw
open PySem PySem.Spec PyProof.Rows L2
theorem w_cut {t u : TS} {nx bk ct : L2.St → Hp → Prop} {rt : VK} {σ : L2.St} {H : Hp} (Mid : L2.St → Hp → Prop) (h1 : t ⟨Mid, rt, bk, ct⟩ σ H) (h2 : ∀ σ' H', Mid σ' H' → u ⟨nx, rt, bk, ct⟩ σ' H') : Evl.tCut t u ⟨nx, rt, bk, ct⟩ σ H := ⟨Mid, h1, h2⟩
end Fw
namespace Fw
open PySem PySem.Spec PyProof.Rows L2
/-! ### lists of tuples -/
def cTs (ts : List Addr) (f : Nat → List V) : Ck := ⟨fun F => ∀ (j : Nat) t, ts[j]? = some t → F t = some (.tup (f j)), fun s h j t e => s _ _ (h j t e)⟩
theorem cTs_nil {F : Hp} (f : Nat → List V) : (cTs [] f).p F := fun j t e => by simp at e
theorem cTs_add {F : Hp} {ts : List Addr} {f : Nat → List V} {t : Addr} (h : (cTs ts f).p F) (e : F t = some (.tup (f ts.length))) : (cTs (ts ++ [t]) f).p F := by
  intro j u hu
  by_cases hj : j < ts.length
  · rw [List.getElem?_append_left hj] at hu
    exact h j u hu
  · rw [List.getElem?_append_right (by omega)] at hu
    by_cases h0 : j - ts.length = 0
    · rw [h0] at hu
      have e1 : t = u := Option.some.inj hu
      have e2 : j = ts.length := by omega
      rw [← e1, e2]
      exact e
    · rw [List.getElem?_eq_none (by simp; omega)] at hu
      cases hu
theorem map_ref_add (ts : List Addr) (t : Addr) : ts.map V.ref ++ [V.ref t] = (ts ++ [t]).map V.ref := by rw [List.map_append]; rfl
theorem cutN_nat (l : List Nat) (a b : Nat) : cutN l (some (a : Int)) (some (b : Int)) = (l.drop a).take (b - a) := by
  unfold cutN
  rw [HT.sIx_nat, HT.sIx_nat]
  by_cases h : a ≤ l.length
  · rw [Nat.min_eq_left h]
    by_cases h2 : b ≤ l.length
    · rw [Nat.min_eq_left h2]
    · rw [Nat.min_eq_right (show l.length ≤ b by omega), List.take_of_length_le (by rw [List.length_drop]; exact Nat.le_refl _), List.take_of_length_le (by rw [List.length_drop]; omega)]
  · rw [Nat.min_eq_right (show l.length ≤ a by omega), List.drop_length, List.drop_eq_nil_of_le (show l.length ≤ a by omega)]
    simp
theorem cutN_to (l : List Nat) (b : Nat) : cutN l none (some (b : Int)) = l.take b := by
  unfold cutN
  rw [HT.sIx_nat, HT.sIx_none]
  show List.take (min b l.length - 0) (l.drop 0) = _
  rw [Nat.sub_zero, List.drop_zero]
  by_cases h : b ≤ l.length
  · rw [Nat.min_eq_left h]
  · rw [Nat.min_eq_right (show l.length ≤ b by omega), List.take_length, List.take_of_length_le (show l.length ≤ b by omega)]
theorem cutN_from (l : List Nat) (a : Nat) : cutN l (some (a : Int)) none = l.drop a := by
  unfold cutN
  rw [HT.sIx_nat, HT.sIx_none]
  by_cases h : a ≤ l.length
  · rw [Nat.min_eq_left h, List.take_of_length_le (by rw [List.length_drop]; exact Nat.le_refl _)]
  · rw [Nat.min_eq_right (show l.length ≤ a by omega), List.drop_length, List.drop_eq_nil_of_le (show l.length ≤ a by omega)]
    simp
end Fw
namespace Fw
open PySem PySem.Spec PyProof.Rows L2
section
variable {K : PySem.W.Frag} {H : Hp} {Q : VK} {a b : Addr} {ns ms : List Int}
theorem dpAll_ints : ∀ ns : List Int, DpAll K H (ns.map V.int) (ns.map PyData.int)
  | [] => .nil
  | n :: r => .cons (.int n) (dpAll_ints r)
theorem shaped_ints (ns : List Int) : SeqAt.shaped (.list (ns.map PyData.int)) = true := by
  unfold SeqAt.shaped
  refine Bool.and_eq_true_iff.mpr ⟨?_, decide_eq_true ?_⟩
  · show PyData.canLayAll0 (ns.map PyData.int) = true
    induction ns with
    | nil => rfl
    | cons n r ih => show (true && PyData.canLayAll0 (r.map PyData.int)) = true; rw [ih]; rfl
  · show PyData.depthAll (ns.map PyData.int) + 1 ≤ 64
    have h : PyData.depthAll (ns.map PyData.int) = 0 := by
      induction ns with
      | nil => rfl
      | cons n r ih => show max 0 (PyData.depthAll (r.map PyData.int)) = 0; rw [ih]; rfl
    omega
theorem w_eqDI (q : Q (.bl (decide (ns = ms))) H) (ha : SqL K H a (ns.map V.int)) (hb : SqL K H b (ms.map V.int)) : rEqD K (.ref a) (.ref b) H Q :=
  ⟨_, _, .lst ha (dpAll_ints ns), .lst hb (dpAll_ints ms), shaped_ints ns, shaped_ints ms, by
    show Q (.bl (PyData.eqvAll (ns.map PyData.int) (ms.map PyData.int))) H
    rw [PySem.W.ked_eqvAll]; exact q⟩
theorem w_neDI (q : Q (.bl (!decide (ns = ms))) H) (ha : SqL K H a (ns.map V.int)) (hb : SqL K H b (ms.map V.int)) : rNeD K (.ref a) (.ref b) H Q :=
  ⟨_, _, .lst ha (dpAll_ints ns), .lst hb (dpAll_ints ms), shaped_ints ns, shaped_ints ms, by
    show Q (.bl (!PyData.eqvAll (ns.map PyData.int) (ms.map PyData.int))) H
    rw [PySem.W.ked_eqvAll]; exact q⟩
variable {F0 H0 F : Hp} {L : List (Addr × HO)} {C : List Ck}
theorem w_sortRev (O : Own F0 H0 F H L C) (ha : SqL K H a (ns.map V.int)) (k : ∀ p H' (ms : List Int), ms.Perm ns → ms.Pairwise (· ≥ ·) → Own F0 H0 F H' ((p, .lst (ms.map V.int)) :: L) C → Q (.ref p) H') : rSortedKw K true [.bl true] [.ref a] [.bl true] H Q :=
  ⟨a, ns, rfl, rfl, ha, fun ms p pm od np => k p _ ms pm od (O.alloc np _)⟩
theorem w_max (h0 : 0 < ns.length) (ha : SqL K H a (ns.map V.int)) (k : ∀ m, m ∈ ns → (∀ y ∈ ns, y ≤ m) → Q (.int m) H) : rMax K [.ref a] H Q := ⟨a, ns, rfl, ha, h0, fun m h1 h2 => k m h1 h2⟩
theorem w_min (h0 : 0 < ns.length) (ha : SqL K H a (ns.map V.int)) (k : ∀ m, m ∈ ns → (∀ y ∈ ns, m ≤ y) → Q (.int m) H) : rMin K [.ref a] H Q := ⟨a, ns, rfl, ha, h0, fun m h1 h2 => k m h1 h2⟩
/-- two lists alike in order are one -/
theorem sorted_one : ∀ {ms ns : List Int}, ms.Perm ns → ms.Pairwise (· ≥ ·) → ns.Pairwise (· ≥ ·) → ms = ns := fun {ms ns} p h1 h2 =>
  List.Perm.eq_of_pairwise (le := (· ≥ ·)) (fun a b _ _ h1 h2 => by omega) h1 h2 p
theorem q_ckw {r : List V → List V → Hp → VK → Prop} {t tk : TA} {σ : L2.St} : tCKw r t tk σ H Q = t σ H fun vs H1 => tk σ H1 fun zs H2 => r vs zs H2 Q := rfl
theorem Own.tup (O : Own F0 H0 F H L C) (i : Nat) {ts : List Addr} {f : Nat → List V} {j : Nat} {t : Addr} (h : C[i]? = some (cTs ts f) := by rfl) (e : ts[j]? = some t) : H t = some (.tup (f j)) := O.fh _ _ (O.cs.get h j t e)
theorem w_ixT2 {xs : List V} {i : Int} {v : V} (q : Q v H) (hs : H a = some (.tup xs)) (hi : atI xs i = some v) : rIxT K (.ref a) (.int i) H Q := w_ixT q (.inl (.inl hs)) hi
end
end Fw
namespace Fw
theorem q_iteNT {A B : Prop} : (if (!true) = true then A else B) = B := if_neg Bool.false_ne_true
theorem q_iteNF {A B : Prop} : (if (!false) = true then A else B) = A := if_pos rfl
theorem sum_rep (n m : Nat) : (List.replicate n m).sum = n * m := by
  induction n with
  | zero => simp
  | succ n ih => rw [List.replicate_succ, List.sum_cons, ih, Nat.succ_mul, Nat.add_comm]
theorem flat_rep {α : Type} (n : Nat) (l : List α) : (List.replicate n l).flatten.length = n * l.length := by
  rw [List.length_flatten, List.map_replicate, sum_rep]
end Fw
namespace Fw
open PySem L2
theorem q_wipe1 {σ : L2.St} {s : Str} {n : Nat} : wipe σ (List.map (fun x => x.snd) [(s, n)]) = σ.set n none := rfl
theorem q_wipe2 {σ : L2.St} {s s' : Str} {n n' : Nat} : wipe σ (List.map (fun x => x.snd) [(s, n), (s', n')]) = (σ.set n' none).set n none := rfl
end Fw
namespace Fw
open PySem PySem.Spec PyProof.Rows L2
/-! ### further rules -/
section
variable {X : Cx} {K : PySem.W.Frag}
def rListQ (K : PySem.W.Frag) : List V → Hp → VK → Prop := fun vs H Q => ∃ p ys, vs = [.ref p] ∧ (SqL K H p ys ∨ SqT K H p ys) ∧ ys.length ≤ sizeLine ∧ NewL ys H Q
theorem listQ_ (e : X.K = K := by rfl) : CallR X (.type "list") (rListQ K) := by
  subst e
  exact fun pins s σ H vs us Q I r ⟨p, ys, e, h, _, n⟩ => call_list_of pins s σ H vs us Q I r ⟨p, ys, e, h, n.2⟩
/-- list(text) -/
def rListS : List V → Hp → VK → Prop := fun vs H Q => ∃ l : List Nat, vs = [vS l] ∧ l.length ≤ sizeLine ∧ NewL (l.map fun c => vS [c]) H Q
theorem vals_signs {x : Str} : ∀ {l : List Nat} {vs : List Value}, vs.length = l.length → (∀ (j : Nat) v, vs[j]? = some v → ∃ c u, l[j]? = some c ∧ v = .str ⟨#[c]⟩ u) → Vals (l.map fun c => vS [c]) vs
  | [], [], _, _ => .nil
  | [], _ :: _, h, _ => by cases h
  | _ :: _, [], h, _ => by cases h
  | c :: l, v :: vs, h, f => by
    obtain ⟨c', u, e1, e2⟩ := f 0 v rfl
    have e3 : c = c' := Option.some.inj e1
    subst e3
    exact .cons ⟨u, e2⟩ (vals_signs (x := x) (by simpa using h) fun j w hw => f (j + 1) w hw)
theorem listS_ (hc : X.calm = true) : CallR X (.type "list") rListS := by
  intro pins s σ H vs us Q I r h
  obtain ⟨l, rfl, hz, q⟩ := h
  obtain ⟨u, rfl, t, rfl⟩ := vals1 r
  refine call_list_str (I.ok.hd hc) (S l) t (fun h' tk acc' c' kp e it => ?_) (by show (S l).cps.size ≤ sizeLine; simpa [S] using hz)
  refine ⟨.ref s.heap.objs.size, _, I.laid (t' := tk) kp (Nat.le_refl _) (show ObjOk X.prog X.w _ h' _ (.lst (l.map fun c => vS [c])) from ⟨by rw [List.length_map]; exact hz, acc'.toList, c', ?_, e⟩), rfl, q.2 _ (I.hok.fresh (Nat.le_refl _))⟩
  refine vals_signs (x := S l) ?_ fun j v hv => ?_
  · rw [Array.length_toList, it.1]
    simp [S]
  · obtain ⟨c, u, e1, e2⟩ := it.2 j v (by simpa using hv)
    exact ⟨c, u, by simpa [S] using e1, e2⟩
/-- list[i] in an augmented assignment, 0 ≤ i -/
def rGetL (K : PySem.W.Frag) : V → V → Hp → VK → Prop := fun x y H Q => ∃ p xs i v, x = .ref p ∧ y = .int i ∧ SqL K H p xs ∧ 0 ≤ i ∧ xs[i.toNat]? = some v ∧ Q v H
theorem getL_ (e : X.K = K := by rfl) : PGet X (rGetL K) := by
  subst e
  intro pins s σ H o i ov iv Q I rx ry h
  obtain ⟨p, xs, i, v, rfl, rfl, hq, h0, he, q⟩ := h
  cases rx
  obtain ⟨t, rfl⟩ := ry
  obtain ⟨its, r, pl, hz⟩ := I.list hq
  obtain ⟨w, ew, rw'⟩ := r.get he
  have hl := r.length
  have hn := line63
  have hlt := (List.getElem?_eq_some_iff.mp he).1
  exact wpAny_getItem_list pl.isList h0 (by omega) (by simpa using ew) ⟨v, H, I, rw', q⟩
/-- sep.join(texts) -/
def joinN (sep : List Nat) : List (List Nat) → List Nat
  | [] => []
  | [x] => x
  | x :: r => x ++ (sep ++ joinN sep r)
theorem joinN_cons (sep x y : List Nat) (r : List (List Nat)) : joinN sep (x :: y :: r) = x ++ (sep ++ joinN sep (y :: r)) := rfl
theorem joinN_nil : ∀ ys : List (List Nat), joinN [] ys = ys.flatten
  | [] => rfl
  | [x] => by simp [joinN]
  | x :: y :: r => by rw [joinN_cons, joinN_nil (y :: r), List.nil_append]; rfl
theorem glue_fold (sep : List Nat) : ∀ (r : List (List Nat)) (acc : List Nat), (r.map S).foldl (fun (a : Array Nat) (p : Str) => a ++ (S sep).cps ++ p.cps) acc.toArray = (r.foldl (fun a p => a ++ (sep ++ p)) acc).toArray
  | [], acc => rfl
  | x :: r, acc => by
    rw [List.map_cons, List.foldl_cons, List.foldl_cons, ← glue_fold sep r (acc ++ (sep ++ x))]
    congr 1
    simp [S]
theorem glue_join (sep : List Nat) : ∀ (r : List (List Nat)) (x : List Nat), r.foldl (fun a p => a ++ (sep ++ p)) x = joinN sep (x :: r)
  | [], x => rfl
  | y :: r, x => by
    rw [List.foldl_cons, glue_join sep r, joinN_cons]
    cases r with
    | nil => rfl
    | cons z r => rw [joinN_cons, joinN_cons]; simp
theorem txt_join (sep : List Nat) (ys : List (List Nat)) : Txt.join (S sep) (ys.map S) = S (joinN sep ys) := by
  show (⟨((ys.map S).drop 1).foldl (fun (acc : Array Nat) (p : Str) => acc ++ (S sep).cps ++ p.cps) ((ys.map S).headD Str.empty).cps⟩ : Str) = _
  cases ys with
  | nil => rfl
  | cons x r =>
    show (⟨(r.map S).foldl (fun (acc : Array Nat) (p : Str) => acc ++ (S sep).cps ++ p.cps) (S x).cps⟩ : Str) = _
    have e := glue_fold sep r x
    rw [glue_join] at e
    show (⟨(r.map S).foldl (fun (acc : Array Nat) (p : Str) => acc ++ (S sep).cps ++ p.cps) x.toArray⟩ : Str) = _
    rw [e]
    rfl
def rJoin (K : PySem.W.Frag) : V → List V → Hp → VK → Prop := fun x xs H Q => ∃ (l : List Nat) (p : Addr) (ys : List (List Nat)), x = vS l ∧ xs = [.ref p] ∧ (SqL K H p (ys.map vS) ∨ SqT K H p (ys.map vS)) ∧ (ys.map List.length).sum + ys.length * l.length ≤ 16777216 ∧ Q (vS (joinN l ys)) H
theorem mt_joinN (e : X.K = K := by rfl) : MtR X "str.join" (rJoin K) := by
  subst e
  intro pins s σ H x xs v us Q I rx rs h
  obtain ⟨l, p, ys, e1, e2, hp, hz, q⟩ := h
  have em : ys.map vS = (ys.map S).map V.str := by rw [List.map_map]; rfl
  refine mt_join pins s σ H x xs v us Q I rx rs ⟨S l, p, ys.map S, e1, e2, by rw [← em]; exact hp, ?_, by rw [txt_join]; exact q⟩
  rw [List.map_map, List.length_map, S_len]
  have e3 : ((fun z : Str => z.length) ∘ S) = List.length := by funext z; exact S_len z
  rw [e3]
  exact hz
theorem pe_joinL {o e : Expr} {apos pos : Pos} {to te : TE} (ho : PE X o to) (he : PE X e te) (eK : X.K = K := by rfl) (hs : starEach [e] X.env = [(false, eval e X.env)] := by rfl) (hbase : attributeBase o "join" X.env (eval o X.env) = eval o X.env := by rfl) (hline : (apos.endLine == pos.line) = true := by rfl) :
    PE X (.Call (.Attribute o "join" apos) [e] [] pos) (tM1 (rJoin K) to te) := pe_m1 PySem.F.slot_str_join PySem.F.type_str_join (mt_joinN eK) ho he hs hbase hline
/-- text.index(sign), the sign stands in it -/
def rIdxS : V → List V → Hp → VK → Prop := fun x xs H Q => ∃ (l : List Nat) (c : Nat), x = vS l ∧ xs = [vS [c]] ∧ c ∈ l ∧ Q (.int (l.idxOf c : Nat)) H
theorem occ_idx {l : List Nat} {c : Nat} (h : c ∈ l) : ∃ r, Builtin.Str.occurrences (S l) (S [c]) 0 (S l).length 1 = l.idxOf c :: r := by
  rcases StrLaws.occ_head (S l) (S [c]) 1 (Nat.le_refl _) with ⟨_, hn⟩ | ⟨i, r, e, ha, hn⟩
  · obtain ⟨i, hi⟩ := List.mem_iff_getElem?.mp h
    exact absurd ((StrLaws.subAt_one (S l) c i).mpr (by rw [S_list]; exact hi)) (hn i)
  · refine ⟨r, ?_⟩
    rw [e]
    congr 1
    have h1 := (StrLaws.subAt_one (S l) c i).mp ha
    rw [S_list] at h1
    have h2 : ∀ k, k < i → l[k]? ≠ some c := fun k hk z => hn k hk ((StrLaws.subAt_one (S l) c k).mpr (by rw [S_list]; exact z))
    obtain ⟨hi, hv⟩ := List.getElem?_eq_some_iff.mp h1
    have hlt : l.idxOf c < l.length := List.idxOf_lt_length_of_mem h
    have hg : l[l.idxOf c]? = some c := by
      rw [List.getElem?_eq_getElem hlt, List.getElem_idxOf hlt]
    by_cases h3 : l.idxOf c < i
    · exact absurd hg (h2 _ h3)
    · by_cases h4 : i < l.idxOf c
      · exact absurd hv (by
          have := List.not_of_lt_findIdx (p := (· == c)) (xs := l) (i := i) h4
          simpa using this)
      · omega
theorem mt_idxS : MtR X "str.index" rIdxS := by
  intro pins s σ H x xs v us Q I rx rs h
  obtain ⟨l, c, e1, e2, hc, q⟩ := h
  obtain ⟨r, e⟩ := occ_idx hc
  exact mt_sindex pins s σ H x xs v us Q I rx rs ⟨S l, S [c], _, r, e1, e2, e, q⟩
theorem pe_indexL {o e : Expr} {apos pos : Pos} {to te : TE} (ho : PE X o to) (he : PE X e te) (hs : starEach [e] X.env = [(false, eval e X.env)] := by rfl) (hbase : attributeBase o "index" X.env (eval o X.env) = eval o X.env := by rfl) (hline : (apos.endLine == pos.line) = true := by rfl) :
    PE X (.Call (.Attribute o "index" apos) [e] [] pos) (tM1 rIdxS to te) := pe_m1 PySem.F.slot_str_index PySem.F.type_str_index mt_idxS ho he hs hbase hline
def rStarts : V → List V → Hp → VK → Prop := fun x xs H Q => ∃ l m : List Nat, x = vS l ∧ xs = [vS m] ∧ Q (.bl (m.isPrefixOf l)) H
theorem starts_pre (l m : List Nat) : Txt.startswith (S l) (S m) = m.isPrefixOf l := by
  unfold Txt.startswith
  rw [S_len, S_len, StrLaws.subAt_eq]
  rw [Bool.eq_iff_iff, Bool.and_eq_true, decide_eq_true_eq, List.isPrefixOf_iff_prefix]
  show (0 + m.length ≤ l.length ∧ (((S l).cps.toList.drop 0).take (S m).cps.toList.length == (S m).cps.toList) = true) ↔ _
  rw [S_list, S_list, List.drop_zero, beq_iff_eq]
  constructor
  · rintro ⟨_, h⟩
    rw [← h]
    exact List.take_prefix _ _
  · intro h
    exact ⟨by have := h.length_le; omega, (List.prefix_iff_eq_take.mp h).symm⟩
theorem mt_startsN : MtR X "str.startswith" rStarts := by
  intro pins s σ H x xs v us Q I rx rs h
  obtain ⟨l, m, e1, e2, q⟩ := h
  exact mt_startswith pins s σ H x xs v us Q I rx rs ⟨S l, S m, e1, e2, by rw [starts_pre]; exact q⟩
theorem pe_startsL {o e : Expr} {apos pos : Pos} {to te : TE} (ho : PE X o to) (he : PE X e te) (hs : starEach [e] X.env = [(false, eval e X.env)] := by rfl) (hbase : attributeBase o "startswith" X.env (eval o X.env) = eval o X.env := by rfl) (hline : (apos.endLine == pos.line) = true := by rfl) :
    PE X (.Call (.Attribute o "startswith" apos) [e] [] pos) (tM1 rStarts to te) := pe_m1 PySem.F.slot_str_startswith PySem.F.type_str_startswith mt_startsN ho he hs hbase hline
end
section
variable {nx bk ct : L2.St → Hp → Prop} {rt : VK} {t u tb : TS} {H F0 H0 F : Hp} {L : List (Addr × HO)} {C : List Ck} {te ta tc : TE} {Q : VK} {v x y : V} {g : TG} {tt : TT} {tA : TA} {K : PySem.W.Frag} {σ : L2.St} {a b : Addr} {xs ys : List V} {i : Int}
theorem w_listL (O : Own F0 H0 F H L C) (hs : SqL K H a xs) (k : ∀ p H', Own F0 H0 F H' ((p, .lst xs) :: L) C → Q (.ref p) H') (hz : xs.length ≤ sizeLine) : rListQ K [.ref a] H Q := ⟨a, xs, rfl, .inl hs, hz, w_newL O k hz⟩
theorem w_listS {l : List Nat} (O : Own F0 H0 F H L C) (k : ∀ p H', Own F0 H0 F H' ((p, .lst (l.map fun c => vS [c])) :: L) C → Q (.ref p) H') (hz : l.length ≤ sizeLine) : rListS [vS l] H Q := ⟨l, rfl, hz, w_newL O k (by rw [List.length_map]; exact hz)⟩
theorem q_gsub {to ti : TE} {ts : TSet} {R : L2.St → Hp → Prop} : gSub to ti ts v σ H R = to σ H fun o H1 => ti σ H1 fun i H2 => ts o i v H2 fun H3 => R σ H3 := rfl
theorem q_asgG {to ti : TE} {ts : TSet} : tAsg te (gSub to ti ts) ⟨nx, rt, bk, ct⟩ σ H = te σ H fun x H1 => gSub to ti ts x σ H1 nx := rfl
theorem q_asgT {n : Nat} {tg : TGs} : tAsg te (gTup K n tg) ⟨nx, rt, bk, ct⟩ σ H = te σ H fun x H1 => gTup K n tg x σ H1 nx := rfl
theorem q_gnil {R : L2.St → Hp → Prop} : gNil [] σ H R = R σ H := propext ⟨fun ⟨_, q⟩ => q, fun q => ⟨rfl, q⟩⟩
theorem q_gcons {tg : TG} {tgs : TGs} {R : L2.St → Hp → Prop} : gCons tg tgs (v :: xs) σ H R = tg v σ H fun σ' H' => tgs xs σ' H' R := propext ⟨fun ⟨_, _, e, q⟩ => by cases e; exact q, fun q => ⟨v, xs, rfl, q⟩⟩
theorem w_gtup {n : Nat} {tg : TGs} {R : L2.St → Hp → Prop} (h : tg xs σ H R) (hs : SqT K H a xs) (hn : xs.length = n := by rfl) : gTup K n tg (.ref a) σ H R := ⟨a, xs, rfl, hs, hn, h⟩
theorem q_par {j k : Nat} : tPar j k tA ⟨nx, rt, bk, ct⟩ σ H = tA σ H fun vs H1 => ∃ v w, vs = [v, w] ∧ nx ((σ.set j (some v)).set k (some w)) H1 := rfl
theorem q_two {w : V} {R : V → V → Prop} : (∃ x y, [v, w] = [x, y] ∧ R x y) = R v w := propext ⟨fun ⟨_, _, e, q⟩ => by cases e; exact q, fun q => ⟨_, _, rfl, q⟩⟩
theorem q_chain {r r' : R2} : tChain r r' te ta tc σ H Q = te σ H fun x H1 => ta σ H1 fun y H2 => r x y H2 fun z H3 => ∃ k, z = .bl k ∧ (if k = true then tc σ H3 fun w' H4 => r' y w' H4 Q else Q (.bl false) H3) := rfl
theorem q_m1 {r : V → List V → Hp → VK → Prop} {to : TE} : tM1 r to te σ H Q = to σ H fun x H1 => (∃ a, x = .str a) ∧ te σ H1 fun y H2 => r x [y] H2 Q := rfl
theorem q_isS {z : Str} {P : Prop} : ((∃ a, V.str z = .str a) ∧ P) = P := propext ⟨fun h => h.2, fun h => ⟨⟨z, rfl⟩, h⟩⟩
theorem q_augS {to ti : TE} {tget : V → V → Hp → VK → Prop} {tip : TIp} {ts : TSet} : tAugS to ti te tget tip ts ⟨nx, rt, bk, ct⟩ σ H = to σ H fun o H1 => ti σ H1 fun i H2 => tget o i H2 fun x H3 => te σ H3 fun y H4 => tip x y H4 fun z H5 => ts o i z H5 fun H6 => nx σ H6 := rfl
theorem q_ipI {f : Int → Int → Int} {i j : Int} : ipI f (.int i) (.int j) H Q = Q (.int (f i j)) H := propext ⟨fun ⟨_, _, e1, e2, q⟩ => by cases e1; cases e2; exact q, fun q => ⟨i, j, rfl, rfl, q⟩⟩
theorem ixN_pos {n : Nat} (h : 0 ≤ i ∧ i < n) : ixN n i = some i.toNat := by
  unfold ixN
  rw [if_pos h.1, if_pos (by omega)]
theorem w_set {j : Nat} {R : Hp → Prop} (O : Own F0 H0 F H L C) (hi : L[j]? = some (a, .lst xs)) (h : 0 ≤ i ∧ i < xs.length) (k : ∀ H', Own F0 H0 F H' (L.set j (a, .lst (xs.set i.toNat v))) C → R H') : rSetL (.ref a) (.int i) v H R :=
  ⟨a, xs, i, i.toNat, rfl, rfl, O.at_ j hi, ixN_pos h, k _ (O.set j hi _)⟩
theorem w_set0 {R : Hp → Prop} (O : Own F0 H0 F H ((a, .lst xs) :: L) C) (k : ∀ H', Own F0 H0 F H' ((a, .lst (xs.set i.toNat v)) :: L) C → R H') (h : 0 ≤ i ∧ i < xs.length) : rSetL (.ref a) (.int i) v H R := w_set (j := 0) O rfl h k
theorem w_set1 {q : Addr × HO} {R : Hp → Prop} (O : Own F0 H0 F H (q :: (a, .lst xs) :: L) C) (k : ∀ H', Own F0 H0 F H' (q :: (a, .lst (xs.set i.toNat v)) :: L) C → R H') (h : 0 ≤ i ∧ i < xs.length) : rSetL (.ref a) (.int i) v H R := w_set (j := 1) O rfl h k
theorem w_set2 {q q' : Addr × HO} {R : Hp → Prop} (O : Own F0 H0 F H (q :: q' :: (a, .lst xs) :: L) C) (k : ∀ H', Own F0 H0 F H' (q :: q' :: (a, .lst (xs.set i.toNat v)) :: L) C → R H') (h : 0 ≤ i ∧ i < xs.length) : rSetL (.ref a) (.int i) v H R := w_set (j := 2) O rfl h k
theorem w_getN {ns : List Int} (q : Q (.int (ns.getD i.toNat 0)) H) (hs : SqL K H a (ns.map V.int)) (h : 0 ≤ i ∧ i < ns.length) : rGetL K (.ref a) (.int i) H Q := by
  refine ⟨a, _, i, .int (ns.getD i.toNat 0), rfl, rfl, hs, h.1, ?_, q⟩
  rw [List.getElem?_map, List.getD_eq_getElem?_getD, List.getElem?_eq_getElem (by omega)]
  rfl
theorem w_rep (O : Own F0 H0 F H L C) (hs : H a = some (.lst xs)) (k : ∀ p H', Own F0 H0 F H' ((p, .lst (List.replicate i.toNat xs).flatten) :: L) C → Q (.ref p) H') (h : -(2 ^ 63) ≤ i ∧ i < 2 ^ 63) (hz : xs.length * i.toNat ≤ sizeLine) : rRep (.ref a) (.int i) H Q :=
  ⟨a, i, xs, rfl, rfl, hs, h.1, h.2, hz, fun p np => k p _ (O.alloc np _)⟩
theorem w_slL {lo hi : Option Int} (O : Own F0 H0 F H L C) (hs : SqL K H a xs) (k : ∀ p H', Own F0 H0 F H' ((p, .lst (cutV xs lo hi)) :: L) C → Q (.ref p) H') : rSlL K (.ref a) lo hi H Q := ⟨a, xs, rfl, hs, fun p np => k p _ (O.alloc np _)⟩
theorem w_cat (O : Own F0 H0 F H L C) (hs : H a = some (.lst xs)) (ht : H b = some (.lst ys)) (k : ∀ p H', Own F0 H0 F H' ((p, .lst (xs ++ ys)) :: L) C → Q (.ref p) H') (hz : xs.length + ys.length ≤ sizeLine) : rCat (.ref a) (.ref b) H Q := ⟨a, b, xs, ys, rfl, rfl, hs, ht, hz, fun p np => k p _ (O.alloc np _)⟩
theorem w_ext {j : Nat} (O : Own F0 H0 F H L C) (hi : L[j]? = some (a, .lst xs)) (hb : H b = some (.lst ys)) (k : ∀ H', Own F0 H0 F H' (L.set j (a, .lst (xs ++ ys))) C → Q .non H') (hz : xs.length + ys.length ≤ sizeLine) : rExtend (.ref a) [.ref b] H Q :=
  ⟨a, b, xs, ys, rfl, rfl, O.at_ j hi, hb, hz, k _ (O.set j hi _)⟩
theorem w_ext0 (O : Own F0 H0 F H ((a, .lst xs) :: L) C) (hb : H b = some (.lst ys)) (k : ∀ H', Own F0 H0 F H' ((a, .lst (xs ++ ys)) :: L) C → Q .non H') (hz : xs.length + ys.length ≤ sizeLine) : rExtend (.ref a) [.ref b] H Q := w_ext (j := 0) O rfl hb k hz
theorem w_ext1 {q : Addr × HO} (O : Own F0 H0 F H (q :: (a, .lst xs) :: L) C) (hb : H b = some (.lst ys)) (k : ∀ H', Own F0 H0 F H' (q :: (a, .lst (xs ++ ys)) :: L) C → Q .non H') (hz : xs.length + ys.length ≤ sizeLine) : rExtend (.ref a) [.ref b] H Q := w_ext (j := 1) O rfl hb k hz
theorem w_rev {j : Nat} (O : Own F0 H0 F H L C) (hi : L[j]? = some (a, .lst xs)) (k : ∀ H', Own F0 H0 F H' (L.set j (a, .lst xs.reverse)) C → Q .non H') : rReverse (.ref a) [] H Q := ⟨a, xs, rfl, rfl, O.at_ j hi, k _ (O.set j hi _)⟩
theorem w_rev0 (O : Own F0 H0 F H ((a, .lst xs) :: L) C) (k : ∀ H', Own F0 H0 F H' ((a, .lst xs.reverse) :: L) C → Q .non H') : rReverse (.ref a) [] H Q := w_rev (j := 0) O rfl k
theorem w_join {l : List Nat} {ls : List (List Nat)} (q : Q (vS (joinN l ls)) H) (hs : SqL K H a (ls.map vS)) (hz : (ls.map List.length).sum + ls.length * l.length ≤ 16777216) : rJoin K (vS l) [.ref a] H Q := ⟨l, a, ls, rfl, rfl, .inl hs, hz, q⟩
theorem q_starts {l m : List Nat} : rStarts (vS l) [vS m] H Q = Q (.bl (m.isPrefixOf l)) H := propext ⟨fun ⟨l', m', e1, e2, q⟩ => by
  have e1 := S_inj.mp (V.str.inj e1)
  subst e1
  have e2 := S_inj.mp (V.str.inj (List.cons.inj e2).1)
  subst e2
  exact q, fun q => ⟨l, m, rfl, rfl, q⟩⟩
theorem w_idxS {l : List Nat} {c : Nat} (q : Q (.int (l.idxOf c : Nat)) H) (h : c ∈ l) : rIdxS (vS l) [vS [c]] H Q := ⟨l, c, rfl, rfl, h, q⟩
/-! text == text by their signs -/
theorem decide_S {l m : List Nat} : decide (S l = S m) = decide (l = m) := decide_eq_decide.mpr S_inj
/-! a list of lists of integers, each frozen -/
def cNs (ts : List Addr) (nss : List (List Int)) : Ck := ⟨fun F => ts.length = nss.length ∧ ∀ (j : Nat) t ns, ts[j]? = some t → nss[j]? = some ns → F t = some (.lst (ns.map V.int)), fun s h => ⟨h.1, fun j t ns e1 e2 => s _ _ (h.2 j t ns e1 e2)⟩⟩
theorem cNs_nil {F : Hp} : (cNs [] []).p F := ⟨rfl, fun j t ns e => by simp at e⟩
theorem cNs_add {F : Hp} {ts : List Addr} {nss : List (List Int)} {t : Addr} {ns : List Int} (h : (cNs ts nss).p F) (e : F t = some (.lst (ns.map V.int))) : (cNs (ts ++ [t]) (nss ++ [ns])).p F := by
  refine ⟨by rw [List.length_append, List.length_append, h.1]; rfl, fun j u ms hu hm => ?_⟩
  by_cases hj : j < ts.length
  · rw [List.getElem?_append_left hj] at hu
    rw [List.getElem?_append_left (by have := h.1; omega)] at hm
    exact h.2 j u ms hu hm
  · rw [List.getElem?_append_right (by omega)] at hu
    rw [List.getElem?_append_right (by have := h.1; omega), ← h.1] at hm
    by_cases h0 : j - ts.length = 0
    · rw [h0] at hu hm
      have e1 : t = u := Option.some.inj hu
      have e2 : ns = ms := Option.some.inj hm
      rw [← e1, ← e2]
      exact e
    · rw [List.getElem?_eq_none (by simp; omega)] at hu
      cases hu
end
end Fw

namespace Fw
open PySem PySem.Spec PyProof.Rows L2
/-! ### promises whose arguments are told of the heap at the entry -/
def SpV (R : V → Prop) (H : Hp) (Q : VK) : Prop := ∀ v H', Same H H' → R v → Q v H'
def SpN (R : V → List (Addr × HO) → Hp → Prop) (H : Hp) (Q : VK) : Prop := Spec (fun _ => True) R H Q
section
variable {F0 H0 F H F' H' : Hp} {L : List (Addr × HO)} {C : List Ck} {R : V → Prop} {Rn : V → List (Addr × HO) → Hp → Prop} {Q : VK} {v : V} {K : PySem.W.Frag} {a : Addr} {xs : List V}
abbrev noF : Hp := fun _ => none
theorem Own.start0 : Own noF H noF H [] [] := ⟨Same.refl _, fun _ _ h => (nomatch h), Same.refl _, fun _ _ h => .inl h, fun _ h => (nomatch h), List.nodup_nil, trivial⟩
theorem Own.callS (O : Own F0 H0 F H L C) (k : ∀ v H', R v → Own F0 H0 F H' L C → Q v H') : SpV R H Q := fun _ _ s r => k _ _ r (O.more s)
theorem Own.retS (O : Own F0 H F' H' L C) (q : SpV R H Q) (r : R v) : Q v H' := q _ _ O.hh r
theorem Own.callN (O : Own F0 H0 F H L C) (k : ∀ v L' F' H', Rn v L' F' → Own F0 H0 F' H' (L' ++ L) C → Q v H') : SpN Rn H Q := O.call trivial k
theorem Own.ofH (O : Own F0 H0 F H L C) (h : SqL K H0 a xs) : SqL K H a xs := O.hh.seq h
theorem Own.ofHT (O : Own F0 H0 F H L C) (h : SqT K H0 a xs) : SqT K H a xs := Same.sqt O.hh h
theorem Own.ofHO {o : HO} (O : Own F0 H0 F H L C) (h : H0 a = some o) : H a = some o := O.hh _ _ h
end
end Fw

namespace Fw
open PySem PySem.Spec PyProof.Rows L2
/-! ### dicts of the module -/
theorem ixD_ {X : Cx} {K : PySem.W.Frag} {w : World} (e : X.K = K := by rfl) (e2 : X.w = w := by rfl) : IxR X (rIxD K w) := by
  subst e
  subst e2
  exact ix_kdict
theorem kd_of {K : PySem.W.Frag} {w : World} {a : Addr} {kvs : List (Str × He.Dv)} (D : ∃ es n, KDict K w a es n) (h : He.valsB K a kvs = true) : ∀ q ∈ kvs, KDct K w a q.1 (q.2.v K) := fun q hq => by
  obtain ⟨es, n, d⟩ := D
  obtain ⟨u, h1, h2⟩ := He.valsB_ok h hq
  exact ⟨es, n, u, d.at_, d.lit, h1, h2⟩
theorem w_kd {K : PySem.W.Frag} {w : World} {a : Addr} {z : Str} {v : V} {H : Hp} {Q : VK} (h : KDct K w a z v) (q : Q v H) : rIxD K w (.ref a) (.str z) H Q := ⟨a, z, v, rfl, rfl, h, q⟩
end Fw

namespace Fw
open PySem PySem.Spec PyProof.Rows L2
section
variable {H F0 H0 F : Hp} {L : List (Addr × HO)} {C : List Ck} {te : TE} {Q : VK} {g : TG} {K : PySem.W.Frag} {σ : L2.St} {a : Addr} {xs : List V}
/-- [te for x in reversed(xs)] -/
theorem w_lcRev {tt : TT} {vs : List Nat} (O : Own F0 H0 F H L C) (hx : SqL K H a xs) (hl : ∀ {F' H' acc D}, Own F0 H0 F' H' ((D, .lst acc) :: L) C → Same F F' → SqL K H' a xs) (Iv : Nat → List V → Hp → Prop) (h0 : Iv 0 [] F)
    (turn : ∀ (i : Nat) x acc D F' H', i < xs.length → xs[xs.length - 1 - i]? = some x → Iv i acc F' → Same F F' → Own F0 H0 F' H' ((D, .lst acc) :: L) C → g x (wipe σ vs) H' fun σ2 H2 => wipe σ2 vs = wipe σ vs ∧ tt σ2 H2 fun b H3 =>
      if b = true then te σ2 H3 (Put D (Btw F0 H0 F L C D (Iv (i + 1)))) else Btw F0 H0 F L C D (Iv (i + 1)) H3)
    (done : ∀ acc D F' H', Iv xs.length acc F' → Same F F' → Own F0 H0 F' H' ((D, .lst acc) :: L) C → Q (.ref D) H') :
    FoR K [.ref a] H fun J H1 => LcEnd J g tt te vs σ H1 Q := by
  refine ⟨a, xs, rfl, hx, lc_any xs.length (fun i x => xs[xs.length - 1 - i]? = some x) O Iv h0 (fun i H' F' acc D hi O' sF => ?_) (fun H' F' acc D O' sF => Nat.le_refl _) (fun i x H' H2 F' acc D hi O' sF hy => ⟨hy.1, hy.2 xs (hl O' sF)⟩) (fun i x acc D F' H' hi hY => turn i x acc D F' H' hi hY) done⟩
  exact ⟨hi, xs, _, hl O' sF, List.getElem?_eq_getElem (by omega)⟩
theorem q_dec1 {c d : Nat} : decide ([c] = [d]) = decide (c = d) := decide_eq_decide.mpr ⟨fun h => (List.cons.inj h).1, fun h => by rw [h]⟩
end
end Fw

namespace Fw
open PySem PySem.Spec PyProof.Rows L2
/-! ### guards of the tactic -/
theorem h_NewL {xs : List V} {H : Hp} {Q : VK} (h : NewL xs H Q) : NewL xs H Q := h
theorem h_NewT {xs : List V} {H : Hp} {Q : VK} (h : NewT xs H Q) : NewT xs H Q := h
theorem h_Ty {K : PySem.W.Frag} {T : String} {x : V} {H : Hp} {P : Prop} (h : tyV K T x H ∧ P) : tyV K T x H ∧ P := h
theorem h_App {x : V} {vs : List V} {H : Hp} {Q : VK} (h : rAppend x vs H Q) : rAppend x vs H Q := h
theorem h_Len {K : PySem.W.Frag} {vs : List V} {H : Hp} {Q : VK} (h : rLenQ K vs H Q) : rLenQ K vs H Q := h
theorem h_Ix {K : PySem.W.Frag} {x y : V} {H : Hp} {Q : VK} (h : rIxL K x y H Q) : rIxL K x y H Q := h
theorem h_IxS {x y : V} {H : Hp} {Q : VK} (h : rIxSg x y H Q) : rIxSg x y H Q := h
theorem h_MulS {x y : V} {H : Hp} {Q : VK} (h : rMulS x y H Q) : rMulS x y H Q := h
theorem h_Isi {K : PySem.W.Frag} {vs : List V} {H : Hp} {Q : VK} (h : rIsi K vs H Q) : rIsi K vs H Q := h
theorem h_Set {o i v : V} {H : Hp} {R : Hp → Prop} (h : rSetL o i v H R) : rSetL o i v H R := h
theorem h_Get {K : PySem.W.Frag} {x y : V} {H : Hp} {Q : VK} (h : rGetL K x y H Q) : rGetL K x y H Q := h
theorem h_ListQ {K : PySem.W.Frag} {vs : List V} {H : Hp} {Q : VK} (h : rListQ K vs H Q) : rListQ K vs H Q := h
theorem h_ListS {vs : List V} {H : Hp} {Q : VK} (h : rListS vs H Q) : rListS vs H Q := h
theorem h_Rep {x y : V} {H : Hp} {Q : VK} (h : rRep x y H Q) : rRep x y H Q := h
theorem h_SlL {K : PySem.W.Frag} {x : V} {lo hi : Option Int} {H : Hp} {Q : VK} (h : rSlL K x lo hi H Q) : rSlL K x lo hi H Q := h
theorem h_Cat {x y : V} {H : Hp} {Q : VK} (h : rCat x y H Q) : rCat x y H Q := h
theorem h_Ext {x : V} {vs : List V} {H : Hp} {Q : VK} (h : rExtend x vs H Q) : rExtend x vs H Q := h
theorem h_Rev {x : V} {vs : List V} {H : Hp} {Q : VK} (h : rReverse x vs H Q) : rReverse x vs H Q := h
theorem h_Idx {x : V} {vs : List V} {H : Hp} {Q : VK} (h : rIdxS x vs H Q) : rIdxS x vs H Q := h
theorem h_Gtup {K : PySem.W.Frag} {n : Nat} {tg : TGs} {v : V} {σ : L2.St} {H : Hp} {R : L2.St → Hp → Prop} (h : gTup K n tg v σ H R) : gTup K n tg v σ H R := h
theorem h_EqD {K : PySem.W.Frag} {x y : V} {H : Hp} {Q : VK} (h : rEqD K x y H Q) : rEqD K x y H Q := h
theorem h_NeD {K : PySem.W.Frag} {x y : V} {H : Hp} {Q : VK} (h : rNeD K x y H Q) : rNeD K x y H Q := h
section
variable {H F0 H0 F : Hp} {L : List (Addr × HO)} {C : List Ck} {Q : VK} {v : V} {a : Addr} {xs : List V} {i : Int} {q1 q2 q3 q4 : Addr × HO}
theorem w_app3 (O : Own F0 H0 F H (q1 :: q2 :: q3 :: (a, .lst xs) :: L) C) (k : ∀ H', Own F0 H0 F H' (q1 :: q2 :: q3 :: (a, .lst (xs ++ [v])) :: L) C → Q .non H') (hz : xs.length < sizeLine) : rAppend (.ref a) [v] H Q := w_app (j := 3) O rfl k hz
theorem w_app4 (O : Own F0 H0 F H (q1 :: q2 :: q3 :: q4 :: (a, .lst xs) :: L) C) (k : ∀ H', Own F0 H0 F H' (q1 :: q2 :: q3 :: q4 :: (a, .lst (xs ++ [v])) :: L) C → Q .non H') (hz : xs.length < sizeLine) : rAppend (.ref a) [v] H Q := w_app (j := 4) O rfl k hz
theorem w_set3 {R : Hp → Prop} (O : Own F0 H0 F H (q1 :: q2 :: q3 :: (a, .lst xs) :: L) C) (k : ∀ H', Own F0 H0 F H' (q1 :: q2 :: q3 :: (a, .lst (xs.set i.toNat v)) :: L) C → R H') (h : 0 ≤ i ∧ i < xs.length) : rSetL (.ref a) (.int i) v H R := w_set (j := 3) O rfl h k
end
end Fw

namespace Fw
open PySem PySem.Spec PyProof.Rows L2
/-! ### equal data; numbers as texts; split -/
section
variable {K : PySem.W.Frag} {H : Hp} {Q : VK} {x y : V} {d : PyData}
theorem w_eqD1 (ha : Dp K H x d) (hb : Dp K H y d) (hs : SeqAt.shaped d = true) (q : Q (.bl true) H) : rEqD K x y H Q :=
  ⟨d, d, ha, hb, hs, hs, by rw [SeqAt.eqv_refl d (SeqAt.canLay_of_shaped hs)]; exact q⟩
theorem w_neD1 (ha : Dp K H x d) (hb : Dp K H y d) (hs : SeqAt.shaped d = true) (q : Q (.bl false) H) : rNeD K x y H Q :=
  ⟨d, d, ha, hb, hs, hs, by rw [SeqAt.eqv_refl d (SeqAt.canLay_of_shaped hs)]; exact q⟩
/-- data of a small depth, its texts well made -/
structure Shp (n : Nat) (d : PyData) : Prop where
  lay : d.canLay0 = true
  dep : d.depth ≤ n
theorem Shp.shaped {n : Nat} (h : Shp n d) (hn : n ≤ 64) : SeqAt.shaped d = true := Bool.and_eq_true_iff.mpr ⟨h.lay, decide_eq_true (Nat.le_trans h.dep hn)⟩
theorem shp_int (i : Int) : Shp 0 (.int i) := ⟨rfl, Nat.le_refl _⟩
theorem shp_bool (b : Bool) : Shp 0 (.bool b) := ⟨rfl, Nat.le_refl _⟩
theorem shp_non : Shp 0 .none := ⟨rfl, Nat.le_refl _⟩
theorem shp_str {l : List Nat} (h : ∀ c ∈ l, c < 1114112) : Shp 0 (.str (S l)) := by
  refine ⟨?_, Nat.le_refl _⟩
  show PyData.strOk (S l) = true
  unfold PyData.strOk S
  rw [Array.all_eq_true_iff_forall_mem]
  intro c hc
  exact decide_eq_true (h c (by simpa using hc))
theorem shp_all {n : Nat} : ∀ {ds : List PyData}, (∀ d ∈ ds, Shp n d) → PyData.canLayAll0 ds = true ∧ PyData.depthAll ds ≤ n
  | [], _ => ⟨rfl, Nat.zero_le _⟩
  | d :: ds, h => by
    obtain ⟨h1, h2⟩ := shp_all (ds := ds) fun e he => h e (List.mem_cons_of_mem _ he)
    have h3 := h d List.mem_cons_self
    refine ⟨Bool.and_eq_true_iff.mpr ⟨h3.lay, h1⟩, ?_⟩
    show max (PyData.depth d) (PyData.depthAll ds) ≤ n
    have := h3.dep
    omega
theorem shp_list {n : Nat} {ds : List PyData} (h : ∀ d ∈ ds, Shp n d) : Shp (n + 1) (.list ds) := ⟨(shp_all h).1, Nat.succ_le_succ (shp_all h).2⟩
theorem shp_tuple {n : Nat} {ds : List PyData} (h : ∀ d ∈ ds, Shp n d) : Shp (n + 1) (.tuple ds) := ⟨(shp_all h).1, Nat.succ_le_succ (shp_all h).2⟩
theorem dpAll_strs : ∀ ls : List (List Nat), DpAll K H (ls.map vS) (ls.map fun l => PyData.str (S l))
  | [] => .nil
  | l :: r => .cons (.str (S l)) (dpAll_strs r)
theorem dpAll_map {α : Type} {f : α → V} {g : α → PyData} : ∀ {as : List α}, (∀ a ∈ as, Dp K H (f a) (g a)) → DpAll K H (as.map f) (as.map g)
  | [], _ => .nil
  | a :: as, h => .cons (h a List.mem_cons_self) (dpAll_map fun b hb => h b (List.mem_cons_of_mem _ hb))
end
section
variable {X : Cx}
/-- a part of a record: a number from 0 on, or a text -/
inductive Fld where
  | n (k : Nat)
  | s (l : List Nat)
def Fld.v : Fld → V
  | .n k => .int (k : Nat)
  | .s l => vS l
def Fld.t : Fld → List Nat
  | .n k => TL.numL k
  | .s l => l
def Fld.d : Fld → PyData
  | .n k => .int (k : Nat)
  | .s l => .str (S l)
theorem num_S (k : Nat) : Str.ofString (toString ((k : Nat) : Int)) = S (TL.numL k) := by
  rw [S_of (Str.ofString (toString ((k : Nat) : Int)))]
  rw [S_inj]
  exact TL.tl_num k
def rStr : List V → Hp → VK → Prop := fun vs H Q => ∃ f : Fld, vs = [f.v] ∧ (∀ k, f = .n k → k < 10 ^ 20) ∧ Q (vS f.t) H
theorem k_str : CallR X (.type "str") rStr := by
  intro pins s σ H vs us Q I r h
  obtain ⟨f, rfl, hs, q⟩ := h
  cases f with
  | n k =>
    refine call_str_int pins s σ H _ us Q I r ⟨(k : Int), rfl, ?_, ?_⟩
    · have h1 := hs k rfl
      have h2 : (k : Int).natAbs = k := rfl
      rw [h2]
      by_cases h0 : k = 0
      · subst h0
        decide
      · exact Nat.lt_of_lt_of_le ((Nat.log2_lt h0).mpr (Nat.lt_of_lt_of_le h1 (by decide : 10 ^ 20 ≤ 2 ^ 67))) (by decide)
    · show Q (.str (Str.ofString (toString ((k : Nat) : Int)))) H
      rw [num_S]
      exact q
  | s l => exact SkE.call_str_str pins s σ H _ us Q I r ⟨S l, rfl, q⟩
def rIntS : List V → Hp → VK → Prop := fun vs H Q => ∃ (l : List Nat) (n : Int), vs = [vS l] ∧ intText? (S l) = some n ∧ l.length ≤ 640 ∧ Q (.int n) H
theorem k_intS : CallR X (.type "int") rIntS := fun pins s σ H vs us Q I r ⟨l, n, e, h1, h2, q⟩ => call_int_str pins s σ H vs us Q I r ⟨S l, n, e, h1, by rw [S_len]; exact h2, q⟩
theorem int_numL {k : Nat} (h : k < 10 ^ 20) : intText? (S (TL.numL k)) = some (k : Int) ∧ (TL.numL k).length ≤ 640 := by
  have hl := TL.numL_len (k := 20) (by decide) h
  have e := TL.int_num (n := k) (by omega)
  rw [num_S] at e
  exact ⟨e, by omega⟩
/-- text.split(sign) -/
def rSplit : V → List V → Hp → VK → Prop := fun x xs H Q => ∃ (c : Nat) (ls : List (List Nat)), x = vS (joinN [c] ls) ∧ xs = [vS [c]] ∧ c < 256 ∧ ls ≠ [] ∧ (∀ p ∈ ls, c ∉ p) ∧ (joinN [c] ls).length + 2 ≤ sizeLine ∧ NewL (ls.map vS) H Q
theorem mt_splitN : MtR X "str.split" rSplit := by
  intro pins s σ H x xs v us Q I rx rs h
  obtain ⟨c, ls, e1, e2, hc, hne, hp, hz, n⟩ := h
  refine mt_split pins s σ H x xs v us Q I rx rs ⟨S (joinN [c] ls), S [c], e1, e2, rfl, by rw [S_len]; exact hz, ?_⟩
  have e3 : Txt.split (S (joinN [c] ls)) (S [c]) = ls.map S := by
    rw [← txt_join]
    refine TL.split_join (s := c) (S := []) rfl ?_ (fun e => hne (List.map_eq_nil_iff.mp e)) fun p h => ?_
    · show (#[c] : Array Nat).all (· < 256) = true
      simp [hc]
    · obtain ⟨z, hz, rfl⟩ := List.mem_map.mp h
      show c ∉ (S z).cps.toList
      rw [S_list]
      exact hp z hz
  rw [e3]
  intro p np
  rw [List.map_map]
  exact n.2 p np
theorem pe_splitL {o e : Expr} {apos pos : Pos} {to te : TE} (ho : PE X o to) (he : PE X e te) (hs : starEach [e] X.env = [(false, eval e X.env)] := by rfl) (hbase : attributeBase o "split" X.env (eval o X.env) = eval o X.env := by rfl) (hline : (apos.endLine == pos.line) = true := by rfl) :
    PE X (.Call (.Attribute o "split" apos) [e] [] pos) (tM1 rSplit to te) := pe_m1 PySem.F.slot_str_split PySem.F.type_str_split mt_splitN ho he hs hbase hline
end
section
variable {H F0 H0 F : Hp} {L : List (Addr × HO)} {C : List Ck} {Q : VK} {K : PySem.W.Frag} {a : Addr} {xs : List V}
theorem w_str {f : Fld} (q : Q (vS f.t) H) (hs : ∀ k, f = .n k → k < 10 ^ 20) : rStr [f.v] H Q := ⟨f, rfl, hs, q⟩
theorem w_strN {k : Nat} (q : Q (vS (TL.numL k)) H) (hs : k < 10 ^ 20) : rStr [.int (k : Nat)] H Q := ⟨.n k, rfl, fun _ e => by cases e; exact hs, q⟩
theorem w_intS {l : List Nat} {n : Int} (q : Q (.int n) H) (h : intText? (S l) = some n ∧ l.length ≤ 640) : rIntS [vS l] H Q := ⟨l, n, rfl, h.1, h.2, q⟩
theorem w_split {c : Nat} {ls : List (List Nat)} (O : Own F0 H0 F H L C) (hc : c < 256) (hne : ls ≠ []) (hp : ∀ p ∈ ls, c ∉ p) (hz : (joinN [c] ls).length + 2 ≤ sizeLine) (k : ∀ p H', Own F0 H0 F H' ((p, .lst (ls.map vS)) :: L) C → Q (.ref p) H') (hl : ls.length ≤ sizeLine) : rSplit (vS (joinN [c] ls)) [vS [c]] H Q :=
  ⟨c, ls, rfl, rfl, hc, hne, hp, hz, w_newL O k (by rw [List.length_map]; exact hl)⟩
theorem w_slT {lo hi : Option Int} (O : Own F0 H0 F H L C) (hs : SqT K H a xs) (h : ¬ (HT.sIx xs.length 0 lo = 0 ∧ HT.sIx xs.length xs.length hi = xs.length)) (k : ∀ p F' H', Own F0 H0 F' H' L (cO p (.tup (cutV xs lo hi)) :: C) → Q (.ref p) H') : rSlT K (.ref a) lo hi H Q := ⟨a, xs, rfl, hs, h, fun p np => k p _ _ (O.ice np _)⟩
theorem w_all {bs : List Bool} (hs : SqL K H a (bs.map V.bl)) (q : Q (.bl (bs.all id)) H) : rAll K [.ref a] H Q := ⟨a, bs, rfl, hs, q⟩
theorem w_any {bs : List Bool} (hs : SqL K H a (bs.map V.bl)) (q : Q (.bl (bs.any id)) H) : rAny K [.ref a] H Q := ⟨a, bs, rfl, hs, q⟩
theorem w_sum {ns : List Int} (hs : SqL K H a (ns.map V.int)) (q : Q (.int ns.sum) H) : rSum K [.ref a] H Q := ⟨a, ns, rfl, hs, q⟩
end
end Fw

namespace Fw
open PySem PySem.Spec PyProof.Rows L2
/-! ### signs in texts, least and greatest of two, tests of truth -/
section
variable {X : Cx} {K : PySem.W.Frag}
def rInSg : R2 := fun x y H Q => ∃ (c : Nat) (l : List Nat), x = vS [c] ∧ y = vS l ∧ Q (.bl (decide (c ∈ l))) H
def rNotInSg : R2 := fun x y H Q => ∃ (c : Nat) (l : List Nat), x = vS [c] ∧ y = vS l ∧ Q (.bl (!decide (c ∈ l))) H
theorem k_inS : OpR X (compareOp .In) rInSg := fun pins s σ H x y u v Q I rx ry ⟨c, l, e1, e2, q⟩ => op_in_sign pins s σ H x y u v Q I rx ry ⟨c, S l, e1, e2, by rw [S_list]; exact q⟩
theorem k_notInS : OpR X (compareOp .NotIn) rNotInSg := fun pins s σ H x y u v Q I rx ry ⟨c, l, e1, e2, q⟩ => op_notIn_sign pins s σ H x y u v Q I rx ry ⟨c, S l, e1, e2, by rw [S_list]; exact q⟩
def rMin2' : List V → Hp → VK → Prop := fun xs H Q => ∃ i j : Int, xs = [.int i, .int j] ∧ Q (.int (min i j)) H
def rMax2' : List V → Hp → VK → Prop := fun xs H Q => ∃ i j : Int, xs = [.int i, .int j] ∧ Q (.int (max i j)) H
theorem min2_ (hc : X.calm = true) : CallR X (.builtin "min") rMin2' := by
  intro pins s σ H vs us Q I r h
  obtain ⟨i, j, e, q⟩ := h
  refine call_min2 hc pins s σ H vs us Q I r ⟨i, j, e, ?_⟩
  have e2 : (if j < i then j else i) = min i j := by split <;> omega
  rw [e2]
  exact q
theorem max2_ (hc : X.calm = true) : CallR X (.builtin "max") rMax2' := by
  intro pins s σ H vs us Q I r h
  obtain ⟨i, j, e, q⟩ := h
  refine call_max2 hc pins s σ H vs us Q I r ⟨i, j, e, ?_⟩
  have e2 : (if j > i then j else i) = max i j := by split <;> omega
  rw [e2]
  exact q
end
section
variable {H F0 H0 F : Hp} {L : List (Addr × HO)} {C : List Ck} {Q : VK} {K : PySem.W.Frag} {a : Addr} {xs : List V}
theorem q_inSg {c : Nat} {l : List Nat} : rInSg (vS [c]) (vS l) H Q = Q (.bl (decide (c ∈ l))) H := propext ⟨fun ⟨c', l', e1, e2, q⟩ => by
  have e1 := List.cons.inj (S_inj.mp (V.str.inj e1))
  have e2 := S_inj.mp (V.str.inj e2)
  rw [e1.1, e2]
  exact q, fun q => ⟨c, l, rfl, rfl, q⟩⟩
theorem q_notInSg {c : Nat} {l : List Nat} : rNotInSg (vS [c]) (vS l) H Q = Q (.bl (!decide (c ∈ l))) H := propext ⟨fun ⟨c', l', e1, e2, q⟩ => by
  have e1 := List.cons.inj (S_inj.mp (V.str.inj e1))
  have e2 := S_inj.mp (V.str.inj e2)
  rw [e1.1, e2]
  exact q, fun q => ⟨c, l, rfl, rfl, q⟩⟩
theorem q_min2 {i j : Int} : rMin2' [.int i, .int j] H Q = Q (.int (min i j)) H := propext ⟨fun ⟨_, _, e, q⟩ => by cases e; exact q, fun q => ⟨i, j, rfl, q⟩⟩
theorem q_max2 {i j : Int} : rMax2' [.int i, .int j] H Q = Q (.int (max i j)) H := propext ⟨fun ⟨_, _, e, q⟩ => by cases e; exact q, fun q => ⟨i, j, rfl, q⟩⟩
theorem w_ixStrs {ls : List (List Nat)} {i : Int} (q : Q (vS (ls.getD i.toNat [])) H) (hs : SqL K H a (ls.map vS)) (h : 0 ≤ i ∧ i < ls.length) : rIxL K (.ref a) (.int i) H Q := by
  refine w_ixL q hs ?_
  rw [atI_get (xs := ls.map vS) (d := vS []) (i := i) (by rw [List.length_map]; exact h)]
  congr 1
  rw [List.getD_eq_getElem?_getD, List.getD_eq_getElem?_getD, List.getElem?_map]
  cases ls[i.toNat]? <;> rfl
theorem Own.perm {L' : List (Addr × HO)} (O : Own F0 H0 F H L C) (h : L'.Perm L) : Own F0 H0 F H L' C := ⟨O.f0, O.fh, O.hh, O.new, fun q hq => O.own q (h.subset hq), (h.map Prod.fst).nodup_iff.mpr O.nd, O.cs⟩
theorem Own.swap {q q' : Addr × HO} (O : Own F0 H0 F H (q :: q' :: L) C) : Own F0 H0 F H (q' :: q :: L) C := O.perm (List.Perm.swap _ _ _)
/-- while, its turn told as it stands -/
theorem w_wh {tb : TS} {nx bk ct : L2.St → Hp → Prop} {rt : VK} {σ : L2.St} (Pv : Nat → L2.St → Hp → Prop) (m0 : Nat) (h0 : Pv m0 σ H) {c : TT}
    (hs : ∀ m σ' H', Pv m σ' H' → c σ' H' fun b H1 => if b = true then ∃ N : L2.St → Hp → Prop, (∀ σ2 H2, N σ2 H2 → ∃ m', m' < m ∧ Pv m' σ2 H2) ∧ tb ⟨N, rt, nx, N⟩ σ' H1 else nx σ' H1) : tWhile c tb ⟨nx, rt, bk, ct⟩ σ H := ⟨Pv, ⟨m0, h0⟩, fun m σ' H' p => hs m σ' H' p⟩
/-- its body -/
theorem w_bd {tb : TS} {nx : L2.St → Hp → Prop} {rt : VK} {σ : L2.St} {Pn : L2.St → Hp → Prop} (h : tb ⟨Pn, rt, nx, Pn⟩ σ H) : ∃ N : L2.St → Hp → Prop, (∀ σ2 H2, N σ2 H2 → Pn σ2 H2) ∧ tb ⟨N, rt, nx, N⟩ σ H := ⟨Pn, fun _ _ z => z, h⟩
/-- the frozen part has grown from F -/
def cF (F : Hp) : Ck := ⟨fun F' => Same F F', fun s h => h.trans s⟩
/-- a list of texts, against itself -/
theorem dp_strs {ls : List (List Nat)} (h : SqL K H a (ls.map vS)) : Dp K H (.ref a) (.list (ls.map fun l => PyData.str (S l))) := .lst h (dpAll_strs ls)
theorem q_wipe3 {σ : L2.St} {s s' s'' : Str} {n n' n'' : Nat} : wipe σ (List.map (fun x => x.snd) [(s, n), (s', n'), (s'', n'')]) = ((σ.set n'' none).set n' none).set n none := rfl
theorem q_wipe4 {σ : L2.St} {s s' s'' s3 : Str} {n n' n'' n3 : Nat} : wipe σ (List.map (fun x => x.snd) [(s, n), (s', n'), (s'', n''), (s3, n3)]) = (((σ.set n3 none).set n'' none).set n' none).set n none := rfl
theorem w_lcR3 {g : TG} {te : TE} {σ : L2.St} {tt : TT} {vs : List Nat} {b e c : Int} {n : Nat} (O : Own F0 H0 F H L C) (hn : RgC b e c n) (Iv : Nat → List V → Hp → Prop) (h0 : Iv 0 [] F)
    (turn : ∀ (i : Nat) acc D F' H', i < n → Iv i acc F' → Same F F' → Own F0 H0 F' H' ((D, .lst acc) :: L) C → g (.int (b + (i : Nat) * c)) (wipe σ vs) H' fun σ2 H2 => wipe σ2 vs = wipe σ vs ∧ tt σ2 H2 fun b H3 =>
      if b = true then te σ2 H3 (Put D (Btw F0 H0 F L C D (Iv (i + 1)))) else Btw F0 H0 F L C D (Iv (i + 1)) H3)
    (done : ∀ acc D F' H', Iv n acc F' → Same F F' → Own F0 H0 F' H' ((D, .lst acc) :: L) C → Q (.ref D) H') :
    Rg3 [.int b, .int e, .int c] H fun J H1 => LcEnd J g tt te vs σ H1 Q := by
  refine ⟨b, e, c, n, rfl, hn, lc_any n (fun i x => x = .int (b + (i : Nat) * c)) O Iv h0 (fun i H' F' acc D hi O' sF => hi) (fun H' F' acc D O' sF => Nat.le_refl _) (fun i x H' H2 F' acc D hi O' sF hy => hy) (fun i x acc D F' H' hi hY => ?_) done⟩
  intro h1 h2 h3
  rw [show x = .int (b + (i : Nat) * c) from hY]
  exact turn i acc D F' H' hi h1 h2 h3
theorem rgc_pos {n c : Nat} (hc : 0 < c ∧ c < 1073741824) (hn : n < 2 ^ 61) : RgC 0 (n : Int) (c : Int) ((n + c - 1) / c) := by
  have hs : Builtin.Range.rangeSize 0 (n : Int) (c : Int) = (((n + c - 1) / c : Nat) : Int) := by
    unfold Builtin.Range.rangeSize
    rw [if_pos (by omega)]
    by_cases h : n = 0
    · subst h
      rw [if_neg (by omega), Nat.div_eq_of_lt (by omega)]
      rfl
    · rw [if_pos (by omega), show n + c - 1 = (n - 1) + c by omega, Nat.add_div_right _ hc.1]
      have e : (n : Int) - 0 - 1 = ((n - 1 : Nat) : Int) := by omega
      rw [e]
      rfl
  refine ⟨by omega, by omega, ?_, hs⟩
  have hle : (n + c - 1) / c ≤ n := by
    rw [Nat.div_le_iff_le_mul hc.1]
    have : n ≤ n * c := Nat.le_mul_of_pos_right _ hc.1
    omega
  have hle2 : (n + c - 1) / c * c ≤ n + c - 1 := Nat.div_mul_le_self _ _
  have hle3 : (((n + c - 1) / c : Nat) : Int) * (c : Int) ≤ (n : Int) + c - 1 := by
    rw [← Int.natCast_mul]
    omega
  unfold Builtin.Range.small
  rw [hs]
  simp only [Builtin.Range.rangeFitsLong, Bool.and_eq_true, Bool.or_eq_true, decide_eq_true_eq, beq_iff_eq]
  generalize (n + c - 1) / c = d at hle ⊢
  refine ⟨⟨⟨⟨⟨by omega, by omega⟩, by omega, by omega⟩, by omega, by omega⟩, by omega, by omega⟩, .inr ?_⟩
  rw [if_pos (by omega), Bool.and_eq_true, decide_eq_true_eq, decide_eq_true_eq]
  omega
theorem sum_ones : ∀ {ls : List (List Nat)}, (∀ l ∈ ls, l.length = 1) → (ls.map List.length).sum = ls.length
  | [], _ => rfl
  | l :: ls, h => by
    rw [List.map_cons, List.sum_cons, h l List.mem_cons_self, sum_ones fun x hx => h x (List.mem_cons_of_mem _ hx), List.length_cons]
    omega
theorem joinN_ones : ∀ l : List Nat, joinN [] (l.map fun c => [c]) = l
  | [] => rfl
  | [c] => rfl
  | c :: d :: l => by
    show [c] ++ [] ++ joinN [] ((d :: l).map fun c => [c]) = _
    rw [joinN_ones (d :: l)]
    rfl
end
end Fw

namespace Fw
open PySem PySem.Spec PyProof.Rows L2
/-! ### comprehensions that make objects of their own -/
section
variable {F0 H0 F H : Hp} {L : List (Addr × HO)} {C : List Ck} {Q : VK} {K : PySem.W.Frag} {g : TG} {te : TE} {σ : L2.St} {tt : TT} {vs : List Nat} {y : V}
/-- what holds between two turns: M are the objects made so far -/
def BtwG (F0 H0 F : Hp) (L : List (Addr × HO)) (C : List Ck) (D : Addr) (Iv : List V → List (Addr × HO) → Hp → Prop) (H' : Hp) : Prop := ∃ F' acc M, Own F0 H0 F' H' ((D, .lst acc) :: (M ++ L)) C ∧ Same F F' ∧ Iv acc M F'
theorem w_putG {Iv : List V → List (Addr × HO) → Hp → Prop} {D : Addr} {acc : List V} {M : List (Addr × HO)} {F1 : Hp} (O : Own F0 H0 F1 H ((D, .lst acc) :: (M ++ L)) C) (sF : Same F F1) (hI : Iv (acc ++ [y]) M F1) (hz : acc.length < sizeLine) : Put D (BtwG F0 H0 F L C D Iv) y H :=
  ⟨acc, O.at_ 0, hz, F1, _, M, O.set 0 rfl _, sF, hI⟩
theorem lc_anyG {J : It} (n : Nat) (Y : Nat → V → Prop) (O : Own F0 H0 F H L C) (Iv : Nat → List V → List (Addr × HO) → Hp → Prop) (h0 : Iv 0 [] [] F)
    (go : ∀ i H' F' acc M D, i < n → Own F0 H0 F' H' ((D, .lst acc) :: (M ++ L)) C → Same F F' → J.go i H') (stop : ∀ H' F' acc M D, Own F0 H0 F' H' ((D, .lst acc) :: (M ++ L)) C → Same F F' → J.stop n H')
    (yld : ∀ i x H' H2 F' acc M D, i < n → Own F0 H0 F' H' ((D, .lst acc) :: (M ++ L)) C → Same F F' → J.yld i H' x H2 → H2 = H' ∧ Y i x)
    (turn : ∀ (i : Nat) x acc M D F' H', i < n → Y i x → Iv i acc M F' → Same F F' → Own F0 H0 F' H' ((D, .lst acc) :: (M ++ L)) C → g x (wipe σ vs) H' fun σ2 H2 => wipe σ2 vs = wipe σ vs ∧ tt σ2 H2 fun b H3 =>
      if b = true then te σ2 H3 (Put D (BtwG F0 H0 F L C D (Iv (i + 1)))) else BtwG F0 H0 F L C D (Iv (i + 1)) H3)
    (done : ∀ acc M D F' H', Iv n acc M F' → Same F F' → Own F0 H0 F' H' ((D, .lst acc) :: (M ++ L)) C → Q (.ref D) H') :
    LcEnd J g tt te vs σ H Q := by
  intro D hD
  refine ⟨fun i k H' => k = n - i ∧ i ≤ n ∧ BtwG F0 H0 F L C D (Iv i) H', ⟨n, by omega, Nat.zero_le _, F, [], [], O.alloc hD _, Same.refl _, h0⟩, ?_⟩
  rintro i k H' ⟨rfl, hi, F', acc, M, O', sF, hI⟩
  by_cases hlt : i < n
  · refine .inr ⟨go i H' F' acc M D hlt O' sF, BtwG F0 H0 F L C D (Iv (i + 1)), fun H2 p' => ⟨n - (i + 1), by omega, rfl, hlt, p'⟩, fun x H2 hy => ?_⟩
    obtain ⟨rfl, hY⟩ := yld i x H' H2 F' acc M D hlt O' sF hy
    exact turn i x acc M D F' _ hlt hY hI sF O'
  · have e : i = n := by omega
    subst e
    exact .inl ⟨stop H' F' acc M D O' sF, done acc M D F' H' hI sF O'⟩
theorem w_lcR1G {n : Int} (O : Own F0 H0 F H L C) (hn : -(2 ^ 62) ≤ n ∧ n < 2 ^ 62) (Iv : Nat → List V → List (Addr × HO) → Hp → Prop) (h0 : Iv 0 [] [] F)
    (turn : ∀ (i : Nat) acc M D F' H', (i : Int) < n → Iv i acc M F' → Same F F' → Own F0 H0 F' H' ((D, .lst acc) :: (M ++ L)) C → g (.int (i : Nat)) (wipe σ vs) H' fun σ2 H2 => wipe σ2 vs = wipe σ vs ∧ tt σ2 H2 fun b H3 =>
      if b = true then te σ2 H3 (Put D (BtwG F0 H0 F L C D (Iv (i + 1)))) else BtwG F0 H0 F L C D (Iv (i + 1)) H3)
    (done : ∀ acc M D F' H', Iv n.toNat acc M F' → Same F F' → Own F0 H0 F' H' ((D, .lst acc) :: (M ++ L)) C → Q (.ref D) H') :
    Rg1 [.int n] H fun J H1 => LcEnd J g tt te vs σ H1 Q := by
  refine ⟨n, rfl, hn.1, hn.2, lc_anyG n.toNat (fun i x => x = .int (i : Nat)) O Iv h0 (fun i H' F' acc M D hi O' sF => hi) (fun H' F' acc M D O' sF => Nat.le_refl _) (fun i x H' H2 F' acc M D hi O' sF hy => ⟨hy.1, by rw [hy.2, Int.zero_add]⟩) (fun i x acc M D F' H' hi hY => ?_) done⟩
  intro h1 h2 h3
  rw [show x = .int (i : Nat) from hY]
  exact turn i acc M D F' H' (by omega) h1 h2 h3
theorem w_lcLG {a : Addr} {xs : List V} (O : Own F0 H0 F H L C) (hx : SqL K H a xs) (hl : ∀ {F' H' acc M D}, Own F0 H0 F' H' ((D, .lst acc) :: (M ++ L)) C → Same F F' → SqL K H' a xs) (Iv : Nat → List V → List (Addr × HO) → Hp → Prop) (h0 : Iv 0 [] [] F)
    (turn : ∀ (i : Nat) x acc M D F' H', xs[i]? = some x → Iv i acc M F' → Same F F' → Own F0 H0 F' H' ((D, .lst acc) :: (M ++ L)) C → g x (wipe σ vs) H' fun σ2 H2 => wipe σ2 vs = wipe σ vs ∧ tt σ2 H2 fun b H3 =>
      if b = true then te σ2 H3 (Put D (BtwG F0 H0 F L C D (Iv (i + 1)))) else BtwG F0 H0 F L C D (Iv (i + 1)) H3)
    (done : ∀ acc M D F' H', Iv xs.length acc M F' → Same F F' → Own F0 H0 F' H' ((D, .lst acc) :: (M ++ L)) C → Q (.ref D) H') :
    FoL K (.ref a) H fun J H1 => LcEnd J g tt te vs σ H1 Q := by
  refine ⟨a, rfl, ⟨xs, hx⟩, lc_anyG xs.length (fun i x => xs[i]? = some x) O Iv h0 (fun i H' F' acc M D hi O' sF => ?_) (fun H' F' acc M D O' sF => ⟨xs, hl O' sF, Nat.le_refl _⟩) (fun i x H' H2 F' acc M D hi O' sF hy => ⟨hy.1, hy.2 xs (hl O' sF)⟩) (fun i x acc M D F' H' _ hY => turn i x acc M D F' H' hY) done⟩
  exact ⟨xs, _, hl O' sF, List.getElem?_eq_getElem hi⟩
/-! ### least of three -/
def rMin3' : List V → Hp → VK → Prop := fun xs H Q => ∃ i j k : Int, xs = [.int i, .int j, .int k] ∧ Q (.int (min (min i j) k)) H
theorem min3_ {X : Cx} (hc : X.calm = true) : CallR X (.builtin "min") rMin3' := by
  intro pins s σ H vs us Q I r h
  obtain ⟨i, j, k, e, q⟩ := h
  refine call_min3Nu hc pins s σ H vs us Q I r ⟨.int i, .int j, .int k, .int (min (min i j) k), e, ?_, q⟩
  have h2 : ∀ a b : Int, nuMin2 (.int a) (.int b) = some (.int (min a b)) := fun a b => by
    show some (if decide (b < a) = true then V.int b else V.int a) = _
    by_cases h : b < a
    · rw [decide_eq_true h, if_pos rfl, show min a b = b by omega]
    · rw [decide_eq_false h, if_neg Bool.false_ne_true, show min a b = a by omega]
  show (nuMin2 (.int i) (.int j)).bind (fun m => nuMin2 m (.int k)) = _
  rw [h2]
  exact h2 _ _
theorem q_min3 {i j k : Int} {Q : VK} {H : Hp} : rMin3' [.int i, .int j, .int k] H Q = Q (.int (min (min i j) k)) H := propext ⟨fun ⟨_, _, _, e, q⟩ => by cases e; exact q, fun q => ⟨i, j, k, rfl, q⟩⟩
/-! ### grids: rows of their own, addresses A, cells M -/
def row (M : Nat → Nat → Int) (e i : Nat) : List V := (List.range e).map fun j => .int (M i j)
def fam (A : Nat → Addr) (M : Nat → Nat → Int) (n e : Nat) : List (Addr × HO) := (List.range n).map fun i => (A i, .lst (row M e i))
def upd2 (M : Nat → Nat → Int) (i j : Nat) (v : Int) : Nat → Nat → Int := fun i' j' => if i' = i ∧ j' = j then v else M i' j'
theorem upd2_same (M : Nat → Nat → Int) (i j : Nat) (v : Int) : upd2 M i j v i j = v := if_pos ⟨rfl, rfl⟩
theorem upd2_ne {M : Nat → Nat → Int} {i j i' j' : Nat} {v : Int} (h : ¬ (i' = i ∧ j' = j)) : upd2 M i j v i' j' = M i' j' := if_neg h
theorem row_len (M : Nat → Nat → Int) (e i : Nat) : (row M e i).length = e := by rw [row, List.length_map, List.length_range]
theorem row_get {M : Nat → Nat → Int} {e i j : Nat} (h : j < e) : (row M e i)[j]? = some (.int (M i j)) := by
  rw [row, List.getElem?_map, List.getElem?_range h]
  rfl
theorem row_at {M : Nat → Nat → Int} {e i j : Nat} (h : j < e) : atI (row M e i) (j : Nat) = some (.int (M i j)) := by
  rw [atI_get (d := V.non) ⟨by omega, by rw [row_len]; omega⟩, Int.toNat_natCast, List.getD_eq_getElem?_getD, row_get h]
  rfl
theorem fam_len (A : Nat → Addr) (M : Nat → Nat → Int) (n e : Nat) : (fam A M n e).length = n := by rw [fam, List.length_map, List.length_range]
theorem fam_get {A : Nat → Addr} {M : Nat → Nat → Int} {n e i : Nat} (h : i < n) : (fam A M n e)[i]? = some (A i, .lst (row M e i)) := by
  rw [fam, List.getElem?_map, List.getElem?_range h]
  rfl
theorem fam_mem {A : Nat → Addr} {M : Nat → Nat → Int} {n e i : Nat} (h : i < n) : (A i, HO.lst (row M e i)) ∈ fam A M n e := List.mem_of_getElem? (fam_get h)
theorem row_set {M : Nat → Nat → Int} {e i j : Nat} {v : Int} : (row M e i).set j (.int v) = row (upd2 M i j v) e i := by
  refine List.ext_getElem? fun k => ?_
  by_cases hk : k < e
  · by_cases e2 : j = k
    · subst e2
      rw [List.getElem?_set_self (by rw [row_len]; exact hk), row_get hk, upd2_same]
    · rw [List.getElem?_set_ne e2, row_get hk, row_get hk, upd2_ne (by omega)]
  · rw [List.getElem?_eq_none (by rw [List.length_set, row_len]; omega), List.getElem?_eq_none (by rw [row_len]; omega)]
theorem row_ne {M : Nat → Nat → Int} {e i j i' : Nat} {v : Int} (h : i' ≠ i) : row (upd2 M i j v) e i' = row M e i' := by
  refine List.map_congr_left fun k _ => ?_
  rw [upd2_ne (by omega)]
theorem fam_set {A : Nat → Addr} {M : Nat → Nat → Int} {n e i j : Nat} {v : Int} (h : i < n) : (fam A M n e).set i (A i, .lst ((row M e i).set j (.int v))) = fam A (upd2 M i j v) n e := by
  rw [row_set]
  refine List.ext_getElem? fun k => ?_
  by_cases hk : k < n
  · by_cases e2 : i = k
    · subst e2
      rw [List.getElem?_set_self (by rw [fam_len]; exact hk), fam_get hk]
    · rw [List.getElem?_set_ne e2, fam_get hk, fam_get hk, row_ne (by omega)]
  · rw [List.getElem?_eq_none (by rw [List.length_set, fam_len]; omega), List.getElem?_eq_none (by rw [fam_len]; omega)]
/-- a cell is set -/
theorem Own.cell {A : Nat → Addr} {M : Nat → Nat → Int} {n e i j : Nat} {v : Int} {L1 L2 : List (Addr × HO)} (O : Own F0 H0 F H (L1 ++ (fam A M n e ++ L2)) C) (h : i < n) :
    Own F0 H0 F (upd H (A i) (.lst ((row M e i).set j (.int v)))) (L1 ++ (fam A (upd2 M i j v) n e ++ L2)) C := by
  have g : (L1 ++ (fam A M n e ++ L2))[L1.length + i]? = some (A i, .lst (row M e i)) := by
    rw [List.getElem?_append_right (by omega), show L1.length + i - L1.length = i by omega, List.getElem?_append_left (by rw [fam_len]; exact h), fam_get h]
  have O2 := O.set _ g (.lst ((row M e i).set j (.int v)))
  rw [List.set_append_right _ _ (by omega), show L1.length + i - L1.length = i by omega, List.set_append_left _ _ (by rw [fam_len]; exact h), fam_set h] at O2
  exact O2
end
end Fw

namespace Mi
open PySem PySem.Spec PyProof.Rows L2 Fw
/-! ### mirrors: Python by value -/
/-- how a value stands for data -/
structure Rp (α : Type) where
  r : Hp → V → α → Prop
  m : ∀ {F F' : Hp} {v : V} {x : α}, Same F F' → r F v x → r F' v x
theorem Paired.mono {α β : Type} {A B : α → β → Prop} (h : ∀ a b, A a b → B a b) : ∀ {xs : List α} {ys : List β}, Paired A xs ys → Paired B xs ys
  | _, _, .nil => .nil
  | _, _, .cons r t => .cons (h _ _ r) (Paired.mono h t)
theorem Paired.at {α β : Type} {A : α → β → Prop} : ∀ {xs : List α} {ys : List β} {i : Nat} {y : β}, Paired A xs ys → ys[i]? = some y → ∃ x, xs[i]? = some x ∧ A x y
  | _, _, _, _, .nil, e => by simp at e
  | _, _, 0, _, .cons r _, e => by
    have e2 := Option.some.inj e
    rw [← e2]
    exact ⟨_, rfl, r⟩
  | _, _, i + 1, _, .cons _ t, e => Paired.at (i := i) t e
theorem Paired.app {α β : Type} {A : α → β → Prop} : ∀ {xs : List α} {ys : List β} {xs' : List α} {ys' : List β}, Paired A xs ys → Paired A xs' ys' → Paired A (xs ++ xs') (ys ++ ys')
  | _, _, _, _, .nil, h => h
  | _, _, _, _, .cons r t, h => .cons r (Paired.app t h)
theorem Paired.upd {α β : Type} {A : α → β → Prop} {x : α} {y : β} (h : A x y) : ∀ {xs : List α} {ys : List β} (i : Nat), Paired A xs ys → Paired A (xs.set i x) (ys.set i y)
  | _, _, _, .nil => .nil
  | _, _, 0, .cons _ t => .cons h t
  | _, _, i + 1, .cons r t => .cons r (Paired.upd h i t)
theorem Paired.tk {α β : Type} {A : α → β → Prop} : ∀ {xs : List α} {ys : List β} (n : Nat), Paired A xs ys → Paired A (xs.take n) (ys.take n)
  | _, _, 0, _ => .nil
  | _, _, _ + 1, .nil => .nil
  | _, _, n + 1, .cons r t => .cons r (Paired.tk n t)
theorem Paired.dp {α β : Type} {A : α → β → Prop} : ∀ {xs : List α} {ys : List β} (n : Nat), Paired A xs ys → Paired A (xs.drop n) (ys.drop n)
  | _, _, 0, h => h
  | _, _, _ + 1, .nil => .nil
  | _, _, n + 1, .cons _ t => Paired.dp n t
theorem Paired.rev {α β : Type} {A : α → β → Prop} : ∀ {xs : List α} {ys : List β}, Paired A xs ys → Paired A xs.reverse ys.reverse
  | _, _, .nil => .nil
  | _, _, .cons r t => by
    rw [List.reverse_cons, List.reverse_cons]
    exact Paired.app (Paired.rev t) (.cons r .nil)
theorem Paired.ofMap {α β : Type} {A : α → β → Prop} {f : β → α} (h : ∀ a b, A a b → a = f b) : ∀ {xs : List α} {ys : List β}, Paired A xs ys → xs = ys.map f
  | _, _, .nil => rfl
  | _, _, .cons r t => by rw [List.map_cons, ← h _ _ r, ← Paired.ofMap h t]
theorem Paired.mk {α β : Type} {A : α → β → Prop} {f : β → α} (h : ∀ b, A (f b) b) : ∀ (ys : List β), Paired A (ys.map f) ys
  | [] => .nil
  | y :: ys => .cons (h y) (Paired.mk h ys)
theorem Paired.len {α β : Type} {A : α → β → Prop} {xs : List α} {ys : List β} (h : Paired A xs ys) : xs.length = ys.length := Paired.length h
def jI : Rp Int := ⟨fun _ v x => v = .int x, fun _ h => h⟩
def jB : Rp Bool := ⟨fun _ v x => v = .bl x, fun _ h => h⟩
/-- signs of a text -/
def okS (x : List Nat) : Prop := ∀ c ∈ x, c < 1114112
instance (x : List Nat) : Decidable (okS x) := inferInstanceAs (Decidable (∀ c ∈ x, c < 1114112))
theorem okS_app {x y : List Nat} (h : okS x) (k : okS y) : okS (x ++ y) := fun c hc => (List.mem_append.mp hc).elim (h c) (k c)
theorem okS_nil : okS [] := fun _ h => nomatch h
theorem okS_sub {x y : List Nat} (h : okS x) (k : ∀ c ∈ y, c ∈ x) : okS y := fun c hc => h c (k c hc)
theorem okS_flat {xs : List (List Nat)} (h : ∀ x ∈ xs, okS x) : okS xs.flatten := fun c hc => by
  obtain ⟨x, hx, hcx⟩ := List.mem_flatten.mp hc
  exact h x hx c hcx
def jS : Rp (List Nat) := ⟨fun _ v x => v = vS x ∧ okS x, fun _ h => h⟩
def jN : Rp Unit := ⟨fun _ v _ => v = .non, fun _ h => h⟩
/-- a thing known by its value -/
def jV (u : V) : Rp Unit := ⟨fun _ v _ => v = u, fun _ h => h⟩
def jO {α : Type} (R : Rp α) : Rp (Option α) := ⟨fun F v x => match x with | none => v = .non | some y => R.r F v y, fun {_ _ _ x} s h => by
  cases x with
  | none => exact h
  | some y => exact R.m s h⟩
def jL {α : Type} (R : Rp α) : Rp (List α) := ⟨fun F v xs => ∃ a vs, v = .ref a ∧ F a = some (.lst vs) ∧ Paired (R.r F) vs xs,
  fun s ⟨a, vs, e, h, p⟩ => ⟨a, vs, e, s _ _ h, Paired.mono (fun _ _ q => R.m s q) p⟩⟩
/-- a list that is read, of whatever kind -/
def jQ {α : Type} (K : PySem.W.Frag) (R : Rp α) : Rp (List α) := ⟨fun F v xs => ∃ a vs, v = .ref a ∧ SqL K F a vs ∧ Paired (R.r F) vs xs,
  fun s ⟨a, vs, e, h, p⟩ => ⟨a, vs, e, s.seq h, Paired.mono (fun _ _ q => R.m s q) p⟩⟩
/-- a tuple's parts -/
structure Tp (ρ : Type) where
  r : Hp → List V → ρ → Prop
  m : ∀ {F F' : Hp} {v : List V} {x : ρ}, Same F F' → r F v x → r F' v x
def y1 {α : Type} (R : Rp α) : Tp α := ⟨fun F vs x => ∃ v, vs = [v] ∧ R.r F v x, fun s ⟨v, e, h⟩ => ⟨v, e, R.m s h⟩⟩
def yC {α ρ : Type} (R : Rp α) (T : Tp ρ) : Tp (α × ρ) := ⟨fun F vs x => ∃ v r, vs = v :: r ∧ R.r F v x.1 ∧ T.r F r x.2, fun s ⟨v, r, e, h, t⟩ => ⟨v, r, e, R.m s h, T.m s t⟩⟩
def jT {ρ : Type} (T : Tp ρ) : Rp ρ := ⟨fun F v x => ∃ a vs, v = .ref a ∧ F a = some (.tup vs) ∧ T.r F vs x, fun s ⟨a, vs, e, h, t⟩ => ⟨a, vs, e, s _ _ h, T.m s t⟩⟩
/-- how a value and its own objects stand for data -/
structure Sl (α : Type) where
  r : V → Hp → List (Addr × HO) → α → Prop
  m : ∀ {F F' : Hp} {v : V} {L : List (Addr × HO)} {x : α}, Same F F' → r v F L x → r v F' L x
def sF {α : Type} (R : Rp α) : Sl α := ⟨fun v F L x => L = [] ∧ R.r F v x, fun s ⟨e, h⟩ => ⟨e, R.m s h⟩⟩
def sO {α : Type} (R : Rp α) : Sl (List α) := ⟨fun v F L xs => ∃ p vs, v = .ref p ∧ L = [(p, .lst vs)] ∧ Paired (R.r F) vs xs,
  fun s ⟨p, vs, e, h, q⟩ => ⟨p, vs, e, h, Paired.mono (fun _ _ q => R.m s q) q⟩⟩
/-- the names -/
structure En (ρ : Type) where
  r : L2.St → Hp → List (Addr × HO) → ρ → Prop
  m : ∀ {σ : L2.St} {F F' : Hp} {L : List (Addr × HO)} {x : ρ}, Same F F' → r σ F L x → r σ F' L x
def eN : En Unit := ⟨fun σ _ L _ => σ = [] ∧ L = [], fun _ h => h⟩
def eU {ρ : Type} (E : En ρ) : En ρ := ⟨fun σ F L γ => ∃ o σ', σ = o :: σ' ∧ E.r σ' F L γ, fun s ⟨o, σ', e, h⟩ => ⟨o, σ', e, E.m s h⟩⟩
def eC {α ρ : Type} (s : Sl α) (E : En ρ) : En (α × ρ) := ⟨fun σ F L γ => ∃ v σ' L1 L2, σ = some v :: σ' ∧ L = L1 ++ L2 ∧ s.r v F L1 γ.1 ∧ E.r σ' F L2 γ.2,
  fun z ⟨v, σ', L1, L2, e1, e2, h, t⟩ => ⟨v, σ', L1, L2, e1, e2, s.m z h, E.m z t⟩⟩
/-! own objects, fewer -/
def Sb (A B : List (Addr × HO)) : Prop := ∃ R, (A ++ R).Perm B
theorem Sb.refl (A : List (Addr × HO)) : Sb A A := ⟨[], by rw [List.append_nil]⟩
theorem Sb.trans {A B C : List (Addr × HO)} (h : Sb A B) (k : Sb B C) : Sb A C := by
  obtain ⟨R, h⟩ := h
  obtain ⟨S, k⟩ := k
  exact ⟨R ++ S, by rw [← List.append_assoc]; exact (h.append_right S).trans k⟩
theorem Sb.left {A B : List (Addr × HO)} (C : List (Addr × HO)) (h : Sb A B) : Sb (C ++ A) (C ++ B) := by
  obtain ⟨R, h⟩ := h
  exact ⟨R, by rw [List.append_assoc]; exact h.append_left C⟩
theorem Sb.right {A B : List (Addr × HO)} (C : List (Addr × HO)) (h : Sb A B) : Sb (A ++ C) (B ++ C) := by
  obtain ⟨R, h⟩ := h
  refine ⟨R, ?_⟩
  have e : ((A ++ C) ++ R).Perm ((A ++ R) ++ C) := by
    rw [List.append_assoc, List.append_assoc]
    exact List.perm_append_comm.append_left A
  exact e.trans (h.append_right C)
theorem Sb.perm {A B : List (Addr × HO)} (h : A.Perm B) : Sb A B := ⟨[], by rw [List.append_nil]; exact h⟩
theorem Sb.dropL (A B : List (Addr × HO)) : Sb B (A ++ B) := ⟨A, List.perm_append_comm⟩
theorem Sb.dropR (A B : List (Addr × HO)) : Sb A (A ++ B) := ⟨B, List.Perm.refl _⟩
theorem Sb.nil (A : List (Addr × HO)) : Sb [] A := ⟨A, List.Perm.refl _⟩
theorem Sb.mem {A B : List (Addr × HO)} (h : Sb A B) {q : Addr × HO} (hq : q ∈ A) : q ∈ B := by
  obtain ⟨R, h⟩ := h
  exact h.subset (List.mem_append_left R hq)
theorem OwnSb {F0 H0 F H : Hp} {L L' : List (Addr × HO)} {C : List Ck} (O : Own F0 H0 F H L C) (h : Sb L' L) : Own F0 H0 F H L' C := by
  obtain ⟨R, h⟩ := h
  exact (O.perm h).sub (List.sublist_append_left L' R)
abbrev Held (H : Hp) (L : List (Addr × HO)) : Prop := ∀ q ∈ L, H q.1 = some q.2
theorem Held.of {F0 H0 F H : Hp} {L : List (Addr × HO)} {C : List Ck} (O : Own F0 H0 F H L C) : Held H L := fun q hq => (O.own q hq).2.2
theorem Held.mono {H H' : Hp} {L : List (Addr × HO)} (h : Held H L) (s : Same H H') : Held H' L := fun q hq => s _ _ (h q hq)
abbrev Step (F H F' H' : Hp) (L : List (Addr × HO)) : Prop := Own F H F' H' L []
theorem Step.nil {F H : Hp} (s : Same F H) : Step F H F H [] := Own.start s trivial
theorem Own.on {F0 H0 F H F' H' : Hp} {L L1 : List (Addr × HO)} {C : List Ck} (O : Own F0 H0 F H L C) (s : Step F H F' H' L1) : Own F0 H0 F' H' (L1 ++ L) C := O.grow s.ext s.news
/-! ### the judgements -/
section
variable {ρ ρ' α β δ : Type}
structure SE (t : TE) (E : En ρ) (s : Sl α) (f : ρ → Option α) : Prop where
  run : ∀ {σ : L2.St} {F H : Hp} {L : List (Addr × HO)} {γ : ρ} {x : α} {Q : VK}, Same F H → Held H L → E.r σ F L γ → f γ = some x →
  (∀ v F' H' L1, Step F H F' H' L1 → s.r v F' L1 x → Q v H') → t σ H Q
instance {t : TE} {E : En ρ} {s : Sl α} {f : ρ → Option α} : CoeFun (SE t E s f) (fun _ => ∀ {σ : L2.St} {F H : Hp} {L : List (Addr × HO)} {γ : ρ} {x : α} {Q : VK}, Same F H → Held H L → E.r σ F L γ → f γ = some x →
  (∀ v F' H' L1, Step F H F' H' L1 → s.r v F' L1 x → Q v H') → t σ H Q) := ⟨fun h => h.run⟩
structure RE (X : Cx) (e : Expr) (t : TE) (E : En ρ) (s : Sl α) (f : ρ → Option α) : Prop where
  pe : PE X e t
  se : SE t E s f
structure SB (t : TE) (E : En ρ) (R : Rp α) (f : ρ → Option (List α)) : Prop where
  run : ∀ {σ : L2.St} {F H : Hp} {L : List (Addr × HO)} {γ : ρ} {x : List α} {Q : VK}, Same F H → Held H L → E.r σ F L γ → f γ = some x →
  (∀ a vs F' H', Step F H F' H' [] → H' a = some (.lst vs) → Paired (R.r F') vs x → Q (.ref a) H') → t σ H Q
instance {t : TE} {E : En ρ} {R : Rp α} {f : ρ → Option (List α)} : CoeFun (SB t E R f) (fun _ => ∀ {σ : L2.St} {F H : Hp} {L : List (Addr × HO)} {γ : ρ} {x : List α} {Q : VK}, Same F H → Held H L → E.r σ F L γ → f γ = some x →
  (∀ a vs F' H', Step F H F' H' [] → H' a = some (.lst vs) → Paired (R.r F') vs x → Q (.ref a) H') → t σ H Q) := ⟨fun h => h.run⟩
/-- a list read as it stands -/
structure RB (X : Cx) (e : Expr) (t : TE) (E : En ρ) (R : Rp α) (f : ρ → Option (List α)) : Prop where
  pe : PE X e t
  se : SB t E R f
structure ST (t : TT) (E : En ρ) (f : ρ → Option Bool) : Prop where
  run : ∀ {σ : L2.St} {F H : Hp} {L : List (Addr × HO)} {γ : ρ} {x : Bool} {Q : Bool → Hp → Prop}, Same F H → Held H L → E.r σ F L γ → f γ = some x →
  (∀ F' H', Step F H F' H' [] → Q x H') → t σ H Q
instance {t : TT} {E : En ρ} {f : ρ → Option Bool} : CoeFun (ST t E f) (fun _ => ∀ {σ : L2.St} {F H : Hp} {L : List (Addr × HO)} {γ : ρ} {x : Bool} {Q : Bool → Hp → Prop}, Same F H → Held H L → E.r σ F L γ → f γ = some x →
  (∀ F' H', Step F H F' H' [] → Q x H') → t σ H Q) := ⟨fun h => h.run⟩
structure RTt (X : Cx) (e : Expr) (t : TT) (E : En ρ) (f : ρ → Option Bool) : Prop where
  pt : PT X e t
  st : ST t E f
structure RW (X : Cx) (e : Expr) (t : TT) (E : En ρ) (f : ρ → Option Bool) : Prop where
  pw : PW X e t
  st : ST t E f
/-- arguments -/
structure Ar (ρ : Type) where
  r : Hp → List V → ρ → Prop
  m : ∀ {F F' : Hp} {v : List V} {x : ρ}, Same F F' → r F v x → r F' v x
def aN : Ar Unit := ⟨fun _ vs _ => vs = [], fun _ h => h⟩
def aC (R : Rp α) (T : Ar ρ) : Ar (α × ρ) := ⟨fun F vs x => ∃ v r, vs = v :: r ∧ R.r F v x.1 ∧ T.r F r x.2, fun s ⟨v, r, e, h, t⟩ => ⟨v, r, e, R.m s h, T.m s t⟩⟩
structure SA (t : TA) (E : En ρ) (A : Ar α) (f : ρ → Option α) : Prop where
  run : ∀ {σ : L2.St} {F H : Hp} {L : List (Addr × HO)} {γ : ρ} {x : α} {Q : List V → Hp → Prop}, Same F H → Held H L → E.r σ F L γ → f γ = some x →
  (∀ vs F' H', Step F H F' H' [] → A.r F' vs x → Q vs H') → t σ H Q
instance {t : TA} {E : En ρ} {A : Ar α} {f : ρ → Option α} : CoeFun (SA t E A f) (fun _ => ∀ {σ : L2.St} {F H : Hp} {L : List (Addr × HO)} {γ : ρ} {x : α} {Q : List V → Hp → Prop}, Same F H → Held H L → E.r σ F L γ → f γ = some x →
  (∀ vs F' H', Step F H F' H' [] → A.r F' vs x → Q vs H') → t σ H Q) := ⟨fun h => h.run⟩
structure RA (X : Cx) (es : List Expr) (t : TA) (E : En ρ) (A : Ar α) (f : ρ → Option α) : Prop where
  pa : PA X es t
  sa : SA t E A f
end
/-! ### names -/
section
variable {ρ ρ' α β δ : Type} {E : En ρ} {E' : En ρ'} {s : Sl α} {s' : Sl β}
structure Gt (E : En ρ) (i : Nat) (s : Sl α) (g : ρ → α) : Prop where
  run : ∀ {σ : L2.St} {F : Hp} {L : List (Addr × HO)} {γ : ρ}, E.r σ F L γ → ∃ v L1, σ[i]? = some (some v) ∧ (∀ q ∈ L1, q ∈ L) ∧ s.r v F L1 (g γ)
instance {E : En ρ} {i : Nat} {s : Sl α} {g : ρ → α} : CoeFun (Gt E i s g) (fun _ => ∀ {σ : L2.St} {F : Hp} {L : List (Addr × HO)} {γ : ρ}, E.r σ F L γ → ∃ v L1, σ[i]? = some (some v) ∧ (∀ q ∈ L1, q ∈ L) ∧ s.r v F L1 (g γ)) := ⟨fun h => h.run⟩
theorem g0 : Gt (eC s E) 0 s (fun γ => γ.1) := ⟨fun ⟨v, σ', L1, L2, e1, e2, h, _⟩ => ⟨v, L1, by rw [e1]; rfl, fun q hq => by rw [e2]; exact List.mem_append_left _ hq, h⟩⟩
theorem gU {i : Nat} {g : ρ → α} (h : Gt E i s g) : Gt (eU E) (i + 1) s g := ⟨fun ⟨o, σ', e, t⟩ => by
  obtain ⟨v, L1, h1, h2, h3⟩ := h t
  exact ⟨v, L1, by rw [e]; exact h1, h2, h3⟩⟩
theorem gS {i : Nat} {g : ρ → α} (h : Gt E i s g) : Gt (eC s' E) (i + 1) s (fun γ => g γ.2) := ⟨fun ⟨v', σ', L1', L2, e1, e2, _, t⟩ => by
  obtain ⟨v, L1, h1, h2, h3⟩ := h t
  exact ⟨v, L1, by rw [e1]; exact h1, fun q hq => by rw [e2]; exact List.mem_append_right _ (h2 q hq), h3⟩⟩
/-- a name gets a value -/
structure Pt (E : En ρ) (i : Nat) (s : Sl α) (E' : En ρ') (u : α → ρ → ρ') : Prop where
  run : ∀ {σ : L2.St} {F : Hp} {L : List (Addr × HO)} {γ : ρ} {v : V} {L1 : List (Addr × HO)} {x : α}, E.r σ F L γ → s.r v F L1 x →
  ∃ L', E'.r (σ.set i (some v)) F L' (u x γ) ∧ Sb L' (L1 ++ L)
instance {E : En ρ} {i : Nat} {s : Sl α} {E' : En ρ'} {u : α → ρ → ρ'} : CoeFun (Pt E i s E' u) (fun _ => ∀ {σ : L2.St} {F : Hp} {L : List (Addr × HO)} {γ : ρ} {v : V} {L1 : List (Addr × HO)} {x : α}, E.r σ F L γ → s.r v F L1 x →
  ∃ L', E'.r (σ.set i (some v)) F L' (u x γ) ∧ Sb L' (L1 ++ L)) := ⟨fun h => h.run⟩
theorem p0 : Pt (eC s' E) 0 s (eC s E) (fun x γ => (x, γ.2)) := ⟨fun {_ _ _ _ v L1 _} ⟨v', σ', La, L2, e1, e2, _, t⟩ h => by
  subst e1 e2
  exact ⟨L1 ++ L2, ⟨v, σ', L1, L2, rfl, rfl, h, t⟩, (Sb.dropL La L2).left L1⟩⟩
theorem p0U : Pt (eU E) 0 s (eC s E) (fun x γ => (x, γ)) := ⟨fun {_ _ L _ v L1 _} ⟨o, σ', e, t⟩ h => by
  subst e
  exact ⟨L1 ++ L, ⟨v, σ', L1, L, rfl, rfl, h, t⟩, Sb.refl _⟩⟩
theorem pU {i : Nat} {u : α → ρ → ρ'} (h : Pt E i s E' u) : Pt (eU E) (i + 1) s (eU E') u := ⟨fun ⟨o, σ', e, t⟩ k => by
  subst e
  obtain ⟨L', h1, h2⟩ := h t k
  exact ⟨L', ⟨o, _, rfl, h1⟩, h2⟩⟩
theorem pS {i : Nat} {u : α → ρ → ρ'} (h : Pt E i s E' u) : Pt (eC s' E) (i + 1) s (eC s' E') (fun x γ => (γ.1, u x γ.2)) := ⟨fun {_ _ _ _ _ L1 _} ⟨v', σ', La, L2, e1, e2, q, t⟩ k => by
  subst e1 e2
  obtain ⟨L', h1, h2⟩ := h t k
  refine ⟨La ++ L', ⟨v', _, La, L', rfl, rfl, q, h1⟩, (h2.left La).trans (Sb.perm ?_)⟩
  rw [← List.append_assoc, ← List.append_assoc]
  exact List.perm_append_comm.append_right L2⟩
/-- an own list is changed -/
structure Up (E : En ρ) (i : Nat) (R : Rp α) (g : ρ → List α) (u : List α → ρ → ρ) : Prop where
  run : ∀ {σ : L2.St} {F : Hp} {L : List (Addr × HO)} {γ : ρ}, E.r σ F L γ →
  ∃ p vs j, σ[i]? = some (some (.ref p)) ∧ L[j]? = some (p, .lst vs) ∧ Paired (R.r F) vs (g γ) ∧ ∀ F' vs' xs', Same F F' → Paired (R.r F') vs' xs' → E.r σ F' (L.set j (p, .lst vs')) (u xs' γ)
instance {E : En ρ} {i : Nat} {R : Rp α} {g : ρ → List α} {u : List α → ρ → ρ} : CoeFun (Up E i R g u) (fun _ => ∀ {σ : L2.St} {F : Hp} {L : List (Addr × HO)} {γ : ρ}, E.r σ F L γ →
  ∃ p vs j, σ[i]? = some (some (.ref p)) ∧ L[j]? = some (p, .lst vs) ∧ Paired (R.r F) vs (g γ) ∧ ∀ F' vs' xs', Same F F' → Paired (R.r F') vs' xs' → E.r σ F' (L.set j (p, .lst vs')) (u xs' γ)) := ⟨fun h => h.run⟩
theorem u0 {R : Rp α} : Up (eC (sO R) E) 0 R (fun γ => γ.1) (fun xs γ => (xs, γ.2)) := ⟨fun ⟨v', σ', La, L2, e1, e2, ⟨p, vs, e3, e4, q⟩, t⟩ => by
  subst e1 e2 e3 e4
  exact ⟨p, vs, 0, rfl, rfl, q, fun F' vs' xs' sF q' => ⟨_, σ', [(p, .lst vs')], L2, rfl, rfl, ⟨p, vs', rfl, rfl, q'⟩, E.m sF t⟩⟩⟩
theorem uU {i : Nat} {R : Rp α} {g : ρ → List α} {u : List α → ρ → ρ} (h : Up E i R g u) : Up (eU E) (i + 1) R g u := ⟨fun ⟨o, σ', e, t⟩ => by
  subst e
  obtain ⟨p, vs, j, h1, h2, h3, h4⟩ := h t
  exact ⟨p, vs, j, h1, h2, h3, fun F' vs' xs' sF q' => ⟨o, σ', rfl, h4 F' vs' xs' sF q'⟩⟩⟩
theorem uS {i : Nat} {R : Rp α} {g : ρ → List α} {u : List α → ρ → ρ} (h : Up E i R g u) : Up (eC s' E) (i + 1) R (fun γ => g γ.2) (fun xs γ => (γ.1, u xs γ.2)) := ⟨fun ⟨v', σ', La, L2, e1, e2, q, t⟩ => by
  subst e1 e2
  obtain ⟨p, vs, j, h1, h2, h3, h4⟩ := h t
  refine ⟨p, vs, La.length + j, h1, by rw [List.getElem?_append_right (by omega), show La.length + j - La.length = j by omega]; exact h2, h3, fun F' vs' xs' sF q' => ⟨v', σ', La, L2.set j (p, .lst vs'), rfl, ?_, s'.m sF q, h4 F' vs' xs' sF q'⟩⟩
  rw [List.set_append_right _ _ (by omega), show La.length + j - La.length = j by omega]⟩
/-- names are forgotten, own lists frozen -/
structure Co (E : En ρ) (E' : En ρ') (c : ρ → ρ') : Prop where
  run : ∀ {σ : L2.St} {F0 H0 F H : Hp} {L Z : List (Addr × HO)} {γ : ρ}, Own F0 H0 F H (L ++ Z) [] → E.r σ F L γ → ∃ F' L', Own F0 H0 F' H (L' ++ Z) [] ∧ Same F F' ∧ E'.r σ F' L' (c γ)
instance {E : En ρ} {E' : En ρ'} {c : ρ → ρ'} : CoeFun (Co E E' c) (fun _ => ∀ {σ : L2.St} {F0 H0 F H : Hp} {L Z : List (Addr × HO)} {γ : ρ}, Own F0 H0 F H (L ++ Z) [] → E.r σ F L γ → ∃ F' L', Own F0 H0 F' H (L' ++ Z) [] ∧ Same F F' ∧ E'.r σ F' L' (c γ)) := ⟨fun h => h.run⟩
theorem cN : Co eN eN (fun γ => γ) := ⟨fun {_ _ _ F _ L _ _} O h => ⟨F, L, O, Same.refl _, h⟩⟩
theorem cId : Co E E (fun γ => γ) := ⟨fun {_ _ _ F _ L _ _} O h => ⟨F, L, O, Same.refl _, h⟩⟩
theorem cU {c : ρ → ρ'} (h : Co E E' c) : Co (eU E) (eU E') c := ⟨fun O ⟨o, σ', e, t⟩ => by
  obtain ⟨F', L', O', sF, t'⟩ := h O t
  exact ⟨F', L', O', sF, o, σ', e, t'⟩⟩
theorem cK {c : ρ → ρ'} (h : Co E E' c) : Co (eC s E) (eC s E') (fun γ => (γ.1, c γ.2)) := ⟨fun {_ _ _ _ _ _ Z _} O ⟨v, σ', L1, L2, e1, e2, q, t⟩ => by
  subst e1 e2
  have O1 := O.perm (L' := L2 ++ (L1 ++ Z)) (by rw [← List.append_assoc]; exact List.perm_append_comm.append_right Z)
  obtain ⟨F', L', O', sF, t'⟩ := h O1 t
  refine ⟨F', L1 ++ L', O'.perm ?_, sF, v, σ', L1, L', rfl, rfl, s.m sF q, t'⟩
  rw [← List.append_assoc]
  exact List.perm_append_comm.append_right Z⟩
theorem cF {c : ρ → ρ'} (h : Co E E' c) : Co (eC s E) (eU E') (fun γ => c γ.2) := ⟨fun {_ _ _ _ _ _ Z _} O ⟨v, σ', L1, L2, e1, e2, q, t⟩ => by
  subst e1 e2
  have O1 := OwnSb (L' := L2 ++ Z) O (by rw [List.append_assoc]; exact Sb.dropL _ _)
  obtain ⟨F', L', O', sF, t'⟩ := h O1 t
  exact ⟨F', L', O', sF, _, σ', rfl, t'⟩⟩
theorem cI {c : ρ → ρ'} {R : Rp α} (h : Co E E' c) : Co (eC (sO R) E) (eC (sF (jL R)) E') (fun γ => (γ.1, c γ.2)) := ⟨fun {_ _ _ F _ _ Z _} O ⟨v, σ', L1, L2, e1, e2, ⟨p, vs, e3, e4, q⟩, t⟩ => by
  subst e1 e2 e3 e4
  have O1 := (show Own _ _ _ _ ((p, HO.lst vs) :: (L2 ++ Z)) [] from O).freeze
  have s1 : Same F (upd F p (.lst vs)) := fun b u e => by rw [upd_ne (ne_of_none e ((O.own (p, .lst vs) List.mem_cons_self)).1)]; exact e
  obtain ⟨F', L', O', sF, t'⟩ := h (O1.chunks trivial) (E.m s1 t)
  exact ⟨F', L', O', s1.trans sF, _, σ', [], L', rfl, rfl, ⟨rfl, p, vs, rfl, sF _ _ upd_same, Paired.mono (fun _ _ q => R.m (s1.trans sF) q) q⟩, t'⟩⟩
end
end Mi

namespace Mi
open PySem PySem.Spec PyProof.Rows L2 Fw
theorem Step.tr {F H F1 H1 F2 H2 : Hp} {L : List (Addr × HO)} (a : Step F H F1 H1 []) (b : Step F1 H1 F2 H2 L) : Step F H F2 H2 L := by
  have := Own.on a b
  rwa [List.append_nil] at this
abbrev ob {α β : Type} (x : Option α) (f : α → Option β) : Option β := x.bind f
theorem ob_some {α β : Type} {x : Option α} {f : α → Option β} {z : β} (e : ob x f = some z) : ∃ y, x = some y ∧ f y = some z := Option.bind_eq_some_iff.mp e
/-! ### expressions -/
section
variable {ρ ρ' α β δ ε : Type} {E : En ρ} {E' : En ρ'} {ta tb tc te : TE} {A : Rp α} {B : Rp β} {D : Rp δ} {fa : ρ → Option α} {fb : ρ → Option β} {fc : ρ → Option δ} {K : PySem.W.Frag}
theorem se_var {i : Nat} {R : Rp α} {g : ρ → α} (hg : Gt E i (sF R) g) : SE (tVar i) E (sF R) (fun γ => some (g γ)) := ⟨fun {_ _ _ _ _ _ _} sF' _ he e k => by
  obtain ⟨v, L1, h1, _, h2, h3⟩ := hg he
  cases e
  exact ⟨v, h1, k v _ _ [] (Step.nil sF') ⟨rfl, h3⟩⟩⟩
theorem se_c {v : V} {R : Rp α} (x : α) (h : ∀ F, R.r F v x) : SE (tC v) E (sF R) (fun _ => some x) := ⟨fun sF' _ _ e k => by
  cases e
  exact k v _ _ [] (Step.nil sF') ⟨rfl, h _⟩⟩
theorem se_int {i : Int} : SE (tC (.int i)) E (sF jI) (fun _ => some i) := se_c i fun _ => rfl
theorem se_bl {i : Bool} : SE (tC (.bl i)) E (sF jB) (fun _ => some i) := se_c i fun _ => rfl
theorem se_str {l : List Nat} (h : okS l := by decide) : SE (tC (vS l)) E (sF jS) (fun _ => some l) := se_c l fun _ => ⟨rfl, h⟩
theorem se_non : SE (tC .non) E (sF jN) (fun _ => some ()) := se_c () fun _ => rfl
theorem se_v {v : V} : SE (tC v) E (sF (jV v)) (fun _ => some ()) := se_c () fun _ => rfl
/-- a fresh list is frozen -/
theorem se_fz {R : Rp α} {fa : ρ → Option (List α)} (h : SE ta E (sO R) fa) : SE ta E (sF (jL R)) fa := ⟨fun {_ _ _ _ _ _ _} s1 hL he e k => h s1 hL he e fun v F' H' L1 s2 ⟨p, vs, e1, e2, q⟩ => by
  subst e1 e2
  have sP : Same F' (upd F' p (.lst vs)) := fun b u e => by rw [upd_ne (ne_of_none e ((s2.own (p, .lst vs) List.mem_cons_self)).1)]; exact e
  exact k _ _ _ [] (s2.freeze.chunks trivial) ⟨rfl, p, vs, rfl, upd_same, Paired.mono (fun _ _ q => R.m sP q) q⟩⟩
/-- another reading of the value -/
theorem se_cv {s : Sl α} {s' : Sl β} {c : α → Option β} (h : SE ta E s fa) (hc : ∀ {v F L x y}, s.r v F L x → c x = some y → s'.r v F L y) : SE ta E s' (fun γ => ob (fa γ) c) := ⟨fun s1 hL he e k => by
  obtain ⟨x, e1, e2⟩ := ob_some e
  exact h s1 hL he e1 fun v F' H' L1 s2 r => k v F' H' L1 s2 (hc r e2)⟩
/-- a value that is there -/
theorem se_some {R : Rp α} {fa : ρ → Option (Option α)} (h : SE ta E (sF (jO R)) fa) : SE ta E (sF R) (fun γ => ob (fa γ) fun x => x) := se_cv h fun {v F L x y} ⟨e, r⟩ e2 => by
  subst e2
  exact ⟨e, r⟩
theorem se_toOp {R : Rp α} (h : SE ta E (sF R) fa) : SE ta E (sF (jO R)) (fun γ => ob (fa γ) fun x => some (some x)) := se_cv h fun {v F L x y} ⟨e, r⟩ e2 => by
  cases e2
  exact ⟨e, r⟩
theorem se_nonOp {R : Rp α} : SE (tC .non) E (sF (jO R)) (fun _ => some none) := se_c none fun _ => rfl
theorem se_toQ {R : Rp α} {fa : ρ → Option (List α)} (h : SE ta E (sF (jL R)) fa) : SE ta E (sF (jQ K R)) fa := ⟨fun s1 hL he e k => h s1 hL he e fun v F' H' L1 s2 ⟨e1, a, vs, e2, r, p⟩ => k v F' H' L1 s2 ⟨e1, a, vs, e2, .inl (.inl r), p⟩⟩
/-- two operands -/
structure S2 (r : R2) (A : Rp α) (B : Rp β) (s : Sl δ) (g : α → β → Option δ) : Prop where
  run : ∀ {F H : Hp} {x y : V} {a : α} {b : β} {c : δ} {Q : VK}, Same F H → A.r F x a → B.r F y b → g a b = some c →
  (∀ z F' H' L, Step F H F' H' L → s.r z F' L c → Q z H') → r x y H Q
instance {r : R2} {A : Rp α} {B : Rp β} {s : Sl δ} {g : α → β → Option δ} : CoeFun (S2 r A B s g) (fun _ => ∀ {F H : Hp} {x y : V} {a : α} {b : β} {c : δ} {Q : VK}, Same F H → A.r F x a → B.r F y b → g a b = some c →
  (∀ z F' H' L, Step F H F' H' L → s.r z F' L c → Q z H') → r x y H Q) := ⟨fun h => h.run⟩
theorem se_op {r : R2} {s : Sl δ} {g : α → β → Option δ} (ha : SE ta E (sF A) fa) (hb : SE tb E (sF B) fb) (hs : S2 r A B s g) : SE (tOp r ta tb) E s (fun γ => ob (fa γ) fun x => ob (fb γ) fun y => g x y) := ⟨fun s0 hL he e k => by
  obtain ⟨x, e1, e⟩ := ob_some e
  obtain ⟨y, e2, e⟩ := ob_some e
  refine ha s0 hL he e1 fun v F1 H1 L1 s1 ⟨z1, r1⟩ => ?_
  subst z1
  refine hb s1.fh (hL.mono s1.hh) (E.m s1.f0 he) e2 fun u F2 H2 L2 s2 ⟨z2, r2⟩ => ?_
  subst z2
  exact hs s2.fh (A.m s2.f0 r1) r2 e fun z F3 H3 L3 s3 r3 => k z F3 H3 L3 (s1.tr (s2.tr s3)) r3⟩
structure S1 (r : V → Hp → VK → Prop) (A : Rp α) (s : Sl δ) (g : α → Option δ) : Prop where
  run : ∀ {F H : Hp} {x : V} {a : α} {c : δ} {Q : VK}, Same F H → A.r F x a → g a = some c →
  (∀ z F' H' L, Step F H F' H' L → s.r z F' L c → Q z H') → r x H Q
instance {r : V → Hp → VK → Prop} {A : Rp α} {s : Sl δ} {g : α → Option δ} : CoeFun (S1 r A s g) (fun _ => ∀ {F H : Hp} {x : V} {a : α} {c : δ} {Q : VK}, Same F H → A.r F x a → g a = some c →
  (∀ z F' H' L, Step F H F' H' L → s.r z F' L c → Q z H') → r x H Q) := ⟨fun h => h.run⟩
theorem se_un {r : V → Hp → VK → Prop} {s : Sl δ} {g : α → Option δ} (ha : SE ta E (sF A) fa) (hs : S1 r A s g) : SE (tUn r ta) E s (fun γ => ob (fa γ) fun x => g x) := ⟨fun s0 hL he e k => by
  obtain ⟨x, e1, e⟩ := ob_some e
  refine ha s0 hL he e1 fun v F1 H1 L1 s1 ⟨z1, r1⟩ => ?_
  subst z1
  exact hs s1.fh r1 e fun z F3 H3 L3 s3 r3 => k z F3 H3 L3 (s1.tr s3) r3⟩
theorem s2_I0 {f : Int → Int → Int} : S2 (rI0 fun i j => .int (f i j)) jI jI (sF jI) (fun x y => some (f x y)) := ⟨fun s0 r1 r2 e k => by
  cases e
  exact ⟨_, _, r1, r2, k _ _ _ [] (Step.nil s0) ⟨rfl, rfl⟩⟩⟩
theorem s2_C0 {f : Int → Int → Bool} : S2 (rI0 fun i j => .bl (f i j)) jI jI (sF jB) (fun x y => some (f x y)) := ⟨fun s0 r1 r2 e k => by
  cases e
  exact ⟨_, _, r1, r2, k _ _ _ [] (Step.nil s0) ⟨rfl, rfl⟩⟩⟩
def pck (P : Prop) [Decidable P] (x : α) : Option α := if P then some x else none
theorem pck_some {P : Prop} [Decidable P] {x y : α} (h : pck P x = some y) : P ∧ x = y := by
  unfold pck at h
  split at h
  · next p => cases h; exact ⟨p, rfl⟩
  · cases h
theorem pck_of {P : Prop} [Decidable P] {x : α} (h : P) : pck P x = some x := if_pos h
theorem s2_I {C : Int → Int → Prop} {P : Int → Int → Prop} [∀ i j, Decidable (P i j)] {f : Int → Int → Int} (h : ∀ i j, P i j → C i j) : S2 (rI C fun i j => .int (f i j)) jI jI (sF jI) (fun x y => pck (P x y) (f x y)) := ⟨fun s0 r1 r2 e k => by
  obtain ⟨p, rfl⟩ := pck_some e
  exact ⟨_, _, r1, r2, h _ _ p, k _ _ _ [] (Step.nil s0) ⟨rfl, rfl⟩⟩⟩
abbrev PMul (i j : Int) : Prop := (-18446744073709551616 < i ∧ i < 18446744073709551616) ∨ (-18446744073709551616 < j ∧ j < 18446744073709551616)
abbrev PDiv (_ j : Int) : Prop := 0 < j ∧ j < 1073741824
abbrev PMod (_ j : Int) : Prop := 0 < j
abbrev PSh (_ j : Int) : Prop := 0 ≤ j
theorem s2_mul : S2 (rI CMul fun i j => .int (i * j)) jI jI (sF jI) (fun x y => pck (PMul x y) (x * y)) := s2_I fun _ _ h => h
theorem s2_div : S2 (rI CDiv fun i j => .int (i / j)) jI jI (sF jI) (fun x y => pck (PDiv x y) (x / y)) := s2_I fun _ _ h => h
theorem s2_mod : S2 (rI (fun _ j => 0 < j) fun i j => .int (i % j)) jI jI (sF jI) (fun x y => pck (PMod x y) (x % y)) := s2_I fun _ _ h => h
theorem s2_shr : S2 (rI (fun _ j => 0 ≤ j) fun i j => .int (i / 2 ^ j.toNat)) jI jI (sF jI) (fun x y => pck (PSh x y) (x / 2 ^ y.toNat)) := s2_I (P := PSh) (f := fun i j => i / 2 ^ j.toNat) fun _ _ h => h
theorem s1_U {f : Int → Int} : S1 (rU fun i => .int (f i)) jI (sF jI) (fun x => some (f x)) := ⟨fun s0 r1 e k => by
  cases e
  exact ⟨_, r1, k _ _ _ [] (Step.nil s0) ⟨rfl, rfl⟩⟩⟩
theorem s2_eqI : S2 rEq jI jI (sF jB) (fun x y => some (decide (x = y))) := ⟨fun {_ H _ _ a b _ Q} s0 r1 r2 e k => by
  cases e
  rw [show _ = V.int a from r1, show _ = V.int b from r2, q_eqI]
  exact k _ _ _ [] (Step.nil s0) ⟨rfl, rfl⟩⟩
theorem s2_neI : S2 rNe jI jI (sF jB) (fun x y => some (!decide (x = y))) := ⟨fun {_ H _ _ a b _ Q} s0 r1 r2 e k => by
  cases e
  rw [show _ = V.int a from r1, show _ = V.int b from r2, q_neI]
  exact k _ _ _ [] (Step.nil s0) ⟨rfl, rfl⟩⟩
theorem s2_eqS : S2 rEq jS jS (sF jB) (fun x y => some (decide (x = y))) := ⟨fun {_ H _ _ a b _ Q} s0 r1 r2 e k => by
  cases e
  rw [show _ = V.str (S a) from r1.1, show _ = V.str (S b) from r2.1, q_eqS, show decide (S a = S b) = decide (a = b) from decide_eq_decide.mpr S_inj]
  exact k _ _ _ [] (Step.nil s0) ⟨rfl, rfl⟩⟩
theorem s2_neS : S2 rNe jS jS (sF jB) (fun x y => some (!decide (x = y))) := ⟨fun {_ H _ _ a b _ Q} s0 r1 r2 e k => by
  cases e
  rw [show _ = V.str (S a) from r1.1, show _ = V.str (S b) from r2.1, q_neS, show decide (S a = S b) = decide (a = b) from decide_eq_decide.mpr S_inj]
  exact k _ _ _ [] (Step.nil s0) ⟨rfl, rfl⟩⟩
theorem s2_eqB : S2 rEq jB jB (sF jB) (fun x y => some (decide (x = y))) := ⟨fun {_ H _ _ a b _ Q} s0 r1 r2 e k => by
  cases e
  rw [show _ = V.bl a from r1, show _ = V.bl b from r2, q_eqB]
  exact k _ _ _ [] (Step.nil s0) ⟨rfl, rfl⟩⟩
theorem s2_neB : S2 rNe jB jB (sF jB) (fun x y => some (!decide (x = y))) := ⟨fun {_ H _ _ a b _ Q} s0 r1 r2 e k => by
  cases e
  rw [show _ = V.bl a from r1, show _ = V.bl b from r2, q_neB]
  exact k _ _ _ [] (Step.nil s0) ⟨rfl, rfl⟩⟩
abbrev sz : Nat := 16777216
theorem sz_le {n : Nat} (h : n ≤ sz) : n ≤ sizeLine := by rw [sizeLine_eq]; exact h
theorem sz_lt {n : Nat} (h : n < sz) : n < sizeLine := by rw [sizeLine_eq]; exact h
theorem s2_addS : S2 Fw.rAddS jS jS (sF jS) (fun x y => pck (x.length + y.length ≤ sz) (x ++ y)) := ⟨fun s0 r1 r2 e k => by
  obtain ⟨p, rfl⟩ := pck_some e
  exact ⟨_, _, r1.1, r2.1, sz_le p, k _ _ _ [] (Step.nil s0) ⟨rfl, rfl, okS_app r1.2 r2.2⟩⟩⟩
theorem s2_mulS : S2 rMulS jS jI (sF jS) (fun x y => pck ((0 ≤ y ∧ y < 1073741824) ∧ x.length * y.toNat ≤ sz) (List.replicate y.toNat x).flatten) := ⟨fun s0 r1 r2 e k => by
  obtain ⟨p, rfl⟩ := pck_some e
  exact ⟨_, _, r1.1, r2, p.1.1, p.1.2, sz_le p.2, k _ _ _ [] (Step.nil s0) ⟨rfl, rfl, okS_flat fun x hx => by rw [(List.mem_replicate.mp hx).2]; exact r1.2⟩⟩⟩
/-- x[i], from either end -/
def pat {τ : Type} (xs : List τ) (i : Int) : Option τ := atI xs i
theorem pat_mem {τ : Type} {xs : List τ} {i : Int} {x : τ} (h : pat xs i = some x) : x ∈ xs := by
  unfold pat atI at h
  cases hj : ixN xs.length i with
  | none => rw [hj] at h; cases h
  | some j => rw [hj] at h; exact List.mem_of_getElem? h
def pixS (x : List Nat) (y : Int) : Option (List Nat) := ob (pck (x.length ≤ sz) ()) fun _ => (pat x y).map fun c => [c]
theorem s2_ixS : S2 rIxSg jS jI (sF jS) (fun x y => pixS x y) := ⟨fun s0 r1 r2 e k => by
  unfold pixS at e
  obtain ⟨_, e1, e⟩ := ob_some e
  obtain ⟨p, _⟩ := pck_some e1
  cases h : pat _ _ with
  | none => rw [h] at e; cases e
  | some c =>
    rw [h] at e
    cases e
    exact ⟨_, _, c, r1.1, r2, sz_le p, h, k _ _ _ [] (Step.nil s0) ⟨rfl, rfl, okS_sub r1.2 fun d hd => by rw [List.mem_singleton.mp hd]; exact pat_mem h⟩⟩⟩
theorem paired_len {R : Rp α} {F : Hp} {vs : List V} {xs : List α} (h : Paired (R.r F) vs xs) : vs.length = xs.length := Paired.len h
theorem pat_paired {R : α → β → Prop} {vs : List α} {xs : List β} {i : Int} {x : β} (h : Paired R vs xs) (e : pat xs i = some x) : ∃ v, atI vs i = some v ∧ R v x := by
  unfold pat atI at e
  unfold atI
  rw [Paired.len h]
  cases hj : ixN xs.length i with
  | none => rw [hj] at e; cases e
  | some j =>
    rw [hj] at e
    exact Paired.at h e
theorem s2_ixL : S2 (rIxL K) (jL A) jI (sF A) (fun x y => pat x y) := ⟨fun s0 ⟨a, vs, r1, r2, p⟩ r3 e k => by
  obtain ⟨v, h1, h2⟩ := pat_paired p e
  exact ⟨a, vs, _, v, r1, r3, .inl (.inl (s0 _ _ r2)), h1, k _ _ _ [] (Step.nil s0) ⟨rfl, h2⟩⟩⟩
theorem s2_ixQ : S2 (rIxL K) (jQ K A) jI (sF A) (fun x y => pat x y) := ⟨fun s0 ⟨a, vs, r1, r2, p⟩ r3 e k => by
  obtain ⟨v, h1, h2⟩ := pat_paired p e
  exact ⟨a, vs, _, v, r1, r3, s0.seq r2, h1, k _ _ _ [] (Step.nil s0) ⟨rfl, h2⟩⟩⟩
/-- a tuple's part -/
structure Tat (T : Tp ρ') (n : Nat) (i : Nat) (R : Rp α) (g : ρ' → α) : Prop where
  run : ∀ {F : Hp} {vs : List V} {x : ρ'}, T.r F vs x → vs.length = n ∧ ∃ v, vs[i]? = some v ∧ R.r F v (g x)
instance {T : Tp ρ'} {n : Nat} {i : Nat} {R : Rp α} {g : ρ' → α} : CoeFun (Tat T n i R g) (fun _ => ∀ {F : Hp} {vs : List V} {x : ρ'}, T.r F vs x → vs.length = n ∧ ∃ v, vs[i]? = some v ∧ R.r F v (g x)) := ⟨fun h => h.run⟩
theorem tz1 : Tat (y1 A) 1 0 A (fun x => x) := ⟨fun ⟨v, e, h⟩ => by subst e; exact ⟨rfl, v, rfl, h⟩⟩
theorem tz {T : Tp ρ'} {n j : Nat} {R : Rp β} {g : ρ' → β} (h : Tat T n j R g) : Tat (yC A T) (n + 1) 0 A (fun x => x.1) := ⟨fun ⟨v, r, e, h1, h2⟩ => by
  subst e
  exact ⟨by rw [List.length_cons, (h h2).1], v, rfl, h1⟩⟩
theorem ts {T : Tp ρ'} {n j : Nat} {R : Rp β} {g : ρ' → β} (h : Tat T n j R g) : Tat (yC A T) (n + 1) (j + 1) R (fun x => g x.2) := ⟨fun ⟨v, r, e, h1, h2⟩ => by
  subst e
  obtain ⟨e1, u, e2, e3⟩ := h h2
  exact ⟨by rw [List.length_cons, e1], u, e2, e3⟩⟩
theorem se_ixT {T : Tp ρ'} {n j : Nat} {i : Int} {R : Rp β} {g : ρ' → β} {fa : ρ → Option ρ'} (ha : SE ta E (sF (jT T)) fa) (h : Tat T n j R g) (hi : ixN n i = some j := by rfl) : SE (tOp (rIxT K) ta (tC (.int i))) E (sF R) (fun γ => ob (fa γ) fun x => some (g x)) := ⟨fun s0 hL he e k => by
  obtain ⟨x, e1, e⟩ := ob_some e
  cases e
  refine ha s0 hL he e1 fun v F1 H1 L1 s1 ⟨z1, a, vs, r1, r2, p⟩ => ?_
  subst z1
  obtain ⟨h1, u, h2, h3⟩ := h p
  refine ⟨a, vs, i, u, r1, rfl, .inl (.inl (s1.fh _ _ r2)), ?_, k _ _ _ [] s1 ⟨rfl, h3⟩⟩
  unfold atI
  rw [h1, hi]
  exact h2⟩
/-! tests and choices -/
theorem se_ifE {t : TT} {s : Sl α} {fq : ρ → Option Bool} {fa fb : ρ → Option α} (hc : ST t E fq) (ha : SE ta E s fa) (hb : SE tb E s fb) : SE (tIf t ta tb) E s (fun γ => ob (fq γ) fun b => if b = true then fa γ else fb γ) := ⟨fun s0 hL he e k => by
  obtain ⟨b, e1, e⟩ := ob_some e
  refine hc s0 hL he e1 fun F1 H1 s1 => ?_
  cases b with
  | true =>
    show if true = true then _ else _
    rw [if_pos rfl]
    rw [if_pos rfl] at e
    exact ha s1.fh (hL.mono s1.hh) (E.m s1.f0 he) e fun z F3 H3 L3 s3 r3 => k z F3 H3 L3 (s1.tr s3) r3
  | false =>
    show if false = true then _ else _
    rw [if_neg Bool.false_ne_true]
    rw [if_neg Bool.false_ne_true] at e
    exact hb s1.fh (hL.mono s1.hh) (E.m s1.f0 he) e fun z F3 H3 L3 s3 r3 => k z F3 H3 L3 (s1.tr s3) r3⟩
theorem se_andV {fa fb : ρ → Option Bool} (ha : SE ta E (sF jB) fa) (hb : SE tb E (sF jB) fb) : SE (tAndV ta tb) E (sF jB) (fun γ => ob (fa γ) fun b => if b = true then fb γ else some false) := ⟨fun s0 hL he e k => by
  obtain ⟨b, e1, e⟩ := ob_some e
  refine ha s0 hL he e1 fun v F1 H1 L1 s1 ⟨z1, r1⟩ => ?_
  subst z1
  refine ⟨b, r1, ?_⟩
  cases b with
  | true =>
    rw [if_pos rfl] at e ⊢
    exact hb s1.fh (hL.mono s1.hh) (E.m s1.f0 he) e fun z F3 H3 L3 s3 r3 => k z F3 H3 L3 (s1.tr s3) r3
  | false =>
    rw [if_neg Bool.false_ne_true] at e ⊢
    cases e
    exact k _ _ _ [] s1 ⟨rfl, rfl⟩⟩
theorem se_orV {fa fb : ρ → Option Bool} (ha : SE ta E (sF jB) fa) (hb : SE tb E (sF jB) fb) : SE (tOrV ta tb) E (sF jB) (fun γ => ob (fa γ) fun b => if b = true then some true else fb γ) := ⟨fun s0 hL he e k => by
  obtain ⟨b, e1, e⟩ := ob_some e
  refine ha s0 hL he e1 fun v F1 H1 L1 s1 ⟨z1, r1⟩ => ?_
  subst z1
  refine ⟨b, r1, ?_⟩
  cases b with
  | true =>
    rw [if_pos rfl] at e ⊢
    cases e
    exact k _ _ _ [] s1 ⟨rfl, rfl⟩
  | false =>
    rw [if_neg Bool.false_ne_true] at e ⊢
    exact hb s1.fh (hL.mono s1.hh) (E.m s1.f0 he) e fun z F3 H3 L3 s3 r3 => k z F3 H3 L3 (s1.tr s3) r3⟩
theorem se_notV {fa : ρ → Option Bool} (ha : SE ta E (sF jB) fa) : SE (tNotV ta) E (sF jB) (fun γ => ob (fa γ) fun b => some (!b)) := ⟨fun s0 hL he e k => by
  obtain ⟨b, e1, e⟩ := ob_some e
  cases e
  refine ha s0 hL he e1 fun v F1 H1 L1 s1 ⟨z1, r1⟩ => ?_
  subst z1
  exact ⟨b, r1, k _ _ _ [] s1 ⟨rfl, rfl⟩⟩⟩
theorem se_chain {r r' : R2} {g : α → β → Option Bool} {g' : β → δ → Option Bool} (ha : SE ta E (sF A) fa) (hb : SE tb E (sF B) fb) (hc : SE tc E (sF D) fc) (h1 : S2 r A B (sF jB) g) (h2 : S2 r' B D (sF jB) g') :
    SE (tChain r r' ta tb tc) E (sF jB) (fun γ => ob (fa γ) fun x => ob (fb γ) fun y => ob (g x y) fun b => if b = true then ob (fc γ) fun z => g' y z else some false) := ⟨fun s0 hL he e k => by
  obtain ⟨x, e1, e⟩ := ob_some e
  obtain ⟨y, e2, e⟩ := ob_some e
  obtain ⟨b, e3, e⟩ := ob_some e
  refine ha s0 hL he e1 fun v F1 H1 L1 s1 ⟨z1, r1⟩ => ?_
  subst z1
  refine hb s1.fh (hL.mono s1.hh) (E.m s1.f0 he) e2 fun u F2 H2 L2 s2 ⟨z2, r2⟩ => ?_
  subst z2
  have s12 := s1.tr s2
  refine h1 s2.fh (A.m s2.f0 r1) r2 e3 fun z F3 H3 L3 s3 ⟨z3, r3⟩ => ?_
  subst z3
  have s13 := s12.tr s3
  refine ⟨b, r3, ?_⟩
  cases b with
  | true =>
    rw [if_pos rfl] at e ⊢
    obtain ⟨z', e4, e⟩ := ob_some e
    refine hc s3.fh (hL.mono s13.hh) (E.m s13.f0 he) e4 fun u4 F4 H4 L4 s4 ⟨z4, r4⟩ => ?_
    subst z4
    exact h2 s4.fh (B.m s4.f0 (B.m s3.f0 r2)) r4 e fun z F5 H5 L5 s5 r5 => k z F5 H5 L5 (s13.tr (s4.tr s5)) r5
  | false =>
    rw [if_neg Bool.false_ne_true] at e ⊢
    cases e
    exact k _ _ _ [] s13 ⟨rfl, rfl⟩⟩
theorem st_test {fa : ρ → Option Bool} (ha : SE ta E (sF jB) fa) : ST (tTest ta) E fa := ⟨fun s0 hL he e k => ha s0 hL he e fun v F1 H1 L1 s1 ⟨z1, r1⟩ => by
  subst z1
  exact ⟨_, r1, k _ _ s1⟩⟩
theorem st_B {fa : ρ → Option Bool} (ha : SE ta E (sF jB) fa) : ST (tB ta) E fa := st_test ha
variable {t u : TT} {ft fu : ρ → Option Bool}
theorem st_and (ha : ST t E ft) (hb : ST u E fu) : ST (tAnd t u) E (fun γ => ob (ft γ) fun b => if b = true then fu γ else some false) := ⟨fun s0 hL he e k => by
  obtain ⟨b, e1, e⟩ := ob_some e
  refine ha s0 hL he e1 fun F1 H1 s1 => ?_
  cases b with
  | true =>
    show if true = true then _ else _
    rw [if_pos rfl]
    rw [if_pos rfl] at e
    exact hb s1.fh (hL.mono s1.hh) (E.m s1.f0 he) e fun F3 H3 s3 => k F3 H3 (s1.tr s3)
  | false =>
    show if false = true then _ else _
    rw [if_neg Bool.false_ne_true] at e ⊢
    cases e
    exact k _ _ s1⟩
theorem st_or (ha : ST t E ft) (hb : ST u E fu) : ST (tOr t u) E (fun γ => ob (ft γ) fun b => if b = true then some true else fu γ) := ⟨fun s0 hL he e k => by
  obtain ⟨b, e1, e⟩ := ob_some e
  refine ha s0 hL he e1 fun F1 H1 s1 => ?_
  cases b with
  | true =>
    show if true = true then _ else _
    rw [if_pos rfl] at e ⊢
    cases e
    exact k _ _ s1
  | false =>
    show if false = true then _ else _
    rw [if_neg Bool.false_ne_true] at e ⊢
    exact hb s1.fh (hL.mono s1.hh) (E.m s1.f0 he) e fun F3 H3 s3 => k F3 H3 (s1.tr s3)⟩
theorem st_not (ha : ST t E ft) : ST (tNot t) E (fun γ => ob (ft γ) fun b => some (!b)) := ⟨fun s0 hL he e k => by
  obtain ⟨b, e1, e⟩ := ob_some e
  cases e
  exact ha s0 hL he e1 fun F1 H1 s1 => k _ _ s1⟩
theorem st_yes : ST tYes E (fun _ => some true) := ⟨fun s0 _ _ e k => by
  cases e
  exact k _ _ (Step.nil s0)⟩
/-! argument lists -/
theorem sa_nil : SA tNil E aN (fun _ => some ()) := ⟨fun s0 _ _ e k => k _ _ _ (Step.nil s0) rfl⟩
theorem sa_cons {tr : TA} {T : Ar β} {fr : ρ → Option β} (ha : SE ta E (sF A) fa) (hr : SA tr E T fr) : SA (tCons ta tr) E (aC A T) (fun γ => ob (fa γ) fun x => ob (fr γ) fun y => some (x, y)) := ⟨fun s0 hL he e k => by
  obtain ⟨x, e1, e⟩ := ob_some e
  obtain ⟨y, e2, e⟩ := ob_some e
  cases e
  refine ha s0 hL he e1 fun v F1 H1 L1 s1 ⟨z1, r1⟩ => ?_
  subst z1
  exact hr s1.fh (hL.mono s1.hh) (E.m s1.f0 he) e2 fun vs F2 H2 s2 r2 => k _ _ _ (s1.tr s2) ⟨v, vs, rfl, A.m s2.f0 r1, r2⟩⟩
/-- items of one kind -/
def aL (R : Rp α) : Ar (List α) := ⟨fun F vs xs => Paired (R.r F) vs xs, fun s h => Paired.mono (fun _ _ q => R.m s q) h⟩
theorem sl_nil : SA tNil E (aL A) (fun _ => some []) := ⟨fun s0 _ _ e k => by
  cases e
  exact k _ _ _ (Step.nil s0) .nil⟩
theorem sl_cons {tr : TA} {fr : ρ → Option (List α)} (ha : SE ta E (sF A) fa) (hr : SA tr E (aL A) fr) : SA (tCons ta tr) E (aL A) (fun γ => ob (fa γ) fun x => ob (fr γ) fun y => some (x :: y)) := ⟨fun s0 hL he e k => by
  obtain ⟨x, e1, e⟩ := ob_some e
  obtain ⟨y, e2, e⟩ := ob_some e
  cases e
  refine ha s0 hL he e1 fun v F1 H1 L1 s1 ⟨z1, r1⟩ => ?_
  subst z1
  exact hr s1.fh (hL.mono s1.hh) (E.m s1.f0 he) e2 fun vs F2 H2 s2 r2 => k _ _ _ (s1.tr s2) (.cons (A.m s2.f0 r1) r2)⟩
/-- a tuple's parts -/
def aT (T : Tp α) : Ar α := ⟨T.r, T.m⟩
theorem st1 (ha : SE ta E (sF A) fa) : SA (tCons ta tNil) E (aT (y1 A)) fa := ⟨fun s0 hL he e k => by
  refine ha s0 hL he e fun v F1 H1 L1 s1 ⟨z1, r1⟩ => ?_
  subst z1
  exact k _ _ _ s1 ⟨v, rfl, r1⟩⟩
theorem stC {tr : TA} {T : Tp β} {fr : ρ → Option β} (ha : SE ta E (sF A) fa) (hr : SA tr E (aT T) fr) : SA (tCons ta tr) E (aT (yC A T)) (fun γ => ob (fa γ) fun x => ob (fr γ) fun y => some (x, y)) := ⟨fun s0 hL he e k => by
  obtain ⟨x, e1, e⟩ := ob_some e
  obtain ⟨y, e2, e⟩ := ob_some e
  cases e
  refine ha s0 hL he e1 fun v F1 H1 L1 s1 ⟨z1, r1⟩ => ?_
  subst z1
  exact hr s1.fh (hL.mono s1.hh) (E.m s1.f0 he) e2 fun vs F2 H2 s2 r2 => k _ _ _ (s1.tr s2) ⟨v, vs, rfl, A.m s2.f0 r1, r2⟩⟩
theorem Tp.lenOf {T : Tp ρ'} {n j : Nat} {R : Rp β} {g : ρ' → β} (h : Tat T n j R g) {F : Hp} {vs : List V} {x : ρ'} (r : T.r F vs x) : vs.length = n := (h r).1
theorem se_tup {tA : TA} {T : Tp α} {f : ρ → Option α} {n j : Nat} {R : Rp β} {g : α → β} (h : SA tA E (aT T) f) (hn : Tat T n j R g) (hz : n ≤ sz := by decide) : SE (tTup tA) E (sF (jT T)) f := ⟨fun s0 hL he e k => by
  refine h s0 hL he e fun vs F1 H1 s1 r1 => ?_
  refine ⟨sz_le (by rw [show vs.length = n from (hn r1).1]; exact hz), fun p np => ?_⟩
  have s2 := (Step.nil s1.fh).ice np (.tup vs)
  exact k _ _ _ [] (s1.tr (s2.chunks trivial)) ⟨rfl, p, vs, rfl, upd_same, T.m s2.f0 r1⟩⟩
theorem newL {F H : Hp} {R : Rp α} {vs : List V} {xs : List α} {Q : VK} (s0 : Same F H) (h : Paired (R.r F) vs xs) (k : ∀ z F' H' L, Step F H F' H' L → (sO R).r z F' L xs → Q z H') (p : Addr) (np : H p = none) : Q (.ref p) (upd H p (.lst vs)) :=
  k _ _ _ _ ((Step.nil s0).alloc np (.lst vs)) ⟨p, vs, rfl, rfl, h⟩
theorem se_lst {tA : TA} {f : ρ → Option (List α)} (h : SA tA E (aL A) f) : SE (tLst tA) E (sO A) (fun γ => ob (f γ) fun xs => pck (xs.length ≤ sz) xs) := ⟨fun s0 hL he e k => by
  obtain ⟨xs, e1, e⟩ := ob_some e
  obtain ⟨p, rfl⟩ := pck_some e
  refine h s0 hL he e1 fun vs F1 H1 s1 r1 => ?_
  exact ⟨sz_le (by rw [Paired.len r1]; exact p), fun p np => newL s1.fh r1 (fun z F' H' L s2 r => k z F' H' L (s1.tr s2) r) p np⟩⟩
end
end Mi

namespace Mi
open PySem PySem.Spec PyProof.Rows L2 Fw
section
variable {ρ ρ' ρ'' α β δ ε : Type} {E : En ρ} {E' : En ρ'} {ta tb tc te : TE} {tA : TA} {A : Rp α} {B : Rp β} {D : Rp δ} {fa : ρ → Option α} {fb : ρ → Option β} {fc : ρ → Option δ} {K : PySem.W.Frag}
/-! slices -/
structure SP (t : TO) (E : En ρ) (f : ρ → Option (Option Int)) : Prop where
  run : ∀ {σ : L2.St} {F H : Hp} {L : List (Addr × HO)} {γ : ρ} {x : Option Int} {Q : Option Int → Hp → Prop}, Same F H → Held H L → E.r σ F L γ → f γ = some x →
  (∀ F' H', Step F H F' H' [] → Q x H') → t σ H Q
instance {t : TO} {E : En ρ} {f : ρ → Option (Option Int)} : CoeFun (SP t E f) (fun _ => ∀ {σ : L2.St} {F H : Hp} {L : List (Addr × HO)} {γ : ρ} {x : Option Int} {Q : Option Int → Hp → Prop}, Same F H → Held H L → E.r σ F L γ → f γ = some x →
  (∀ F' H', Step F H F' H' [] → Q x H') → t σ H Q) := ⟨fun h => h.run⟩
theorem sp_no : SP tNoPart E (fun _ => some none) := ⟨fun s0 _ _ e k => by
  cases e
  exact k _ _ (Step.nil s0)⟩
theorem sp_so {fa : ρ → Option Int} (ha : SE ta E (sF jI) fa) : SP (tPart ta) E (fun γ => ob (fa γ) fun x => some (some x)) := ⟨fun s0 hL he e k => by
  obtain ⟨x, e1, e⟩ := ob_some e
  cases e
  refine ha s0 hL he e1 fun v F1 H1 L1 s1 ⟨z1, r1⟩ => ?_
  subst z1
  exact ⟨x, r1, k _ _ s1⟩⟩
/-- xs[lo:hi] -/
def pcut {τ : Type} (xs : List τ) (lo hi : Option Int) : List τ := (xs.drop (HT.sIx xs.length 0 lo)).take (HT.sIx xs.length xs.length hi - HT.sIx xs.length 0 lo)
structure SS3 (r : V → Option Int → Option Int → Hp → VK → Prop) (A : Rp α) (s : Sl β) (g : α → Option Int → Option Int → Option β) : Prop where
  run : ∀ {F H : Hp} {x : V} {a : α} {lo hi : Option Int} {c : β} {Q : VK}, Same F H → A.r F x a → g a lo hi = some c →
  (∀ z F' H' L, Step F H F' H' L → s.r z F' L c → Q z H') → r x lo hi H Q
instance {r : V → Option Int → Option Int → Hp → VK → Prop} {A : Rp α} {s : Sl β} {g : α → Option Int → Option Int → Option β} : CoeFun (SS3 r A s g) (fun _ => ∀ {F H : Hp} {x : V} {a : α} {lo hi : Option Int} {c : β} {Q : VK}, Same F H → A.r F x a → g a lo hi = some c →
  (∀ z F' H' L, Step F H F' H' L → s.r z F' L c → Q z H') → r x lo hi H Q) := ⟨fun h => h.run⟩
theorem se_sl {r : V → Option Int → Option Int → Hp → VK → Prop} {tl th : TO} {fl fh : ρ → Option (Option Int)} {s : Sl β} {g : α → Option Int → Option Int → Option β} (ha : SE ta E (sF A) fa) (hl : SP tl E fl) (hh : SP th E fh) (hs : SS3 r A s g) :
    SE (tSl r ta tl th) E s (fun γ => ob (fa γ) fun x => ob (fl γ) fun lo => ob (fh γ) fun hi => g x lo hi) := ⟨fun s0 hL he e k => by
  obtain ⟨x, e1, e⟩ := ob_some e
  obtain ⟨lo, e2, e⟩ := ob_some e
  obtain ⟨hi, e3, e⟩ := ob_some e
  refine ha s0 hL he e1 fun v F1 H1 L1 s1 ⟨z1, r1⟩ => ?_
  subst z1
  refine hl s1.fh (hL.mono s1.hh) (E.m s1.f0 he) e2 fun F2 H2 s2 => ?_
  have s12 := s1.tr s2
  refine hh s2.fh (hL.mono s12.hh) (E.m s12.f0 he) e3 fun F3 H3 s3 => ?_
  exact hs s3.fh (A.m s3.f0 (A.m s2.f0 r1)) e fun z F5 H5 L5 s5 r5 => k z F5 H5 L5 (s12.tr (s3.tr s5)) r5⟩
theorem s3_S : SS3 rSlSg jS (sF jS) (fun x lo hi => pck (x.length ≤ sz) (pcut x lo hi)) := ⟨fun s0 r1 e k => by
  obtain ⟨p, rfl⟩ := pck_some e
  exact ⟨_, r1.1, sz_le p, k _ _ _ [] (Step.nil s0) ⟨rfl, rfl, okS_sub r1.2 fun c hc => List.mem_of_mem_drop (List.mem_of_mem_take hc)⟩⟩⟩
theorem pcut_paired {R : α → β → Prop} {vs : List α} {xs : List β} {lo hi : Option Int} (h : Paired R vs xs) : Paired R (pcut vs lo hi) (pcut xs lo hi) := by
  unfold pcut
  rw [Paired.len h]
  exact Paired.tk _ (Paired.dp _ h)
theorem s3_L : SS3 (rSlL K) (jL A) (sO A) (fun x lo hi => some (pcut x lo hi)) := ⟨fun s0 ⟨a, vs, r1, r2, p⟩ e k => by
  cases e
  exact ⟨a, vs, r1, .inl (.inl (s0 _ _ r2)), newL s0 (pcut_paired p) k⟩⟩
/-! calls of built-in things -/
structure SC (r : List V → Hp → VK → Prop) (A : Ar α) (s : Sl δ) (g : α → Option δ) : Prop where
  run : ∀ {F H : Hp} {vs : List V} {a : α} {c : δ} {Q : VK}, Same F H → A.r F vs a → g a = some c →
  (∀ z F' H' L, Step F H F' H' L → s.r z F' L c → Q z H') → r vs H Q
theorem se_cb {r : List V → Hp → VK → Prop} {Ar : Ar α} {s : Sl δ} {g : α → Option δ} {f : ρ → Option α} (h : SA tA E Ar f) (hs : SC r Ar s g) : SE (tCB r tA) E s (fun γ => ob (f γ) g) := ⟨fun s0 hL he e k => by
  obtain ⟨x, e1, e⟩ := ob_some e
  refine h s0 hL he e1 fun vs F1 H1 s1 r1 => ?_
  exact hs.run s1.fh r1 e fun z F5 H5 L5 s5 r5 => k z F5 H5 L5 (s1.tr s5) r5⟩
theorem sc_val {r : List V → Hp → VK → Prop} {Ar : Ar α} {g : α → δ} (h : ∀ {F H : Hp} {vs : List V} {a : α} {Q : VK}, Same F H → Ar.r F vs a → (∀ z, D.r F z (g a) → Q z H) → r vs H Q) : SC r Ar (sF D) (fun x => some (g x)) := ⟨fun s0 r1 e k => by
  cases e
  exact h s0 r1 fun z rz => k z _ _ [] (Step.nil s0) ⟨rfl, rz⟩⟩
theorem sc_lenS : SC rLenS (aC jS aN) (sF jI) (fun x => pck (x.1.length ≤ sz) (x.1.length : Int)) := ⟨fun {_ _ _ a _ _} s0 ⟨v, r, e1, r1, e2⟩ e k => by
  obtain ⟨p, rfl⟩ := pck_some e
  subst e1 e2
  refine ⟨a.1, ?_, sz_le p, k _ _ _ [] (Step.nil s0) ⟨rfl, rfl⟩⟩
  rw [show v = vS a.1 from r1.1]⟩
theorem sc_lenL : SC (rLenQ K) (aC (jL A) aN) (sF jI) (fun x => some (x.1.length : Int)) := sc_val fun s0 ⟨v, r, e1, ⟨a, vs, e3, h, p⟩, e2⟩ k => by
  subst e1 e2 e3
  exact ⟨a, vs, rfl, .inl (.inl (.inl (s0 _ _ h))), by rw [Paired.len p]; exact k _ rfl⟩
theorem sc_lenQ : SC (rLenQ K) (aC (jQ K A) aN) (sF jI) (fun x => some (x.1.length : Int)) := sc_val fun s0 ⟨v, r, e1, ⟨a, vs, e3, h, p⟩, e2⟩ k => by
  subst e1 e2 e3
  exact ⟨a, vs, rfl, .inl (s0.seq h), by rw [Paired.len p]; exact k _ rfl⟩
theorem sc_lenT {T : Tp α} {n j : Nat} {R : Rp β} {g : α → β} (ht : Tat T n j R g) : SC (rLenQ K) (aC (jT T) aN) (sF jI) (fun _ => some (n : Int)) := sc_val fun s0 ⟨v, r, e1, ⟨a, vs, e3, h, p⟩, e2⟩ k => by
  subst e1 e2 e3
  exact ⟨a, vs, rfl, .inr (.inl (.inl (s0 _ _ h))), by rw [(ht p).1]; exact k _ rfl⟩
theorem sc_abs : SC rAbs (aC jI aN) (sF jI) (fun x => some (x.1.natAbs : Int)) := sc_val fun {_ _ _ a _} s0 ⟨v, r, e1, r1, e2⟩ k => by
  subst e1 e2
  exact ⟨a.1, by rw [show v = .int a.1 from r1], k _ rfl⟩
theorem sc_int : SC rInt (aC jI aN) (sF jI) (fun x => some x.1) := sc_val fun {_ _ _ a _} s0 ⟨v, r, e1, r1, e2⟩ k => by
  subst e1 e2
  exact ⟨a.1, by rw [show v = .int a.1 from r1], k _ rfl⟩
theorem sc_intB : SC rIntB (aC jB aN) (sF jI) (fun x => some (if x.1 = true then 1 else 0)) := sc_val fun {_ _ _ a _} s0 ⟨v, r, e1, r1, e2⟩ k => by
  subst e1 e2
  exact ⟨a.1, by rw [show v = .bl a.1 from r1], k _ rfl⟩
theorem sc_min2 : SC rMin2' (aC jI (aC jI aN)) (sF jI) (fun x => some (min x.1 x.2.1)) := sc_val fun {_ _ _ a _} s0 ⟨v, r, e1, r1, v2, r', e2, r2, e3⟩ k => by
  subst e1 e2 e3
  exact ⟨a.1, a.2.1, by rw [show v = .int a.1 from r1, show v2 = .int a.2.1 from r2], k _ rfl⟩
theorem sc_max2 : SC rMax2' (aC jI (aC jI aN)) (sF jI) (fun x => some (max x.1 x.2.1)) := sc_val fun {_ _ _ a _} s0 ⟨v, r, e1, r1, v2, r', e2, r2, e3⟩ k => by
  subst e1 e2 e3
  exact ⟨a.1, a.2.1, by rw [show v = .int a.1 from r1, show v2 = .int a.2.1 from r2], k _ rfl⟩
theorem sc_min3 : SC rMin3' (aC jI (aC jI (aC jI aN))) (sF jI) (fun x => some (min (min x.1 x.2.1) x.2.2.1)) := sc_val fun {_ _ _ a _} s0 ⟨v, r, e1, r1, v2, r', e2, r2, v3, r'', e3, r3, e4⟩ k => by
  subst e1 e2 e3 e4
  exact ⟨a.1, a.2.1, a.2.2.1, by rw [show v = .int a.1 from r1, show v2 = .int a.2.1 from r2, show v3 = .int a.2.2.1 from r3], k _ rfl⟩
theorem ints_of {F : Hp} {vs : List V} {ns : List Int} (h : Paired (jI.r F) vs ns) : vs = ns.map V.int := Paired.ofMap (fun _ _ r => r) h
theorem strs_of {F : Hp} {vs : List V} {ns : List (List Nat)} (h : Paired (jS.r F) vs ns) : vs = ns.map vS := Paired.ofMap (fun _ _ r => r.1) h
theorem bls_of {F : Hp} {vs : List V} {ns : List Bool} (h : Paired (jB.r F) vs ns) : vs = ns.map V.bl := Paired.ofMap (fun _ _ r => r) h
theorem sc_sum : SC (rSum K) (aC (jL jI) aN) (sF jI) (fun x => some x.1.sum) := sc_val fun s0 ⟨v, r, e1, ⟨a, vs, e3, h, p⟩, e2⟩ k => by
  subst e1 e2 e3
  exact ⟨a, _, rfl, .inl (.inl (by rw [← ints_of p]; exact s0 _ _ h)), k _ rfl⟩
theorem sc_all : SC (rAll K) (aC (jL jB) aN) (sF jB) (fun x => some (x.1.all id)) := sc_val fun s0 ⟨v, r, e1, ⟨a, vs, e3, h, p⟩, e2⟩ k => by
  subst e1 e2 e3
  exact ⟨a, _, rfl, .inl (.inl (by rw [← bls_of p]; exact s0 _ _ h)), k _ rfl⟩
theorem sc_any : SC (rAny K) (aC (jL jB) aN) (sF jB) (fun x => some (x.1.any id)) := sc_val fun s0 ⟨v, r, e1, ⟨a, vs, e3, h, p⟩, e2⟩ k => by
  subst e1 e2 e3
  exact ⟨a, _, rfl, .inl (.inl (by rw [← bls_of p]; exact s0 _ _ h)), k _ rfl⟩
/-- least, greatest -/
def pmin : List Int → Option Int
  | [] => none
  | x :: xs => some (xs.foldl min x)
def pmax : List Int → Option Int
  | [] => none
  | x :: xs => some (xs.foldl max x)
theorem foldl_min : ∀ (xs : List Int) (x : Int), xs.foldl min x ≤ x ∧ (∀ y ∈ xs, xs.foldl min x ≤ y) ∧ (xs.foldl min x = x ∨ xs.foldl min x ∈ xs)
  | [], x => ⟨Int.le_refl _, fun _ h => (nomatch h), .inl rfl⟩
  | y :: ys, x => by
    obtain ⟨h1, h2, h3⟩ := foldl_min ys (min x y)
    rw [List.foldl_cons]
    refine ⟨by omega, fun z hz => ?_, ?_⟩
    · rcases List.mem_cons.mp hz with e | hz
      · subst e; omega
      · exact h2 z hz
    · rcases h3 with h3 | h3
      · rw [h3]
        by_cases hxy : x ≤ y
        · exact .inl (by omega)
        · exact .inr (by rw [show min x y = y by omega]; exact List.mem_cons_self)
      · exact .inr (List.mem_cons_of_mem _ h3)
theorem foldl_max : ∀ (xs : List Int) (x : Int), x ≤ xs.foldl max x ∧ (∀ y ∈ xs, y ≤ xs.foldl max x) ∧ (xs.foldl max x = x ∨ xs.foldl max x ∈ xs)
  | [], x => ⟨Int.le_refl _, fun _ h => (nomatch h), .inl rfl⟩
  | y :: ys, x => by
    obtain ⟨h1, h2, h3⟩ := foldl_max ys (max x y)
    rw [List.foldl_cons]
    refine ⟨by omega, fun z hz => ?_, ?_⟩
    · rcases List.mem_cons.mp hz with e | hz
      · subst e; omega
      · exact h2 z hz
    · rcases h3 with h3 | h3
      · rw [h3]
        by_cases hxy : y ≤ x
        · exact .inl (by omega)
        · exact .inr (by rw [show max x y = y by omega]; exact List.mem_cons_self)
      · exact .inr (List.mem_cons_of_mem _ h3)
theorem pmin_spec {ns : List Int} {m : Int} (h : pmin ns = some m) : m ∈ ns ∧ ∀ y ∈ ns, m ≤ y := by
  cases ns with
  | nil => cases h
  | cons x xs =>
    cases h
    obtain ⟨h1, h2, h3⟩ := foldl_min xs x
    refine ⟨?_, fun y hy => ?_⟩
    · rcases h3 with h3 | h3
      · rw [h3]; exact List.mem_cons_self
      · exact List.mem_cons_of_mem _ h3
    · rcases List.mem_cons.mp hy with e | hy
      · subst e; exact h1
      · exact h2 y hy
theorem pmax_spec {ns : List Int} {m : Int} (h : pmax ns = some m) : m ∈ ns ∧ ∀ y ∈ ns, y ≤ m := by
  cases ns with
  | nil => cases h
  | cons x xs =>
    cases h
    obtain ⟨h1, h2, h3⟩ := foldl_max xs x
    refine ⟨?_, fun y hy => ?_⟩
    · rcases h3 with h3 | h3
      · rw [h3]; exact List.mem_cons_self
      · exact List.mem_cons_of_mem _ h3
    · rcases List.mem_cons.mp hy with e | hy
      · subst e; exact h1
      · exact h2 y hy
theorem pmin_is {ns : List Int} {m : Int} (h1 : m ∈ ns) (h2 : ∀ y ∈ ns, m ≤ y) : pmin ns = some m := by
  cases h : pmin ns with
  | none => cases ns with
    | nil => cases h1
    | cons x xs => cases h
  | some k =>
    obtain ⟨k1, k2⟩ := pmin_spec h
    have a := k2 m h1
    have b := h2 k k1
    rw [show k = m by omega]
theorem pmax_is {ns : List Int} {m : Int} (h1 : m ∈ ns) (h2 : ∀ y ∈ ns, y ≤ m) : pmax ns = some m := by
  cases h : pmax ns with
  | none => cases ns with
    | nil => cases h1
    | cons x xs => cases h
  | some k =>
    obtain ⟨k1, k2⟩ := pmax_spec h
    have a := k2 m h1
    have b := h2 k k1
    rw [show k = m by omega]
theorem sc_min : SC (rMin K) (aC (jL jI) aN) (sF jI) (fun x => pmin x.1) := ⟨fun {_ _ _ a c _} s0 ⟨v, r, e1, ⟨p, vs, e3, h, q⟩, e2⟩ e k => by
  subst e1 e2 e3
  obtain ⟨h1, h2⟩ := pmin_spec e
  refine ⟨p, _, rfl, .inl (.inl (by rw [← ints_of q]; exact s0 _ _ h)), List.length_pos_of_mem h1, fun m m1 m2 => ?_⟩
  have a := h2 m m1
  have b := m2 c h1
  rw [show m = c by omega]
  exact k _ _ _ [] (Step.nil s0) ⟨rfl, rfl⟩⟩
theorem sc_max : SC (rMax K) (aC (jL jI) aN) (sF jI) (fun x => pmax x.1) := ⟨fun {_ _ _ a c _} s0 ⟨v, r, e1, ⟨p, vs, e3, h, q⟩, e2⟩ e k => by
  subst e1 e2 e3
  obtain ⟨h1, h2⟩ := pmax_spec e
  refine ⟨p, _, rfl, .inl (.inl (by rw [← ints_of q]; exact s0 _ _ h)), List.length_pos_of_mem h1, fun m m1 m2 => ?_⟩
  have a := h2 m m1
  have b := m2 c h1
  rw [show m = c by omega]
  exact k _ _ _ [] (Step.nil s0) ⟨rfl, rfl⟩⟩
theorem sc_listL : SC (rListQ K) (aC (jL A) aN) (sO A) (fun x => pck (x.1.length ≤ sz) x.1) := ⟨fun s0 ⟨v, r, e1, ⟨a, vs, e3, h, q⟩, e2⟩ e k => by
  obtain ⟨p, rfl⟩ := pck_some e
  subst e1 e2 e3
  have hz := sz_le (by rw [← Paired.len q] at p; exact p)
  exact ⟨a, vs, rfl, .inl (.inl (.inl (s0 _ _ h))), hz, hz, fun p np => newL s0 q k p np⟩⟩
theorem sc_listS : SC rListS (aC jS aN) (sO jS) (fun x => pck (x.1.length ≤ sz) (x.1.map fun c => [c])) := ⟨fun {H _ _ a _ _} s0 ⟨v, r, e1, r1, e2⟩ e k => by
  obtain ⟨p, rfl⟩ := pck_some e
  subst e1 e2
  refine ⟨a.1, by rw [show v = vS a.1 from r1.1], sz_le p, sz_le (by rw [List.length_map]; exact p), fun p np => newL s0 ?_ k p np⟩
  have h2 := r1.2
  clear np p r1
  generalize a.1 = l at h2
  induction l with
  | nil => exact .nil
  | cons c l ih => exact .cons ⟨rfl, fun d hd => by rw [List.mem_singleton.mp hd]; exact h2 c List.mem_cons_self⟩ (ih fun d hd => h2 d (List.mem_cons_of_mem _ hd))⟩
/-- the sorted list of numbers -/
def psort (ns : List Int) : List Int := ns.mergeSort (fun a b => decide (a ≤ b))
theorem psort_perm (ns : List Int) : (psort ns).Perm ns := List.mergeSort_perm _ _
theorem psort_sorted (ns : List Int) : (psort ns).Pairwise (· ≤ ·) := by
  have := List.pairwise_mergeSort (le := fun a b : Int => decide (a ≤ b)) (fun a b c h1 h2 => by simp at *; omega) (fun a b => by simp; omega) ns
  exact this.imp fun h => by simpa using h
theorem sorted_up : ∀ {ms ns : List Int}, ms.Perm ns → ms.Pairwise (· ≤ ·) → ns.Pairwise (· ≤ ·) → ms = ns := fun {ms ns} p h1 h2 =>
  List.Perm.eq_of_pairwise (le := (· ≤ ·)) (fun a b _ _ h1 h2 => by omega) h1 h2 p
theorem sc_sortI : SC (rSortedI K) (aC (jL jI) aN) (sO jI) (fun x => some (psort x.1)) := ⟨fun s0 ⟨v, r, e1, ⟨a, vs, e3, h, q⟩, e2⟩ e k => by
  cases e
  subst e1 e2 e3
  refine ⟨a, _, rfl, .inl (.inl (by rw [← ints_of q]; exact s0 _ _ h)), fun ms p pm od np => ?_⟩
  have em := sorted_up (pm.trans (psort_perm _).symm) od (psort_sorted _)
  subst em
  exact newL s0 (Paired.mk (A := jI.r _) (fun _ => rfl) _) k p np⟩
/-! isinstance -/
theorem sc_isi {r : Rp α} {n : String} {b : Bool} (h : ∀ {F H : Hp} {v : V} {x : α} {Q : VK}, Same F H → r.r F v x → Q (.bl b) H → L2.rIsi K [v, .ty n] H Q) : SC (L2.rIsi K) (aC r (aC (jV (.ty n)) aN)) (sF jB) (fun _ => some b) := sc_val fun s0 ⟨v, r1, e1, r2, v2, r', e2, r3, e3⟩ k => by
  subst e1 e2 e3
  rw [show v2 = .ty n from r3]
  exact h s0 r2 (k _ rfl)
theorem is_II : SC (L2.rIsi K) (aC jI (aC (jV (.ty "int")) aN)) (sF jB) (fun _ => some true) := sc_isi fun s0 r q => by rw [show _ = V.int _ from r]; exact w_isiII q
theorem is_IB : SC (L2.rIsi K) (aC jI (aC (jV (.ty "bool")) aN)) (sF jB) (fun _ => some false) := sc_isi fun s0 r q => by rw [show _ = V.int _ from r]; exact w_isiIB q
theorem is_SS : SC (L2.rIsi K) (aC jS (aC (jV (.ty "str")) aN)) (sF jB) (fun _ => some true) := sc_isi fun s0 r q => by rw [show _ = V.str _ from r.1]; exact w_isiSS q
theorem is_LL : SC (L2.rIsi K) (aC (jL A) (aC (jV (.ty "list")) aN)) (sF jB) (fun _ => some true) := sc_isi fun s0 ⟨a, vs, e, h, _⟩ q => by rw [e]; exact w_isiLL q (s0 _ _ h)
theorem is_TT {T : Tp α} : SC (L2.rIsi K) (aC (jT T) (aC (jV (.ty "tuple")) aN)) (sF jB) (fun _ => some true) := sc_isi fun s0 ⟨a, vs, e, h, _⟩ q => by rw [e]; exact w_isiTT q (s0 _ _ h)
theorem is_NT {n : String} (h : kitB "NoneType" n = some false := by decide +kernel) : SC (L2.rIsi K) (aC jN (aC (jV (.ty n)) aN)) (sF jB) (fun _ => some false) := sc_isi fun s0 r q => by
  rw [show _ = V.non from r]
  exact w_isi (b := true) "NoneType" n false (.base .non) h q
/-! lists -/
theorem s2_cat : S2 rCat (jL A) (jL A) (sO A) (fun x y => pck (x.length + y.length ≤ sz) (x ++ y)) := ⟨fun s0 ⟨a, vs, e1, h1, q1⟩ ⟨b, us, e2, h2, q2⟩ e k => by
  obtain ⟨p, rfl⟩ := pck_some e
  subst e1 e2
  exact ⟨a, b, vs, us, rfl, rfl, s0 _ _ h1, s0 _ _ h2, sz_le (by rw [Paired.len q1, Paired.len q2]; exact p), fun p np => newL s0 (Paired.app q1 q2) k p np⟩⟩
theorem Paired.rep {R : α → β → Prop} {vs : List α} {xs : List β} (h : Paired R vs xs) : ∀ n : Nat, Paired R (List.replicate n vs).flatten (List.replicate n xs).flatten
  | 0 => .nil
  | n + 1 => by
    rw [List.replicate_succ, List.replicate_succ, List.flatten_cons, List.flatten_cons]
    exact Paired.app h (Paired.rep h n)
/-- xs * k -/
def prep {τ : Type} (xs : List τ) (k : Int) : List τ := (List.replicate k.toNat xs).flatten
theorem s2_rep : S2 rRep (jL A) jI (sO A) (fun x k => pck ((-9223372036854775808 ≤ k ∧ k < 9223372036854775808) ∧ x.length * k.toNat ≤ sz) (prep x k)) := ⟨fun s0 ⟨a, vs, e1, h1, q1⟩ r2 e k => by
  obtain ⟨p, rfl⟩ := pck_some e
  subst e1
  exact ⟨a, _, vs, rfl, r2, s0 _ _ h1, p.1.1, p.1.2, sz_le (by rw [Paired.len q1]; exact p.2), fun p np => newL s0 (Paired.rep q1 _) k p np⟩⟩
/-! texts -/
def pinS (x y : List Nat) : Option Bool := match x with | [c] => some (decide (c ∈ y)) | _ => none
def pninS (x y : List Nat) : Option Bool := match x with | [c] => some (!decide (c ∈ y)) | _ => none
theorem s2_inS : S2 rInSg jS jS (sF jB) (fun x y => pinS x y) := ⟨fun {_ _ _ _ x y _ _} s0 r1 r2 e k => by
  match x, r1, e with
  | [c], r1, e =>
    cases e
    exact ⟨c, y, r1.1, r2.1, k _ _ _ [] (Step.nil s0) ⟨rfl, rfl⟩⟩⟩
theorem s2_notInS : S2 rNotInSg jS jS (sF jB) (fun x y => pninS x y) := ⟨fun {_ _ _ _ x y _ _} s0 r1 r2 e k => by
  match x, r1, e with
  | [c], r1, e =>
    cases e
    exact ⟨c, y, r1.1, r2.1, k _ _ _ [] (Step.nil s0) ⟨rfl, rfl⟩⟩⟩
theorem eqV_str (x y : List Nat) : eqV (vS y) (vS x) = decide (x = y) := by
  show decide (S y = S x) = _
  rw [show decide (S y = S x) = decide (x = y) from decide_eq_decide.mpr ⟨fun h => (S_inj.mp h).symm, fun h => by rw [h]⟩]
theorem inV_str (x : List Nat) : ∀ ys : List (List Nat), inV (vS x) (ys.map vS) = decide (x ∈ ys)
  | [] => rfl
  | y :: ys => by
    have := inV_str x ys
    show (eqV (vS y) (vS x) || inV (vS x) (ys.map vS)) = _
    rw [this, eqV_str]
    by_cases h : x = y
    · rw [decide_eq_true h, decide_eq_true (show x ∈ y :: ys from by rw [h]; exact List.mem_cons_self)]; rfl
    · rw [decide_eq_false h, Bool.false_or, decide_eq_decide, List.mem_cons]
      exact ⟨.inr, fun q => q.elim (fun z => absurd z h) id⟩
theorem flat_strs (ys : List (List Nat)) : (ys.map vS).all flatV = true := by
  induction ys with
  | nil => rfl
  | cons y ys ih => exact ih
theorem s2_inLS : S2 (rIn K false) jS (jL jS) (sF jB) (fun x ys => some (decide (x ∈ ys))) := ⟨fun s0 r1 ⟨a, vs, e1, h1, q1⟩ e k => by
  cases e
  have ev := strs_of q1
  subst e1 ev
  rw [show _ = vS _ from r1.1]
  exact ⟨a, _, rfl, .inl (.inl (.inl (s0 _ _ h1))), rfl, flat_strs _, by rw [if_neg Bool.false_ne_true, inV_str]; exact k _ _ _ [] (Step.nil s0) ⟨rfl, rfl⟩⟩⟩
theorem s2_notInLS : S2 (rIn K true) jS (jL jS) (sF jB) (fun x ys => some (!decide (x ∈ ys))) := ⟨fun s0 r1 ⟨a, vs, e1, h1, q1⟩ e k => by
  cases e
  have ev := strs_of q1
  subst e1 ev
  rw [show _ = vS _ from r1.1]
  exact ⟨a, _, rfl, .inl (.inl (.inl (s0 _ _ h1))), rfl, flat_strs _, by rw [if_pos rfl, inV_str]; exact k _ _ _ [] (Step.nil s0) ⟨rfl, rfl⟩⟩⟩
/-- a text's method with one argument -/
abbrev SM (r : V → List V → Hp → VK → Prop) (A : Rp α) (B : Rp β) (s : Sl δ) (g : α → β → Option δ) : Prop := S2 (fun x y => r x [y]) A B s g
theorem se_m1 {r : V → List V → Hp → VK → Prop} {s : Sl δ} {fa : ρ → Option (List Nat)} {g : List Nat → β → Option δ} (ha : SE ta E (sF jS) fa) (hb : SE tb E (sF B) fb) (hs : SM r jS B s g) : SE (tM1 r ta tb) E s (fun γ => ob (fa γ) fun x => ob (fb γ) fun y => g x y) := ⟨fun s0 hL he e k => by
  obtain ⟨x, e1, e⟩ := ob_some e
  obtain ⟨y, e2, e⟩ := ob_some e
  refine ha s0 hL he e1 fun v F1 H1 L1 s1 ⟨z1, r1⟩ => ?_
  subst z1
  refine ⟨⟨S x, r1.1⟩, ?_⟩
  refine hb s1.fh (hL.mono s1.hh) (E.m s1.f0 he) e2 fun u F2 H2 L2 s2 ⟨z2, r2⟩ => ?_
  subst z2
  exact hs s2.fh (jS.m s2.f0 r1) r2 e fun z F3 H3 L3 s3 r3 => k z F3 H3 L3 (s1.tr (s2.tr s3)) r3⟩
theorem oks_of {F : Hp} : ∀ {vs : List V} {ys : List (List Nat)}, Paired (jS.r F) vs ys → ∀ y ∈ ys, okS y
  | _, _, .nil, _, h => nomatch h
  | _, _, .cons r t, y, h => by
    rcases List.mem_cons.mp h with e | h
    · rw [e]; exact r.2
    · exact oks_of t y h
theorem okS_join {x : List Nat} (hx : okS x) : ∀ {ys : List (List Nat)}, (∀ y ∈ ys, okS y) → okS (joinN x ys)
  | [], _ => okS_nil
  | [y], h => h y List.mem_cons_self
  | y :: z :: r, h => by
    rw [joinN_cons]
    exact okS_app (h y List.mem_cons_self) (okS_app hx (okS_join hx fun w hw => h w (List.mem_cons_of_mem _ hw)))
theorem sm_join : SM (rJoin K) jS (jL jS) (sF jS) (fun x ys => pck ((ys.map List.length).sum + ys.length * x.length ≤ sz) (joinN x ys)) := ⟨fun s0 r1 ⟨a, vs, e1, h1, q1⟩ e k => by
  obtain ⟨p, rfl⟩ := pck_some e
  have ev := strs_of q1
  subst e1 ev
  exact ⟨_, a, _, r1.1, rfl, .inl (.inl (.inl (s0 _ _ h1))), p, k _ _ _ [] (Step.nil s0) ⟨rfl, rfl, okS_join r1.2 (oks_of q1)⟩⟩⟩
def pidx (x y : List Nat) : Option Int := match y with | [c] => pck (c ∈ x) (x.idxOf c : Int) | _ => none
theorem sm_idx : SM rIdxS jS jS (sF jI) (fun x y => pidx x y) := ⟨fun {_ _ _ _ x y _ _} s0 r1 r2 e k => by
  match y, r2, e with
  | [c], r2, e =>
    obtain ⟨p, rfl⟩ := pck_some e
    exact ⟨x, c, r1.1, by rw [show _ = vS [c] from r2.1], p, k _ _ _ [] (Step.nil s0) ⟨rfl, rfl⟩⟩⟩
theorem sm_starts : SM rStarts jS jS (sF jB) (fun x y => some (y.isPrefixOf x)) := ⟨fun {_ _ _ _ x y _ _} s0 r1 r2 e k => by
  cases e
  exact ⟨x, y, r1.1, by rw [show _ = vS y from r2.1], k _ _ _ [] (Step.nil s0) ⟨rfl, rfl⟩⟩⟩
end
end Mi

namespace Mi
open PySem PySem.Spec PyProof.Rows L2 Fw
section
variable {ρ ρ' ρ'' α β δ ε κ : Type} {E : En ρ} {E' : En ρ'} {ta tb tc te : TE} {tA : TA} {A : Rp α} {B : Rp β} {D : Rp δ} {fa : ρ → Option α} {fb : ρ → Option β} {fc : ρ → Option δ} {K : PySem.W.Frag}
theorem Step.at {F H H3 : Hp} (e : H3 = H) (s : Same F H) : Step F H F H3 [] := by
  subst e
  exact Step.nil s
/-! ### what a loop walks -/
structure ItOk (J : It) (F' : Hp) (R : Rp α) (xs : List α) : Prop where
  one : ∀ {i : Nat} {F2 H2 : Hp} {x : α}, Same F' F2 → Same F2 H2 → xs[i]? = some x → J.go i H2 ∧ ∀ v H3, J.yld i H2 v H3 → ∃ F3, Step F2 H2 F3 H3 [] ∧ R.r F3 v x
  stop : ∀ {F2 H2 : Hp}, Same F' F2 → Same F2 H2 → J.stop xs.length H2
structure SI (wi : TI) (E : En ρ) (R : Rp α) (f : ρ → Option (List α)) : Prop where
  run : ∀ {σ : L2.St} {F H : Hp} {L : List (Addr × HO)} {γ : ρ} {xs : List α} {Q : It → Hp → Prop}, Same F H → Held H L → E.r σ F L γ → f γ = some xs → (∀ J F' H', Step F H F' H' [] → ItOk J F' R xs → Q J H') → wi σ H Q
def prange (n : Int) : List Int := (List.range n.toNat).map fun i : Nat => (i : Int)
def prange2 (a b : Int) : List Int := (List.range (b - a).toNat).map fun i : Nat => a + (i : Int)
theorem itr_ok {lo : Int} {n : Nat} {F : Hp} : ItOk (Itr lo n) F jI ((List.range n).map fun i : Nat => lo + (i : Int)) where
  one {i _ _ x} _ s2 e := by
    rw [List.getElem?_map] at e
    by_cases h : i < n
    · rw [List.getElem?_range h] at e
      cases e
      exact ⟨h, fun v H3 hy => ⟨_, Step.at hy.1 s2, hy.2⟩⟩
    · rw [List.getElem?_eq_none (by rw [List.length_range]; omega)] at e
      cases e
  stop _ _ := by
    show n ≤ _
    rw [List.length_map, List.length_range]
    exact Nat.le_refl _
theorem si_r1 {f : ρ → Option (Int × Unit)} (h : SA tA E (aC jI aN) f) : SI (iRng1 tA) E jI (fun γ => ob (f γ) fun x => pck (-4611686018427387904 ≤ x.1 ∧ x.1 < 4611686018427387904) (prange x.1)) where
  run s0 hL he e k := by
    obtain ⟨x, e1, e⟩ := ob_some e
    obtain ⟨p, rfl⟩ := pck_some e
    refine h s0 hL he e1 fun vs F1 H1 s1 ⟨v, r, z1, r1, z2⟩ => ?_
    subst z1 z2
    refine ⟨x.1, by rw [show v = .int x.1 from r1], p.1, p.2, k _ _ _ s1 ?_⟩
    have := itr_ok (lo := 0) (n := x.1.toNat) (F := F1)
    simp only [Int.zero_add] at this
    exact this
theorem si_r2 {f : ρ → Option (Int × Int × Unit)} (h : SA tA E (aC jI (aC jI aN)) f) : SI (iRng2 tA) E jI (fun γ => ob (f γ) fun x => pck (-4611686018427387904 ≤ x.1 ∧ x.1 < 4611686018427387904 ∧ -4611686018427387904 ≤ x.2.1 ∧ x.2.1 < 4611686018427387904) (prange2 x.1 x.2.1)) where
  run s0 hL he e k := by
    obtain ⟨x, e1, e⟩ := ob_some e
    obtain ⟨p, rfl⟩ := pck_some e
    refine h s0 hL he e1 fun vs F1 H1 s1 ⟨v, r, z1, r1, v2, r', z2, r2, z3⟩ => ?_
    subst z1 z2 z3
    exact ⟨x.1, x.2.1, by rw [show v = .int x.1 from r1, show v2 = .int x.2.1 from r2], p, k _ _ _ s1 itr_ok⟩
def prangeC (a c : Int) (n : Nat) : List Int := (List.range n).map fun i : Nat => a + (i : Int) * c
theorem itc_ok {lo c : Int} {n : Nat} {F : Hp} : ItOk (Itc lo c n) F jI (prangeC lo c n) where
  one {i _ _ x} _ s2 e := by
    unfold prangeC at e
    rw [List.getElem?_map] at e
    by_cases h : i < n
    · rw [List.getElem?_range h] at e
      cases e
      exact ⟨h, fun v H3 hy => ⟨_, Step.at hy.1 s2, hy.2⟩⟩
    · rw [List.getElem?_eq_none (by rw [List.length_range]; omega)] at e
      cases e
  stop _ _ := by
    show n ≤ _
    unfold prangeC
    rw [List.length_map, List.length_range]
    exact Nat.le_refl _
/-- range(a, b, -1) -/
theorem si_rm {f : ρ → Option (Int × Int × Int × Unit)} (h : SA tA E (aC jI (aC jI (aC jI aN))) f) : SI (iRng3 tA) E jI (fun γ => ob (f γ) fun x => pck (x.2.2.1 = -1 ∧ -4611686018427387904 ≤ x.1 ∧ x.1 < 4611686018427387904 ∧ -4611686018427387904 ≤ x.2.1 ∧ x.2.1 < 4611686018427387904) (prangeC x.1 (-1) (x.1 - x.2.1).toNat)) where
  run s0 hL he e k := by
    obtain ⟨x, e1, e⟩ := ob_some e
    obtain ⟨p, rfl⟩ := pck_some e
    refine h s0 hL he e1 fun vs F1 H1 s1 ⟨v, r, z1, r1, v2, r', z2, r2, v3, r'', z3, r3, z4⟩ => ?_
    subst z1 z2 z3 z4
    refine ⟨x.1, x.2.1, -1, _, by rw [show v = .int x.1 from r1, show v2 = .int x.2.1 from r2, show v3 = .int x.2.2.1 from r3, p.1], RgC.neg p.2.1 p.2.2.1 p.2.2.2.1 p.2.2.2.2, k _ _ _ s1 itc_ok⟩
/-- range(0, n, c) -/
theorem si_rc {f : ρ → Option (Int × Int × Int × Unit)} (h : SA tA E (aC jI (aC jI (aC jI aN))) f) : SI (iRng3 tA) E jI (fun γ => ob (f γ) fun x => pck (x.1 = 0 ∧ 0 ≤ x.2.1 ∧ x.2.1 < 2305843009213693952 ∧ 0 < x.2.2.1 ∧ x.2.2.1 < 1073741824) (prangeC 0 x.2.2.1 ((x.2.1.toNat + x.2.2.1.toNat - 1) / x.2.2.1.toNat))) where
  run s0 hL he e k := by
    obtain ⟨x, e1, e⟩ := ob_some e
    obtain ⟨p, rfl⟩ := pck_some e
    refine h s0 hL he e1 fun vs F1 H1 s1 ⟨v, r, z1, r1, v2, r', z2, r2, v3, r'', z3, r3, z4⟩ => ?_
    subst z1 z2 z3 z4
    have g := rgc_pos (n := x.2.1.toNat) (c := x.2.2.1.toNat) (by omega) (by omega)
    rw [Int.toNat_of_nonneg p.2.1, Int.toNat_of_nonneg (by omega : 0 ≤ x.2.2.1)] at g
    exact ⟨0, x.2.1, x.2.2.1, _, by rw [show v = .int x.1 from r1, show v2 = .int x.2.1 from r2, show v3 = .int x.2.2.1 from r3, p.1], g, k _ _ _ s1 itc_ok⟩
theorem itl_ok {a : Addr} {vs : List V} {xs : List α} {F : Hp} (h : SqL K F a vs) (p : Paired (A.r F) vs xs) : ItOk (Itl K a) F A xs where
  one s1 s2 e := by
    have hs := s2.seq (s1.seq h)
    obtain ⟨v, h1, h2⟩ := Paired.at p e
    exact ⟨⟨vs, v, hs, h1⟩, fun u H3 hy => ⟨_, Step.at hy.1 s2, by
      have e2 := (hy.2 vs hs).symm.trans h1
      cases e2
      exact A.m s1 h2⟩⟩
  stop s1 s2 := ⟨vs, s2.seq (s1.seq h), by rw [Paired.len p]; exact Nat.le_refl _⟩
theorem si_list {fa : ρ → Option (List α)} (ha : SE ta E (sF (jL A)) fa) : SI (iList K ta) E A fa where
  run s0 hL he e k := by
    refine ha s0 hL he e fun v F1 H1 L1 s1 ⟨z1, a, vs, r1, r2, p⟩ => ?_
    subst z1
    exact ⟨a, r1, ⟨vs, s1.fh.seq (.inl (.inl r2))⟩, k _ _ _ s1 (itl_ok (.inl (.inl r2)) p)⟩
theorem si_listQ {fa : ρ → Option (List α)} (ha : SE ta E (sF (jQ K A)) fa) : SI (iList K ta) E A fa where
  run s0 hL he e k := by
    refine ha s0 hL he e fun v F1 H1 L1 s1 ⟨z1, a, vs, r1, r2, p⟩ => ?_
    subst z1
    exact ⟨a, r1, ⟨vs, s1.fh.seq r2⟩, k _ _ _ s1 (itl_ok r2 p)⟩
/-- a tuple of things of one kind, walked -/
structure Tls (T : Tp ρ') (R : Rp α) (g : ρ' → List α) : Prop where
  run : ∀ {F : Hp} {vs : List V} {x : ρ'}, T.r F vs x → Paired (R.r F) vs (g x)
instance {T : Tp ρ'} {R : Rp α} {g : ρ' → List α} : CoeFun (Tls T R g) (fun _ => ∀ {F : Hp} {vs : List V} {x : ρ'}, T.r F vs x → Paired (R.r F) vs (g x)) := ⟨fun h => h.run⟩
theorem tl1 : Tls (y1 A) A (fun x => [x]) := ⟨fun ⟨v, e, h⟩ => by
  subst e
  exact .cons h .nil⟩
theorem tlC {T : Tp ρ'} {g : ρ' → List α} (h : Tls T A g) : Tls (yC A T) A (fun x => x.1 :: g x.2) := ⟨fun ⟨v, r, e, h1, h2⟩ => by
  subst e
  exact .cons h1 (h h2)⟩
theorem si_tup {T : Tp ρ'} {g : ρ' → List α} {fa : ρ → Option ρ'} (ha : SE ta E (sF (jT T)) fa) (hg : Tls T A g) : SI (iTup K ta) E A (fun γ => ob (fa γ) fun x => some (g x)) where
  run s0 hL he e k := by
    obtain ⟨x, e1, e⟩ := ob_some e
    cases e
    refine ha s0 hL he e1 fun v F1 H1 L1 s1 ⟨z1, a, vs, r1, r2, p⟩ => ?_
    subst z1
    have h : SqT K F1 a vs := .inl (.inl r2)
    have q := hg p
    refine ⟨a, r1, ⟨vs, Same.sqt s1.fh h⟩, k _ _ _ s1 ⟨fun s1 s2 e => ?_, fun s1 s2 => ⟨vs, Same.sqt s2 (Same.sqt s1 h), by rw [Paired.len q]; exact Nat.le_refl _⟩⟩⟩
    have hs := Same.sqt s2 (Same.sqt s1 h)
    obtain ⟨v, h1, h2⟩ := Paired.at q e
    exact ⟨⟨vs, v, hs, h1⟩, fun u H3 hy => ⟨_, Step.at hy.1 s2, by
      have e2 := (hy.2 vs hs).symm.trans h1
      cases e2
      exact A.m s1 h2⟩⟩
theorem its_ok {l : List Nat} {F : Hp} (hl : okS l) : ItOk (Its (S l)) F jS (l.map fun c => [c]) where
  one {i _ _ x} _ s2 e := by
    rw [List.getElem?_map] at e
    have hsz : (S l).cps.size = l.length := by simp [S]
    cases h : l[i]? with
    | none => rw [h] at e; cases e
    | some c =>
      rw [h] at e
      cases e
      refine ⟨by show i < (S l).cps.size; rw [hsz]; exact (List.getElem?_eq_some_iff.mp h).1, fun v H3 hy => ?_⟩
      obtain ⟨e1, c', e2, e3⟩ := hy
      refine ⟨_, Step.at e1 s2, ?_⟩
      have e4 : l[i]? = some c' := by simpa [S] using e2
      rw [h] at e4
      cases e4
      exact ⟨e3, fun d hd => by rw [List.mem_singleton.mp hd]; exact hl c (List.mem_of_getElem? h)⟩
  stop _ _ := by
    show (S l).cps.size ≤ _
    rw [List.length_map]
    simp [S]
theorem si_str {fa : ρ → Option (List Nat)} (ha : SE ta E (sF jS) fa) : SI (iStr ta) E jS (fun γ => ob (fa γ) fun x => some (x.map fun c => [c])) where
  run s0 hL he e k := by
    obtain ⟨x, e1, e⟩ := ob_some e
    cases e
    refine ha s0 hL he e1 fun v F1 H1 L1 s1 ⟨z1, r1⟩ => ?_
    subst z1
    exact ⟨S x, r1.1, k _ _ _ s1 (its_ok r1.2)⟩
theorem si_rev {fa : ρ → Option (List α × Unit)} (h : SA tA E (aC (jL A) aN) fa) : SI (iRev K tA) E A (fun γ => ob (fa γ) fun x => some x.1.reverse) where
  run s0 hL he e k := by
    obtain ⟨x, e1, e⟩ := ob_some e
    cases e
    refine h s0 hL he e1 fun vs F1 H1 s1 ⟨v, r, z1, ⟨a, us, r1, r2, p⟩, z2⟩ => ?_
    subst z1 z2 r1
    have hq : SqL K F1 a us := .inl (.inl r2)
    have pr := Paired.rev p
    refine ⟨a, us, rfl, s1.fh.seq hq, k _ _ _ s1 ⟨fun {i F2 H2 x} s1 s2 e => ?_, fun s1 s2 => by show us.length ≤ _; rw [List.length_reverse, Paired.len p]; exact Nat.le_refl _⟩⟩
    have hs := s2.seq (s1.seq hq)
    obtain ⟨v, h1, h2⟩ := Paired.at pr e
    have hlt : i < us.length := by
      have := (List.getElem?_eq_some_iff.mp h1).1
      rwa [List.length_reverse] at this
    rw [List.getElem?_reverse hlt] at h1
    exact ⟨⟨hlt, us, v, hs, h1⟩, fun u H3 hy => ⟨_, Step.at hy.1 s2, by
      have e2 := (hy.2 us hs).symm.trans h1
      cases e2
      exact A.m s1 h2⟩⟩
/-- numbered -/
def penum {τ : Type} (xs : List τ) : List (Int × τ) := (List.range xs.length).zip xs |>.map fun p => ((p.1 : Int), p.2)
theorem penum_get {τ : Type} {xs : List τ} {i : Nat} {q : Int × τ} (h : (penum xs)[i]? = some q) : q.1 = (i : Int) ∧ xs[i]? = some q.2 := by
  unfold penum at h
  rw [List.getElem?_map] at h
  cases hz : ((List.range xs.length).zip xs)[i]? with
  | none => rw [hz] at h; cases h
  | some p =>
    rw [hz] at h
    cases h
    obtain ⟨h1, h2⟩ := List.getElem?_zip_eq_some.mp hz
    have h3 := (List.getElem?_eq_some_iff.mp h2).1
    rw [List.getElem?_range h3] at h1
    cases h1
    exact ⟨rfl, h2⟩
theorem penum_len {τ : Type} (xs : List τ) : (penum xs).length = xs.length := by
  unfold penum
  rw [List.length_map, List.length_zip, List.length_range, Nat.min_self]
theorem yieldT {F2 H2 : Hp} {T : Tp α} {t : Addr} {vs : List V} {x : α} (s2 : Same F2 H2) (nt : H2 t = none) (h : T.r F2 vs x) : ∃ F3, Step F2 H2 F3 (upd H2 t (.tup vs)) [] ∧ (jT T).r F3 (.ref t) x := by
  have s3 := (Step.nil s2).ice nt (.tup vs)
  exact ⟨_, s3.chunks trivial, t, vs, rfl, upd_same, T.m s3.f0 h⟩
theorem si_enum {fa : ρ → Option (List α × Unit)} (h : SA tA E (aC (jL A) aN) fa) : SI (iEnum K tA) E (jT (yC jI (y1 A))) (fun γ => ob (fa γ) fun x => some (penum x.1)) where
  run s0 hL he e k := by
    obtain ⟨x, e1, e⟩ := ob_some e
    cases e
    refine h s0 hL he e1 fun vs F1 H1 s1 ⟨v, r, z1, ⟨a, us, r1, r2, p⟩, z2⟩ => ?_
    subst z1 z2 r1
    have hq : SqL K F1 a us := .inl (.inl r2)
    refine ⟨a, us, rfl, s1.fh.seq hq, k _ _ _ s1 ⟨fun {i F2 H2 x} s1 s2 e => ?_, fun s1 s2 => ⟨us, s2.seq (s1.seq hq), by rw [penum_len, Paired.len p]; exact Nat.le_refl _⟩⟩⟩
    have hs := s2.seq (s1.seq hq)
    obtain ⟨g1, g2⟩ := penum_get e
    obtain ⟨v, h1, h2⟩ := Paired.at p g2
    refine ⟨⟨us, v, hs, h1⟩, fun u H3 hy => ?_⟩
    obtain ⟨t, v', rfl, nt, rfl, hv⟩ := hy
    have e2 := (hv us hs).symm.trans h1
    cases e2
    exact yieldT s2 nt ⟨_, _, rfl, by show V.int _ = V.int _; rw [g1], _, rfl, A.m s1 h2⟩
theorem si_zip {fa : ρ → Option (List α × List β × Unit)} (h : SA tA E (aC (jL A) (aC (jL B) aN)) fa) : SI (iZip K tA) E (jT (yC A (y1 B))) (fun γ => ob (fa γ) fun x => some (x.1.zip x.2.1)) where
  run s0 hL he e k := by
    obtain ⟨x, e1, e⟩ := ob_some e
    cases e
    refine h s0 hL he e1 fun vs F1 H1 s1 ⟨v, r, z1, ⟨a, us, r1, r2, p⟩, v', r', z2, ⟨b, ws, r3, r4, q⟩, z3⟩ => ?_
    subst z1 z2 z3 r1 r3
    have hq : SqL K F1 a us := .inl (.inl r2)
    have hq2 : SqL K F1 b ws := .inl (.inl r4)
    refine ⟨a, b, us, ws, rfl, s1.fh.seq hq, s1.fh.seq hq2, k _ _ _ s1 ⟨fun {i F2 H2 x} s1 s2 e => ?_, fun s1 s2 => ⟨us, ws, s2.seq (s1.seq hq), s2.seq (s1.seq hq2), by rw [Paired.len p, Paired.len q, List.length_zip]; omega⟩⟩⟩
    have hs := s2.seq (s1.seq hq)
    have hs2 := s2.seq (s1.seq hq2)
    obtain ⟨g1, g2⟩ := List.getElem?_zip_eq_some.mp e
    obtain ⟨v, h1, h2⟩ := Paired.at p g1
    obtain ⟨w, h3, h4⟩ := Paired.at q g2
    refine ⟨⟨us, ws, v, w, hs, hs2, h1, h3⟩, fun u H3 hy => ?_⟩
    obtain ⟨t, v', w', rfl, nt, rfl, hv, hw⟩ := hy
    have e2 := (hv us hs).symm.trans h1
    cases e2
    have e3 := (hw ws hs2).symm.trans h3
    cases e3
    exact yieldT s2 nt ⟨_, _, rfl, A.m s1 h2, _, rfl, B.m s1 h4⟩
/-! ### targets -/
/-- is: the names that the target sets -/
structure SG (g : TG) (is : List Nat) (E : En ρ) (R : Rp α) (E' : En ρ') (u : α → ρ → ρ') : Prop where
  run : ∀ {σ : L2.St} {F H : Hp} {L : List (Addr × HO)} {γ : ρ} {v : V} {x : α} {Q : L2.St → Hp → Prop}, Same F H → E.r σ F L γ → R.r F v x →
  (∀ σ' L', Sb L' L → E'.r σ' F L' (u x γ) → (∀ ws : List Nat, (∀ i ∈ is, i ∈ ws) → wipe σ' ws = wipe σ ws) → Q σ' H) → g v σ H Q
instance {g : TG} {is : List Nat} {E : En ρ} {R : Rp α} {E' : En ρ'} {u : α → ρ → ρ'} : CoeFun (SG g is E R E' u) (fun _ => ∀ {σ : L2.St} {F H : Hp} {L : List (Addr × HO)} {γ : ρ} {v : V} {x : α} {Q : L2.St → Hp → Prop}, Same F H → E.r σ F L γ → R.r F v x →
  (∀ σ' L', Sb L' L → E'.r σ' F L' (u x γ) → (∀ ws : List Nat, (∀ i ∈ is, i ∈ ws) → wipe σ' ws = wipe σ ws) → Q σ' H) → g v σ H Q) := ⟨fun h => h.run⟩
theorem wipe_comm (σ : L2.St) (i : Nat) (o : Option V) : ∀ ws : List Nat, i ∈ ws → wipe (σ.set i o) ws = wipe σ ws
  | [], h => nomatch h
  | w :: ws, h => by
    show (wipe (σ.set i o) ws).set w none = (wipe σ ws).set w none
    by_cases hw : i ∈ ws
    · rw [wipe_comm σ i o ws hw]
    · have e : i = w := by
        rcases List.mem_cons.mp h with e | e
        · exact e
        · exact absurd e hw
      subst e
      have : ∀ ws : List Nat, i ∉ ws → wipe (σ.set i o) ws = (wipe σ ws).set i o := by
        intro ws
        induction ws with
        | nil => intro _; rfl
        | cons v vs ih =>
          intro hn
          show (wipe (σ.set i o) vs).set v none = ((wipe σ vs).set v none).set i o
          rw [ih (fun z => hn (List.mem_cons_of_mem _ z)), List.set_comm]
          exact fun z => hn (by rw [z]; exact List.mem_cons_self)
      rw [this ws hw, List.set_set]
theorem sg_name {i : Nat} {u : α → ρ → ρ'} (h : Pt E i (sF A) E' u) : SG (gName i) [i] E A E' u := ⟨fun s0 he r k => by
  obtain ⟨L', h1, h2⟩ := h he ⟨rfl, r⟩
  exact k _ L' h2 h1 fun ws hw => wipe_comm _ _ _ ws (hw i List.mem_cons_self)⟩
/-- a name that is not read -/
structure Un (E : En ρ) (i : Nat) : Prop where
  run : ∀ {σ : L2.St} {F : Hp} {L : List (Addr × HO)} {γ : ρ} {o : Option V}, E.r σ F L γ → E.r (σ.set i o) F L γ
instance {E : En ρ} {i : Nat} : CoeFun (Un E i) (fun _ => ∀ {σ : L2.St} {F : Hp} {L : List (Addr × HO)} {γ : ρ} {o : Option V}, E.r σ F L γ → E.r (σ.set i o) F L γ) := ⟨fun h => h.run⟩
theorem n0 : Un (eU E) 0 := ⟨fun ⟨o, σ', e, t⟩ => by
  subst e
  exact ⟨_, σ', rfl, t⟩⟩
theorem nU {i : Nat} (h : Un E i) : Un (eU E) (i + 1) := ⟨fun ⟨o, σ', e, t⟩ => by
  subst e
  exact ⟨o, _, rfl, h t⟩⟩
theorem nS {s : Sl α} {i : Nat} (h : Un E i) : Un (eC s E) (i + 1) := ⟨fun ⟨v, σ', L1, L2, e1, e2, q, t⟩ => by
  subst e1
  exact ⟨v, _, L1, L2, rfl, e2, q, h t⟩⟩
theorem sg_skip {i : Nat} (h : Un E i) : SG (gName i) [i] E A E (fun _ γ => γ) := ⟨fun s0 he r k => k _ _ (Sb.refl _) (h he) fun ws hw => wipe_comm _ _ _ ws (hw i List.mem_cons_self)⟩
/-- the parts of a tuple, each to its name -/
structure SGs (g : TGs) (is : List Nat) (E : En ρ) (T : Tp α) (E' : En ρ') (u : α → ρ → ρ') : Prop where
  run : ∀ {σ : L2.St} {F H : Hp} {L : List (Addr × HO)} {γ : ρ} {vs : List V} {x : α} {Q : L2.St → Hp → Prop}, Same F H → E.r σ F L γ → T.r F vs x →
  (∀ σ' L', Sb L' L → E'.r σ' F L' (u x γ) → (∀ ws : List Nat, (∀ i ∈ is, i ∈ ws) → wipe σ' ws = wipe σ ws) → Q σ' H) → g vs σ H Q
instance {g : TGs} {is : List Nat} {E : En ρ} {T : Tp α} {E' : En ρ'} {u : α → ρ → ρ'} : CoeFun (SGs g is E T E' u) (fun _ => ∀ {σ : L2.St} {F H : Hp} {L : List (Addr × HO)} {γ : ρ} {vs : List V} {x : α} {Q : L2.St → Hp → Prop}, Same F H → E.r σ F L γ → T.r F vs x →
  (∀ σ' L', Sb L' L → E'.r σ' F L' (u x γ) → (∀ ws : List Nat, (∀ i ∈ is, i ∈ ws) → wipe σ' ws = wipe σ ws) → Q σ' H) → g vs σ H Q) := ⟨fun h => h.run⟩
theorem sgs_1 {g : TG} {is : List Nat} {u : α → ρ → ρ'} (h : SG g is E A E' u) : SGs (gCons g gNil) is E (y1 A) E' u := ⟨fun s0 he ⟨v, e, r⟩ k => by
  subst e
  exact ⟨v, [], rfl, h s0 he r fun σ' L' hb he' hw => ⟨rfl, k σ' L' hb he' hw⟩⟩⟩
theorem sgs_C {E'' : En ρ''} {g : TG} {gs : TGs} {is js : List Nat} {T : Tp β} {u : α → ρ → ρ'} {u' : β → ρ' → ρ''} (h : SG g is E A E' u) (h' : SGs gs js E' T E'' u') : SGs (gCons g gs) (is ++ js) E (yC A T) E'' (fun x γ => u' x.2 (u x.1 γ)) := ⟨fun s0 he ⟨v, r, e, r1, r2⟩ k => by
  subst e
  refine ⟨v, r, rfl, h s0 he r1 fun σ' L' hb he' hw => h' s0 he' r2 fun σ2 L2 hb2 he2 hw2 => k σ2 L2 (hb2.trans hb) he2 fun ws hws => ?_⟩
  rw [hw2 ws (fun i hi => hws i (List.mem_append_right _ hi)), hw ws (fun i hi => hws i (List.mem_append_left _ hi))]⟩
theorem sg_tup {gs : TGs} {is : List Nat} {T : Tp α} {n j : Nat} {R : Rp β} {g : α → β} {u : α → ρ → ρ'} (h : SGs gs is E T E' u) (hn : Tat T n j R g) : SG (gTup K n gs) is E (jT T) E' u := ⟨fun s0 he ⟨a, vs, e, r, t⟩ k =>
  ⟨a, vs, e, .inl (.inl (s0 _ _ r)), (hn t).1, h s0 he t k⟩⟩
/-! ### comprehensions -/
def lcM {α β : Type} (f : α → Option β) : List α → Option (List β)
  | [] => some []
  | x :: xs => ob (f x) fun y => ob (lcM f xs) fun r => some (y :: r)
def lcF {α β : Type} (p : α → Option Bool) (f : α → Option β) : List α → Option (List β)
  | [] => some []
  | x :: xs => ob (p x) fun b => if b = true then ob (f x) fun y => ob (lcF p f xs) fun r => some (y :: r) else lcF p f xs
theorem lcM_lcF {α β : Type} (f : α → Option β) : ∀ xs : List α, lcF (fun _ => some true) f xs = lcM f xs
  | [] => rfl
  | x :: xs => by
    show (ob (f x) fun y => ob (lcF (fun _ => some true) f xs) fun r => some (y :: r)) = _
    rw [lcM_lcF f xs]
    rfl
structure Wp (E : En ρ) (vs : List Nat) : Prop where
  run : ∀ {σ : L2.St} {F : Hp} {L : List (Addr × HO)} {γ : ρ}, E.r σ F L γ → E.r (wipe σ vs) F L γ
instance {E : En ρ} {vs : List Nat} : CoeFun (Wp E vs) (fun _ => ∀ {σ : L2.St} {F : Hp} {L : List (Addr × HO)} {γ : ρ}, E.r σ F L γ → E.r (wipe σ vs) F L γ) := ⟨fun h => h.run⟩
theorem wp_nil : Wp E [] := ⟨fun h => h⟩
theorem wp_cons {i : Nat} {vs : List Nat} (h : Un E i) (t : Wp E vs) : Wp E (i :: vs) := ⟨fun q => h (t q)⟩
theorem lc_core {wi : TI} {g : TG} {tt : TT} {is vs : List Nat} {fi : ρ → Option (List α)} {ft : ρ' → Option Bool} {fe : ρ' → Option β} {u : α → ρ → ρ'} (hi : SI wi E A fi) (hw : Wp E vs) (hg : SG g is E A E' u) (hv : ∀ i ∈ is, i ∈ vs) (ht : ST tt E' ft) (he : SE te E' (sF B) fe) :
    SE (tLc wi g tt te vs) E (sO B) (fun γ => ob (fi γ) fun xs => ob (lcF (fun x => ft (u x γ)) (fun x => fe (u x γ)) xs) fun r => pck (r.length ≤ sz) r) := ⟨fun {σ _ _ L γ res Q} s0 hL hE e k => by
  obtain ⟨xs, e1, e⟩ := ob_some e
  obtain ⟨rs, e2, e⟩ := ob_some e
  obtain ⟨p, e3⟩ := pck_some e
  subst e3
  refine hi.run s0 hL hE e1 fun J F1 H1 s1 it => ?_
  have hE1 := E.m s1.f0 hE
  have hL1 := hL.mono s1.hh
  intro D hD
  refine ⟨fun i m H' => m = xs.length - i ∧ i ≤ xs.length ∧ ∃ F' acc ys zs, Step F1 H1 F' H' [(D, .lst acc)] ∧ Paired (B.r F') acc ys ∧ lcF (fun x => ft (u x γ)) (fun x => fe (u x γ)) (xs.drop i) = some zs ∧ rs = ys ++ zs,
    ⟨xs.length, by omega, Nat.zero_le _, F1, [], [], rs, (Step.nil s1.fh).alloc hD _, .nil, e2, rfl⟩, ?_⟩
  rintro i m H' ⟨rfl, hi, F', acc, ys, zs, s2, pa, e4, e5⟩
  by_cases hlt : i < xs.length
  · obtain ⟨x, hx⟩ : ∃ x, xs[i]? = some x := ⟨_, List.getElem?_eq_getElem hlt⟩
    obtain ⟨go, yl⟩ := it.one s2.f0 s2.fh hx
    have ed : xs.drop i = x :: xs.drop (i + 1) := by
      rw [List.drop_eq_getElem_cons hlt]
      congr 1
      rw [List.getElem?_eq_getElem hlt] at hx
      exact Option.some.inj hx
    rw [ed] at e4
    obtain ⟨b, e6, e7⟩ := ob_some e4
    have hacc : acc.length < sz ∨ b = false := by
      cases b with
      | false => exact .inr rfl
      | true =>
        rw [if_pos rfl] at e7
        obtain ⟨y, e8, e9⟩ := ob_some e7
        obtain ⟨r, e10, e11⟩ := ob_some e9
        cases e11
        rw [Paired.len pa]
        rw [e5, List.length_append, List.length_cons] at p
        exact .inl (by omega)
    refine .inr ⟨go, fun H'' => ∃ F' acc ys zs, Step F1 H1 F' H'' [(D, .lst acc)] ∧ Paired (B.r F') acc ys ∧ lcF (fun x => ft (u x γ)) (fun x => fe (u x γ)) (xs.drop (i + 1)) = some zs ∧ rs = ys ++ zs, fun H'' h => ⟨xs.length - (i + 1), by omega, rfl, hlt, h⟩, fun v H3 hy => ?_⟩
    obtain ⟨F3, s3, r3⟩ := yl v H3 hy
    have s13 := Own.on s2 s3
    rw [List.nil_append] at s13
    refine hg s3.fh (hw (E.m s13.f0 hE1)) r3 fun σ4 L4 hb4 hE4 hw4 => ⟨?_, ?_⟩
    · rw [hw4 vs hv]
      have : ∀ (σ : L2.St) (vs : List Nat), wipe (wipe σ vs) vs = wipe σ vs := by
        intro σ vs
        have gen : ∀ (ws : List Nat), (∀ i ∈ ws, i ∈ vs) → wipe (wipe σ ws) vs = wipe σ vs := by
          intro ws
          induction ws with
          | nil => intro _; rfl
          | cons a as ih => intro h; show wipe ((wipe σ as).set a none) vs = _; rw [wipe_comm _ _ _ vs (h a List.mem_cons_self), ih fun i hi => h i (List.mem_cons_of_mem _ hi)]
        exact gen vs fun _ h => h
      exact this _ _
    have hL4 : Held H3 L4 := fun q hq => (hL1.mono s13.hh) q (hb4.mem hq)
    refine ht s3.fh hL4 hE4 e6 fun F5 H5 s5 => ?_
    have s15 := Own.on s13 s5
    rw [List.nil_append] at s15
    cases b with
    | false =>
      rw [if_neg Bool.false_ne_true] at e7 ⊢
      exact ⟨F5, acc, ys, zs, s15, Paired.mono (fun _ _ q => B.m (s3.f0.trans s5.f0) q) pa, e7, e5⟩
    | true =>
      rw [if_pos rfl] at e7 ⊢
      obtain ⟨y, e8, e9⟩ := ob_some e7
      obtain ⟨r, e10, e11⟩ := ob_some e9
      cases e11
      refine he s5.fh (hL4.mono s5.hh) (E'.m s5.f0 hE4) e8 fun w F6 H6 L6 s6 ⟨z6, r6⟩ => ?_
      subst z6
      have s16 := Own.on s15 s6
      rw [List.nil_append] at s16
      refine ⟨acc, s16.at_ 0, sz_lt (hacc.resolve_right (by decide)), F6, _, ys ++ [y], r, s16.set 0 rfl _, Paired.app (Paired.mono (fun _ _ q => B.m ((s3.f0.trans s5.f0).trans s6.f0) q) pa) (.cons r6 .nil), e10, ?_⟩
      rw [e5, List.append_assoc]
      rfl
  · have hi2 : i = xs.length := by omega
    subst hi2
    rw [List.drop_length] at e4
    cases e4
    rw [List.append_nil] at e5
    subst e5
    exact .inl ⟨it.stop s2.f0 s2.fh, k _ _ _ _ (by have := Own.on s1 s2; rwa [List.append_nil] at this) ⟨D, acc, rfl, rfl, pa⟩⟩⟩
theorem se_lcF {wi : TI} {g : TG} {tt : TT} {is vs : List Nat} {fi : ρ → Option (List α)} {ft : ρ' → Option Bool} {fe : ρ' → Option β} {u : α → ρ → ρ'} (hi : SI wi E A fi) (hw : Wp E vs) (hg : SG g is E A E' u) (ht : ST tt E' ft) (he : SE te E' (sF B) fe) (hv : ∀ i ∈ is, i ∈ vs := by decide) :
    SE (tLc wi g tt te vs) E (sO B) (fun γ => ob (fi γ) fun xs => ob (lcF (fun x => ft (u x γ)) (fun x => fe (u x γ)) xs) fun r => pck (r.length ≤ sz) r) := lc_core hi hw hg hv ht he
theorem se_lc {wi : TI} {g : TG} {is vs : List Nat} {fi : ρ → Option (List α)} {fe : ρ' → Option β} {u : α → ρ → ρ'} (hi : SI wi E A fi) (hw : Wp E vs) (hg : SG g is E A E' u) (he : SE te E' (sF B) fe) (hv : ∀ i ∈ is, i ∈ vs := by decide) :
    SE (tLc wi g tYes te vs) E (sO B) (fun γ => ob (fi γ) fun xs => ob (lcM (fun x => fe (u x γ)) xs) fun r => pck (r.length ≤ sz) r) := by
  have h : (fun γ => ob (fi γ) fun xs => ob (lcM (fun x => fe (u x γ)) xs) fun r => pck (r.length ≤ sz) r) = (fun γ => ob (fi γ) fun xs => ob (lcF (fun x => some true) (fun x => fe (u x γ)) xs) fun r => pck (r.length ≤ sz) r) := by
    funext γ
    simp only [lcM_lcF]
  rw [h]
  exact lc_core hi hw hg hv (ft := fun _ => some true) st_yes he
end
end Mi

namespace Mi
open PySem PySem.Spec PyProof.Rows L2 Fw
/-! ### statements -/
inductive Res (ρ κ β : Type) where
  | nxt (γ : ρ) | ret (b : β) | cnt (γ : κ) | brk (γ : κ)
/-- what a return wishes -/
structure RRt (β : Type) where
  fin : Hp → Hp → Hp → VK → β → Prop
  mo : ∀ {F0 H0 F F1 : Hp} {Q : VK} {b : β}, fin F0 H0 F Q b → Same F F1 → fin F0 H0 F1 Q b
def rS {β : Type} (s : Sl β) : RRt β := ⟨fun F0 H0 Fs Q b => ∀ v F H L, Same Fs F → Own F0 H0 F H L [] → s.r v F L b → Q v H, fun h sF v F H L s2 => h v F H L (sF.trans s2)⟩
section
variable {ρ ρ' ρ'' α β δ ε κ : Type} {E : En ρ} {E' : En ρ'} {E1 : En ρ''} {Ec : En κ} {ta tb tc te : TE} {tA : TA} {A : Rp α} {B : Rp β} {D : Rp δ} {s : RRt β} {sl : Sl β} {K : PySem.W.Frag} {t u : TS}
def Fin (E' : En ρ') (Ec : En κ) (s : RRt β) (F0 H0 Fs : Hp) (D : Ends) : Res ρ' κ β → Prop
  | .nxt γ => ∀ σ F H L, Same Fs F → Own F0 H0 F H L [] → E'.r σ F L γ → D.nx σ H
  | .ret b => s.fin F0 H0 Fs D.rt b
  | .cnt γ => ∀ σ F H L, Same Fs F → Own F0 H0 F H L [] → Ec.r σ F L γ → D.ct σ H
  | .brk γ => ∀ σ F H L, Same Fs F → Own F0 H0 F H L [] → Ec.r σ F L γ → D.bk σ H
theorem Fin.mo {F0 H0 F F1 : Hp} {D : Ends} {r : Res ρ' κ β} (h : Fin E' Ec s F0 H0 F D r) (sF : Same F F1) : Fin E' Ec s F0 H0 F1 D r := by
  cases r with
  | nxt γ => exact fun σ F2 H L s2 => h σ F2 H L (sF.trans s2)
  | ret b => exact s.mo (show s.fin F0 H0 F D.rt b from h) sF
  | cnt γ => exact fun σ F2 H L s2 => h σ F2 H L (sF.trans s2)
  | brk γ => exact fun σ F2 H L s2 => h σ F2 H L (sF.trans s2)
structure SS (t : TS) (E : En ρ) (E' : En ρ') (Ec : En κ) (s : RRt β) (m : ρ → Option (Res ρ' κ β)) : Prop where
  run : ∀ {σ : L2.St} {F0 H0 F H : Hp} {L : List (Addr × HO)} {γ : ρ} {r : Res ρ' κ β} {D : Ends}, Own F0 H0 F H L [] → E.r σ F L γ → m γ = some r → Fin E' Ec s F0 H0 F D r → t D σ H
theorem ss_conv {m m' : ρ → Option (Res ρ' κ β)} (h : SS t E E' Ec s m) (e : m = m') : SS t E E' Ec s m' := e ▸ h
/-- what follows -/
def rb (x : Option (Res ρ κ β)) (f : ρ → Option (Res ρ' κ β)) : Option (Res ρ' κ β) := ob x fun r => match r with
  | .nxt γ => f γ
  | .ret b => some (.ret b)
  | .cnt γ => some (.cnt γ)
  | .brk γ => some (.brk γ)
theorem ss_seq {m1 : ρ → Option (Res ρ'' κ β)} {m2 : ρ'' → Option (Res ρ' κ β)} (ht : SS t E E1 Ec s m1) (hu : SS u E1 E' Ec s m2) : SS (tSeq t u) E E' Ec s (fun γ => rb (m1 γ) m2) := ⟨fun {_ _ _ _ _ _ _ r D} O he e fin => by
  obtain ⟨r1, e1, e⟩ := ob_some e
  show t { D with nx := u D } _ _
  refine ht.run O he e1 ?_
  cases r1 with
  | nxt γ1 => exact fun σ F H L sF O' he' => hu.run O' he' e (fin.mo sF)
  | ret b => cases e; exact fin
  | cnt γ1 => cases e; exact fin
  | brk γ1 => cases e; exact fin⟩
theorem ss_nil : SS tNext E E Ec s (fun γ => some (.nxt γ)) := ⟨fun O he e fin => by
  cases e
  exact fin _ _ _ _ (Same.refl _) O he⟩
theorem ss_co {c : ρ → ρ'} (h : Co E E' c) : SS tNext E E' Ec s (fun γ => some (.nxt (c γ))) := ⟨fun O he e fin => by
  cases e
  obtain ⟨F', L', O', sF, he'⟩ := h (by rw [List.append_nil]; exact O) he
  rw [List.append_nil] at O'
  exact fin _ _ _ _ sF O' he'⟩
theorem ss_pre {c : ρ → ρ''} {m : ρ'' → Option (Res ρ' κ β)} (h : Co E E1 c) (hu : SS u E1 E' Ec s m) : SS u E E' Ec s (fun γ => m (c γ)) := ⟨fun O he e fin => by
  obtain ⟨F', L', O', sF, he'⟩ := h (by rw [List.append_nil]; exact O) he
  rw [List.append_nil] at O'
  exact hu.run O' he' e (fin.mo sF)⟩
variable {m : ρ'' → Option (Res ρ' κ β)}
theorem ss_asg {i : Nat} {s1 : Sl α} {fe : ρ → Option α} {p : α → ρ → ρ''} (he : SE te E s1 fe) (hp : Pt E i s1 E1 p) (hu : SS u E1 E' Ec s m) : SS (tSeq (tAsg te (gName i)) u) E E' Ec s (fun γ => ob (fe γ) fun x => m (p x γ)) := ⟨fun O hE e fin => by
  obtain ⟨x, e1, e⟩ := ob_some e
  refine he O.fh (Held.of O) hE e1 fun v F1 H1 L1 s1 r1 => ?_
  obtain ⟨L', h1, h2⟩ := hp (E.m s1.f0 hE) r1
  exact hu.run (OwnSb (Own.on O s1) h2) h1 e (fin.mo s1.f0)⟩
theorem ss_asgG {g : TG} {is : List Nat} {fe : ρ → Option α} {p : α → ρ → ρ''} (he : SE te E (sF A) fe) (hp : SG g is E A E1 p) (hu : SS u E1 E' Ec s m) : SS (tSeq (tAsg te g) u) E E' Ec s (fun γ => ob (fe γ) fun x => m (p x γ)) := ⟨fun O hE e fin => by
  obtain ⟨x, e1, e⟩ := ob_some e
  refine he O.fh (Held.of O) hE e1 fun v F1 H1 L1 s1 ⟨z1, r1⟩ => ?_
  subst z1
  have O1 := Own.on O s1
  rw [List.nil_append] at O1
  exact hp O1.fh (E.m s1.f0 hE) r1 fun σ' L' hb he' _ => hu.run (OwnSb O1 hb) he' e (fin.mo s1.f0)⟩
theorem ss_aug {i : Nat} {f : Int → Int → Int} {g : ρ → Int} {fe : ρ → Option Int} {p : Int → ρ → ρ''} (hg : Gt E i (sF jI) g) (he : SE te E (sF jI) fe) (hp : Pt E i (sF jI) E1 p) (hu : SS u E1 E' Ec s m) :
    SS (tSeq (tAug i te (ipI f)) u) E E' Ec s (fun γ => ob (fe γ) fun y => m (p (f (g γ) y) γ)) := ⟨fun O hE e fin => by
  obtain ⟨x, e1, e⟩ := ob_some e
  obtain ⟨v, L1, h1, _, _, h3⟩ := hg hE
  refine ⟨v, h1, he O.fh (Held.of O) hE e1 fun w F1 H1 L1 s1 ⟨z1, r1⟩ => ?_⟩
  subst z1
  have O1 := Own.on O s1
  rw [List.nil_append] at O1
  refine ⟨_, _, h3, r1, ?_⟩
  obtain ⟨L', h1, h2⟩ := hp.run (v := .int (f _ x)) (L1 := []) (x := f _ x) (E.m s1.f0 hE) ⟨rfl, rfl⟩
  exact hu.run (OwnSb O1 h2) h1 e (fin.mo s1.f0)⟩
theorem ss_par {i j : Nat} {C : Rp δ} {E2 : En ε} {fa : ρ → Option α} {fb : ρ → Option δ} {p : α → ρ → ρ''} {p' : δ → ρ'' → ε} {m : ε → Option (Res ρ' κ β)} (ha : SE ta E (sF A) fa) (hb : SE tb E (sF C) fb) (hp : Pt E i (sF A) E1 p) (hp' : Pt E1 j (sF C) E2 p') (hu : SS u E2 E' Ec s m) :
    SS (tSeq (tPar i j (tCons ta (tCons tb tNil))) u) E E' Ec s (fun γ => ob (fa γ) fun x => ob (fb γ) fun y => m (p' y (p x γ))) := ⟨fun O hE e fin => by
  obtain ⟨x, e1, e⟩ := ob_some e
  obtain ⟨y, e2, e⟩ := ob_some e
  refine ha O.fh (Held.of O) hE e1 fun v F1 H1 L1 s1 ⟨z1, r1⟩ => ?_
  subst z1
  have O1 := Own.on O s1
  rw [List.nil_append] at O1
  refine hb O1.fh (Held.of O1) (E.m s1.f0 hE) e2 fun w F2 H2 L2 s2 ⟨z2, r2⟩ => ?_
  subst z2
  have O2 := Own.on O1 s2
  rw [List.nil_append] at O2
  refine ⟨v, w, rfl, ?_⟩
  obtain ⟨L', h1, h2⟩ := hp.run (L1 := []) (E.m (s1.f0.trans s2.f0) hE) ⟨rfl, A.m s2.f0 r1⟩
  obtain ⟨L'', h3, h4⟩ := hp'.run (L1 := []) h1 ⟨rfl, r2⟩
  exact hu.run (OwnSb (OwnSb O2 h2) h4) h3 e (fin.mo (s1.f0.trans s2.f0))⟩
theorem ss_expr {s1 : Sl α} {fe : ρ → Option α} {m : ρ → Option (Res ρ' κ β)} (he : SE te E s1 fe) (hu : SS u E E' Ec s m) : SS (tSeq (tDrop te) u) E E' Ec s (fun γ => ob (fe γ) fun _ => m γ) := ⟨fun O hE e fin => by
  obtain ⟨x, e1, e⟩ := ob_some e
  refine he O.fh (Held.of O) hE e1 fun v F1 H1 L1 s1 r1 => ?_
  exact hu.run (OwnSb (Own.on O s1) (Sb.dropL _ _)) (E.m s1.f0 hE) e (fin.mo s1.f0)⟩
/-! own lists -/
theorem tyL {P : Prop} {p : Addr} {vs : List V} {H : Hp} (e : H p = some (.lst vs)) (h : P) : tyV K "list" (.ref p) H ∧ P := w_tyL h (.inl (.inl e))
theorem ss_app {i : Nat} {R : Rp α} {g : ρ → List α} {up : List α → ρ → ρ} {fe : ρ → Option α} {m : ρ → Option (Res ρ' κ β)} (hu' : Up E i R g up) (he : SE te E (sF R) fe) (hu : SS u E E' Ec s m) :
    SS (tSeq (tDrop (tBM K "list" rAppend (tVar i) (tCons te tNil))) u) E E' Ec s (fun γ => ob (fe γ) fun y => ob (pck ((g γ).length < sz) (g γ ++ [y])) fun ys => m (up ys γ)) := ⟨fun O hE e fin => by
  obtain ⟨x, e1, e⟩ := ob_some e
  obtain ⟨ys, e2, e⟩ := ob_some e
  obtain ⟨pz, rfl⟩ := pck_some e2
  obtain ⟨p, vs, j, h1, h2, h3, h4⟩ := hu' hE
  refine ⟨.ref p, h1, tyL (O.at_ j h2) ?_⟩
  refine he O.fh (Held.of O) hE e1 fun v F1 H1 L1 s1 ⟨z1, r1⟩ => ?_
  subst z1
  have O1 := Own.on O s1
  rw [List.nil_append] at O1
  exact w_app (Q := fun _ H' => u _ _ H') O1 h2 (fun H' O2 => hu.run O2 (h4 F1 _ _ s1.f0 (Paired.app (Paired.mono (fun _ _ q => R.m s1.f0 q) h3) (.cons r1 .nil))) e (fin.mo s1.f0)) (sz_lt (by rw [Paired.len h3]; exact pz))⟩
theorem ss_ext {i : Nat} {R : Rp α} {g : ρ → List α} {up : List α → ρ → ρ} {fe : ρ → Option (List α)} {m : ρ → Option (Res ρ' κ β)} (hu' : Up E i R g up) (he : SE te E (sF (jL R)) fe) (hu : SS u E E' Ec s m) :
    SS (tSeq (tDrop (tBM K "list" rExtend (tVar i) (tCons te tNil))) u) E E' Ec s (fun γ => ob (fe γ) fun y => ob (pck ((g γ).length + y.length ≤ sz) (g γ ++ y)) fun ys => m (up ys γ)) := ⟨fun O hE e fin => by
  obtain ⟨x, e1, e⟩ := ob_some e
  obtain ⟨ys, e2, e⟩ := ob_some e
  obtain ⟨pz, rfl⟩ := pck_some e2
  obtain ⟨p, vs, j, h1, h2, h3, h4⟩ := hu' hE
  refine ⟨.ref p, h1, tyL (O.at_ j h2) ?_⟩
  refine he O.fh (Held.of O) hE e1 fun v F1 H1 L1 s1 ⟨z1, a, us, z2, r1, q1⟩ => ?_
  subst z1 z2
  have O1 := Own.on O s1
  rw [List.nil_append] at O1
  exact w_ext (Q := fun _ H' => u _ _ H') O1 h2 (O1.fh _ _ r1) (fun H' O2 => hu.run O2 (h4 F1 _ _ s1.f0 (Paired.app (Paired.mono (fun _ _ q => R.m s1.f0 q) h3) q1)) e (fin.mo s1.f0)) (sz_le (by rw [Paired.len h3, Paired.len q1]; exact pz))⟩
theorem ss_rev {i : Nat} {R : Rp α} {g : ρ → List α} {up : List α → ρ → ρ} {m : ρ → Option (Res ρ' κ β)} (hu' : Up E i R g up) (hu : SS u E E' Ec s m) :
    SS (tSeq (tDrop (tBM0 K "list" rReverse (tVar i))) u) E E' Ec s (fun γ => m (up (g γ).reverse γ)) := ⟨fun O hE e fin => by
  obtain ⟨p, vs, j, h1, h2, h3, h4⟩ := hu' hE
  refine ⟨.ref p, h1, tyL (O.at_ j h2) ⟨p, vs, rfl, rfl, O.at_ j h2, ?_⟩⟩
  exact hu.run (O.set j h2 _) (h4 _ _ _ (Same.refl _) (Paired.rev h3)) e fin⟩
theorem ss_pop {i : Nat} {R : Rp α} {g : ρ → List α} {up : List α → ρ → ρ} {m : ρ → Option (Res ρ' κ β)} (hu' : Up E i R g up) (hu : SS u E E' Ec s m) :
    SS (tSeq (tDrop (tBM0 K "list" rPop (tVar i))) u) E E' Ec s (fun γ => ob (pck (0 < (g γ).length) (g γ).dropLast) fun ys => m (up ys γ)) := ⟨fun O hE e fin => by
  obtain ⟨ys, e2, e⟩ := ob_some e
  obtain ⟨pz, rfl⟩ := pck_some e2
  obtain ⟨p, vs, j, h1, h2, h3, h4⟩ := hu' hE
  have hl := Paired.len h3
  refine ⟨.ref p, h1, tyL (O.at_ j h2) ⟨p, vs, _, rfl, rfl, O.at_ j h2, List.getElem?_eq_getElem (by omega), ?_⟩⟩
  refine hu.run (O.set j h2 _) (h4 _ _ _ (Same.refl _) ?_) e fin
  rw [List.dropLast_eq_take, List.dropLast_eq_take, hl]
  exact Paired.tk _ h3⟩
/-- xs with the item at i set -/
def pset {τ : Type} (xs : List τ) (i : Int) (x : τ) : Option (List τ) := (ixN xs.length i).map fun j => xs.set j x
theorem ss_setI {i : Nat} {R : Rp α} {g : ρ → List α} {up : List α → ρ → ρ} {fe : ρ → Option α} {fi : ρ → Option Int} {m : ρ → Option (Res ρ' κ β)} (hu' : Up E i R g up) (he : SE te E (sF R) fe) (hi : SE ta E (sF jI) fi) (hu : SS u E E' Ec s m) :
    SS (tSeq (tAsg te (gSub (tVar i) ta rSetL)) u) E E' Ec s (fun γ => ob (fe γ) fun y => ob (fi γ) fun j => ob (pset (g γ) j y) fun ys => m (up ys γ)) := ⟨fun O hE e fin => by
  obtain ⟨x, e1, e⟩ := ob_some e
  obtain ⟨k, e2, e⟩ := ob_some e
  obtain ⟨ys, e3, e⟩ := ob_some e
  refine he O.fh (Held.of O) hE e1 fun v F1 H1 L1 s1 ⟨z1, r1⟩ => ?_
  subst z1
  have O1 := Own.on O s1
  rw [List.nil_append] at O1
  obtain ⟨p, vs, j, h1, h2, h3, h4⟩ := hu' (E.m s1.f0 hE)
  refine ⟨.ref p, h1, ?_⟩
  refine hi O1.fh (Held.of O1) (E.m s1.f0 hE) e2 fun w F2 H2 L2 s2 ⟨z2, r2⟩ => ?_
  subst z2
  have O2 := Own.on O1 s2
  rw [List.nil_append] at O2
  unfold pset at e3
  rw [← Paired.len h3] at e3
  cases hj : ixN vs.length k with
  | none => rw [hj] at e3; cases e3
  | some n =>
    rw [hj] at e3
    cases e3
    refine ⟨p, vs, k, n, rfl, r2, O2.at_ j h2, hj, ?_⟩
    exact hu.run (O2.set j h2 _) (h4 F2 _ _ s2.f0 (Paired.upd (R.m s2.f0 r1) n (Paired.mono (fun _ _ q => R.m s2.f0 q) h3))) e (fin.mo (s1.f0.trans s2.f0))⟩
/-- xs[i] op= e, 0 ≤ i -/
def pget {τ : Type} (xs : List τ) (i : Int) : Option τ := if 0 ≤ i then xs[i.toNat]? else none
theorem ss_augI {i : Nat} {f : Int → Int → Int} {g : ρ → List Int} {up : List Int → ρ → ρ} {fe fi : ρ → Option Int} {m : ρ → Option (Res ρ' κ β)} (hu' : Up E i jI g up) (hi : SE ta E (sF jI) fi) (he : SE te E (sF jI) fe) (hu : SS u E E' Ec s m) :
    SS (tSeq (tAugS (tVar i) ta te (rGetL K) (ipI f) rSetL) u) E E' Ec s (fun γ => ob (fi γ) fun j => ob (pget (g γ) j) fun a => ob (fe γ) fun y => m (up ((g γ).set j.toNat (f a y)) γ)) := ⟨fun O hE e fin => by
  obtain ⟨k, e1, e⟩ := ob_some e
  obtain ⟨a, e2, e⟩ := ob_some e
  obtain ⟨y, e3, e⟩ := ob_some e
  obtain ⟨p, vs, j, h1, h2, h3, h4⟩ := hu' hE
  refine ⟨.ref p, h1, ?_⟩
  refine hi O.fh (Held.of O) hE e1 fun v F1 H1 L1 s1 ⟨z1, r1⟩ => ?_
  subst z1
  have O1 := Own.on O s1
  rw [List.nil_append] at O1
  unfold pget at e2
  split at e2
  · next h0 =>
    obtain ⟨w, w1, w2⟩ := Paired.at h3 e2
    refine ⟨p, vs, k, w, rfl, r1, .inl (.inl (O1.at_ j h2)), h0, w1, ?_⟩
    refine he O1.fh (Held.of O1) (E.m s1.f0 hE) e3 fun z F2 H2 L2 s2 ⟨z2, r2⟩ => ?_
    subst z2
    have O2 := Own.on O1 s2
    rw [List.nil_append] at O2
    refine ⟨a, y, w2, r2, ?_⟩
    have hlt := (List.getElem?_eq_some_iff.mp w1).1
    refine ⟨p, vs, k, k.toNat, rfl, r1, O2.at_ j h2, ixN_pos ⟨h0, by omega⟩, ?_⟩
    exact hu.run (O2.set j h2 _) (h4 F2 _ _ (s1.f0.trans s2.f0) (Paired.upd (A := jI.r F2) rfl _ (Paired.mono (A := jI.r _) (fun _ _ q => q) h3))) e (fin.mo (s1.f0.trans s2.f0))
  · cases e2⟩
/-! ways -/
theorem ss_if {t1 t2 : TS} {c : TT} {fc : ρ → Option Bool} {ma mb : ρ → Option (Res ρ' κ β)} (hc : ST c E fc) (ha : SS t1 E E' Ec s ma) (hb : SS t2 E E' Ec s mb) : SS (tIfS c t1 t2) E E' Ec s (fun γ => ob (fc γ) fun b => if b = true then ma γ else mb γ) := ⟨fun O hE e fin => by
  obtain ⟨b, e1, e⟩ := ob_some e
  refine hc O.fh (Held.of O) hE e1 fun F1 H1 s1 => ?_
  have O1 := Own.on O s1
  rw [List.nil_append] at O1
  cases b with
  | true =>
    show if true = true then _ else _
    rw [if_pos rfl] at e ⊢
    exact ha.run O1 (E.m s1.f0 hE) e (fin.mo s1.f0)
  | false =>
    show if false = true then _ else _
    rw [if_neg Bool.false_ne_true] at e ⊢
    exact hb.run O1 (E.m s1.f0 hE) e (fin.mo s1.f0)⟩
theorem ss_ret {fe : ρ → Option β} (he : SE te E sl fe) : SS (tRet te) E E' Ec (rS sl) (fun γ => ob (fe γ) fun x => some (.ret x)) := ⟨fun O hE e fin => by
  obtain ⟨x, e1, e⟩ := ob_some e
  cases e
  refine he O.fh (Held.of O) hE e1 fun v F1 H1 L1 s1 r1 => ?_
  exact fin v F1 H1 L1 s1.f0 (OwnSb (Own.on O s1) (Sb.dropR _ _)) r1⟩
theorem ss_retO {i : Nat} {R : Rp α} {g : ρ → List α} (hg : Gt E i (sO R) g) : SS (tRet (tVar i)) E E' Ec (rS (sO R)) (fun γ => some (.ret (g γ))) := ⟨fun {_ _ _ F H L _ _ _} O hE e fin => by
  cases e
  obtain ⟨v, L1, h1, h2, p, vs, h3, h4, h5⟩ := hg hE
  subst h3 h4
  obtain ⟨a, b, hab⟩ := List.append_of_mem (h2 _ List.mem_cons_self)
  refine ⟨_, h1, fin _ F H [(p, .lst vs)] (Same.refl _) (OwnSb O ?_) ⟨p, vs, rfl, rfl, h5⟩⟩
  rw [hab]
  exact ⟨a ++ b, (List.perm_middle (l₁ := a) (l₂ := b)).symm⟩⟩
theorem ss_retN : SS tRetN E E' Ec (rS (sF jN)) (fun _ => some (.ret ())) := ⟨fun O _ e fin => by
  cases e
  exact fin _ _ _ [] (Same.refl _) (OwnSb O (Sb.nil _)) ⟨rfl, rfl⟩⟩
theorem ss_never : SS tNever E E' Ec s (fun _ => none) := ⟨fun _ _ e _ => nomatch e⟩
theorem ss_cont : SS tCont E E' E s (fun γ => some (.cnt γ)) := ⟨fun O hE e fin => by
  cases e
  exact fin _ _ _ _ (Same.refl _) O hE⟩
theorem ss_contC {c : ρ → κ} (h : Co E Ec c) : SS tCont E E' Ec s (fun γ => some (.cnt (c γ))) := ⟨fun O hE e fin => by
  cases e
  obtain ⟨F', L', O', sF, he'⟩ := h (by rw [List.append_nil]; exact O) hE
  rw [List.append_nil] at O'
  exact fin _ _ _ _ sF O' he'⟩
/-! loops -/
def forR {κ : Type} (step : α → ρ → Option (Res ρ ρ β)) : List α → ρ → Option (Res ρ κ β)
  | [], γ => some (.nxt γ)
  | x :: xs, γ => ob (step x γ) fun r => match r with
    | .nxt γ' => forR step xs γ'
    | .cnt γ' => forR step xs γ'
    | .brk γ' => some (.nxt γ')
    | .ret b => some (.ret b)
theorem ss_for {wi : TI} {g : TG} {is : List Nat} {tb : TS} {fi : ρ → Option (List α)} {p : α → ρ → ρ''} {mb : ρ'' → Option (Res ρ ρ β)} (hi : SI wi E A fi) (hg : SG g is E A E1 p) (hb : SS tb E1 E E s mb) :
    SS (tFor wi g tb) E E Ec s (fun γ => ob (fi γ) fun xs => forR (fun x γ => mb (p x γ)) xs γ) := ⟨fun {σ F0 H0 F H L γ r D} O hE e fin => by
  obtain ⟨xs, e1, e⟩ := ob_some e
  refine hi.run O.fh (Held.of O) hE e1 fun J F1 H1 s1 it => ?_
  have O1 := Own.on O s1
  rw [List.nil_append] at O1
  refine ⟨fun i m σ' H' => m = xs.length - i ∧ i ≤ xs.length ∧ ∃ F' L' γ', Same F1 F' ∧ Own F0 H0 F' H' L' [] ∧ E.r σ' F' L' γ' ∧ forR (fun x γ => mb (p x γ)) (xs.drop i) γ' = some r,
    ⟨xs.length, by omega, Nat.zero_le _, F1, L, γ, Same.refl _, O1, E.m s1.f0 hE, e⟩, ?_⟩
  rintro i m σ' H' ⟨rfl, hi, F', L', γ', sF', O', hE', e'⟩
  by_cases hlt : i < xs.length
  · obtain ⟨x, hx⟩ : ∃ x, xs[i]? = some x := ⟨_, List.getElem?_eq_getElem hlt⟩
    obtain ⟨go, yl⟩ := it.one sF' O'.fh hx
    have ed : xs.drop i = x :: xs.drop (i + 1) := by
      rw [List.drop_eq_getElem_cons hlt]
      congr 1
      rw [List.getElem?_eq_getElem hlt] at hx
      exact Option.some.inj hx
    rw [ed] at e'
    obtain ⟨r1, e2, e3⟩ := ob_some e'
    refine .inr ⟨go, fun σ2 H2 => ∃ F' L' γ', Same F1 F' ∧ Own F0 H0 F' H2 L' [] ∧ E.r σ2 F' L' γ' ∧ forR (fun x γ => mb (p x γ)) (xs.drop (i + 1)) γ' = some r, fun σ2 H2 h => ⟨xs.length - (i + 1), by omega, rfl, hlt, h⟩, fun v H3 hy => ?_⟩
    obtain ⟨F3, s3, r3⟩ := yl v H3 hy
    have O3 := Own.on O' s3
    rw [List.nil_append] at O3
    refine hg O3.fh (E.m s3.f0 hE') r3 fun σ4 L4 hb4 hE4 _ => ?_
    have O4 := OwnSb O3 hb4
    refine hb.run O4 hE4 e2 ?_
    have sF3 := sF'.trans s3.f0
    cases r1 with
    | nxt γ2 => exact fun σ5 F5 H5 L5 s5 O5 hE5 => ⟨F5, L5, γ2, sF3.trans s5, O5, hE5, e3⟩
    | cnt γ2 => exact fun σ5 F5 H5 L5 s5 O5 hE5 => ⟨F5, L5, γ2, sF3.trans s5, O5, hE5, e3⟩
    | brk γ2 =>
      cases e3
      exact fun σ5 F5 H5 L5 s5 O5 hE5 => fin σ5 F5 H5 L5 (s1.f0.trans (sF3.trans s5)) O5 hE5
    | ret b =>
      cases e3
      exact s.mo fin (s1.f0.trans sF3)
  · have hi2 : i = xs.length := by omega
    subst hi2
    rw [List.drop_length] at e'
    cases e'
    exact .inl ⟨it.stop sF' O'.fh, fin _ _ _ _ (s1.f0.trans sF') O' hE'⟩⟩
def whileN {κ : Type} (c : ρ → Option Bool) (step : ρ → Option (Res ρ ρ β)) : Nat → ρ → Option (Res ρ κ β)
  | 0, _ => none
  | n + 1, γ => ob (c γ) fun b => if b = true then ob (step γ) fun r => match r with
    | .nxt γ' => whileN c step n γ'
    | .cnt γ' => whileN c step n γ'
    | .brk γ' => some (.nxt γ')
    | .ret b => some (.ret b) else some (.nxt γ)
theorem whileN_more {κ : Type} {c : ρ → Option Bool} {step : ρ → Option (Res ρ ρ β)} : ∀ {n : Nat} {γ : ρ} {r : Res ρ κ β}, whileN c step n γ = some r → whileN c step (n + 1) γ = some r
  | 0, _, _, h => nomatch h
  | n + 1, γ, r, h => by
    obtain ⟨b, e1, e⟩ := ob_some h
    rw [whileN, e1]
    show (if b = true then _ else _) = _
    cases b with
    | false => rw [if_neg Bool.false_ne_true] at e ⊢; exact e
    | true =>
      rw [if_pos rfl] at e ⊢
      obtain ⟨q, e2, e⟩ := ob_some e
      rw [e2]
      show (match q with | .nxt γ' => _ | .cnt γ' => _ | .brk γ' => _ | .ret b => _) = _
      cases q with
      | nxt γ' => exact whileN_more e
      | cnt γ' => exact whileN_more e
      | brk γ' => exact e
      | ret b => exact e
theorem whileN_le {κ : Type} {c : ρ → Option Bool} {step : ρ → Option (Res ρ ρ β)} {n m : Nat} {γ : ρ} {r : Res ρ κ β} (h : whileN c step n γ = some r) (l : n ≤ m) : whileN c step m γ = some r := by
  obtain ⟨k, rfl⟩ : ∃ k, m = n + k := ⟨m - n, by omega⟩
  induction k with
  | zero => exact h
  | succ k ih => exact whileN_more (ih (by omega))
open Classical in
noncomputable def whileR {κ : Type} (c : ρ → Option Bool) (step : ρ → Option (Res ρ ρ β)) (γ : ρ) : Option (Res ρ κ β) := if h : ∃ n r, whileN (κ := κ) c step n γ = some r then some h.choose_spec.choose else none
theorem whileR_some {κ : Type} {c : ρ → Option Bool} {step : ρ → Option (Res ρ ρ β)} {γ : ρ} {r : Res ρ κ β} (h : whileR c step γ = some r) : ∃ n, whileN c step n γ = some r := by
  unfold whileR at h
  split at h
  · next q =>
    cases h
    exact ⟨_, q.choose_spec.choose_spec⟩
  · cases h
theorem whileR_of {κ : Type} {c : ρ → Option Bool} {step : ρ → Option (Res ρ ρ β)} {γ : ρ} {r : Res ρ κ β} {n : Nat} (h : whileN c step n γ = some r) : whileR c step γ = some r := by
  unfold whileR
  have q : ∃ n r, whileN (κ := κ) c step n γ = some r := ⟨n, r, h⟩
  rw [dif_pos q]
  have h2 := q.choose_spec.choose_spec
  rcases Nat.le_total n q.choose with l | l
  · exact h2.symm.trans (whileN_le h l)
  · rw [whileN_le h2 l] at h
    exact h
theorem ss_while {c : TT} {tb : TS} {fc : ρ → Option Bool} {mb : ρ → Option (Res ρ ρ β)} (hc : ST c E fc) (hb : SS tb E E E s mb) : SS (tWhile c tb) E E Ec s (fun γ => whileR fc mb γ) := ⟨fun {σ F0 H0 F H L γ r D} O hE e fin => by
  obtain ⟨n, e⟩ := whileR_some e
  refine ⟨fun m σ' H' => ∃ F' L' γ', Same F F' ∧ Own F0 H0 F' H' L' [] ∧ E.r σ' F' L' γ' ∧ whileN fc mb m γ' = some r, ⟨n, F, L, γ, Same.refl _, O, hE, e⟩, ?_⟩
  rintro m σ' H' ⟨F', L', γ', sF', O', hE', e'⟩
  cases m with
  | zero => cases e'
  | succ m =>
    obtain ⟨b, e1, e2⟩ := ob_some e'
    refine hc O'.fh (Held.of O') hE' e1 fun F1 H1 s1 => ?_
    have O1 := Own.on O' s1
    rw [List.nil_append] at O1
    have sF1 := sF'.trans s1.f0
    cases b with
    | false =>
      rw [if_neg Bool.false_ne_true] at e2 ⊢
      cases e2
      exact fin _ _ _ _ sF1 O1 (E.m s1.f0 hE')
    | true =>
      rw [if_pos rfl] at e2 ⊢
      obtain ⟨r1, e3, e4⟩ := ob_some e2
      refine ⟨fun σ2 H2 => ∃ F' L' γ', Same F F' ∧ Own F0 H0 F' H2 L' [] ∧ E.r σ2 F' L' γ' ∧ whileN fc mb m γ' = some r, fun σ2 H2 h => ⟨m, by omega, h⟩, ?_⟩
      refine hb.run O1 (E.m s1.f0 hE') e3 ?_
      cases r1 with
      | nxt γ2 => exact fun σ5 F5 H5 L5 s5 O5 hE5 => ⟨F5, L5, γ2, sF1.trans s5, O5, hE5, e4⟩
      | cnt γ2 => exact fun σ5 F5 H5 L5 s5 O5 hE5 => ⟨F5, L5, γ2, sF1.trans s5, O5, hE5, e4⟩
      | brk γ2 =>
        cases e4
        exact fun σ5 F5 H5 L5 s5 O5 hE5 => fin σ5 F5 H5 L5 (sF1.trans s5) O5 hE5
      | ret b =>
        cases e4
        exact s.mo fin sF1⟩
/-! ### defs -/
variable {s : Sl β}
/-- called with such arguments, it hands back what the mirror tells -/
def spM (A : Ar ρ) (s : Sl β) (m : ρ → Option β) : Sp := fun vs H Q _ => ∃ F γ b, Same F H ∧ A.r F vs γ ∧ m γ = some b ∧ ∀ v F' H' L, Step F H F' H' L → s.r v F' L b → Q v H'
theorem se_call {a : Ar α} {f : ρ → Option α} {m : α → Option β} {Ex : XK} (h : SA tA E a f) : SE (tCall (spM a s m) [] Ex tA) E s (fun γ => ob (f γ) m) := ⟨fun s0 hL he e k => by
  obtain ⟨x, e1, e⟩ := ob_some e
  rw [q_call]
  exact h s0 hL he e1 fun vs F1 H1 s1 r1 => ⟨F1, x, _, s1.fh, r1, e, fun v F' H' L s2 r2 => k v F' H' L (s1.tr s2) r2⟩⟩
/-- arguments and the names of a def at its start -/
structure AE (a : Ar ρ) (E : En ρ) (n : Nat) : Prop where
  run : ∀ {F : Hp} {vs : List V} {γ : ρ}, a.r F vs γ → E.r (vs.map some ++ List.replicate n none) F [] γ
theorem ae_0 : AE aN eN 0 := ⟨fun e => by
  have e : _ = [] := e
  subst e
  exact ⟨rfl, rfl⟩⟩
theorem ae_U {a : Ar Unit} {E : En Unit} {n : Nat} (ha : a = aN) (h : AE a E n) : AE a (eU E) (n + 1) := ⟨fun {F vs γ} e => by
  have h2 := h.run e
  subst ha
  have e2 : vs = [] := e
  subst e2
  exact ⟨none, List.replicate n none, rfl, h2⟩⟩
theorem ae_C {a : Ar ρ} {n : Nat} (h : AE a E n) : AE (aC A a) (eC (sF A) E) n := ⟨fun ⟨v, r, e, r1, r2⟩ => by
  subst e
  exact ⟨v, _, [], [], rfl, rfl, ⟨rfl, r1⟩, h.run r2⟩⟩
structure AN (a : Ar ρ) (n : Nat) : Prop where
  run : ∀ {F : Hp} {vs : List V} {γ : ρ}, a.r F vs γ → vs.length = n
theorem an_0 : AN aN 0 := ⟨fun e => by rw [show _ = [] from e]; rfl⟩
theorem an_C {a : Ar ρ} {n : Nat} (h : AN a n) : AN (aC A a) (n + 1) := ⟨fun ⟨v, r, e, r1, r2⟩ => by rw [e, List.length_cons, h.run r2]⟩
/-- what a def hands back -/
def fin (x : Option (Res ρ κ β)) : Option β := ob x fun r => match r with | .ret b => some b | _ => none
def finN (x : Option (Res ρ κ Unit)) : Option Unit := ob x fun r => match r with | .ret b => some b | .nxt _ => some () | _ => none
theorem fin_run {a : Ar ρ} {n k : Nat} {N : List Str} {m : ρ → Option (Res ρ' Unit β)} {mm : ρ → Option β} (hA : AE a E n) (hn : AN a k) (hN : N.length = k + n) (h : SS t E E' eN (rS s) m) (hm : mm = fun γ => fin (m γ)) {vs : List V} {H : Hp} {Q : VK} {Ex : XK} (q : spM a s mm vs H Q Ex) {D : Ends} (hD : D.rt = Q) : t D (L2.start N vs) H := by
  obtain ⟨F, γ, b, s0, r, e, k⟩ := q
  subst hm
  obtain ⟨r1, e1, e2⟩ := ob_some e
  have hl := hn.run r
  have hs : L2.start N vs = vs.map some ++ List.replicate n none := by
    unfold L2.start
    rw [show N.length - vs.length = n by omega]
  rw [hs]
  refine h.run (Own.start s0 trivial) (hA.run r) e1 ?_
  cases r1 with
  | ret b => cases e2; rw [← hD] at k; exact fun v F' H' L _ O r' => k v F' H' L O r'
  | nxt _ => cases e2
  | cnt _ => cases e2
  | brk _ => cases e2
theorem finN_run {a : Ar ρ} {n k : Nat} {N : List Str} {m : ρ → Option (Res ρ' Unit Unit)} {mm : ρ → Option Unit} (hA : AE a E n) (hn : AN a k) (hN : N.length = k + n) (h : SS t E E' eN (rS (sF jN)) m) (hm : mm = fun γ => finN (m γ)) {vs : List V} {H : Hp} {Q : VK} {Ex : XK} (q : spM a (sF jN) mm vs H Q Ex) {D : Ends} (hD : D.rt = Q) (hD2 : D.nx = fun _ H' => Q .non H') : t D (L2.start N vs) H := by
  obtain ⟨F, γ, b, s0, r, e, k⟩ := q
  subst hm
  obtain ⟨r1, e1, e2⟩ := ob_some e
  have hl := hn.run r
  have hs : L2.start N vs = vs.map some ++ List.replicate n none := by
    unfold L2.start
    rw [show N.length - vs.length = n by omega]
  rw [hs]
  refine h.run (Own.start s0 trivial) (hA.run r) e1 ?_
  cases r1 with
  | ret b => cases e2; rw [← hD] at k; exact fun v F' H' L _ O r' => k v F' H' L O r'
  | nxt _ => exact fun σ F' H' L _ O r' => by rw [hD2]; exact k .non F' H' [] (OwnSb O (Sb.nil _)) ⟨rfl, rfl⟩
  | cnt _ => cases e2
  | brk _ => cases e2
theorem spM_len {a : Ar ρ} {m : ρ → Option β} {n : Nat} (h : AN a n) : ∀ vs H Q E, spM a s m vs H Q E → vs.length = n := fun _ _ _ _ ⟨_, _, _, _, r, _⟩ => h.run r
end
end Mi

namespace Mi
open PySem PySem.Spec PyProof.Rows L2 Fw
section
variable {ρ ρ' ρ'' α β δ ε κ : Type} {E : En ρ} {E' : En ρ'} {E1 : En ρ''} {Ec : En κ} {ta tb tc te : TE} {tA : TA} {A : Rp α} {B : Rp β} {D : Rp δ} {fa : ρ → Option α} {fb : ρ → Option β} {fc : ρ → Option δ} {K : PySem.W.Frag} {s : Sl β} {t u : TS}
/-! ### things read as they stand -/
structure SR (t : TE) (E : En ρ) (R : Rp α) (f : ρ → Option α) : Prop where
  run : ∀ {σ : L2.St} {F H : Hp} {L : List (Addr × HO)} {γ : ρ} {x : α} {Q : VK}, Same F H → Held H L → E.r σ F L γ → f γ = some x → (∀ v F' H', Step F H F' H' [] → R.r H' v x → Q v H') → t σ H Q
theorem sr_var {i : Nat} {R : Rp α} {g : ρ → List α} (hg : Gt E i (sO R) g) : SR (tVar i) E (jL R) (fun γ => some (g γ)) := ⟨fun s0 hL hE e k => by
  cases e
  obtain ⟨v, L1, h1, h2, p, vs, h3, h4, h5⟩ := hg hE
  subst h3 h4
  exact ⟨_, h1, k _ _ _ (Step.nil s0) ⟨p, vs, rfl, hL _ (h2 _ List.mem_cons_self), Paired.mono (fun _ _ q => R.m s0 q) h5⟩⟩⟩
theorem sr_of (h : SE ta E (sF A) fa) : SR ta E A fa := ⟨fun s0 hL hE e k => h s0 hL hE e fun v F' H' L1 s1 ⟨z, r⟩ => by
  subst z
  exact k _ _ _ s1 (A.m s1.fh r)⟩
theorem sb_var {i : Nat} {R : Rp α} {g : ρ → List α} (hg : Gt E i (sO R) g) : SB (tVar i) E R (fun γ => some (g γ)) := ⟨fun s0 hL hE e k => by
  cases e
  obtain ⟨v, L1, h1, h2, p, vs, h3, h4, h5⟩ := hg hE
  subst h3 h4
  exact ⟨_, h1, k _ _ _ _ (Step.nil s0) (hL _ (h2 _ List.mem_cons_self)) h5⟩⟩
/-- no heap in it -/
structure Scal (R : Rp α) : Prop where
  run : ∀ {F F' : Hp} {v : V} {x : α}, R.r F v x → R.r F' v x
theorem scI : Scal jI := ⟨fun h => h⟩
theorem scB : Scal jB := ⟨fun h => h⟩
theorem scS : Scal jS := ⟨fun h => h⟩
theorem scN : Scal jN := ⟨fun h => h⟩
theorem scO {R : Rp α} (h : Scal R) : Scal (jO R) := ⟨fun {_ _ _ x} q => by
  cases x with
  | none => exact q
  | some y => exact h.run q⟩
theorem Step.of {F H F' H' : Hp} (s0 : Same F H) (s : Step H H F' H' []) : Step F H F H' [] := (Step.nil s0).more s.hh
theorem Step.scal {F H F' H' : Hp} {L : List (Addr × HO)} (s0 : Same F H) (s : Step H H F' H' L) : Step F H F H' [] := (Step.nil s0).more s.hh
theorem se_opR {r : R2} {g : α → β → Option δ} (ha : SR ta E A fa) (hb : SR tb E B fb) (hs : S2 r A B (sF D) g) (hd : Scal D) : SE (tOp r ta tb) E (sF D) (fun γ => ob (fa γ) fun x => ob (fb γ) fun y => g x y) := ⟨fun s0 hL hE e k => by
  obtain ⟨x, e1, e⟩ := ob_some e
  obtain ⟨y, e2, e⟩ := ob_some e
  refine ha.run s0 hL hE e1 fun v F1 H1 s1 r1 => ?_
  refine hb.run s1.fh (hL.mono s1.hh) (E.m s1.f0 hE) e2 fun u F2 H2 s2 r2 => ?_
  exact hs (Same.refl H2) (A.m s2.hh r1) r2 e fun z F3 H3 L3 s3 ⟨_, r3⟩ => k z F2 H3 [] ((s1.tr s2).tr (Step.scal s2.fh s3)) ⟨rfl, hd.run r3⟩⟩
structure SRA (t : TA) (E : En ρ) (A : Ar α) (f : ρ → Option α) : Prop where
  run : ∀ {σ : L2.St} {F H : Hp} {L : List (Addr × HO)} {γ : ρ} {x : α} {Q : List V → Hp → Prop}, Same F H → Held H L → E.r σ F L γ → f γ = some x → (∀ vs F' H', Step F H F' H' [] → A.r H' vs x → Q vs H') → t σ H Q
theorem sra_nil : SRA tNil E aN (fun _ => some ()) := ⟨fun s0 _ _ e k => k _ _ _ (Step.nil s0) rfl⟩
theorem sra_cons {tr : TA} {T : Ar β} {fr : ρ → Option β} (ha : SR ta E A fa) (hr : SRA tr E T fr) : SRA (tCons ta tr) E (aC A T) (fun γ => ob (fa γ) fun x => ob (fr γ) fun y => some (x, y)) := ⟨fun s0 hL hE e k => by
  obtain ⟨x, e1, e⟩ := ob_some e
  obtain ⟨y, e2, e⟩ := ob_some e
  cases e
  refine ha.run s0 hL hE e1 fun v F1 H1 s1 r1 => ?_
  exact hr.run s1.fh (hL.mono s1.hh) (E.m s1.f0 hE) e2 fun vs F2 H2 s2 r2 => k _ _ _ (s1.tr s2) ⟨v, vs, rfl, A.m s2.hh r1, r2⟩⟩
theorem se_cbR {r : List V → Hp → VK → Prop} {a : Ar α} {g : α → Option δ} {f : ρ → Option α} (h : SRA tA E a f) (hs : SC r a (sF D) g) (hd : Scal D) : SE (tCB r tA) E (sF D) (fun γ => ob (f γ) g) := ⟨fun s0 hL he e k => by
  obtain ⟨x, e1, e⟩ := ob_some e
  refine h.run s0 hL he e1 fun vs F1 H1 s1 r1 => ?_
  exact hs.run (Same.refl H1) r1 e fun z F5 H5 L5 s5 ⟨_, r5⟩ => k z F1 H5 [] (s1.tr (Step.scal s1.fh s5)) ⟨rfl, hd.run r5⟩⟩
theorem se_callR {a : Ar α} {f : ρ → Option α} {m : α → Option δ} {Ex : XK} (h : SRA tA E a f) (hd : Scal D) : SE (tCall (spM a (sF D) m) [] Ex tA) E (sF D) (fun γ => ob (f γ) m) := ⟨fun s0 hL he e k => by
  obtain ⟨x, e1, e⟩ := ob_some e
  rw [q_call]
  exact h.run s0 hL he e1 fun vs F1 H1 s1 r1 => ⟨H1, x, _, Same.refl _, r1, e, fun v F' H' L s2 ⟨_, r2⟩ => k v F1 H' [] (s1.tr (Step.scal s1.fh s2)) ⟨rfl, hd.run r2⟩⟩⟩
/-- an own list's item -/
theorem se_ixB {fa : ρ → Option (List α)} {fi : ρ → Option Int} (ha : SB ta E A fa) (hb : SE tb E (sF jI) fi) : SE (tOp (rIxL K) ta tb) E (sF A) (fun γ => ob (fa γ) fun x => ob (fi γ) fun y => pat x y) := ⟨fun s0 hL hE e k => by
  obtain ⟨x, e1, e⟩ := ob_some e
  obtain ⟨y, e2, e⟩ := ob_some e
  refine ha s0 hL hE e1 fun a vs F1 H1 s1 h1 p => ?_
  refine hb s1.fh (hL.mono s1.hh) (E.m s1.f0 hE) e2 fun u F2 H2 L2 s2 ⟨z2, r2⟩ => ?_
  subst z2
  obtain ⟨v, h2, h3⟩ := pat_paired p e
  exact ⟨a, vs, y, v, rfl, r2, .inl (.inl (s2.hh _ _ h1)), h2, k _ _ _ [] (s1.tr s2) ⟨rfl, A.m s2.f0 h3⟩⟩⟩
/-! truth of a list -/
theorem st_truR {fa : ρ → Option (List α)} (ha : SR ta E (jL A) fa) : ST (fun σ H Q => ta σ H fun x H' => ∃ k, TruV K x H' k ∧ Q k H') E (fun γ => ob (fa γ) fun x => some (!x.isEmpty)) := ⟨fun s0 hL hE e k => by
  obtain ⟨x, e1, e⟩ := ob_some e
  cases e
  refine ha.run s0 hL hE e1 fun v F1 H1 s1 ⟨a, vs, r1, r2, p⟩ => ?_
  subst r1
  refine ⟨_, .inl ⟨vs, .inl (.inl r2), rfl⟩, ?_⟩
  have : vs.isEmpty = x.isEmpty := by
    have := Paired.len p
    cases vs <;> cases x <;> first | rfl | cases this
  rw [this]
  exact k _ _ s1⟩
/-! ### equality of data -/
structure Eqr (R : Rp α) (n : Nat) (dt : α → PyData) [DecidableEq α] : Prop where
  dp : ∀ {K : PySem.W.Frag} {F : Hp} {v : V} {x : α}, R.r F v x → Dp K F v (dt x)
  sh : ∀ {F : Hp} {v : V} {x : α}, R.r F v x → PyData.canLay0 (dt x) = true
  dep : ∀ x, (dt x).depth ≤ n
  eq : ∀ x y, PyData.eqv (dt x) (dt y) = decide (x = y)
theorem qI : Eqr jI 0 PyData.int := ⟨fun {_ _ v x} h => by rw [show v = .int x from h]; exact .int x, fun _ => rfl, fun _ => Nat.le_refl _, fun x y => by
  show (x == y) = _
  rw [Bool.eq_iff_iff, beq_iff_eq, decide_eq_true_iff]⟩
theorem qB : Eqr jB 0 PyData.bool := ⟨fun {_ _ v x} h => by rw [show v = .bl x from h]; exact .bl x, fun _ => rfl, fun _ => Nat.le_refl _, fun x y => by
  show (x == y) = _
  rw [Bool.eq_iff_iff, beq_iff_eq, decide_eq_true_iff]⟩
theorem qS : Eqr jS 0 (fun l => PyData.str (S l)) := ⟨fun {_ _ v x} h => by rw [show v = vS x from h.1]; exact .str _, fun {_ _ x} h => by
  show PyData.strOk (S x) = true
  unfold PyData.strOk
  rw [Array.all_eq_true']
  intro c hc
  exact decide_eq_true (h.2 c (by simpa [S] using hc)), fun _ => Nat.le_refl _, fun x y => by
  show (S x == S y) = _
  rw [Bool.eq_iff_iff, beq_iff_eq, decide_eq_true_iff]
  exact S_inj⟩
theorem qN : Eqr jN 0 (fun _ => PyData.none) := ⟨fun {_ _ v x} h => by rw [show v = .non from h]; exact .non, fun _ => rfl, fun _ => Nat.le_refl _, fun x y => by
  show true = _
  rw [Bool.eq_iff_iff, decide_eq_true_iff]
  exact ⟨fun _ => rfl, fun _ => rfl⟩⟩
section
variable [DecidableEq α] [DecidableEq ρ'] {n m : Nat} {dt : α → PyData} {R : Rp α}
theorem q_all (h : Eqr R n dt) : ∀ xs ys : List α, PyData.eqvAll (xs.map dt) (ys.map dt) = decide (xs = ys)
  | [], [] => rfl
  | [], y :: ys => rfl
  | x :: xs, [] => rfl
  | x :: xs, y :: ys => by
    show (PyData.eqv (dt x) (dt y) && PyData.eqvAll (xs.map dt) (ys.map dt)) = _
    rw [h.eq, q_all h xs ys]
    rw [Bool.eq_iff_iff, Bool.and_eq_true, decide_eq_true_iff, decide_eq_true_iff, decide_eq_true_iff, List.cons.injEq]
theorem q_can (h : Eqr R n dt) {F : Hp} : ∀ {vs : List V} {xs : List α}, Paired (R.r F) vs xs → PyData.canLayAll0 (xs.map dt) = true
  | _, _, .nil => rfl
  | _, x :: xs, .cons r t => by
    show (PyData.canLay0 (dt x) && PyData.canLayAll0 (xs.map dt)) = true
    rw [h.sh r, q_can h t]
    rfl
theorem q_dep (h : Eqr R n dt) : ∀ xs : List α, PyData.depthAll (xs.map dt) ≤ n
  | [] => Nat.zero_le _
  | x :: xs => by
    show max (dt x).depth (PyData.depthAll (xs.map dt)) ≤ n
    have := h.dep x
    have := q_dep h xs
    omega
theorem q_dps (h : Eqr R n dt) {K : PySem.W.Frag} {F : Hp} : ∀ {vs : List V} {xs : List α}, Paired (R.r F) vs xs → DpAll K F vs (xs.map dt)
  | _, _, .nil => .nil
  | _, _, .cons r t => .cons (h.dp r) (q_dps h t)
theorem qL (h : Eqr R n dt) : Eqr (jL R) (n + 1) (fun xs => PyData.list (xs.map dt)) := ⟨fun ⟨a, vs, e, h1, p⟩ => by
  rw [e]
  exact .lst (.inl (.inl h1)) (q_dps h p), fun ⟨_, _, _, _, p⟩ => q_can h p, fun xs => by
    show PyData.depthAll (xs.map dt) + 1 ≤ n + 1
    have := q_dep h xs
    omega, q_all h⟩
structure EqT (T : Tp ρ') (n : Nat) (dt : ρ' → List PyData) : Prop where
  dp : ∀ {K : PySem.W.Frag} {F : Hp} {vs : List V} {x : ρ'}, T.r F vs x → DpAll K F vs (dt x)
  sh : ∀ {F : Hp} {vs : List V} {x : ρ'}, T.r F vs x → PyData.canLayAll0 (dt x) = true
  dep : ∀ x, PyData.depthAll (dt x) ≤ n
  eq : ∀ x y, PyData.eqvAll (dt x) (dt y) = decide (x = y)
theorem q1 (h : Eqr R n dt) : EqT (y1 R) n (fun x => [dt x]) := ⟨fun ⟨v, e, r⟩ => by rw [e]; exact .cons (h.dp r) .nil, fun {_ _ x} ⟨v, e, r⟩ => by
  show (PyData.canLay0 (dt x) && true) = true
  rw [h.sh r]; rfl, fun x => by
  show max (dt x).depth 0 ≤ n
  have := h.dep x
  omega, fun x y => by
  show (PyData.eqv (dt x) (dt y) && true) = _
  rw [h.eq, Bool.and_true]⟩
theorem qC {T : Tp ρ'} {dts : ρ' → List PyData} (h : Eqr R n dt) (ht : EqT T m dts) : EqT (yC R T) (max n m) (fun x => dt x.1 :: dts x.2) := ⟨fun ⟨v, r, e, r1, r2⟩ => by rw [e]; exact .cons (h.dp r1) (ht.dp r2), fun {_ _ x} ⟨v, r, e, r1, r2⟩ => by
  show (PyData.canLay0 (dt x.1) && PyData.canLayAll0 (dts x.2)) = true
  rw [h.sh r1, ht.sh r2]; rfl, fun x => by
  show max (dt x.1).depth (PyData.depthAll (dts x.2)) ≤ max n m
  have := h.dep x.1
  have := ht.dep x.2
  omega, fun x y => by
  show (PyData.eqv (dt x.1) (dt y.1) && PyData.eqvAll (dts x.2) (dts y.2)) = _
  rw [h.eq, ht.eq, Bool.eq_iff_iff, Bool.and_eq_true, decide_eq_true_iff, decide_eq_true_iff, decide_eq_true_iff]
  exact ⟨fun ⟨a, b⟩ => Prod.ext a b, fun a => by rw [a]; exact ⟨rfl, rfl⟩⟩⟩
theorem qT {T : Tp ρ'} {dts : ρ' → List PyData} (ht : EqT T m dts) : Eqr (jT T) (m + 1) (fun x => PyData.tuple (dts x)) := ⟨fun ⟨a, vs, e, h1, p⟩ => by
  rw [e]
  exact .tup (.inl (.inl h1)) (ht.dp p), fun ⟨_, _, _, _, p⟩ => ht.sh p, fun x => by
    show PyData.depthAll (dts x) + 1 ≤ m + 1
    have := ht.dep x
    omega, ht.eq⟩
/-- none against data that is no none -/
structure NoN (R : Rp α) (n : Nat) (dt : α → PyData) [DecidableEq α] : Prop extends Eqr R n dt where
  nn : ∀ x, PyData.eqv PyData.none (dt x) = false ∧ PyData.eqv (dt x) PyData.none = false
theorem qO (h : NoN R n dt) : Eqr (jO R) n (fun x => match x with | none => PyData.none | some y => dt y) := ⟨fun {_ _ _ x} r => by
  cases x with
  | none => rw [show _ = V.non from r]; exact .non
  | some y => exact h.dp r, fun {_ _ x} r => by
    cases x with
    | none => rfl
    | some y => exact h.sh r, fun x => by
    cases x with
    | none => exact Nat.zero_le _
    | some y => exact h.dep y, fun x y => by
    cases x with
    | none => cases y with
      | none => rfl
      | some y => rw [show decide (none = some y) = false from rfl]; exact (h.nn y).1
    | some x => cases y with
      | none => rw [show decide (some x = none) = false from rfl]; exact (h.nn x).2
      | some y =>
        show PyData.eqv (dt x) (dt y) = _
        rw [h.eq, Bool.eq_iff_iff, decide_eq_true_iff, decide_eq_true_iff, Option.some.injEq]⟩
theorem nnI : NoN jI 0 PyData.int := ⟨qI, fun _ => ⟨rfl, rfl⟩⟩
theorem nnT {T : Tp ρ'} {dts : ρ' → List PyData} (ht : EqT T m dts) : NoN (jT T) (m + 1) (fun x => PyData.tuple (dts x)) := ⟨qT ht, fun _ => ⟨rfl, rfl⟩⟩
theorem shp (h : Eqr R n dt) (hn : n ≤ 64) {F : Hp} {v : V} {x : α} (r : R.r F v x) : SeqAt.shaped (dt x) = true := by
  unfold SeqAt.shaped
  refine Bool.and_eq_true_iff.mpr ⟨h.sh r, decide_eq_true ?_⟩
  have := h.dep x
  omega
theorem s2_eqD (h : Eqr R n dt) (hn : n ≤ 64 := by decide) : S2 (rEqD K) R R (sF jB) (fun x y => some (decide (x = y))) := ⟨fun s0 r1 r2 e k => by
  cases e
  exact ⟨_, _, Dp.mono s0 _ _ (h.dp r1), Dp.mono s0 _ _ (h.dp r2), shp h hn r1, shp h hn r2, by rw [h.eq]; exact k _ _ _ [] (Step.nil s0) ⟨rfl, rfl⟩⟩⟩
theorem s2_neD (h : Eqr R n dt) (hn : n ≤ 64 := by decide) : S2 (rNeD K) R R (sF jB) (fun x y => some (!decide (x = y))) := ⟨fun s0 r1 r2 e k => by
  cases e
  exact ⟨_, _, Dp.mono s0 _ _ (h.dp r1), Dp.mono s0 _ _ (h.dp r2), shp h hn r1, shp h hn r2, by rw [h.eq]; exact k _ _ _ [] (Step.nil s0) ⟨rfl, rfl⟩⟩⟩
theorem any_dec (h : Eqr R n dt) (x : α) : ∀ ys : List α, ((ys.map dt).any fun z => PyData.eqv z (dt x)) = decide (x ∈ ys)
  | [] => rfl
  | y :: ys => by
    rw [List.map_cons, List.any_cons, any_dec h x ys, h.eq, Bool.eq_iff_iff, Bool.or_eq_true, decide_eq_true_iff, decide_eq_true_iff, decide_eq_true_iff, List.mem_cons]
    exact ⟨fun q => q.elim (fun a => .inl a.symm) .inr, fun q => q.elim (fun a => .inl a.symm) .inr⟩
theorem s2_inD (h : Eqr R n dt) (hn : n ≤ 63 := by decide) : S2 (rInD K) R (jL R) (sF jB) (fun x ys => some (decide (x ∈ ys))) := ⟨fun s0 r1 r2 e k => by
  cases e
  exact ⟨_, _, Dp.mono s0 _ _ (h.dp r1), Dp.mono s0 _ _ ((qL h).dp r2), shp h (by omega) r1, shp (qL h) (by omega) r2, by rw [any_dec h]; exact k _ _ _ [] (Step.nil s0) ⟨rfl, rfl⟩⟩⟩
theorem s2_notInD (h : Eqr R n dt) (hn : n ≤ 63 := by decide) : S2 (rNotInD K) R (jL R) (sF jB) (fun x ys => some (!decide (x ∈ ys))) := ⟨fun s0 r1 r2 e k => by
  cases e
  exact ⟨_, _, Dp.mono s0 _ _ (h.dp r1), Dp.mono s0 _ _ ((qL h).dp r2), shp h (by omega) r1, shp (qL h) (by omega) r2, by rw [any_dec h]; exact k _ _ _ [] (Step.nil s0) ⟨rfl, rfl⟩⟩⟩
end
/-! none -/
/-- never none -/
structure NN (R : Rp α) : Prop where
  run : ∀ {F : Hp} {v : V} {x : α}, R.r F v x → v ≠ .non
theorem oI : NN jI := ⟨fun h e => by rw [show _ = V.int _ from h] at e; cases e⟩
theorem oS : NN jS := ⟨fun h e => by rw [show _ = V.str _ from h.1] at e; cases e⟩
theorem oT {T : Tp α} : NN (jT T) := ⟨fun ⟨_, _, h, _⟩ e => by rw [h] at e; cases e⟩
theorem oL : NN (jL A) := ⟨fun ⟨_, _, h, _⟩ e => by rw [h] at e; cases e⟩
theorem s2_isN (h : NN A) : S2 rIsN (jO A) jN (sF jB) (fun x _ => some x.isNone) := ⟨fun {_ _ v _ x _ _ _} s0 r1 r2 e k => by
  cases e
  refine ⟨r2, ?_⟩
  have : decide (v = V.non) = x.isNone := by
    cases x with
    | none => exact decide_eq_true r1
    | some y => exact decide_eq_false (h.run r1)
  rw [this]
  exact k _ _ _ [] (Step.nil s0) ⟨rfl, rfl⟩⟩
theorem s2_notN (h : NN A) : S2 rNotN (jO A) jN (sF jB) (fun x _ => some x.isSome) := ⟨fun {_ _ v _ x _ _ _} s0 r1 r2 e k => by
  cases e
  refine ⟨r2, ?_⟩
  have : (!decide (v = V.non)) = x.isSome := by
    cases x with
    | none => rw [show v = V.non from r1]; rfl
    | some y => rw [decide_eq_false (h.run r1)]; rfl
  rw [this]
  exact k _ _ _ [] (Step.nil s0) ⟨rfl, rfl⟩⟩
/-! numbers -/
def PShl (i j : Int) : Prop := 0 ≤ j ∧ (Builtin.Int.intBits i : Int) + j ≤ 134217728
noncomputable instance (i j : Int) : Decidable (PShl i j) := Classical.propDecidable _
theorem s2_shl : S2 (rI CShl fun i j => .int (i * 2 ^ j.toNat)) jI jI (sF jI) (fun x y => pck (PShl x y) (x * 2 ^ y.toNat)) := s2_I (P := PShl) (f := fun i j => i * 2 ^ j.toNat) fun _ _ h => h
/-- the text of a number -/
def pstr (i : Int) : Option (List Nat) := pck (0 ≤ i ∧ i < 100000000000000000000) (TL.numL i.toNat)
theorem sc_strN : SC rStr (aC jI aN) (sF jS) (fun x => pstr x.1) := ⟨fun {_ _ _ a _ _} s0 ⟨v, r, e1, r1, e2⟩ e k => by
  subst e1 e2
  unfold pstr at e
  obtain ⟨p, rfl⟩ := pck_some e
  have : v = V.int ((a.1.toNat : Nat) : Int) := by rw [show v = .int a.1 from r1, Int.toNat_of_nonneg p.1]
  subst this
  exact w_strN (k _ _ _ [] (Step.nil s0) ⟨rfl, rfl, fun c hc => by have := TL.numL_digits _ c hc; omega⟩) (by omega)⟩
/-- xs.index(y), numbers -/
def plidx (xs : List Int) (y : Int) : Option Int := pck (y ∈ xs) (xs.idxOf y : Int)
theorem flat_ints (ys : List Int) : (ys.map V.int).all flatV = true := by
  induction ys with
  | nil => rfl
  | cons y ys ih => exact ih
theorem s2_lidx : S2 (fun x y => rIndex K x [y]) (jL jI) jI (sF jI) (fun x y => plidx x y) := ⟨fun {_ _ _ _ xs y _ _} s0 ⟨a, vs, e1, h, p⟩ r2 e k => by
  unfold plidx at e
  obtain ⟨hm, rfl⟩ := pck_some e
  have ev := ints_of p
  subst e1 ev
  have hlt : xs.idxOf y < xs.length := List.idxOf_lt_length_of_mem hm
  refine ⟨a, xs.map V.int, .int y, xs.idxOf y, .int y, rfl, by rw [show _ = V.int y from r2], .inl (.inl (s0 _ _ h)), rfl, flat_ints _, ?_, ?_, fun m z' hm' hz => ?_, k _ _ _ [] (Step.nil s0) ⟨rfl, rfl⟩⟩
  · rw [List.getElem?_map, List.getElem?_eq_getElem hlt, List.getElem_idxOf hlt]
    rfl
  · show (decide (y = y)) = true
    exact decide_eq_true rfl
  · rw [List.getElem?_map] at hz
    cases hx : xs[m]? with
    | none => rw [hx] at hz; cases hz
    | some w =>
      rw [hx] at hz
      cases hz
      show decide (w = y) = false
      have := List.not_of_lt_findIdx (p := (· == y)) (xs := xs) (i := m) hm'
      obtain ⟨hl, hg⟩ := List.getElem?_eq_some_iff.mp hx
      simp only [hg] at this
      exact decide_eq_false fun z => by rw [z, beq_self_eq_true] at this; cases this⟩
/-- a list's method with one argument, by value -/
theorem se_bm {T : String} {r : V → List V → Hp → VK → Prop} {g : α → β → Option δ} {s : Sl δ} (ha : SE ta E (sF A) fa) (hb : SE tb E (sF B) fb) (hs : S2 (fun x y => r x [y]) A B s g) (ht : ∀ {F H v x}, Same F H → A.r F v x → tyV K T v H) : SE (tBM K T r ta (tCons tb tNil)) E s (fun γ => ob (fa γ) fun x => ob (fb γ) fun y => g x y) := ⟨fun s0 hL he e k => by
  obtain ⟨x, e1, e⟩ := ob_some e
  obtain ⟨y, e2, e⟩ := ob_some e
  refine ha s0 hL he e1 fun v F1 H1 L1 s1 ⟨z1, r1⟩ => ?_
  subst z1
  refine ⟨ht s1.fh r1, ?_⟩
  refine hb s1.fh (hL.mono s1.hh) (E.m s1.f0 he) e2 fun u F2 H2 L2 s2 ⟨z2, r2⟩ => ?_
  subst z2
  exact hs s2.fh (A.m s2.f0 r1) r2 e fun z F3 H3 L3 s3 r3 => k z F3 H3 L3 (s1.tr (s2.tr s3)) r3⟩
theorem tyV_L {F H : Hp} {v : V} {x : List α} (s0 : Same F H) (h : (jL A).r F v x) : tyV K "list" v H := by
  obtain ⟨a, vs, e, h, _⟩ := h
  rw [e]
  exact .inl ⟨rfl, vs, .inl (.inl (s0 _ _ h))⟩
theorem se_lidx {fa : ρ → Option (List Int)} {fb : ρ → Option Int} (ha : SE ta E (sF (jL jI)) fa) (hb : SE tb E (sF jI) fb) : SE (tBM K "list" (rIndex K) ta (tCons tb tNil)) E (sF jI) (fun γ => ob (fa γ) fun x => ob (fb γ) fun y => plidx x y) := se_bm ha hb s2_lidx tyV_L
theorem s2_lcount : S2 (fun x y => rCntI K x [y]) (jL jI) jI (sF jI) (fun x y => some ((x.count y : Nat) : Int)) := ⟨fun {_ _ _ _ xs y _ _} s0 ⟨a, vs, e1, h, p⟩ r2 e k => by
  cases e
  have ev := ints_of p
  subst e1 ev
  exact ⟨a, xs, y, rfl, by rw [show _ = V.int y from r2], .inl (.inl (s0 _ _ h)), k _ _ _ [] (Step.nil s0) ⟨rfl, rfl⟩⟩⟩
theorem se_lcount {fa : ρ → Option (List Int)} {fb : ρ → Option Int} (ha : SE ta E (sF (jL jI)) fa) (hb : SE tb E (sF jI) fb) : SE (tBM K "list" (rCntI K) ta (tCons tb tNil)) E (sF jI) (fun γ => ob (fa γ) fun x => ob (fb γ) fun y => some ((x.count y : Nat) : Int)) := se_bm ha hb s2_lcount tyV_L
end
end Mi

namespace Mi
open PySem PySem.Spec PyProof.Rows L2 Fw
/-! ### own rows behind a list that stays -/
def rowsL : List Addr → List (List V) → List (Addr × HO)
  | p :: ps, r :: rs => (p, .lst r) :: rowsL ps rs
  | _, _ => []
theorem rowsL_len : ∀ {ps : List Addr} {rs : List (List V)}, ps.length = rs.length → (rowsL ps rs).length = rs.length
  | [], [], _ => rfl
  | p :: ps, r :: rs, h => by
    show (rowsL ps rs).length + 1 = rs.length + 1
    rw [rowsL_len (Nat.succ.inj h)]
  | [], _ :: _, h => nomatch h
  | _ :: _, [], h => nomatch h
theorem rowsL_get : ∀ {ps : List Addr} {rs : List (List V)} {k : Nat} {p : Addr} {r : List V}, ps[k]? = some p → rs[k]? = some r → (rowsL ps rs)[k]? = some (p, .lst r)
  | p :: ps, r :: rs, 0, _, _, h1, h2 => by
    have e1 := Option.some.inj h1
    have e2 := Option.some.inj h2
    rw [← e1, ← e2]
    rfl
  | p :: ps, r :: rs, k + 1, _, _, h1, h2 => rowsL_get (k := k) h1 h2
  | [], _, _, _, _, h1, _ => by simp at h1
  | _ :: _, [], _, _, _, _, h2 => by simp at h2
theorem rowsL_set : ∀ {ps : List Addr} {rs : List (List V)} {k : Nat} {p : Addr} {r : List V}, ps[k]? = some p → (rowsL ps rs).set k (p, .lst r) = rowsL ps (rs.set k r)
  | p :: ps, r :: rs, 0, _, _, h1 => by
    have e1 := Option.some.inj h1
    rw [← e1]
    rfl
  | p :: ps, r :: rs, k + 1, _, r', h1 => by
    show _ :: (rowsL ps rs).set k _ = _ :: rowsL ps (rs.set k r')
    rw [rowsL_set (k := k) h1]
  | [], _, _, _, _, h1 => by simp at h1
  | _ :: _, [], _, _, _, _ => rfl
def sG {α : Type} (R : Rp α) : Sl (List (List α)) := ⟨fun v F L xss => ∃ (p : Addr) (ps : List Addr) (rows : List (List V)), v = .ref p ∧ F p = some (.lst (ps.map V.ref)) ∧ ps.length = rows.length ∧ L = rowsL ps rows ∧ Paired (Paired (R.r F)) rows xss,
  fun s ⟨p, ps, rows, h1, h2, h3, h4, h5⟩ => ⟨p, ps, rows, h1, s _ _ h2, h3, h4, Paired.mono (fun _ _ q => Paired.mono (fun _ _ q => R.m s q) q) h5⟩⟩
section
variable {ρ ρ' ρ'' α β δ ε κ : Type} {E : En ρ} {E' : En ρ'} {E1 : En ρ''} {Ec : En κ} {ta tb tc te ti tj : TE} {tA : TA} {R : Rp α} {B : Rp β} {D : Rp δ} {K : PySem.W.Frag} {s : RRt β} {s' : Sl δ} {t u : TS}
/-- xss[i][j] -/
def pcell {τ : Type} (xss : List (List τ)) (i j : Int) : Option τ := ob (pat xss i) fun xs => pat xs j
/-- xss with the cell set -/
def pcset {τ : Type} (xss : List (List τ)) (i j : Int) (x : τ) : Option (List (List τ)) := ob (pat xss i) fun xs => ob (pset xs j x) fun ys => pset xss i ys
theorem pat_ix {τ : Type} {xs : List τ} {i : Int} {x : τ} (h : pat xs i = some x) : ∃ k, ixN xs.length i = some k ∧ xs[k]? = some x := by
  unfold pat atI at h
  cases hj : ixN xs.length i with
  | none => rw [hj] at h; cases h
  | some j => rw [hj] at h; exact ⟨j, rfl, h⟩
theorem paired_left {A : α → β → Prop} : ∀ {xs : List α} {ys : List β} {i : Nat} {x : α}, Paired A xs ys → xs[i]? = some x → ∃ y, ys[i]? = some y ∧ A x y
  | _, _, _, _, .nil, e => by simp at e
  | _, _, 0, _, .cons r _, e => by
    have e2 := Option.some.inj e
    rw [← e2]
    exact ⟨_, rfl, r⟩
  | _, _, i + 1, _, .cons _ t, e => paired_left (i := i) t e
theorem row_at {F H : Hp} {ps : List Addr} {rows : List (List V)} {xss : List (List α)} {i : Int} {xs : List α} (hl : ps.length = rows.length) (hp : Paired (Paired (R.r F)) rows xss) (h : pat xss i = some xs) :
    ∃ k q row, ixN xss.length i = some k ∧ ps[k]? = some q ∧ rows[k]? = some row ∧ atI (ps.map V.ref) i = some (.ref q) ∧ Paired (R.r F) row xs := by
  obtain ⟨k, h1, h2⟩ := pat_ix h
  obtain ⟨row, h3, h4⟩ := Paired.at hp h2
  have hk : k < ps.length := by
    have := (List.getElem?_eq_some_iff.mp h3).1
    omega
  refine ⟨k, ps[k], row, h1, List.getElem?_eq_getElem hk, h3, ?_, h4⟩
  unfold atI
  rw [List.length_map, hl, Paired.len hp, h1]
  show (ps.map V.ref)[k]? = _
  rw [List.getElem?_map, List.getElem?_eq_getElem hk]
  rfl
theorem se_cell {i : Nat} {g : ρ → List (List α)} {fi fj : ρ → Option Int} (hg : Gt E i (sG R) g) (hi : SE ti E (sF jI) fi) (hj : SE tj E (sF jI) fj) : SE (tOp (rIxL K) (tOp (rIxL K) (tVar i) ti) tj) E (sF R) (fun γ => ob (fi γ) fun x => ob (fj γ) fun y => pcell (g γ) x y) := ⟨fun s0 hL hE e k => by
  obtain ⟨x, e1, e⟩ := ob_some e
  obtain ⟨y, e2, e⟩ := ob_some e
  obtain ⟨xs, e3, e4⟩ := ob_some e
  obtain ⟨v, L1, h1, h2, p, ps, rows, h3, h4, h5, h6, h7⟩ := hg hE
  subst h3 h6
  obtain ⟨kk, q, row, z1, z2, z3, z4, z5⟩ := row_at (H := (fun _ => none)) h5 h7 e3
  refine ⟨_, h1, ?_⟩
  refine hi s0 hL hE e1 fun w F1 H1 L1 s1 ⟨y1, r1⟩ => ?_
  subst y1
  refine ⟨p, ps.map V.ref, x, .ref q, rfl, r1, .inl (.inl (s1.fh _ _ (s1.f0 _ _ h4))), z4, ?_⟩
  refine hj s1.fh (hL.mono s1.hh) (E.m s1.f0 hE) e2 fun w2 F2 H2 L2 s2 ⟨y2, r2⟩ => ?_
  subst y2
  obtain ⟨c, c1, c2⟩ := pat_paired z5 e4
  have hq := hL _ (h2 _ (List.mem_of_getElem? (rowsL_get z2 z3)))
  exact ⟨q, row, y, c, rfl, r2, .inl (.inl (s2.hh _ _ (s1.hh _ _ hq))), c1, k _ _ _ [] (s1.tr s2) ⟨rfl, R.m (s1.f0.trans s2.f0) c2⟩⟩⟩
/-- own rows are changed -/
structure UpG (E : En ρ) (i : Nat) (R : Rp α) (g : ρ → List (List α)) (up : List (List α) → ρ → ρ) : Prop where
  run : ∀ {σ : L2.St} {F : Hp} {L : List (Addr × HO)} {γ : ρ}, E.r σ F L γ → ∃ (p : Addr) (ps : List Addr) (rows : List (List V)) (off : Nat), σ[i]? = some (some (.ref p)) ∧ F p = some (.lst (ps.map V.ref)) ∧ ps.length = rows.length ∧ Paired (Paired (R.r F)) rows (g γ) ∧
    (∀ (k : Nat) (q : Addr) (row : List V), ps[k]? = some q → rows[k]? = some row → L[off + k]? = some (q, .lst row)) ∧
    ∀ (F' : Hp) (k : Nat) (q : Addr) (row' : List V) (xs' : List α), Same F F' → ps[k]? = some q → Paired (R.r F') row' xs' → E.r σ F' (L.set (off + k) (q, .lst row')) (up ((g γ).set k xs') γ)
theorem v0 : UpG (eC (sG R) E) 0 R (fun γ => γ.1) (fun xs γ => (xs, γ.2)) := ⟨fun ⟨v', σ', La, L2, e1, e2, ⟨p, ps, rows, h1, h2, h3, h4, h5⟩, t⟩ => by
  subst e1 e2 h1 h4
  refine ⟨p, ps, rows, 0, rfl, h2, h3, h5, fun k q row a b => ?_, fun F' k q row' xs' sF a b => ?_⟩
  · rw [Nat.zero_add, List.getElem?_append_left (by rw [rowsL_len h3]; exact (List.getElem?_eq_some_iff.mp b).1)]
    exact rowsL_get a b
  · have hk : k < (rowsL ps rows).length := by rw [rowsL_len h3, ← h3]; exact (List.getElem?_eq_some_iff.mp a).1
    rw [Nat.zero_add, List.set_append_left _ _ hk, rowsL_set a]
    exact ⟨.ref p, σ', _, L2, rfl, rfl, ⟨p, ps, rows.set k row', rfl, sF _ _ h2, by rw [List.length_set, h3], rfl, Paired.upd b k (Paired.mono (fun _ _ q => Paired.mono (fun _ _ q => R.m sF q) q) h5)⟩, E.m sF t⟩⟩
theorem vU {i : Nat} {g : ρ → List (List α)} {up : List (List α) → ρ → ρ} (h : UpG E i R g up) : UpG (eU E) (i + 1) R g up := ⟨fun ⟨o, σ', e, t⟩ => by
  subst e
  obtain ⟨p, ps, rows, off, h1, h2, h3, h4, h5, h6⟩ := h.run t
  exact ⟨p, ps, rows, off, h1, h2, h3, h4, h5, fun F' k q row' xs' sF a b => ⟨o, σ', rfl, h6 F' k q row' xs' sF a b⟩⟩⟩
theorem vS {i : Nat} {g : ρ → List (List α)} {up : List (List α) → ρ → ρ} (h : UpG E i R g up) : UpG (eC s' E) (i + 1) R (fun γ => g γ.2) (fun xs γ => (γ.1, up xs γ.2)) := ⟨fun ⟨v', σ', La, L2, e1, e2, q0, t⟩ => by
  subst e1 e2
  obtain ⟨p, ps, rows, off, h1, h2, h3, h4, h5, h6⟩ := h.run t
  refine ⟨p, ps, rows, La.length + off, h1, h2, h3, h4, fun k q row a b => ?_, fun F' k q row' xs' sF a b => ?_⟩
  · rw [List.getElem?_append_right (by omega), show La.length + off + k - La.length = off + k by omega]
    exact h5 k q row a b
  · rw [List.set_append_right _ _ (by omega), show La.length + off + k - La.length = off + k by omega]
    exact ⟨v', σ', La, _, rfl, rfl, s'.m sF q0, h6 F' k q row' xs' sF a b⟩⟩
theorem ss_cell {i : Nat} {g : ρ → List (List α)} {up : List (List α) → ρ → ρ} {fe : ρ → Option α} {fi fj : ρ → Option Int} {m : ρ → Option (Res ρ' κ β)} (hu' : UpG E i R g up) (he : SE te E (sF R) fe) (hi : SE ti E (sF jI) fi) (hj : SE tj E (sF jI) fj) (hu : SS u E E' Ec s m) :
    SS (tSeq (tAsg te (gSub (tOp (rIxL K) (tVar i) ti) tj rSetL)) u) E E' Ec s (fun γ => ob (fe γ) fun y => ob (fi γ) fun a => ob (fj γ) fun b => ob (pcset (g γ) a b y) fun ys => m (up ys γ)) := ⟨fun O hE e fin => by
  obtain ⟨x, e1, e⟩ := ob_some e
  obtain ⟨a, e2, e⟩ := ob_some e
  obtain ⟨b, e3, e⟩ := ob_some e
  obtain ⟨yss, e4, e⟩ := ob_some e
  obtain ⟨xs, e5, e6⟩ := ob_some e4
  obtain ⟨ys, e7, e8⟩ := ob_some e6
  refine he O.fh (Held.of O) hE e1 fun v F1 H1 L1 s1 ⟨z1, r1⟩ => ?_
  subst z1
  have O1 := Own.on O s1
  rw [List.nil_append] at O1
  obtain ⟨p, ps, rows, off, h1, h2, h3, h4, h5, h6⟩ := hu'.run (E.m s1.f0 hE)
  obtain ⟨kk, q, row, y1, y2, y3, y4, y5⟩ := row_at (H := fun _ => none) h3 h4 e5
  refine ⟨_, h1, ?_⟩
  refine hi O1.fh (Held.of O1) (E.m s1.f0 hE) e2 fun w F2 H2 L2 s2 ⟨z2, r2⟩ => ?_
  subst z2
  have O2 := Own.on O1 s2
  rw [List.nil_append] at O2
  refine ⟨p, ps.map V.ref, a, .ref q, rfl, r2, .inl (.inl (O2.fh _ _ (s2.f0 _ _ h2))), y4, ?_⟩
  refine hj O2.fh (Held.of O2) (E.m (s1.f0.trans s2.f0) hE) e3 fun w2 F3 H3 L3 s3 ⟨z3, r3⟩ => ?_
  subst z3
  have O3 := Own.on O2 s3
  rw [List.nil_append] at O3
  unfold pset at e7 e8
  rw [y1] at e8
  cases e8
  cases hj : ixN xs.length b with
  | none => rw [hj] at e7; cases e7
  | some n =>
    rw [hj] at e7
    cases e7
    have s23 := s2.f0.trans s3.f0
    have g5 := h5 kk q row y2 y3
    refine ⟨q, row, b, n, rfl, r3, O3.at_ _ g5, by rw [Paired.len y5]; exact hj, ?_⟩
    exact hu.run (O3.set _ g5 _) (h6 F3 kk q _ _ s23 y2 (Paired.upd (R.m s23 r1) n (Paired.mono (fun _ _ q => R.m s23 q) y5))) e (fin.mo (s1.f0.trans s23))⟩
/-- the rows are frozen -/
theorem ice_rows {F0 H0 H : Hp} {Z : List (Addr × HO)} : ∀ {ps : List Addr} {rows : List (List V)} {F : Hp}, ps.length = rows.length → Own F0 H0 F H (rowsL ps rows ++ Z) [] → ∃ F', Same F F' ∧ Own F0 H0 F' H Z [] ∧ Paired (fun v r => ∃ q, v = V.ref q ∧ F' q = some (.lst r)) (ps.map V.ref) rows
  | [], [], F, _, O => ⟨F, Same.refl _, O, .nil⟩
  | p :: ps, r :: rs, F, h, O => by
    have O1 := (show Own F0 H0 F H ((p, HO.lst r) :: (rowsL ps rs ++ Z)) [] from O)
    have sF : Same F (upd F p (.lst r)) := fun b u e => by rw [upd_ne (ne_of_none e ((O1.own (p, .lst r) List.mem_cons_self)).1)]; exact e
    obtain ⟨F', s1, O2, h2⟩ := ice_rows (Nat.succ.inj h) (O1.freeze.chunks (C' := []) trivial)
    exact ⟨F', sF.trans s1, O2, .cons ⟨p, rfl, s1 _ _ upd_same⟩ h2⟩
  | [], _ :: _, _, h, _ => nomatch h
  | _ :: _, [], _, h, _ => nomatch h
theorem Paired.trans2 {A : α → β → Prop} {C : β → δ → Prop} {G : α → δ → Prop} (h : ∀ a b c, A a b → C b c → G a c) : ∀ {xs : List α} {ys : List β} {zs : List δ}, Paired A xs ys → Paired C ys zs → Paired G xs zs
  | _, _, _, .nil, .nil => .nil
  | _, _, _, .cons r t, .cons r' t' => .cons (h _ _ _ r r') (Paired.trans2 h t t')
theorem cG {c : ρ → ρ'} (h : Co E E' c) : Co (eC (sG R) E) (eC (sF (jL (jL R))) E') (fun γ => (γ.1, c γ.2)) := ⟨fun {_ _ _ F _ _ Z _} O ⟨v, σ', L1, L2, e1, e2, ⟨p, ps, rows, h1, h2, h3, h4, h5⟩, t⟩ => by
  subst e1 e2 h1 h4
  rw [List.append_assoc] at O
  obtain ⟨F1, s1, O1, q1⟩ := ice_rows h3 O
  obtain ⟨F', L', O', sF, t'⟩ := h O1 (E.m s1 t)
  have s2 := s1.trans sF
  refine ⟨F', L', O', s2, _, σ', [], L', rfl, rfl, ⟨rfl, p, ps.map V.ref, rfl, s2 _ _ h2, ?_⟩, t'⟩
  exact Paired.trans2 (fun a b c ⟨q, e, f⟩ g => ⟨q, b, e, sF _ _ f, Paired.mono (fun _ _ z => R.m s2 z) g⟩) q1 h5⟩
end
end Mi

namespace Mi
open PySem PyProof.Rows L2 Fw
/-! ### what a mirror tells -/
section
variable {α β δ ρ ρ' κ κ' : Type}
def W (x : Option α) (Q : α → Prop) : Prop := ∃ y, x = some y ∧ Q y
theorem W_some {y : α} {Q : α → Prop} : W (some y) Q = Q y := propext ⟨fun ⟨_, e, q⟩ => by cases e; exact q, fun q => ⟨y, rfl, q⟩⟩
theorem W_none {Q : α → Prop} : W none Q = False := propext ⟨fun ⟨_, e, _⟩ => (nomatch e), False.elim⟩
theorem W_ob {x : Option α} {f : α → Option β} {Q : β → Prop} : W (ob x f) Q = W x fun y => W (f y) Q := propext ⟨fun ⟨z, e, q⟩ => by
  obtain ⟨y, e1, e2⟩ := ob_some e
  exact ⟨y, e1, z, e2, q⟩, fun ⟨y, e1, z, e2, q⟩ => ⟨z, by rw [e1]; exact e2, q⟩⟩
theorem W_bind {x : Option α} {f : α → Option β} {Q : β → Prop} : W (Option.bind x f) Q = W x fun y => W (f y) Q := W_ob
theorem W_pck {P : Prop} [Decidable P] {y : α} {Q : α → Prop} : W (pck P y) Q = (P ∧ Q y) := propext ⟨fun ⟨_, e, q⟩ => by
  obtain ⟨p, rfl⟩ := pck_some e
  exact ⟨p, q⟩, fun ⟨p, q⟩ => ⟨y, pck_of p, q⟩⟩
/-- of a way's end -/
def Rw (Q : Res ρ κ β → Prop) (f : ρ' → Option (Res ρ κ β)) : Res ρ' κ β → Prop
  | .nxt γ => W (f γ) Q
  | .ret b => Q (.ret b)
  | .cnt γ => Q (.cnt γ)
  | .brk γ => Q (.brk γ)
theorem Rw_nxt {Q : Res ρ κ β → Prop} {f : ρ' → Option (Res ρ κ β)} {γ : ρ'} : Rw Q f (.nxt γ) = W (f γ) Q := rfl
theorem Rw_ret {Q : Res ρ κ β → Prop} {f : ρ' → Option (Res ρ κ β)} {b : β} : Rw Q f (.ret b) = Q (.ret b) := rfl
theorem Rw_cnt {Q : Res ρ κ β → Prop} {f : ρ' → Option (Res ρ κ β)} {b : κ} : Rw Q f (.cnt b) = Q (.cnt b) := rfl
theorem W_rb {x : Option (Res ρ' κ β)} {f : ρ' → Option (Res ρ κ β)} {Q : Res ρ κ β → Prop} : W (rb x f) Q = W x (Rw Q f) := by
  unfold rb
  rw [W_ob]
  congr 1
  funext r
  cases r with
  | nxt γ => rfl
  | ret b => exact W_some
  | cnt γ => exact W_some
  | brk γ => exact W_some
def Rf (Q : β → Prop) : Res ρ κ β → Prop
  | .ret b => Q b
  | _ => False
theorem Rf_ret {Q : β → Prop} {b : β} : Rf (ρ := ρ) (κ := κ) Q (.ret b) = Q b := rfl
theorem Rf_nxt {Q : β → Prop} {γ : ρ} : Rf (κ := κ) Q (.nxt γ) = False := rfl
theorem W_fin {x : Option (Res ρ κ β)} {Q : β → Prop} : W (Mi.fin x) Q = W x (Rf Q) := by
  unfold Mi.fin
  rw [W_ob]
  congr 1
  funext r
  cases r with
  | ret b => exact W_some
  | nxt γ => exact W_none
  | cnt γ => exact W_none
  | brk γ => exact W_none
def RfN (Q : Unit → Prop) : Res ρ κ Unit → Prop
  | .ret b => Q b
  | .nxt _ => Q ()
  | _ => False
theorem RfN_ret {Q : Unit → Prop} {b : Unit} : RfN (ρ := ρ) (κ := κ) Q (.ret b) = Q b := rfl
theorem RfN_nxt {Q : Unit → Prop} {γ : ρ} : RfN (κ := κ) Q (.nxt γ) = Q () := rfl
theorem W_finN {x : Option (Res ρ κ Unit)} {Q : Unit → Prop} : W (Mi.finN x) Q = W x (RfN Q) := by
  unfold Mi.finN
  rw [W_ob]
  congr 1
  funext r
  cases r with
  | ret b => exact W_some
  | nxt γ => exact W_some
  | cnt γ => exact W_none
  | brk γ => exact W_none
theorem W_T {x y : Option α} {Q : α → Prop} : W (if true = true then x else y) Q = W x Q := by rw [if_pos rfl]
theorem W_F {x y : Option α} {Q : α → Prop} : W (if false = true then x else y) Q = W y Q := by rw [if_neg Bool.false_ne_true]
theorem W_ifD {c : Prop} [Decidable c] {x y : Option α} {Q : α → Prop} (h1 : c → W x Q) (h2 : ¬ c → W y Q) : W (if decide c = true then x else y) Q := by
  by_cases h : c
  · rw [if_pos (decide_eq_true h)]; exact h1 h
  · rw [if_neg (by rw [decide_eq_false h]; decide)]; exact h2 h
theorem W_ifN {c : Prop} [Decidable c] {x y : Option α} {Q : α → Prop} (h1 : ¬ c → W x Q) (h2 : c → W y Q) : W (if (!decide c) = true then x else y) Q := by
  by_cases h : c
  · rw [if_neg (by rw [decide_eq_true h]; decide)]; exact h2 h
  · rw [if_pos (by rw [decide_eq_false h]; rfl)]; exact h1 h
theorem W_ifB {c : Bool} {x y : Option α} {Q : α → Prop} (h1 : c = true → W x Q) (h2 : c = false → W y Q) : W (if c = true then x else y) Q := by
  cases c with
  | true => rw [if_pos rfl]; exact h1 rfl
  | false => rw [if_neg Bool.false_ne_true]; exact h2 rfl
theorem W.mono {x : Option α} {Q Q' : α → Prop} (h : W x Q) (k : ∀ y, Q y → Q' y) : W x Q' := let ⟨y, e, q⟩ := h; ⟨y, e, k y q⟩
theorem W.and {x : Option α} {Q Q' : α → Prop} (h : W x Q) (k : W x Q') : W x fun y => Q y ∧ Q' y := by
  obtain ⟨y, e, q⟩ := h
  obtain ⟨y', e', q'⟩ := k
  rw [e] at e'
  cases e'
  exact ⟨y, e, q, q'⟩
theorem W.eq {x : Option α} {y : α} (h : W x fun z => z = y) : x = some y := let ⟨_, e, q⟩ := h; q ▸ e
theorem W_of {x : Option α} {y : α} {Q : α → Prop} (e : x = some y) (q : Q y) : W x Q := ⟨y, e, q⟩
theorem W_ret {x : Option β} {Q : Res ρ κ β → Prop} : W (ob x fun r => some (.ret r)) Q = W x fun r => Q (.ret r) := by
  rw [W_ob]
  simp only [W_some]
/-! loops -/
theorem W_for {step : α → ρ → Option (Res ρ ρ β)} {xs : List α} {γ : ρ} {Q : Res ρ κ β → Prop} (I : Nat → ρ → Prop) (h0 : I 0 γ)
    (hs : ∀ i x γ, xs[i]? = some x → I i γ → W (step x γ) fun r => match r with | .nxt γ' => I (i + 1) γ' | .cnt γ' => I (i + 1) γ' | .brk γ' => Q (.nxt γ') | .ret b => Q (.ret b))
    (hd : ∀ γ, I xs.length γ → Q (.nxt γ)) : W (forR step xs γ) Q := by
  have key : ∀ k i γ, xs.length - i = k → i ≤ xs.length → I i γ → W (forR (κ := κ) step (xs.drop i) γ) Q := by
    intro k
    induction k with
    | zero =>
      intro i γ hk hi h
      have : i = xs.length := by omega
      subst this
      rw [List.drop_length]
      exact ⟨_, rfl, hd γ h⟩
    | succ k ih =>
      intro i γ hk hi h
      have hlt : i < xs.length := by omega
      rw [List.drop_eq_getElem_cons hlt]
      obtain ⟨r, e, q⟩ := hs i _ γ (List.getElem?_eq_getElem hlt) h
      show W (ob (step xs[i] γ) _) Q
      rw [e]
      cases r with
      | nxt γ' => exact ih (i + 1) γ' (by omega) hlt q
      | cnt γ' => exact ih (i + 1) γ' (by omega) hlt q
      | brk γ' => exact ⟨_, rfl, q⟩
      | ret b => exact ⟨_, rfl, q⟩
  have := key xs.length 0 γ (by omega) (Nat.zero_le _) h0
  rwa [List.drop_zero] at this
theorem W_while {c : ρ → Option Bool} {step : ρ → Option (Res ρ ρ β)} {γ : ρ} {Q : Res ρ κ β → Prop} (I : Nat → ρ → Prop) (m : Nat) (h0 : I m γ)
    (hs : ∀ m γ, I m γ → W (c γ) fun b => if b = true then W (step γ) fun r => match r with | .nxt γ' => ∃ m', m' < m ∧ I m' γ' | .cnt γ' => ∃ m', m' < m ∧ I m' γ' | .brk γ' => Q (.nxt γ') | .ret b => Q (.ret b) else Q (.nxt γ)) : W (whileR c step γ) Q := by
  have key : ∀ m γ, I m γ → ∃ n r, whileN (κ := κ) c step n γ = some r ∧ Q r := by
    intro m
    induction m using Nat.strongRecOn with
    | ind m ih =>
      intro γ h
      obtain ⟨b, e, q⟩ := hs m γ h
      cases b with
      | false =>
        rw [if_neg Bool.false_ne_true] at q
        refine ⟨1, .nxt γ, ?_, q⟩
        rw [whileN, e]
        rfl
      | true =>
        rw [if_pos rfl] at q
        obtain ⟨r, e2, q2⟩ := q
        cases r with
        | nxt γ' =>
          obtain ⟨m', hm, h'⟩ := q2
          obtain ⟨n, r, e3, q3⟩ := ih m' hm γ' h'
          refine ⟨n + 1, r, ?_, q3⟩
          rw [whileN, e]
          show (ob (step γ) _) = _
          rw [e2]
          exact e3
        | cnt γ' =>
          obtain ⟨m', hm, h'⟩ := q2
          obtain ⟨n, r, e3, q3⟩ := ih m' hm γ' h'
          refine ⟨n + 1, r, ?_, q3⟩
          rw [whileN, e]
          show (ob (step γ) _) = _
          rw [e2]
          exact e3
        | brk γ' =>
          refine ⟨1, .nxt γ', ?_, q2⟩
          rw [whileN, e]
          show (ob (step γ) _) = _
          rw [e2]
          rfl
        | ret b =>
          refine ⟨1, .ret b, ?_, q2⟩
          rw [whileN, e]
          show (ob (step γ) _) = _
          rw [e2]
          rfl
  obtain ⟨n, r, e, q⟩ := key m γ h0
  exact ⟨r, whileR_of e, q⟩
/-! comprehensions -/
theorem W_lcM {f : α → Option β} {xs : List α} {Q : List β → Prop} (P : α → β → Prop) (h : ∀ x ∈ xs, W (f x) (P x)) (k : ∀ ys, Paired P xs ys → Q ys) : W (lcM f xs) Q := by
  have key : ∀ xs : List α, (∀ x ∈ xs, W (f x) (P x)) → ∃ ys, lcM f xs = some ys ∧ Paired P xs ys := by
    intro xs
    induction xs with
    | nil => intro _; exact ⟨[], rfl, .nil⟩
    | cons x xs ih =>
      intro h
      obtain ⟨y, e, q⟩ := h x List.mem_cons_self
      obtain ⟨ys, e2, q2⟩ := ih fun z hz => h z (List.mem_cons_of_mem _ hz)
      refine ⟨y :: ys, ?_, .cons q q2⟩
      show ob (f x) _ = _
      rw [e]
      show ob (lcM f xs) _ = _
      rw [e2]
      rfl
  obtain ⟨ys, e, q⟩ := key xs h
  exact ⟨ys, e, k ys q⟩
theorem lcM_map {f : α → Option β} {g : α → β} : ∀ {xs : List α}, (∀ x ∈ xs, f x = some (g x)) → lcM f xs = some (xs.map g)
  | [], _ => rfl
  | x :: xs, h => by
    show ob (f x) _ = _
    rw [h x List.mem_cons_self]
    show ob (lcM f xs) _ = _
    rw [lcM_map fun z hz => h z (List.mem_cons_of_mem _ hz)]
    rfl
theorem lcF_map {p : α → Option Bool} {q : α → Bool} {f : α → Option β} {g : α → β} : ∀ {xs : List α}, (∀ x ∈ xs, p x = some (q x)) → (∀ x ∈ xs, q x = true → f x = some (g x)) → lcF p f xs = some ((xs.filter q).map g)
  | [], _, _ => rfl
  | x :: xs, h, k => by
    show ob (p x) _ = _
    rw [h x List.mem_cons_self]
    have ih := lcF_map (xs := xs) (fun z hz => h z (List.mem_cons_of_mem _ hz)) (fun z hz => k z (List.mem_cons_of_mem _ hz))
    show (if q x = true then _ else _) = _
    cases hq : q x with
    | true =>
      rw [if_pos rfl, k x List.mem_cons_self hq, List.filter_cons_of_pos hq, List.map_cons]
      show ob (lcF p f xs) _ = _
      rw [ih]
      rfl
    | false =>
      rw [if_neg Bool.false_ne_true, ih, List.filter_cons_of_neg (by rw [hq]; exact Bool.false_ne_true)]
theorem W_lcMap {f : α → Option β} {g : α → β} {xs : List α} {Q : List β → Prop} (h : ∀ x ∈ xs, f x = some (g x)) (k : Q (xs.map g)) : W (lcM f xs) Q := ⟨_, lcM_map h, k⟩
/-! places -/
theorem pat_nat {xs : List α} {k : Nat} {x : α} (h : xs[k]? = some x) : pat xs (k : Int) = some x := by
  have hk := (List.getElem?_eq_some_iff.mp h).1
  unfold pat L2.atI
  rw [ixN_pos (i := (k : Int)) ⟨by omega, by omega⟩]
  exact h
theorem W_pat {xs : List α} {i : Int} {Q : α → Prop} (h : 0 ≤ i ∧ i < xs.length) (k : ∀ x, xs[i.toNat]? = some x → Q x) : W (pat xs i) Q := by
  have hk : i.toNat < xs.length := by omega
  refine ⟨xs[i.toNat], ?_, k _ (List.getElem?_eq_getElem hk)⟩
  have e : ((i.toNat : Nat) : Int) = i := by omega
  have := pat_nat (xs := xs) (k := i.toNat) (List.getElem?_eq_getElem hk)
  rwa [e] at this
theorem W_patN {xs : List α} {i : Nat} {x : α} {Q : α → Prop} (h : xs[i]? = some x) (q : Q x) : W (pat xs (i : Int)) Q := ⟨x, pat_nat h, q⟩
theorem W_pixS {xs : List Nat} {i : Int} {Q : List Nat → Prop} (hz : xs.length ≤ sz) (h : 0 ≤ i ∧ i < xs.length) (k : ∀ x, xs[i.toNat]? = some x → Q [x]) : W (pixS xs i) Q := by
  unfold pixS
  rw [W_ob, W_pck]
  refine ⟨hz, ?_⟩
  obtain ⟨x, e, q⟩ := W_pat (Q := fun x => Q [x]) h k
  rw [e]
  exact ⟨[x], rfl, q⟩
theorem pset_nat {xs : List α} {k : Nat} {x : α} (h : k < xs.length) : pset xs (k : Int) x = some (xs.set k x) := by
  unfold pset
  rw [ixN_pos (i := (k : Int)) ⟨by omega, by omega⟩]
  rfl
theorem W_pset {xs : List α} {i : Int} {x : α} {Q : List α → Prop} (h : 0 ≤ i ∧ i < xs.length) (q : Q (xs.set i.toNat x)) : W (pset xs i x) Q := by
  unfold pset
  rw [ixN_pos h]
  exact ⟨_, rfl, q⟩
theorem W_pget {xs : List α} {i : Int} {Q : α → Prop} (h : 0 ≤ i ∧ i < xs.length) (k : ∀ x, xs[i.toNat]? = some x → Q x) : W (pget xs i) Q := by
  unfold pget
  rw [if_pos h.1]
  exact ⟨_, List.getElem?_eq_getElem (by omega), k _ (List.getElem?_eq_getElem (by omega))⟩
theorem prange_len (n : Int) : (prange n).length = n.toNat := by unfold prange; rw [List.length_map, List.length_range]
theorem prange_get {n : Int} {i : Nat} {x : Int} (h : (prange n)[i]? = some x) : x = (i : Int) ∧ (i : Int) < n := by
  unfold prange at h
  rw [List.getElem?_map] at h
  by_cases hi : i < n.toNat
  · rw [List.getElem?_range hi] at h
    cases h
    exact ⟨rfl, by omega⟩
  · rw [List.getElem?_eq_none (by rw [List.length_range]; omega)] at h
    cases h
theorem prange2_len (a b : Int) : (prange2 a b).length = (b - a).toNat := by unfold prange2; rw [List.length_map, List.length_range]
theorem prange2_get {a b : Int} {i : Nat} {x : Int} (h : (prange2 a b)[i]? = some x) : x = a + (i : Int) ∧ a + (i : Int) < b := by
  unfold prange2 at h
  rw [List.getElem?_map] at h
  by_cases hi : i < (b - a).toNat
  · rw [List.getElem?_range hi] at h
    cases h
    exact ⟨rfl, by omega⟩
  · rw [List.getElem?_eq_none (by rw [List.length_range]; omega)] at h
    cases h
theorem prangeC_len (a c : Int) (n : Nat) : (prangeC a c n).length = n := by unfold prangeC; rw [List.length_map, List.length_range]
theorem prangeC_get {a c : Int} {n i : Nat} {x : Int} (h : (prangeC a c n)[i]? = some x) : x = a + (i : Int) * c ∧ i < n := by
  unfold prangeC at h
  rw [List.getElem?_map] at h
  by_cases hi : i < n
  · rw [List.getElem?_range hi] at h
    cases h
    exact ⟨rfl, hi⟩
  · rw [List.getElem?_eq_none (by rw [List.length_range]; omega)] at h
    cases h
theorem sing_get {l : List Nat} {i : Nat} {x : List Nat} (h : (l.map fun c => [c])[i]? = some x) : ∃ c, l[i]? = some c ∧ x = [c] := by
  rw [List.getElem?_map] at h
  cases e : l[i]? with
  | none => rw [e] at h; cases h
  | some c => rw [e] at h; exact ⟨c, rfl, (Option.some.inj h).symm⟩
end
/-! one step of a reading -/
local macro_rules | `(tactic| walk_at "m") => `(tactic| simp only [W_some, W_none, W_ob, W_pck, W_rb, W_fin, W_finN, W_T, W_F, Rw_nxt, Rw_ret, Rw_cnt, Rf_ret, Rf_nxt, RfN_ret, RfN_nxt, decide_true, decide_false, Bool.not_true, Bool.not_false])
end Mi

namespace Mi
open PySem PyProof.Rows L2 Fw
section
variable {α β : Type}
theorem pcut_nat (l : List α) (a b : Nat) : pcut l (some (a : Int)) (some (b : Int)) = (l.drop a).take (b - a) := by
  unfold pcut
  rw [HT.sIx_nat, HT.sIx_nat]
  by_cases h : a ≤ l.length
  · rw [Nat.min_eq_left h]
    by_cases h2 : b ≤ l.length
    · rw [Nat.min_eq_left h2]
    · rw [Nat.min_eq_right (show l.length ≤ b by omega), List.take_of_length_le (by rw [List.length_drop]; exact Nat.le_refl _), List.take_of_length_le (by rw [List.length_drop]; omega)]
  · rw [Nat.min_eq_right (show l.length ≤ a by omega), List.drop_length, List.drop_eq_nil_of_le (show l.length ≤ a by omega)]
    simp
theorem pcut_to (l : List α) (b : Nat) : pcut l none (some (b : Int)) = l.take b := by
  unfold pcut
  rw [HT.sIx_nat, HT.sIx_none]
  show List.take (min b l.length - 0) (l.drop 0) = _
  rw [Nat.sub_zero, List.drop_zero]
  by_cases h : b ≤ l.length
  · rw [Nat.min_eq_left h]
  · rw [Nat.min_eq_right (show l.length ≤ b by omega), List.take_length, List.take_of_length_le (show l.length ≤ b by omega)]
theorem pcut_from (l : List α) (a : Nat) : pcut l (some (a : Int)) none = l.drop a := by
  unfold pcut
  rw [HT.sIx_nat, HT.sIx_none]
  by_cases h : a ≤ l.length
  · rw [Nat.min_eq_left h, List.take_of_length_le (by rw [List.length_drop]; exact Nat.le_refl _)]
  · rw [Nat.min_eq_right (show l.length ≤ a by omega), List.drop_length, List.drop_eq_nil_of_le (show l.length ≤ a by omega)]
    simp
theorem pcut_mem {l : List α} {lo hi : Option Int} {x : α} (h : x ∈ pcut l lo hi) : x ∈ l := List.mem_of_mem_drop (List.mem_of_mem_take h)
theorem pcut_len (l : List α) (lo hi : Option Int) : (pcut l lo hi).length ≤ l.length := by
  unfold pcut
  rw [List.length_take, List.length_drop]
  omega
theorem pixS_nat {l : List Nat} {k c : Nat} (h : l[k]? = some c) (hz : l.length ≤ sz) : pixS l (k : Int) = some [c] := by
  unfold pixS
  rw [pck_of hz]
  show (pat l (k : Int)).map _ = _
  rw [pat_nat h]
  rfl
/-- a text of letters -/
def Ltr (l : List Nat) : Prop := ∀ c ∈ l, c ∈ ([65, 67, 71, 84, 78] : List Nat)
theorem Ltr.app {l m : List Nat} (h : Ltr l) (k : Ltr m) : Ltr (l ++ m) := fun c hc => (List.mem_append.mp hc).elim (h c) (k c)
theorem Ltr.sub {l m : List Nat} (h : Ltr l) (k : ∀ c ∈ m, c ∈ l) : Ltr m := fun c hc => h c (k c hc)
/-- the opposite letter -/
def opp (c : Nat) : Nat := ([84, 71, 67, 65, 78] : List Nat).getD (([65, 67, 71, 84, 78] : List Nat).idxOf c) 0
def trn (l : List Nat) : List Nat := (l.map opp).reverse
theorem trn_len (l : List Nat) : (trn l).length = l.length := by simp [trn]
theorem opp_ltr : ∀ c ∈ ([65, 67, 71, 84, 78] : List Nat), opp c ∈ ([65, 67, 71, 84, 78] : List Nat) := by decide
theorem opp_opp : ∀ c ∈ ([65, 67, 71, 84, 78] : List Nat), opp (opp c) = c := by decide
theorem trn_ltr {l : List Nat} (h : Ltr l) : Ltr (trn l) := fun c hc => by
  obtain ⟨d, hd, rfl⟩ := List.mem_map.mp (List.mem_reverse.mp hc)
  exact opp_ltr d (h d hd)
theorem trn_trn {l : List Nat} (h : Ltr l) : trn (trn l) = l := by
  unfold trn
  rw [List.map_reverse, List.reverse_reverse, List.map_map]
  refine (List.map_congr_left fun c hc => ?_).trans (List.map_id l)
  exact opp_opp c (h c hc)
/-- letters agree -/
def agr (a b : Nat) : Bool := decide (a = b) && !decide (a = 78)
theorem sing_eq (a b : Nat) : decide (([a] : List Nat) = [b]) = decide (a = b) := decide_eq_decide.mpr ⟨fun h => (List.cons.inj h).1, fun h => by rw [h]⟩
def pick3 {τ : Type} (k : Nat) (x y z : τ) : τ := match k with
  | 0 => x
  | 1 => y
  | _ => z
/-- a row of n numbers -/
def rowf (n : Nat) (f : Nat → Int) : List Int := (List.range n).map f
theorem rowf_len (n : Nat) (f : Nat → Int) : (rowf n f).length = n := by simp [rowf]
theorem rowf_get {n j : Nat} {f : Nat → Int} (h : j < n) : (rowf n f)[j]? = some (f j) := by
  unfold rowf
  rw [List.getElem?_map, List.getElem?_range h]
  rfl
theorem pat_rowf {n j : Nat} {f : Nat → Int} (h : j < n) : pat (rowf n f) (j : Int) = some (f j) := pat_nat (rowf_get h)
theorem W_rowf {n j : Nat} {f : Nat → Int} {Q : Int → Prop} (h : j < n) (q : Q (f j)) : W (pat (rowf n f) (j : Int)) Q := ⟨_, pat_rowf h, q⟩
def upd1 (f : Nat → Int) (j : Nat) (v : Int) : Nat → Int := fun k => if k = j then v else f k
theorem upd1_same (f : Nat → Int) (j : Nat) (v : Int) : upd1 f j v j = v := if_pos rfl
theorem upd1_ne {f : Nat → Int} {j k : Nat} {v : Int} (h : k ≠ j) : upd1 f j v k = f k := if_neg h
theorem pset_rowf {n j : Nat} {f : Nat → Int} {v : Int} (h : j < n) : pset (rowf n f) (j : Int) v = some (rowf n (upd1 f j v)) := by
  rw [pset_nat (by rw [rowf_len]; exact h)]
  congr 1
  refine List.ext_getElem? fun k => ?_
  by_cases hk : k < n
  · rw [rowf_get hk]
    by_cases e : j = k
    · subst e
      rw [List.getElem?_set_self (by rw [rowf_len]; exact h), upd1_same]
    · rw [List.getElem?_set_ne e, rowf_get hk, upd1_ne (by omega)]
  · rw [List.getElem?_eq_none (by rw [List.length_set, rowf_len]; omega), List.getElem?_eq_none (by rw [rowf_len]; omega)]
theorem W_rset {n j : Nat} {f : Nat → Int} {v : Int} {Q : List Int → Prop} (h : j < n) (q : Q (rowf n (upd1 f j v))) : W (pset (rowf n f) (j : Int) v) Q := ⟨_, pset_rowf h, q⟩
theorem prep_row (c : Int) (k : Nat) : prep [c] (k : Int) = rowf k fun _ => c := by
  unfold prep rowf
  rw [Int.toNat_natCast]
  induction k with
  | zero => rfl
  | succ k ih => rw [List.replicate_succ', List.flatten_append, ih, List.range_succ, List.map_append]; rfl
theorem W_Tr {x y : Option α} {Q : α → Prop} : W (if True then x else y) Q = W x Q := by rw [if_pos trivial]
theorem W_Fa {x y : Option α} {Q : α → Prop} : W (if False then x else y) Q = W y Q := by rw [if_neg id]
theorem pidx_one (l : List Nat) (c : Nat) : pidx l [c] = pck (c ∈ l) (l.idxOf c : Int) := rfl
theorem pinS_one (l : List Nat) (c : Nat) : pinS [c] l = some (decide (c ∈ l)) := rfl
theorem pninS_one (l : List Nat) (c : Nat) : pninS [c] l = some (!decide (c ∈ l)) := rfl
/-! grids -/
def grid (n e : Nat) (f : Nat → Nat → Int) : List (List Int) := (List.range n).map fun i => (List.range e).map fun j => f i j
theorem grid_len (n e : Nat) (f : Nat → Nat → Int) : (grid n e f).length = n := by simp [grid]
theorem grid_row {n e i : Nat} {f : Nat → Nat → Int} (h : i < n) : (grid n e f)[i]? = some ((List.range e).map fun j => f i j) := by
  unfold grid
  rw [List.getElem?_map, List.getElem?_range h]
  rfl
theorem rowi_get {e i j : Nat} {f : Nat → Nat → Int} (h : j < e) : ((List.range e).map fun j => f i j)[j]? = some (f i j) := by
  rw [List.getElem?_map, List.getElem?_range h]
  rfl
theorem pcell_grid {n e i j : Nat} {f : Nat → Nat → Int} (h : i < n) (k : j < e) : pcell (grid n e f) (i : Int) (j : Int) = some (f i j) := by
  unfold pcell
  rw [pat_nat (grid_row h)]
  exact pat_nat (rowi_get k)
theorem rowi_set {e i j : Nat} {f : Nat → Nat → Int} {v : Int} : ((List.range e).map fun j => f i j).set j v = (List.range e).map fun j' => upd2 f i j v i j' := by
  refine List.ext_getElem? fun k => ?_
  by_cases hk : k < e
  · by_cases e2 : j = k
    · subst e2
      rw [List.getElem?_set_self (by simp; exact hk), List.getElem?_map, List.getElem?_range hk]
      show _ = some (upd2 f i j v i j)
      rw [upd2_same]
    · rw [List.getElem?_set_ne e2, List.getElem?_map, List.getElem?_map, List.getElem?_range hk]
      show some (f i k) = some (upd2 f i j v i k)
      rw [upd2_ne (by omega)]
  · rw [List.getElem?_eq_none (by simp; omega), List.getElem?_eq_none (by simp; omega)]
theorem pcset_grid {n e i j : Nat} {f : Nat → Nat → Int} {v : Int} (h : i < n) (k : j < e) : pcset (grid n e f) (i : Int) (j : Int) v = some (grid n e (upd2 f i j v)) := by
  unfold pcset
  rw [pat_nat (grid_row h)]
  show ob (pset _ _ _) _ = _
  rw [pset_nat (by simp; exact k)]
  show pset _ _ _ = _
  rw [pset_nat (by rw [grid_len]; exact h), rowi_set]
  congr 1
  refine List.ext_getElem? fun a => ?_
  by_cases ha : a < n
  · rw [grid_row ha]
    by_cases e2 : i = a
    · subst e2
      rw [List.getElem?_set_self (by rw [grid_len]; exact h)]
    · rw [List.getElem?_set_ne e2, grid_row ha]
      congr 1
      refine List.map_congr_left fun b _ => ?_
      rw [upd2_ne (by omega)]
  · rw [List.getElem?_eq_none (by rw [List.length_set, grid_len]; omega), List.getElem?_eq_none (by rw [grid_len]; omega)]
theorem W_cell {n e i j : Nat} {f : Nat → Nat → Int} {Q : Int → Prop} (h : i < n) (k : j < e) (q : Q (f i j)) : W (pcell (grid n e f) (i : Int) (j : Int)) Q := ⟨_, pcell_grid h k, q⟩
theorem W_cset {n e i j : Nat} {f : Nat → Nat → Int} {v : Int} {Q : List (List Int) → Prop} (h : i < n) (k : j < e) (q : Q (grid n e (upd2 f i j v))) : W (pcset (grid n e f) (i : Int) (j : Int) v) Q := ⟨_, pcset_grid h k, q⟩
theorem joinN_nil' (ys : List (List Nat)) : joinN [] ys = ys.flatten := joinN_nil ys
theorem Paired.get {A : α → β → Prop} : ∀ {xs : List α} {ys : List β} {i : Nat} {x : α}, Paired A xs ys → xs[i]? = some x → ∃ y, ys[i]? = some y ∧ A x y := paired_left
end
end Mi

namespace Mi
open PySem PySem.Spec PyProof.Rows L2 Fw
section
variable {α β δ : Type} {A : Rp α} {K : PySem.W.Frag}
/-- a list of three as a tuple -/
def ptup3 {τ : Type} (xs : List τ) : Option (τ × τ × τ) := match xs with
  | [a, b, c] => some (a, b, c)
  | _ => none
theorem sc_tup3 : SC (fun xs H Q => ∃ p ys, xs = [.ref p] ∧ ((SqL K H p ys ∧ ∀ l, H l = none → Q (.ref l) (upd H l (.tup ys))) ∨ (SqT K H p ys ∧ Q (.ref p) H))) (aC (jL A) aN) (sF (jT (yC A (yC A (y1 A))))) (fun x => ptup3 x.1) := ⟨fun {F H vs a c Q} s0 ⟨v, r, e1, ⟨p, us, e3, h, q⟩, e2⟩ e k => by
  subst e1 e2 e3
  obtain ⟨xs, u⟩ := a
  match xs, q, e with
  | [x, y, z], q, e =>
    cases e
    cases q with
    | @cons v1 _ _ _ r1 q => cases q with
      | @cons v2 _ _ _ r2 q => cases q with
        | @cons v3 _ _ _ r3 q => cases q with
          | nil =>
            refine ⟨p, _, rfl, .inl ⟨.inl (.inl (s0 _ _ h)), fun l nl => ?_⟩⟩
            have s3 := (Step.nil s0).ice nl (.tup [v1, v2, v3])
            exact k _ _ _ [] (s3.chunks trivial) ⟨rfl, l, _, rfl, upd_same, _, _, rfl, A.m s3.f0 r1, _, _, rfl, A.m s3.f0 r2, _, rfl, A.m s3.f0 r3⟩⟩
end
section
variable {ρ ρ'' κ α β : Type} {E : En ρ} {E1 : En ρ''} {Ec : En κ} {A : Rp α} {s : RRt β}
theorem ss_forN {wi : TI} {g : TG} {is : List Nat} {tb : TS} {fi : ρ → Option (List α)} {p : α → ρ → ρ''} {mb : ρ'' → Option (Res ρ ρ β)} {f : α → ρ → Option (Res ρ ρ β)} (hi : SI wi E A fi) (hg : SG g is E A E1 p) (hb : SS tb E1 E E s mb) (hf : ∀ x γ, mb (p x γ) = f x γ) :
    SS (tFor wi g tb) E E Ec s (fun γ => ob (fi γ) fun xs => forR f xs γ) := by
  have e : f = fun x γ => mb (p x γ) := by
    funext x γ
    exact (hf x γ).symm
  rw [e]
  exact ss_for hi hg hb
end
section
variable {ρ ρ' β : Type} {E : En ρ} {E' : En ρ'} {s : Sl β} {t : TS}
theorem fin_runX {a : Ar ρ} {n k : Nat} {N : List Str} {mm : ρ → Option β} {vs : List V} {H : Hp} {Q : VK} {Ex : XK} {D : Ends} (hA : AE a E n) (hn : AN a k) (hN : N.length = k + n) (h : ∃ m : ρ → Option (Res ρ' Unit β), SS t E E' eN (rS s) m ∧ mm = fun γ => Mi.fin (m γ)) (q : spM a s mm vs H Q Ex) (hD : D.rt = Q) : t D (L2.start N vs) H := by
  obtain ⟨m, h, e⟩ := h
  exact fin_run hA hn hN h e q hD
theorem finN_runX {a : Ar ρ} {n k : Nat} {N : List Str} {mm : ρ → Option Unit} {vs : List V} {H : Hp} {Q : VK} {Ex : XK} {D : Ends} (hA : AE a E n) (hn : AN a k) (hN : N.length = k + n) (h : ∃ m : ρ → Option (Res ρ' Unit Unit), SS t E E' eN (rS (sF jN)) m ∧ mm = fun γ => finN (m γ)) (q : spM a (sF jN) mm vs H Q Ex) (hD : D.rt = Q) (hD2 : D.nx = fun _ H' => Q .non H') : t D (L2.start N vs) H := by
  obtain ⟨m, h, e⟩ := h
  exact finN_run hA hn hN h e q hD hD2
end
end Mi

namespace Mi
open PySem PySem.Spec PyProof.Rows L2 Fw
/-! ### own lists of own things -/
theorem set_id {τ : Type} {l : List τ} {k : Nat} {x : τ} (h : l[k]? = some x) : l.set k x = l := by
  obtain ⟨hk, e⟩ := List.getElem?_eq_some_iff.mp h
  rw [← e]
  exact List.set_getElem_self hk
inductive Dq {α : Type} (s : Sl α) (F : Hp) : List V → List (Addr × HO) → List α → Prop
  | nil : Dq s F [] [] []
  | cons {v : V} {x : α} {vs : List V} {xs : List α} {L1 L2 : List (Addr × HO)} : s.r v F L1 x → Dq s F vs L2 xs → Dq s F (v :: vs) (L1 ++ L2) (x :: xs)
section
variable {α : Type} {s : Sl α} {F F' : Hp}
theorem Dq.mono (z : Same F F') : ∀ {vs : List V} {L : List (Addr × HO)} {xs : List α}, Dq s F vs L xs → Dq s F' vs L xs
  | _, _, _, .nil => .nil
  | _, _, _, .cons h t => .cons (s.m z h) (Dq.mono z t)
theorem Dq.len : ∀ {vs : List V} {L : List (Addr × HO)} {xs : List α}, Dq s F vs L xs → vs.length = xs.length
  | _, _, _, .nil => rfl
  | _, _, _, .cons _ t => by rw [List.length_cons, List.length_cons, Dq.len t]
theorem Dq.app {ws : List V} {M : List (Addr × HO)} {ys : List α} (k : Dq s F ws M ys) : ∀ {vs : List V} {L : List (Addr × HO)} {xs : List α}, Dq s F vs L xs → Dq s F (vs ++ ws) (L ++ M) (xs ++ ys)
  | _, _, _, .nil => k
  | _, _, _, .cons h t => by
    rw [List.append_assoc]
    exact .cons h (Dq.app k t)
theorem Dq.one {v : V} {L : List (Addr × HO)} {x : α} (h : s.r v F L x) : Dq s F [v] L [x] := by
  have := Dq.cons h Dq.nil
  rwa [List.append_nil] at this
theorem Dq.focus : ∀ {vs : List V} {L : List (Addr × HO)} {xs : List α} {k : Nat} {x : α}, Dq s F vs L xs → xs[k]? = some x →
    ∃ v pre Lk post, vs[k]? = some v ∧ L = pre ++ (Lk ++ post) ∧ s.r v F Lk x ∧ ∀ F' v' Lk' x', Same F F' → s.r v' F' Lk' x' → Dq s F' (vs.set k v') (pre ++ (Lk' ++ post)) (xs.set k x')
  | _, _, _, _, _, .nil, e => by simp at e
  | _, _, _, 0, _, .cons (L1 := L1) (L2 := L2) h t, e => by
    cases Option.some.inj e
    exact ⟨_, [], L1, L2, rfl, rfl, h, fun F' v' Lk' x' z h' => (Dq.cons (L1 := Lk') (L2 := L2) h' (t.mono z) :)⟩
  | _, _, _, k + 1, _, .cons (L1 := L1) (L2 := L2) h t, e => by
    obtain ⟨v, pre, Lk, post, h1, h2, h3, h4⟩ := Dq.focus (k := k) t e
    refine ⟨v, L1 ++ pre, Lk, post, h1, by rw [h2, List.append_assoc], h3, fun F' v' Lk' x' z h' => ?_⟩
    rw [List.append_assoc]
    exact .cons (s.m z h) (h4 F' v' Lk' x' z h')
theorem Dq.tk : ∀ (n : Nat) {vs : List V} {L : List (Addr × HO)} {xs : List α}, Dq s F vs L xs → ∃ L1 L2, L = L1 ++ L2 ∧ Dq s F (vs.take n) L1 (xs.take n)
  | 0, _, L, _, _ => ⟨[], L, rfl, .nil⟩
  | _ + 1, _, _, _, .nil => ⟨[], [], rfl, .nil⟩
  | n + 1, _, _, _, .cons (L1 := L1) h t => by
    obtain ⟨M1, M2, e, d⟩ := Dq.tk n t
    exact ⟨L1 ++ M1, M2, by rw [e, List.append_assoc], .cons h d⟩
end
def sD {α : Type} (s : Sl α) : Sl (List α) := ⟨fun v F L xs => ∃ p vs M, v = .ref p ∧ L = (p, .lst vs) :: M ∧ Dq s F vs M xs, fun z ⟨p, vs, M, h1, h2, h3⟩ => ⟨p, vs, M, h1, h2, h3.mono z⟩⟩
theorem Dq.ofP {α : Type} {R : Rp α} {F : Hp} : ∀ {vs : List V} {xs : List α}, Paired (R.r F) vs xs → Dq (sF R) F vs [] xs
  | _, _, .nil => .nil
  | _, _, .cons h t => (Dq.cons (s := sF R) (L1 := []) (L2 := []) ⟨rfl, h⟩ (Dq.ofP t) :)
theorem Dq.toP {α : Type} {R : Rp α} {F : Hp} : ∀ {vs : List V} {L : List (Addr × HO)} {xs : List α}, Dq (sF R) F vs L xs → L = [] ∧ Paired (R.r F) vs xs
  | _, _, _, .nil => ⟨rfl, .nil⟩
  | _, _, _, .cons ⟨h0, h⟩ t => by
    obtain ⟨e, p⟩ := Dq.toP t
    subst h0 e
    exact ⟨rfl, .cons h p⟩
/-- an own thing is frozen -/
structure Fz {α : Type} (s : Sl α) (R : Rp α) : Prop where
  run : ∀ {F0 H0 F H : Hp} {L Z : List (Addr × HO)} {v : V} {x : α}, Own F0 H0 F H (L ++ Z) [] → s.r v F L x → ∃ F', Same F F' ∧ Own F0 H0 F' H Z [] ∧ R.r F' v x
theorem fzF {α : Type} {R : Rp α} : Fz (sF R) R := ⟨fun {_ _ F _ _ _ _ _} O ⟨e, h⟩ => by
  subst e
  exact ⟨F, Same.refl _, O, h⟩⟩
theorem fzDq {α : Type} {s : Sl α} {R : Rp α} (h : Fz s R) {F0 H0 H : Hp} {Z : List (Addr × HO)} : ∀ {F : Hp} {vs : List V} {L : List (Addr × HO)} {xs : List α}, Dq s F vs L xs → Own F0 H0 F H (L ++ Z) [] → ∃ F', Same F F' ∧ Own F0 H0 F' H Z [] ∧ Paired (R.r F') vs xs
  | F, _, _, _, .nil, O => ⟨F, Same.refl _, O, .nil⟩
  | F, _, _, _, .cons a t, O => by
    rw [List.append_assoc] at O
    obtain ⟨F1, s1, O1, r1⟩ := h.run O a
    obtain ⟨F2, s2, O2, r2⟩ := fzDq h (t.mono s1) O1
    exact ⟨F2, s1.trans s2, O2, .cons (R.m s2 r1) r2⟩
theorem fzD {α : Type} {s : Sl α} {R : Rp α} (h : Fz s R) : Fz (sD s) (jL R) := ⟨fun {_ _ F _ _ _ _ _} O ⟨p, vs, M, e1, e2, d⟩ => by
  subst e1 e2
  have O1 := (show Own _ _ _ _ ((p, HO.lst vs) :: (M ++ _)) [] from O).freeze
  have s1 : Same F (upd F p (.lst vs)) := fun b u e => by rw [upd_ne (ne_of_none e ((O.own (p, .lst vs) List.mem_cons_self)).1)]; exact e
  obtain ⟨F2, s2, O2, r2⟩ := fzDq h (d.mono s1) (O1.chunks trivial)
  exact ⟨F2, s1.trans s2, O2, p, vs, rfl, s2 _ _ upd_same, r2⟩⟩
section
variable {ρ ρ' ρ'' α β δ ε κ : Type} {E : En ρ} {E' : En ρ'} {E1 : En ρ''} {Ec : En κ} {ta tb tc te ti t : TE} {R : Rp α} {K : PySem.W.Frag} {s : RRt β} {s1 : Sl α} {s' : Sl δ} {u : TS}
theorem cD {c : ρ → ρ'} (hz : Fz s1 R) (h : Co E E' c) : Co (eC s1 E) (eC (sF R) E') (fun γ => (γ.1, c γ.2)) := ⟨fun {_ _ _ F _ _ Z _} O ⟨v, σ', L1, L2, e1, e2, q, t⟩ => by
  subst e1 e2
  rw [List.append_assoc] at O
  obtain ⟨F1, z1, O1, r1⟩ := hz.run O q
  obtain ⟨F', L', O', sF, t'⟩ := h O1 (E.m z1 t)
  exact ⟨F', L', O', z1.trans sF, v, σ', [], L', rfl, rfl, ⟨rfl, R.m sF r1⟩, t'⟩⟩
theorem se_fzD {f : ρ → Option α} (hz : Fz s1 R) (h : SE t E s1 f) : SE t E (sF R) f := ⟨fun s0 hL hE e k => by
  refine h s0 hL hE e fun v F1 H1 L1 st r => ?_
  obtain ⟨F2, z, O2, q⟩ := hz.run (Z := []) (by rw [List.append_nil]; exact st) r
  exact k _ _ _ [] O2 ⟨rfl, q⟩⟩
theorem se_toD {f : ρ → Option (List α)} (h : SE t E (sO R) f) : SE t E (sD (sF R)) f := ⟨fun s0 hL hE e k => h s0 hL hE e fun v F1 H1 L1 st ⟨p, vs, e1, e2, q⟩ => k _ _ _ _ st ⟨p, vs, [], e1, e2, .ofP q⟩⟩
theorem se_nilD {f : ρ → Option (List Unit)} (h : SE t E (sO jN) f) (h0 : ∀ γ, f γ = some []) : SE t E (sD s1) (fun _ => some []) := ⟨fun {_ _ _ _ γ _ _} s0 hL hE e k => by
  cases e
  refine h s0 hL hE (h0 γ) fun v F1 H1 L1 st ⟨p, vs, e1, e2, q⟩ => k _ _ _ _ st ⟨p, vs, [], e1, e2, ?_⟩
  cases q
  exact .nil⟩
theorem nilU : pck (([] : List Unit).length ≤ sz) [] = some ([] : List Unit) := if_pos (Nat.zero_le _)
/-- a name's own thing -/
structure Fx (E : En ρ) (i : Nat) (s : Sl α) (g : ρ → α) (up : α → ρ → ρ) : Prop where
  run : ∀ {σ : L2.St} {F : Hp} {L : List (Addr × HO)} {γ : ρ}, E.r σ F L γ → ∃ v pre L1 post, σ[i]? = some (some v) ∧ L = pre ++ (L1 ++ post) ∧ s.r v F L1 (g γ) ∧ ∀ F' L1' x', Same F F' → s.r v F' L1' x' → E.r σ F' (pre ++ (L1' ++ post)) (up x' γ)
theorem k0 : Fx (eC s1 E) 0 s1 (fun γ => γ.1) (fun x γ => (x, γ.2)) := ⟨fun ⟨v, σ', L1, L2, e1, e2, h, t⟩ => by
  subst e1 e2
  exact ⟨v, [], L1, L2, rfl, rfl, h, fun F' L1' x' z h' => ⟨v, σ', L1', L2, rfl, rfl, h', E.m z t⟩⟩⟩
theorem kU {i : Nat} {g : ρ → α} {up : α → ρ → ρ} (h : Fx E i s1 g up) : Fx (eU E) (i + 1) s1 g up := ⟨fun ⟨o, σ', e, t⟩ => by
  subst e
  obtain ⟨v, pre, L1, post, h1, h2, h3, h4⟩ := h.run t
  exact ⟨v, pre, L1, post, h1, h2, h3, fun F' L1' x' z h' => ⟨o, σ', rfl, h4 F' L1' x' z h'⟩⟩⟩
theorem kS {i : Nat} {g : ρ → α} {up : α → ρ → ρ} (h : Fx E i s1 g up) : Fx (eC s' E) (i + 1) s1 (fun γ => g γ.2) (fun x γ => (γ.1, up x γ.2)) := ⟨fun ⟨v', σ', La, L2, e1, e2, q, t⟩ => by
  subst e1 e2
  obtain ⟨v, pre, L1, post, h1, h2, h3, h4⟩ := h.run t
  subst h2
  exact ⟨v, La ++ pre, L1, post, h1, by rw [List.append_assoc], h3, fun F' L1' x' z h' => ⟨v', σ', La, _, rfl, by rw [List.append_assoc], s'.m z q, h4 F' L1' x' z h'⟩⟩⟩
/-- a place within own things -/
structure SPl {τ : Type} (t : TE) (E : En ρ) (s : Sl α) (f : ρ → Option α) (up : ρ → α → Option τ) (pt : τ → ρ → ρ) : Prop where
  run : ∀ {σ : L2.St} {F H : Hp} {L : List (Addr × HO)} {γ : ρ} {y : α} {Q : VK}, Same F H → Held H L → E.r σ F L γ → f γ = some y →
    (∀ v F' H', Step F H F' H' [] → (∃ pre L1 post, L = pre ++ (L1 ++ post) ∧ s.r v F' L1 y ∧ ∀ F2 L2 y2 γ2, Same F' F2 → s.r v F2 L2 y2 → up γ y2 = some γ2 → E.r σ F2 (pre ++ (L2 ++ post)) (pt γ2 γ)) → Q v H') → t σ H Q
theorem pl_var {i : Nat} {g : ρ → α} {up : α → ρ → ρ} (h : Fx E i s1 g up) : SPl (tVar i) E s1 (fun γ => some (g γ)) (fun _ y => some y) up := ⟨fun s0 hL hE e k => by
  cases e
  obtain ⟨v, pre, L1, post, h1, h2, h3, h4⟩ := h.run hE
  exact ⟨v, h1, k v _ _ (Step.nil s0) ⟨pre, L1, post, h2, h3, fun F2 L2 y2 γ2 z q e => by cases e; exact h4 F2 L2 y2 z q⟩⟩⟩
theorem pl_ix {τ : Type} {f : ρ → Option (List α)} {up : ρ → List α → Option τ} {pt : τ → ρ → ρ} {fi : ρ → Option Int} (ht : SPl t E (sD s1) f up pt) (hi : SE ti E (sF jI) fi) :
    SPl (tOp (rIxL K) t ti) E s1 (fun γ => ob (f γ) fun xs => ob (fi γ) fun i => pat xs i) (fun γ y => ob (f γ) fun xs => ob (fi γ) fun i => ob (pset xs i y) fun ys => up γ ys) pt := ⟨fun {σ F H L γ y Q} s0 hL hE e k => by
  obtain ⟨xs, e1, e⟩ := ob_some e
  obtain ⟨i, e2, e3⟩ := ob_some e
  refine ht.run s0 hL hE e1 fun v F1 H1 st1 ⟨pre, L1, post, h1, ⟨p, vs, M, h2, h3, h4⟩, h5⟩ => ?_
  subst h2 h3
  refine hi st1.fh (hL.mono st1.hh) (E.m st1.f0 hE) e2 fun w F2 H2 L2 st2 ⟨z, r⟩ => ?_
  subst z
  obtain ⟨kk, g1, g2⟩ := pat_ix e3
  obtain ⟨x, pre2, Lk, post2, q1, q2, q3, q4⟩ := Dq.focus (h4.mono st2.f0) g2
  have hp := st2.hh _ _ (st1.hh _ _ (hL (p, .lst vs) (by rw [h1]; simp)))
  refine ⟨p, vs, i, x, rfl, r, .inl (.inl hp), ?_, k _ _ _ (st1.tr st2) ⟨pre ++ (p, .lst vs) :: pre2, Lk, post2 ++ post, ?_, q3, fun F3 L3 y3 γ3 z h e => ?_⟩⟩
  · unfold atI
    rw [h4.len, g1]
    exact q1
  · rw [h1, q2]
    simp
  · have e5 : up γ (xs.set kk y3) = some γ3 := by
      obtain ⟨_, a1, e⟩ := ob_some e
      rw [e1] at a1
      cases a1
      obtain ⟨_, a2, e⟩ := ob_some e
      rw [e2] at a2
      cases a2
      unfold pset at e
      rw [g1] at e
      exact e
    have d := q4 F3 x L3 y3 z h
    have ev : vs.set kk x = vs := set_id q1
    rw [ev] at d
    have := h5 F3 ((p, .lst vs) :: (pre2 ++ (L3 ++ post2))) (xs.set kk y3) γ3 (st2.f0.trans z) ⟨p, vs, _, rfl, rfl, d⟩ e5
    simpa using this⟩
theorem pm1 {a : Addr × HO} {A B C D : List (Addr × HO)} : (a :: (A ++ (B ++ (C ++ D)))).Perm (C ++ (A ++ ((a :: B) ++ D))) := by
  have h1 : (C ++ (A ++ ((a :: B) ++ D))).Perm (a :: (C ++ (A ++ (B ++ D)))) := by
    rw [← List.append_assoc, ← List.append_assoc C A]
    exact List.perm_middle
  refine List.Perm.trans ?_ h1.symm
  refine List.Perm.cons a ?_
  rw [← List.append_assoc, ← List.append_assoc A B D]
  exact List.perm_append_comm_assoc _ _ _
theorem pm2 {a : Addr × HO} {A B D : List (Addr × HO)} : (A ++ ((a :: B) ++ D)).Perm (a :: (A ++ (B ++ D))) := List.perm_middle
theorem pm3 {a : Addr × HO} {A B C D : List (Addr × HO)} : (A ++ ((a :: (B ++ C)) ++ D)).Perm (a :: (A ++ (B ++ (C ++ D)))) := by
  rw [← List.append_assoc B C D]
  exact List.perm_middle
variable {m : ρ → Option (Res ρ' κ β)}
theorem ss_plApp {τ : Type} {f : ρ → Option (List α)} {up : ρ → List α → Option τ} {pt : τ → ρ → ρ} {fe : ρ → Option α} (hp : SPl t E (sD s1) f up pt) (he : SE te E s1 fe) (hu : SS u E E' Ec s m) :
    SS (tSeq (tDrop (tBM K "list" rAppend t (tCons te tNil))) u) E E' Ec s (fun γ => ob (f γ) fun xs => ob (fe γ) fun y => ob (pck (xs.length < sz) (xs ++ [y])) fun ys => ob (up γ ys) fun γ' => m (pt γ' γ)) := ⟨fun O hE e fin => by
  obtain ⟨xs, e1, e⟩ := ob_some e
  obtain ⟨y, e2, e⟩ := ob_some e
  obtain ⟨ys, e3, e⟩ := ob_some e
  obtain ⟨pz, rfl⟩ := pck_some e3
  obtain ⟨γ', e4, e⟩ := ob_some e
  refine hp.run O.fh (Held.of O) hE e1 fun v F1 H1 st1 ⟨pre, L1, post, h1, ⟨p, vs, M, h2, h3, h4⟩, h5⟩ => ?_
  subst h2 h3 h1
  have O1 := Own.on O st1
  rw [List.nil_append] at O1
  refine tyL (Held.of O1 (p, .lst vs) (by simp)) ?_
  refine he O1.fh (Held.of O1) (E.m st1.f0 hE) e2 fun w F2 H2 Lw st2 r2 => ?_
  have O3 := (Own.on O1 st2).perm (pm1 (a := (p, .lst vs)) (A := pre) (B := M) (C := Lw) (D := post))
  exact w_app (j := 0) (Q := fun _ H' => u _ _ H') O3 rfl (fun H' O4 => hu.run (O4.perm pm3) (h5 F2 ((p, .lst (vs ++ [w])) :: (M ++ Lw)) _ γ' st2.f0 ⟨p, _, _, rfl, rfl, Dq.app (.one r2) (h4.mono st2.f0)⟩ e4) e (fin.mo (st1.f0.trans st2.f0))) (sz_lt (by rw [h4.len]; exact pz))⟩
theorem ss_plPop {τ : Type} {f : ρ → Option (List α)} {up : ρ → List α → Option τ} {pt : τ → ρ → ρ} (hp : SPl t E (sD s1) f up pt) (hu : SS u E E' Ec s m) :
    SS (tSeq (tDrop (tBM0 K "list" rPop t)) u) E E' Ec s (fun γ => ob (f γ) fun xs => ob (pck (0 < xs.length) xs.dropLast) fun ys => ob (up γ ys) fun γ' => m (pt γ' γ)) := ⟨fun O hE e fin => by
  obtain ⟨xs, e1, e⟩ := ob_some e
  obtain ⟨ys, e3, e⟩ := ob_some e
  obtain ⟨pz, rfl⟩ := pck_some e3
  obtain ⟨γ', e4, e⟩ := ob_some e
  refine hp.run O.fh (Held.of O) hE e1 fun v F1 H1 st1 ⟨pre, L1, post, h1, ⟨p, vs, M, h2, h3, h4⟩, h5⟩ => ?_
  subst h2 h3 h1
  have O1 := Own.on O st1
  rw [List.nil_append] at O1
  have hl := h4.len
  have O2 := O1.perm (pm2 (a := (p, .lst vs)) (A := pre) (B := M) (D := post)).symm
  refine tyL (O2.at_ 0) ⟨p, vs, _, rfl, rfl, O2.at_ 0, List.getElem?_eq_getElem (by omega), ?_⟩
  obtain ⟨M1, M2, hM, hd⟩ := Dq.tk (vs.length - 1) h4
  subst hM
  have O3 := O2.set 0 rfl (.lst vs.dropLast)
  refine hu.run (L := pre ++ (((p, .lst vs.dropLast) :: M1) ++ post)) (OwnSb O3 ⟨M2, ?_⟩) (h5 F1 _ _ γ' (Same.refl _) ⟨p, _, _, rfl, rfl, ?_⟩ e4) e (fin.mo st1.f0)
  · show List.Perm _ ((p, HO.lst vs.dropLast) :: (pre ++ ((M1 ++ M2) ++ post)))
    have h1 : (((p, HO.lst vs.dropLast) :: (pre ++ (M1 ++ post))) ++ M2).Perm ((p, HO.lst vs.dropLast) :: (pre ++ ((M1 ++ M2) ++ post))) := by
      refine List.Perm.cons _ ?_
      show List.Perm ((pre ++ (M1 ++ post)) ++ M2) _
      rw [List.append_assoc, List.append_assoc, List.append_assoc]
      exact ((List.perm_append_comm).append_left M1).append_left pre
    exact (pm2.append_right M2).trans h1
  · rw [List.dropLast_eq_take, List.dropLast_eq_take, ← hl]
    exact hd⟩
theorem ss_plSet {τ : Type} {f : ρ → Option (List α)} {up : ρ → List α → Option τ} {pt : τ → ρ → ρ} {fe : ρ → Option α} {fi : ρ → Option Int} (hp : SPl t E (sD s1) f up pt) (he : SE te E s1 fe) (hi : SE ti E (sF jI) fi) (hu : SS u E E' Ec s m) :
    SS (tSeq (tAsg te (gSub t ti rSetL)) u) E E' Ec s (fun γ => ob (fe γ) fun y => ob (f γ) fun xs => ob (fi γ) fun i => ob (pset xs i y) fun ys => ob (up γ ys) fun γ' => m (pt γ' γ)) := ⟨fun {σ F0 H0 F H L γ r D} O hE e fin => by
  obtain ⟨y, e2, e⟩ := ob_some e
  obtain ⟨xs, e1, e⟩ := ob_some e
  obtain ⟨i, e5, e⟩ := ob_some e
  obtain ⟨ys, e3, e⟩ := ob_some e
  obtain ⟨γ', e4, ez⟩ := ob_some e
  refine he O.fh (Held.of O) hE e2 fun w F1 H1 Lw st1 r1 => ?_
  have O1 := Own.on O st1
  have hL1 : Held H1 L := fun q hq => Held.of O1 q (List.mem_append_right _ hq)
  refine hp.run O1.fh hL1 (E.m st1.f0 hE) e1 fun v F2 H2 st2 ⟨pre, L1, post, h1, ⟨p, vs, M, h2, h3, h4⟩, h5⟩ => ?_
  subst h2 h3
  have O2 := Own.on O1 st2
  rw [List.nil_append] at O2
  refine hi O2.fh (hL1.mono st2.hh) (E.m (st1.f0.trans st2.f0) hE) e5 fun z F3 H3 L3 st3 ⟨z3, r3⟩ => ?_
  subst z3
  have O3 := Own.on O2 st3
  rw [List.nil_append] at O3
  unfold pset at e3
  cases hj : ixN xs.length i with
  | none => rw [hj] at e3; cases e3
  | some n =>
    rw [hj] at e3
    have e3 : xs.set n y = ys := Option.some.inj e3
    subst e3
    subst h1
    have O4 := O3.perm (pm1 (a := (p, .lst vs)) (A := pre) (B := M) (C := Lw) (D := post))
    refine ⟨p, vs, i, n, rfl, r3, O4.at_ 0, by rw [h4.len]; exact hj, ?_⟩
    have O5 := O4.set 0 rfl (.lst (vs.set n w))
    cases hx : xs[n]? with
    | none =>
      have hn : xs.length ≤ n := List.getElem?_eq_none_iff.mp hx
      refine hu.run (L := pre ++ (((p, .lst (vs.set n w)) :: M) ++ post)) (OwnSb O5 ⟨Lw, ?_⟩) (h5 F3 _ _ γ' st3.f0 ⟨p, _, _, rfl, rfl, ?_⟩ e4) ez (fin.mo (st1.f0.trans (st2.f0.trans st3.f0)))
      · exact (List.perm_append_comm).trans pm1.symm
      · rw [List.set_eq_of_length_le hn, List.set_eq_of_length_le (by rw [h4.len]; exact hn)]
        exact h4.mono st3.f0
    | some x =>
      obtain ⟨x', pre2, Lk, post2, q1, q2, q3, q4⟩ := Dq.focus (h4.mono st3.f0) hx
      subst q2
      refine hu.run (L := pre ++ (((p, .lst (vs.set n w)) :: (pre2 ++ (Lw ++ post2))) ++ post)) (OwnSb O5 ⟨Lk, ?_⟩) (h5 F3 _ _ γ' st3.f0 ⟨p, _, _, rfl, rfl, q4 F3 w Lw y (Same.refl _) (s1.m (st2.f0.trans st3.f0) r1)⟩ e4) ez (fin.mo (st1.f0.trans (st2.f0.trans st3.f0)))
      refine (pm2.append_right Lk).trans (List.Perm.cons _ ?_)
      show List.Perm ((pre ++ ((pre2 ++ (Lw ++ post2)) ++ post)) ++ Lk) _
      rw [List.append_assoc, List.append_assoc, List.append_assoc, List.append_assoc, List.append_assoc]
      refine List.Perm.append_left pre (List.Perm.append_left pre2 ?_)
      have a1 : (Lw ++ (post2 ++ (post ++ Lk))).Perm (Lk ++ (post2 ++ (Lw ++ post))) := by
        have b1 : (Lw ++ (post2 ++ (post ++ Lk))).Perm (post2 ++ (Lw ++ (post ++ Lk))) := List.perm_append_comm_assoc _ _ _
        have b2 : (post2 ++ (Lw ++ (post ++ Lk))) = (post2 ++ (Lw ++ post)) ++ Lk := by simp
        rw [b2] at b1
        exact b1.trans List.perm_append_comm
      simpa using a1⟩
/-- row = place; row[c] = e -/
theorem ss_alias {τ : Type} {f : ρ → Option (List Int)} {up : ρ → List Int → Option τ} {pt : τ → ρ → ρ} {j : Nat} {p : List Int → ρ → ρ''} {g : ρ'' → List Int} {fe fc : ρ'' → Option Int} (hp : SPl t E (sD (sF jI)) f up pt) (hpt : Pt E j (sF (jL jI)) E1 p) (hg : Gt E1 j (sF (jL jI)) g) (hn : Un E j) (he : SE te E1 (sF jI) fe) (hc : SE tc E1 (sF jI) fc) (hu : SS u E E' Ec s m) :
    SS (tSeq (tAsg t (gName j)) (tSeq (tAsg te (gSub (tVar j) tc rSetL)) u)) E E' Ec s (fun γ => ob (f γ) fun row => ob (fe (p row γ)) fun y => ob (fc (p row γ)) fun c => ob (pset row c y) fun row' => ob (up γ row') fun γ' => m (pt γ' γ)) := ⟨fun {σ F0 H0 F H L γ r D} O hE e fin => by
  obtain ⟨row, e1, e⟩ := ob_some e
  obtain ⟨y, e2, e⟩ := ob_some e
  obtain ⟨c, e3, e⟩ := ob_some e
  obtain ⟨row', e4, e⟩ := ob_some e
  obtain ⟨γ', e5, ez⟩ := ob_some e
  refine hp.run O.fh (Held.of O) hE e1 fun v F1 H1 st1 ⟨pre, L1, post, h1, ⟨q, vs, M, h2, h3, h4⟩, h5⟩ => ?_
  obtain ⟨hM, h6⟩ := h4.toP
  subst h2 h3 h1 hM
  have O1 := Own.on O st1
  rw [List.nil_append] at O1
  have hq : H1 q = some (.lst vs) := Held.of O1 (q, .lst vs) (by simp)
  have hF : F1 q = none := (O1.own (q, .lst vs) (by simp)).1
  have zF : Same F1 (upd F1 q (.lst vs)) := fun b u e => by rw [upd_ne (ne_of_none e hF)]; exact e
  have zH : Same (upd F1 q (.lst vs)) H1 := fun b u e => by
    by_cases hb : b = q
    · subst hb
      rw [upd_same] at e
      cases e
      exact hq
    · rw [upd_ne hb] at e
      exact O1.fh b u e
  obtain ⟨L', hE1, hS⟩ := hpt.run (L1 := []) (E.m (st1.f0.trans zF) hE) (show (sF (jL jI)).r (.ref q) (upd F1 q (.lst vs)) [] row from ⟨rfl, q, vs, rfl, upd_same, Paired.mono (fun _ _ w => w) h6⟩)
  rw [List.nil_append] at hS
  have hL' : Held H1 L' := fun z hz => Held.of O1 z (hS.mem hz)
  show te _ _ _
  refine he zH hL' hE1 e2 fun wv F2 H2 L2 st2 ⟨z2, r2⟩ => ?_
  subst z2
  have r2 : wv = .int y := r2
  subst r2
  obtain ⟨v', La, w1, _, _, a', vs', w2, _, _⟩ := hg.run hE1
  have hj : (σ.set j (some (V.ref q)))[j]? = some (some (.ref q)) := by
    rw [w1]
    rw [List.getElem?_set] at w1
    simp only [if_true] at w1
    split at w1
    · exact w1.symm
    · cases w1
  refine ⟨.ref q, hj, ?_⟩
  refine hc (st2.fh) (hL'.mono st2.hh) (E1.m st2.f0 hE1) e3 fun w F3 H3 L3 st3 ⟨z3, r3⟩ => ?_
  subst z3
  have O3 := O1.more (st2.hh.trans st3.hh)
  have O4 := O3.perm (pm2 (a := (q, .lst vs)) (A := pre) (B := []) (D := post)).symm
  unfold pset at e4
  cases hi : ixN row.length c with
  | none => rw [hi] at e4; cases e4
  | some n =>
    rw [hi] at e4
    have e4 : row.set n y = row' := Option.some.inj e4
    subst e4
    refine ⟨q, vs, c, n, rfl, r3, O4.at_ 0, by rw [Paired.len h6]; exact hi, ?_⟩
    have O5 := O4.set 0 rfl (.lst (vs.set n (.int y)))
    refine hu.run (O5.perm pm2) (hn.run (h5 F1 [(q, .lst (vs.set n (.int y)))] _ γ' (Same.refl _) ⟨q, _, [], rfl, rfl, .ofP (Paired.upd (A := jI.r F1) rfl n h6)⟩ e5)) ez (fin.mo st1.f0)⟩
/-- [own thing for x in xs] -/
theorem se_lcD {A : Rp δ} {wi : TI} {g : TG} {is vs : List Nat} {fi : ρ → Option (List δ)} {fe : ρ' → Option α} {p : δ → ρ → ρ'} (hi : SI wi E A fi) (hw : Wp E vs) (hg : SG g is E A E' p) (he : SE te E' s1 fe) (hv : ∀ i ∈ is, i ∈ vs := by decide) :
    SE (tLc wi g tYes te vs) E (sD s1) (fun γ => ob (fi γ) fun xs => ob (lcM (fun x => fe (p x γ)) xs) fun r => pck (r.length ≤ sz) r) := ⟨fun {σ _ _ L γ res Q} s0 hL hE e k => by
  obtain ⟨xs, e1, e⟩ := ob_some e
  obtain ⟨rs, e2, e⟩ := ob_some e
  obtain ⟨pz, e3⟩ := pck_some e
  subst e3
  refine hi.run s0 hL hE e1 fun J F1 H1 st1 it => ?_
  have hE1 := E.m st1.f0 hE
  have hL1 := hL.mono st1.hh
  intro D hD
  refine ⟨fun i m H' => m = xs.length - i ∧ i ≤ xs.length ∧ ∃ F' acc M ys zs, Step F1 H1 F' H' ((D, .lst acc) :: M) ∧ Dq s1 F' acc M ys ∧ lcM (fun x => fe (p x γ)) (xs.drop i) = some zs ∧ rs = ys ++ zs,
    ⟨xs.length, by omega, Nat.zero_le _, F1, [], [], [], rs, (Step.nil st1.fh).alloc hD _, .nil, e2, rfl⟩, ?_⟩
  rintro i m H' ⟨rfl, hi, F', acc, M, ys, zs, st2, pa, e4, e5⟩
  by_cases hlt : i < xs.length
  · obtain ⟨x, hx⟩ : ∃ x, xs[i]? = some x := ⟨_, List.getElem?_eq_getElem hlt⟩
    obtain ⟨go, yl⟩ := it.one st2.f0 st2.fh hx
    have ed : xs.drop i = x :: xs.drop (i + 1) := by
      rw [List.drop_eq_getElem_cons hlt]
      congr 1
      rw [List.getElem?_eq_getElem hlt] at hx
      exact Option.some.inj hx
    rw [ed] at e4
    obtain ⟨y, e8, e9⟩ := ob_some e4
    obtain ⟨r, e10, e11⟩ := ob_some e9
    cases e11
    have hacc : acc.length < sz := by
      rw [pa.len]
      rw [e5, List.length_append, List.length_cons] at pz
      omega
    refine .inr ⟨go, fun H'' => ∃ F' acc M ys zs, Step F1 H1 F' H'' ((D, .lst acc) :: M) ∧ Dq s1 F' acc M ys ∧ lcM (fun x => fe (p x γ)) (xs.drop (i + 1)) = some zs ∧ rs = ys ++ zs, fun H'' h => ⟨xs.length - (i + 1), by omega, rfl, hlt, h⟩, fun v H3 hy => ?_⟩
    obtain ⟨F3, s3, r3⟩ := yl v H3 hy
    have s13 := Own.on st2 s3
    rw [List.nil_append] at s13
    refine hg s3.fh (hw (E.m s13.f0 hE1)) r3 fun σ4 L4 hb4 hE4 hw4 => ⟨?_, ?_⟩
    · rw [hw4 vs hv]
      have gen : ∀ (ws : List Nat), (∀ i ∈ ws, i ∈ vs) → wipe (wipe σ ws) vs = wipe σ vs := by
        intro ws
        induction ws with
        | nil => intro _; rfl
        | cons a as ih => intro h; show wipe ((wipe σ as).set a none) vs = _; rw [wipe_comm _ _ _ vs (h a List.mem_cons_self), ih fun i hi => h i (List.mem_cons_of_mem _ hi)]
      exact gen vs fun _ h => h
    have hL4 : Held H3 L4 := fun q hq => (hL1.mono s13.hh) q (hb4.mem hq)
    show te _ _ _
    refine he s3.fh hL4 hE4 e8 fun w F6 H6 L6 s6 r6 => ?_
    have s16 := Own.on s13 s6
    have O7 := s16.perm (L' := (D, .lst acc) :: (M ++ L6)) ((List.Perm.cons _ List.perm_append_comm).trans List.perm_middle.symm)
    exact ⟨acc, O7.at_ 0, sz_lt hacc, F6, _, M ++ L6, ys ++ [y], r, O7.set 0 rfl _, Dq.app (.one r6) (pa.mono (s3.f0.trans s6.f0)), e10, by rw [e5, List.append_assoc]; rfl⟩
  · have hi2 : i = xs.length := by omega
    subst hi2
    rw [List.drop_length] at e4
    cases e4
    rw [List.append_nil] at e5
    subst e5
    exact .inl ⟨it.stop st2.f0 st2.fh, k _ _ _ _ (by have := Own.on st1 st2; rwa [List.append_nil] at this) ⟨D, acc, M, rfl, rfl, pa⟩⟩⟩
end
end Mi

namespace Mi
open PySem PySem.Spec PyProof.Rows L2 Fw
theorem W_add {ρ κ β : Type} {c c' : Prop} [Decidable c] [Decidable c'] {e : Option Int} {x : Int} {l : List Int} {mk : List Int → Option (Res ρ κ β)} {Q : Res ρ κ β → Prop} (hc : c ↔ c') (he : c' → e = some x) (hl : l.length < sz) (q : W (mk (l ++ if c' then [x] else [])) Q) :
    W (if decide c = true then (ob e fun x => ob (pck (l.length < sz) (l ++ [x])) fun w => mk w) else mk l) Q := by
  refine W_ifD (fun h => ?_) (fun h => ?_)
  · rw [he (hc.mp h), W_ob, W_some, W_ob, W_pck]
    rw [if_pos (hc.mp h)] at q
    exact ⟨hl, q⟩
  · rw [if_neg fun z => h (hc.mpr z), List.append_nil] at q
    exact q
theorem one_le1 {c : Prop} [Decidable c] (x : Int) : (if c then [x] else ([] : List Int)).length ≤ 1 := by
  split
  · exact Nat.le_refl 1
  · exact Nat.zero_le 1
theorem cell_add {n m a b : Nat} {M : Nat → Nat → Int} {v : Int} (ha : a ≤ n) (hb : b ≤ m) : (ob (ob (pat (grid (n + 1) (m + 1) M) (a : Int)) fun x => pat x (b : Int)) fun x => some (x + v)) = some (M a b + v) := by
  have : (ob (pat (grid (n + 1) (m + 1) M) (a : Int)) fun x => pat x (b : Int)) = some (M a b) := pcell_grid (by omega) (by omega)
  rw [this]
  rfl
theorem cell_add2 {n m a b : Nat} {M : Nat → Nat → Int} {v v' : Int} (ha : a ≤ n) (hb : b ≤ m) : (ob (ob (ob (pat (grid (n + 1) (m + 1) M) (a : Int)) fun x => pat x (b : Int)) fun x => some (x + v)) fun x => some (x + v')) = some (M a b + (v + v')) := by
  rw [cell_add ha hb]
  show some (M a b + v + v') = _
  rw [Int.add_assoc]
end Mi

namespace Mi
open PySem PySem.Spec PyProof.Rows L2 Fw
/-! ### own lists handed in and changed -/
def cutH (H : Hp) (p : Addr) : Hp := fun b => if b = p then none else H b
theorem cutH_ne {H : Hp} {p b : Addr} (h : b ≠ p) : cutH H p b = H b := if_neg h
theorem cutH_same {H : Hp} {p : Addr} : cutH H p p = none := if_pos rfl
theorem cutH_sub {H : Hp} {p : Addr} : Same (cutH H p) H := fun b o e => by
  by_cases h : b = p
  · subst h
    rw [cutH_same] at e
    cases e
  · rwa [cutH_ne h] at e
section
variable {α β ρ ρ' ρ'' κ : Type} {R : Rp α} {B : Rp β} {p : Addr} {i : Nat} {E : En ρ} {tA : TA} {te : TE}
def sOA {α : Type} (p : Addr) (R : Rp α) : Sl (List α) := ⟨fun v F L xs => ∃ vs, v = .ref p ∧ L = [(p, .lst vs)] ∧ Paired (R.r F) vs xs, fun s ⟨vs, e, h, q⟩ => ⟨vs, e, h, Paired.mono (fun _ _ q => R.m s q) q⟩⟩
theorem gA {g : ρ → List α} (h : Gt E i (sOA p R) g) : Gt E i (sO R) g := ⟨fun e => by
  obtain ⟨v, L1, h1, h2, vs, h3⟩ := h e
  exact ⟨v, L1, h1, h2, p, vs, h3⟩⟩
theorem u0A : Up (eC (sOA p R) E) 0 R (fun γ => γ.1) (fun xs γ => (xs, γ.2)) := ⟨fun ⟨v', σ', La, L2, e1, e2, ⟨vs, e3, e4, q⟩, t⟩ => by
  subst e1 e2 e3 e4
  exact ⟨p, vs, 0, rfl, rfl, q, fun F' vs' xs' sF q' => ⟨_, σ', [(p, .lst vs')], L2, rfl, rfl, ⟨vs', rfl, rfl, q'⟩, E.m sF t⟩⟩⟩
/-- arguments, one of them the list at p -/
structure Au (ρ : Type) where
  r : Hp → List V → Addr → ρ → Prop
  m : ∀ {F F' : Hp} {v : List V} {p : Addr} {x : ρ}, Same F F' → r F v p x → r F' v p x
def uH (T : Ar ρ) : Au ρ := ⟨fun F vs p γ => ∃ r, vs = .ref p :: r ∧ T.r F r γ, fun s ⟨r, e, t⟩ => ⟨r, e, T.m s t⟩⟩
def uC (B : Rp β) (T : Au ρ) : Au (β × ρ) := ⟨fun F vs p γ => ∃ v r, vs = v :: r ∧ B.r F v γ.1 ∧ T.r F r p γ.2, fun s ⟨v, r, e, h, t⟩ => ⟨v, r, e, B.m s h, T.m s t⟩⟩
structure SAu (tA : TA) (E : En ρ) (i : Nat) (A : Au α) (f : ρ → Option α) : Prop where
  run : ∀ {σ : L2.St} {F H : Hp} {L : List (Addr × HO)} {γ : ρ} {x : α} {p : Addr} {Q : List V → Hp → Prop}, Same F H → Held H L → E.r σ F L γ → σ[i]? = some (some (.ref p)) → f γ = some x → (∀ vs F' H', Step F H F' H' [] → A.r F' vs p x → Q vs H') → tA σ H Q
theorem sau_hole {T : Ar α} {f : ρ → Option α} (h : SA tA E T f) : SAu (tCons (tVar i) tA) E i (uH T) f := ⟨fun s0 hL he hi e k => by
  refine ⟨_, hi, ?_⟩
  refine h s0 hL he e fun vs F' H' s1 r1 => k _ F' H' s1 ⟨vs, rfl, r1⟩⟩
theorem sau_cons {A : Au α} {f : ρ → Option α} {fa : ρ → Option β} (ha : SE te E (sF B) fa) (h : SAu tA E i A f) : SAu (tCons te tA) E i (uC B A) (fun γ => ob (fa γ) fun x => ob (f γ) fun r => some (x, r)) := ⟨fun s0 hL he hi e k => by
  obtain ⟨x, e1, e⟩ := ob_some e
  obtain ⟨r, e2, e⟩ := ob_some e
  cases e
  refine ha s0 hL he e1 fun v F1 H1 L1 s1 ⟨z1, r1⟩ => ?_
  subst z1
  refine h.run s1.fh (hL.mono s1.hh) (E.m s1.f0 he) hi e2 fun vs F2 H2 s2 r2 => ?_
  exact k _ F2 H2 (s1.tr s2) ⟨v, vs, rfl, B.m s2.f0 r1, r2⟩⟩
/-- a callee has changed the own list at p -/
theorem Own.lent {F0 H0 F H F' H' : Hp} {L : List (Addr × HO)} {C : List Ck} {o o' : HO} {j : Nat} (O : Own F0 H0 F H L C) (hj : L[j]? = some (p, o)) (c : Own F (cutH H p) F' H' [(p, o')] []) : Own F0 H0 F' H' (L.set j (p, o')) C := by
  obtain ⟨hF, hH0, hH⟩ := O.own (p, o) (List.mem_of_getElem? hj)
  obtain ⟨kF, _, kH⟩ := c.own (p, o') List.mem_cons_self
  have hc : ∀ b u, b ≠ p → H b = some u → H' b = some u := fun b u n e => c.hh b u (by rw [cutH_ne n]; exact e)
  refine ⟨O.f0.trans c.f0, c.fh, fun b u e => hc b u (ne_of_none e hH0) (O.hh b u e), fun b u h => ?_, fun q hq => ?_, ?_, O.cs.mono c.f0⟩
  · rcases c.new b u h with h | h
    · exact O.new b u h
    · by_cases hb : b = p
      · subst hb
        exact .inr hH0
      · rw [cutH_ne hb] at h
        exact .inr (O.hh.free h)
  · obtain ⟨k, hk⟩ := List.mem_iff_getElem?.mp hq
    by_cases e : j = k
    · subst e
      have hlt : j < L.length := (List.getElem?_eq_some_iff.mp hj).1
      rw [List.getElem?_set_self hlt] at hk
      cases hk
      exact ⟨kF, hH0, kH⟩
    · rw [List.getElem?_set_ne e] at hk
      obtain ⟨h1, h2, h3⟩ := O.own q (List.mem_of_getElem? hk)
      have hq : q.1 ≠ p := fun z => e (nodup_map_get O.nd hj hk z.symm)
      refine ⟨?_, h2, hc _ _ hq h3⟩
      cases z : F' q.1 with
      | none => rfl
      | some u =>
        rcases c.new _ _ z with h | h
        · rw [h1] at h; cases h
        · rw [cutH_ne hq, h3] at h; cases h
  · have e : (L.set j (p, o')).map Prod.fst = L.map Prod.fst := by
      rw [List.map_set]
      refine List.ext_getElem? fun k => ?_
      by_cases h : j = k
      · subst h
        have hlt : j < (L.map Prod.fst).length := by rw [List.length_map]; exact (List.getElem?_eq_some_iff.mp hj).1
        rw [List.getElem?_set_self hlt, List.getElem?_map, hj]
        rfl
      · rw [List.getElem?_set_ne h]
    rw [e]
    exact O.nd
theorem Own.lend {F H : Hp} {o : HO} (s : Same F H) (hF : F p = none) (hH : H p = some o) : Own F (cutH H p) F H [(p, o)] [] :=
  ⟨Same.refl _, s, cutH_sub, fun _ _ h => .inl h, fun q hq => by rw [List.mem_singleton.mp hq]; exact ⟨hF, cutH_same, hH⟩, by rw [List.map_singleton]; exact List.nodup_cons.mpr ⟨List.not_mem_nil, List.nodup_nil⟩, trivial⟩
/-- called with such arguments, it changes the list handed in -/
def spU (A : Au ρ) (R : Rp α) (m : List α → ρ → Option (List α)) : Sp := fun vs H Q _ => ∃ F p ws xs γ ys, Same F H ∧ F p = none ∧ H p = some (.lst ws) ∧ Paired (R.r F) ws xs ∧ A.r F vs p γ ∧ m xs γ = some ys ∧
  ∀ F' H' ws', Own F (cutH H p) F' H' [(p, .lst ws')] [] → Paired (R.r F') ws' ys → Q .non H'
theorem ss_callU {A : Au α} {τ : Type} {T : Rp τ} {g : ρ → List τ} {up : List τ → ρ → ρ} {f : ρ → Option α} {m : List τ → α → Option (List τ)} {E' : En ρ'} {Ec : En κ} {s : RRt β} {u : TS} {mm : ρ → Option (Res ρ' κ β)} {Ex : XK}
    (hu' : Up E i T g up) (ha : SAu tA E i A f) (hu : SS u E E' Ec s mm) : SS (tSeq (tDrop (tCall (spU A T m) [] Ex tA)) u) E E' Ec s (fun γ => ob (f γ) fun a => ob (m (g γ) a) fun ys => mm (up ys γ)) := ⟨fun {σ F0 H0 F H L γ r D} O hE e fin => by
  obtain ⟨a, e1, e⟩ := ob_some e
  obtain ⟨ys, e2, e⟩ := ob_some e
  obtain ⟨p, ws, j, h1, h2, h3, h4⟩ := hu' hE
  show tCall (spU A T m) [] Ex tA σ H (fun _ H1 => u D σ H1)
  rw [q_call]
  refine ha.run O.fh (Held.of O) hE h1 e1 fun vs F1 H1 s1 r1 => ?_
  have O1 := Own.on O s1
  rw [List.nil_append] at O1
  refine ⟨F1, p, ws, g γ, a, ys, O1.fh, (O1.own _ (List.mem_of_getElem? h2)).1, O1.at_ j h2, Paired.mono (fun _ _ q => T.m s1.f0 q) h3, r1, e2, fun F2 H2 ws2 c q2 => ?_⟩
  have O2 := Own.lent O1 h2 c
  exact hu.run O2 (h4 F2 _ _ (s1.f0.trans c.f0) q2) e (fin.mo (s1.f0.trans c.f0))⟩
/-! defs -/
structure AUE (A : Au ρ) (R : Rp α) (p : Addr) (E : En ρ') (n : Nat) (j : List α → ρ → ρ') : Prop where
  run : ∀ {F : Hp} {vs ws : List V} {xs : List α} {γ : ρ}, A.r F vs p γ → Paired (R.r F) ws xs → E.r (vs.map some ++ List.replicate n none) F [(p, .lst ws)] (j xs γ)
theorem aue_H {T : Ar ρ} {E : En ρ} {n : Nat} (h : AE T E n) : AUE (uH T) R p (eC (sOA p R) E) n (fun xs γ => (xs, γ)) := ⟨fun {F vs ws xs γ} ⟨r, e, t⟩ q => by
  subst e
  exact ⟨_, _, [(p, .lst ws)], [], rfl, rfl, ⟨ws, rfl, rfl, q⟩, h.run t⟩⟩
theorem aue_C {A : Au ρ} {E : En ρ'} {n : Nat} {j : List α → ρ → ρ'} (h : AUE A R p E n j) : AUE (uC B A) R p (eC (sF B) E) n (fun xs γ => (γ.1, j xs γ.2)) := ⟨fun ⟨v, r, e, r1, t⟩ q => by
  subst e
  exact ⟨v, _, [], _, rfl, rfl, ⟨rfl, r1⟩, h.run t q⟩⟩
structure AUN (A : Au ρ) (n : Nat) : Prop where
  run : ∀ {F : Hp} {vs : List V} {p : Addr} {γ : ρ}, A.r F vs p γ → vs.length = n
theorem aun_H {T : Ar ρ} {n : Nat} (h : AN T n) : AUN (uH T) (n + 1) := ⟨fun ⟨r, e, t⟩ => by rw [e, List.length_cons, h.run t]⟩
theorem aun_C {A : Au ρ} {n : Nat} (h : AUN A n) : AUN (uC B A) (n + 1) := ⟨fun ⟨v, r, e, _, t⟩ => by rw [e, List.length_cons, h.run t]⟩
theorem spU_len {A : Au ρ} {m : List α → ρ → Option (List α)} {n : Nat} (h : AUN A n) : ∀ vs H Q E, spU A R m vs H Q E → vs.length = n := fun _ _ _ _ ⟨_, _, _, _, _, _, _, _, _, _, r, _⟩ => h.run r
/-- the list behind the body -/
def finU (g : ρ → List α) (x : Option (Res ρ κ β)) : Option (List α) := ob x fun r => match r with | .nxt γ => some (g γ) | _ => none
theorem finU_runX {A : Au ρ} {k n : Nat} {N : List Str} {E0 : Addr → En ρ''} {E1 : Addr → En ρ'} {j : List α → ρ → ρ''} {g : ρ' → List α} {i : Nat} {t : TS} {mm : List α → ρ → Option (List α)} {vs : List V} {H : Hp} {Q : VK} {Ex : XK} {D : Ends}
    (hA : ∀ p, AUE A R p (E0 p) n j) (hn : AUN A k) (hN : N.length = k + n) (hg : ∀ p, Gt (E1 p) i (sOA p R) g) (h : ∀ p, ∃ m : ρ'' → Option (Res ρ' Unit Unit), SS t (E0 p) (E1 p) eN (rS (sF jN)) m ∧ mm = fun xs γ => finU g (m (j xs γ))) (q : spU A R mm vs H Q Ex)
    (hD2 : D.nx = fun _ H' => Q .non H') : t D (L2.start N vs) H := by
  obtain ⟨F, p, ws, xs, γ, ys, s0, hF, hH, q1, r, e, k⟩ := q
  obtain ⟨m, hs, hm⟩ := h p
  subst hm
  obtain ⟨r1, e1, e2⟩ := ob_some e
  have hl := hn.run r
  have hs' : L2.start N vs = vs.map some ++ List.replicate n none := by
    unfold L2.start
    rw [show N.length - vs.length = n by omega]
  rw [hs']
  refine hs.run (Own.lend s0 hF hH) ((hA p).run r q1) e1 ?_
  cases r1 with
  | nxt γ' =>
    cases e2
    refine fun σ F' H' L _ O r' => ?_
    rw [hD2]
    obtain ⟨v, L1, _, h2, vs', _, h4, h5⟩ := hg p r'
    subst h4
    refine k F' H' vs' (OwnSb O ?_) h5
    obtain ⟨a, b, hab⟩ := List.append_of_mem (h2 _ List.mem_cons_self)
    rw [hab]
    exact ⟨a ++ b, (List.perm_middle (l₁ := a) (l₂ := b)).symm⟩
  | ret b => cases e2
  | cnt _ => cases e2
  | brk _ => cases e2
/-! what it tells -/
def RfU (Q : List α → Prop) (g : ρ → List α) : Res ρ κ β → Prop
  | .nxt γ => Q (g γ)
  | _ => False
theorem RfU_nxt {Q : List α → Prop} {g : ρ → List α} {γ : ρ} : RfU (κ := κ) (β := β) Q g (.nxt γ) = Q (g γ) := rfl
theorem W_finU {g : ρ → List α} {x : Option (Res ρ κ β)} {Q : List α → Prop} : W (finU g x) Q = W x (RfU Q g) := by
  unfold finU
  rw [W_ob]
  congr 1
  funext r
  cases r with
  | nxt γ => exact W_some
  | ret b => exact W_none
  | cnt γ => exact W_none
  | brk γ => exact W_none
end
end Mi

namespace Mi
open PySem PySem.Spec PyProof.Rows L2 Fw
/-! ### more constructs: low rules -/
section
variable {X : Cx} {K : PySem.W.Frag}
/-- sum of a tuple of ints -/
def rSumT (K : PySem.W.Frag) : List V → Hp → VK → Prop := fun vs H Q => ∃ (a : Addr) (ns : List Int), vs = [V.ref a] ∧ SqT K H a (ns.map V.int) ∧ Q (.int ns.sum) H
theorem sumT_ {K : PySem.W.Frag} (hc : X.calm = true) (eK : X.K = K := by rfl) : CallR X (.builtin "sum") (rSumT K) := by
  subst eK
  intro pins s σ H vs us Q I r h
  obtain ⟨a, ns, rfl, hs, q⟩ := h
  obtain ⟨its, rv, ht, _⟩ := I.tuple hs
  rw [Vals.ref1 r]
  have hi := rv.ints
  obtain ⟨xs, e⟩ := hi.allInts.items
  have hn : numsOf (intItems xs).toList = ns := by rw [← e]; exact hi.numsOf
  rw [nums_intItems] at hn
  rw [e] at ht
  have hT : s.heap.IsTuple a (intItems xs) := by
    obtain ⟨o, h1, h2, n, h3⟩ := ht
    exact ⟨o, h1, h2, n, h3⟩
  refine PySem.call_sum_walkG (PySem.wpAny_pyIter_tuple hT ?_)
  have hne : a ≠ s.heap.objs.size := by
    obtain ⟨o, h1, _⟩ := ht
    exact Nat.ne_of_lt (Heap.lt_size h1)
  refine ⟨_, _, _, _, _, _, PySem.numAt xs, rfl, PySem.Walks.tuple (A := X.A.in1) (I.ok.hd hc) _ a hne (intItems xs), ⟨⟨_, Heap.get?_push_size _ rfl, rfl, rfl⟩, hT.push _⟩, fun c hc2 => ?_, (fun _ _ => PySem.intItems_at), fun h' tk t' hk => ?_⟩
  · show c < (s.heap.push _).objs.size
    rw [Heap.size_push]
    rcases List.mem_cons.mp hc2 with rfl | hc2
    · exact Nat.lt_succ_self _
    · rcases List.mem_cons.mp hc2 with rfl | hc2
      · obtain ⟨o, h1, _⟩ := ht
        exact Nat.lt_succ_of_lt (Heap.lt_size h1)
      · cases hc2
  · have hold : ∀ c o, s.heap.get? c = some o → h'.get? c = some o := fun c o e => by
      refine hk c o (fun hm => ?_) (Heap.get?_push_of_some _ e)
      rcases List.mem_cons.mp hm with e1 | hm
      · have := Heap.lt_size e
        rw [e1] at this
        exact Nat.lt_irrefl _ this
      · cases hm
    have es : PySem.preSum (PySem.numAt xs) (intItems xs).size = ns.sum := by
      rw [show (intItems xs).size = xs.size by simp [PySem.intItems], ← hn, PySem.preSum_eq, List.take_of_length_le (by simp)]
    rw [es]
    exact ⟨.int _, H, I.kept hold, ⟨_, rfl⟩, q⟩
/-- xs[lo:hi] = .. -/
def gCut (to : TE) (tl th : TO) : TG := fun v σ H Q => to σ H fun x H1 => tl σ H1 fun l H2 => th σ H2 fun u H3 => ∃ (p b : Addr) (xs ys : List V) (a c : Int), x = .ref p ∧ v = .ref b ∧ l = some a ∧ u = some c ∧ H3 p = some (.lst xs) ∧ H3 b = some (.lst ys) ∧ p ≠ b ∧
  0 ≤ a ∧ a ≤ c ∧ c ≤ xs.length ∧ xs.length + ys.length ≤ sizeLine ∧ Q σ (upd H3 p (.lst (xs.take a.toNat ++ ys ++ xs.drop c.toNat)))
theorem pg_cut {o : Expr} {lo hi : Option Expr} {to : TE} {tl th : TO} {p2 pos : Pos} (ho : PE X o to) (hl : PO X lo tl) (hu : PO X hi th)
    (ha : ∀ v, assign (.Subscript o (.Slice lo hi none p2) pos) X.env v = (do
      let ov ← holding [v] (eval o X.env)
      let iv ← holding [v, ov] (eval (.Slice lo hi none p2) X.env)
      standAt pos
      holding [v, ov, iv] (setItem ov iv v)
      release [iv, v, ov] []) := by intro _; rfl) : PG X (.Subscript o (.Slice lo hi none p2) pos) (gCut to tl th) := by
  refine ⟨fun pins s σ H v u Q I r h => ?_⟩
  rw [ha]
  refine wpAny_bind (wpAny_holding (thn (ho.run pins s σ H _ I h) fun ov s1 ⟨x, H1, I1, r1, q1⟩ => ?_))
  refine wpAny_bind (wpAny_holding ?_)
  refine wpAny_Slice (thn (hl.run pins s1 σ H1 _ I1 q1) fun vl s2 ⟨l, H2, I2, pl, q2⟩ => thn (hu.run pins s2 σ H2 _ I2 q2) fun vu s3 ⟨u', H3, I3, pu, q3⟩ => ?_)
  rw [evalPart_none]
  refine wpAny_pure ?_
  have I4 : Inv X pins σ H3 { s3 with heap := s3.heap.push { cls := .type "slice", data := .fields #[vl, vu, .none] } } := I3.kept (t' := s3.toks) fun b ob q => Heap.get?_push_of_some _ q
  obtain ⟨p, b, xs, ys, a, c, e1, e2, e3, e4, h1, h2, hne, k1, k2, k3, hz, q⟩ := q3
  subst e1 e2 e3 e4
  have ra : RelV (.int a) vl := by
    cases pl with
    | int i t => exact ⟨t, rfl⟩
  have rc : RelV (.int c) vu := by
    cases pu with
    | int i t => exact ⟨t, rfl⟩
  cases r1
  cases r
  refine wpAny_bind (wpAny_standAt (wpAny_bind (wpAny_holding (thn (set_slice (Q := fun _ s' => ∃ H4, Inv X pins σ H4 s' ∧ Q σ H4) (s := { s3 with heap := s3.heap.push { cls := .type "slice", data := .fields #[vl, vu, .none] } }) I4 h1 h2 hne (Heap.IsSliceOf.new ..) ra rc k1 k2 k3 hz fun s' J => ⟨_, J, q⟩) fun _ s5 h5 => ?_))))
  obtain ⟨H4, J, q4⟩ := h5
  exact wpAny_release ⟨σ, H4, J, q4⟩
theorem gl_ {es : List Expr} {k : Nat} {t : TGs} {n : Nat} {pos : Pos} (hc : X.calm = true) (h : PGs X es t) (eK : X.K = K := by rfl)
    (hn : (assignEach es X.env).length = n := by rfl) (hst : (assignEach es X.env).findIdx? (·.1) = none := by rfl) : PG X (.Tuple es k pos) (gLst K n t) := by
  subst eK
  exact pg_lst hc h hn hst
/-- text.find(sign) -/
def rFind1 : V → List V → Hp → VK → Prop := fun x xs H Q => ∃ (l : List Nat) (c : Nat), x = Fw.vS l ∧ xs = [Fw.vS [c]] ∧ Q (.int (if c ∈ l then (l.idxOf c : Int) else -1)) H
theorem find_one (l : List Nat) (c : Nat) : Txt.find (S l) (S [c]) = if c ∈ l then (l.idxOf c : Int) else -1 := by
  unfold Txt.find
  by_cases h : c ∈ l
  · obtain ⟨r, e⟩ := occ_idx h
    rw [if_pos h]
    show (match Builtin.Str.occurrences (S l) (S [c]) 0 (S l).length 1 with | i :: _ => (i : Int) | [] => -1) = _
    rw [e]
  · rw [if_neg h]
    show (match Builtin.Str.occurrences (S l) (S [c]) 0 (S l).length 1 with | i :: _ => (i : Int) | [] => -1) = _
    rcases StrLaws.occ_head (S l) (S [c]) 1 (Nat.le_refl _) with ⟨e, _⟩ | ⟨i, r, e, ha, _⟩
    · rw [e]
    · have h1 := (StrLaws.subAt_one (S l) c i).mp ha
      rw [S_list] at h1
      exact absurd (List.mem_of_getElem? h1) h
theorem mt_find1 : MtR X "str.find" rFind1 := by
  intro pins s σ H x xs v us Q I rx rs h
  obtain ⟨l, c, e1, e2, q⟩ := h
  exact mt_find pins s σ H x xs v us Q I rx rs ⟨S l, S [c], e1, e2, by rw [find_one]; exact q⟩
theorem pe_find1 {o e : Expr} {apos pos : Pos} {to te : TE} (ho : PE X o to) (he : PE X e te) (hs : starEach [e] X.env = [(false, eval e X.env)] := by rfl) (hbase : attributeBase o "find" X.env (eval o X.env) = eval o X.env := by rfl) (hline : (apos.endLine == pos.line) = true := by rfl) :
    PE X (.Call (.Attribute o "find" apos) [e] [] pos) (tM1 rFind1 to te) := pe_m1 PySem.F.slot_str_find PySem.F.type_str_find mt_find1 ho he hs hbase hline
end
/-! ### their readings -/
section
variable {ρ ρ' ρ'' α β δ κ τ : Type} {E : En ρ} {E' : En ρ'} {E1 : En ρ''} {Ec : En κ} {ta tb tc te ti t : TE} {tA : TA} {A : Rp α} {B : Rp β} {R : Rp α} {K : PySem.W.Frag} {w : World} {s : RRt β} {u : TS} {m : ρ → Option (Res ρ' κ β)}
theorem sc_sumT2 : SC (rSumT K) (aC (jT (yC jI (y1 jI))) aN) (sF jI) (fun x => some (x.1.1 + x.1.2)) := sc_val fun {_ _ _ a _} s0 ⟨v, r, e1, ⟨p, vs, e3, h, v1, r1, e4, q1, v2, e5, q2⟩, e2⟩ k => by
  subst e1 e2 e3 e4 e5
  refine ⟨p, [a.1.1, a.1.2], rfl, .inl (.inl ?_), ?_⟩
  · have e := s0 _ _ h
    rw [show v1 = V.int a.1.1 from q1, show v2 = V.int a.1.2 from q2] at e
    exact e
  · have e : ([a.1.1, a.1.2] : List Int).sum = a.1.1 + a.1.2 := by simp
    rw [e]
    exact k _ rfl
/-! a module's dict of texts -/
/-- the value of a sign -/
def dget {τ : Type} (d : List (List Nat × τ)) (x : List Nat) : Option τ := (d.find? fun q => decide (q.1 = x)).map (·.2)
theorem se_kdI {a : Addr} {kvs : List (List Nat × Int)} {fa : ρ → Option (List Nat)} (hx : ∀ q ∈ kvs, KDct K w a (S q.1) (.int q.2)) (h : SE te E (sF jS) fa) : SE (tOp (rIxD K w) (tC (.ref a)) te) E (sF jI) (fun γ => ob (fa γ) fun x => dget kvs x) := ⟨fun s0 hL hE e k => by
  obtain ⟨x, e1, e⟩ := ob_some e
  unfold dget at e
  cases hf : kvs.find? (fun q => decide (q.1 = x)) with
  | none => rw [hf] at e; cases e
  | some q =>
    rw [hf] at e
    cases e
    have hq : q.1 = x := by simpa using List.find?_some hf
    refine h s0 hL hE e1 fun v F1 H1 L1 s1 ⟨z1, r1⟩ => ?_
    subst z1
    refine ⟨a, S x, .int q.2, rfl, r1.1, by rw [← hq]; exact hx q (List.mem_of_find?_eq_some hf), k _ _ _ [] s1 ⟨rfl, rfl⟩⟩⟩
theorem se_kdS {a : Addr} {kvs : List (List Nat × List Nat)} {fa : ρ → Option (List Nat)} (hx : ∀ q ∈ kvs, KDct K w a (S q.1) (Fw.vS q.2)) (hk : ∀ q ∈ kvs, okS q.2) (h : SE te E (sF jS) fa) : SE (tOp (rIxD K w) (tC (.ref a)) te) E (sF jS) (fun γ => ob (fa γ) fun x => dget kvs x) := ⟨fun s0 hL hE e k => by
  obtain ⟨x, e1, e⟩ := ob_some e
  unfold dget at e
  cases hf : kvs.find? (fun q => decide (q.1 = x)) with
  | none => rw [hf] at e; cases e
  | some q =>
    rw [hf] at e
    cases e
    have hq : q.1 = x := by simpa using List.find?_some hf
    refine h s0 hL hE e1 fun v F1 H1 L1 s1 ⟨z1, r1⟩ => ?_
    subst z1
    refine ⟨a, S x, Fw.vS q.2, rfl, r1.1, by rw [← hq]; exact hx q (List.mem_of_find?_eq_some hf), k _ _ _ [] s1 ⟨rfl, rfl, hk q (List.mem_of_find?_eq_some hf)⟩⟩⟩
/-! range(a, b, c) -/
theorem rgc_from {a b c : Int} (hc : 0 < c ∧ c < 1073741824) (ha : 0 ≤ a ∧ a < 2 ^ 61) (hb : 0 ≤ b ∧ b < 2 ^ 61) : RgC a b c (((b - a).toNat + c.toNat - 1) / c.toNat) := by
  have hs : Builtin.Range.rangeSize a b c = ((((b - a).toNat + c.toNat - 1) / c.toNat : Nat) : Int) := by
    unfold Builtin.Range.rangeSize
    rw [if_pos (by omega)]
    by_cases h : a < b
    · rw [if_pos h]
      obtain ⟨n, hn⟩ : ∃ n : Nat, b - a = (n : Int) + 1 := ⟨(b - a - 1).toNat, by omega⟩
      obtain ⟨d, hd⟩ : ∃ d : Nat, c = (d : Int) := ⟨c.toNat, by omega⟩
      subst hd
      rw [hn, show ((n : Int) + 1).toNat + ((d : Int)).toNat - 1 = n + d by omega, Int.toNat_natCast, Nat.add_div_right _ (by omega), show (n : Int) + 1 - 1 = (n : Int) by omega]
      omega
    · rw [if_neg h, Nat.div_eq_of_lt (by omega)]
      rfl
  have e : Builtin.Range.small a b c = true := by
    unfold Builtin.Range.small
    rw [hs]
    simp only [Builtin.Range.rangeFitsLong, Bool.and_eq_true, Bool.or_eq_true, decide_eq_true_eq, beq_iff_eq]
    have hd : 0 < c.toNat := by omega
    have hle : ((b - a).toNat + c.toNat - 1) / c.toNat ≤ (b - a).toNat := by
      rw [Nat.div_le_iff_le_mul hd]
      have : (b - a).toNat ≤ (b - a).toNat * c.toNat := Nat.le_mul_of_pos_right _ hd
      omega
    have hle3 : ((((b - a).toNat + c.toNat - 1) / c.toNat : Nat) : Int) * c ≤ ((b - a).toNat : Int) + c - 1 := by
      have := Nat.div_mul_le_self ((b - a).toNat + c.toNat - 1) c.toNat
      have e : c = (c.toNat : Int) := by omega
      rw [e, ← Int.natCast_mul]
      rw [Int.toNat_natCast]
      omega
    generalize ((b - a).toNat + c.toNat - 1) / c.toNat = d at hle hle3 ⊢
    refine ⟨⟨⟨⟨⟨by omega, by omega⟩, by omega, by omega⟩, by omega, by omega⟩, by omega, by omega⟩, .inr ?_⟩
    rw [if_pos (by omega), Bool.and_eq_true, decide_eq_true_eq, decide_eq_true_eq]
    omega
  exact ⟨by omega, by omega, e, hs⟩
theorem si_r3 {f : ρ → Option (Int × Int × Int × Unit)} (h : SA tA E (aC jI (aC jI (aC jI aN))) f) : SI (iRng3 tA) E jI (fun γ => ob (f γ) fun x => pck ((0 ≤ x.1 ∧ x.1 < 2305843009213693952) ∧ (0 ≤ x.2.1 ∧ x.2.1 < 2305843009213693952) ∧ 0 < x.2.2.1 ∧ x.2.2.1 < 1073741824) (prangeC x.1 x.2.2.1 (((x.2.1 - x.1).toNat + x.2.2.1.toNat - 1) / x.2.2.1.toNat))) where
  run s0 hL he e k := by
    obtain ⟨x, e1, e⟩ := ob_some e
    obtain ⟨p, rfl⟩ := pck_some e
    refine h s0 hL he e1 fun vs F1 H1 s1 ⟨v, r, z1, r1, v2, r', z2, r2, v3, r'', z3, r3, z4⟩ => ?_
    subst z1 z2 z3 z4
    exact ⟨x.1, x.2.1, x.2.2.1, _, by rw [show v = .int x.1 from r1, show v2 = .int x.2.1 from r2, show v3 = .int x.2.2.1 from r3], rgc_from p.2.2 p.1 p.2.1, k _ _ _ s1 itc_ok⟩
/-! find -/
def pfind (x y : List Nat) : Option Int := match y with | [c] => some (if c ∈ x then (x.idxOf c : Int) else -1) | _ => none
theorem sm_find : SM rFind1 jS jS (sF jI) (fun x y => pfind x y) := ⟨fun {_ _ _ _ x y _ _} s0 r1 r2 e k => by
  match y, r2, e with
  | [c], r2, e =>
    cases e
    exact ⟨x, c, r1.1, by rw [show _ = Fw.vS [c] from r2.1], k _ _ _ [] (Step.nil s0) ⟨rfl, rfl⟩⟩⟩
/-! lists of two, taken apart -/
def jP2 (A : Rp α) : Rp (α × α) := ⟨fun F v x => ∃ a v1 v2, v = .ref a ∧ F a = some (.lst [v1, v2]) ∧ A.r F v1 x.1 ∧ A.r F v2 x.2, fun s ⟨a, v1, v2, e, h, p, q⟩ => ⟨a, v1, v2, e, s _ _ h, A.m s p, A.m s q⟩⟩
def ptwo {τ : Type} : List (List τ) → Option (List (τ × τ))
  | [] => some []
  | [x, y] :: r => ob (ptwo r) fun q => some ((x, y) :: q)
  | _ :: _ => none
theorem two_of {F : Hp} : ∀ {vs : List V} {xs : List (List α)} {ys : List (α × α)}, Paired ((jL A).r F) vs xs → ptwo xs = some ys → Paired ((jP2 A).r F) vs ys
  | _, _, _, .nil, e => by cases e; exact .nil
  | _, [] :: _, _, .cons _ _, e => nomatch e
  | _, [_] :: _, _, .cons _ _, e => nomatch e
  | _, [x, y] :: xs, ys, .cons ⟨a, us, e1, h, p⟩ t, e => by
    obtain ⟨q, e2, e⟩ := ob_some (show (ob (ptwo xs) fun q => some ((x, y) :: q)) = some ys from e)
    cases e
    cases p with
    | cons r1 p => cases p with
      | cons r2 p =>
        cases p
        exact .cons ⟨a, _, _, e1, h, r1, r2⟩ (two_of t e2)
  | _, (_ :: _ :: _ :: _) :: _, _, .cons _ _, e => nomatch e
theorem si_list2 {f : ρ → Option (List (List α))} (h : SE te E (sF (jL (jL A))) f) : SI (iList K te) E (jP2 A) (fun γ => ob (f γ) ptwo) where
  run s0 hL he e k := by
    obtain ⟨x, e1, e⟩ := ob_some e
    refine h s0 hL he e1 fun v F1 H1 L1 s1 ⟨z1, a, vs, e2, h2, p⟩ => ?_
    subst z1 e2
    exact ⟨a, rfl, ⟨vs, .inl (.inl (s1.fh _ _ h2))⟩, k _ _ _ s1 (itl_ok (.inl (.inl h2)) (two_of p e))⟩
theorem sg_lst2 {gs : TGs} {is : List Nat} {u : α × α → ρ → ρ'} (h : SGs gs is E (yC A (y1 A)) E' u) : SG (gLst K 2 gs) is E (jP2 A) E' u := ⟨fun s0 he ⟨a, v1, v2, e, r, p, q⟩ k =>
  ⟨a, _, e, .inl (.inl (s0 _ _ r)), rfl, h s0 he ⟨v1, [v2], rfl, p, v2, rfl, q⟩ k⟩⟩
/-! own things within own things, read -/
theorem se_plIx {f : ρ → Option (List α)} {up : ρ → List α → Option τ} {pt : τ → ρ → ρ} {fi : ρ → Option Int} (ht : SPl t E (sD (sF R)) f up pt) (hi : SE ti E (sF jI) fi) : SE (tOp (rIxL K) t ti) E (sF R) (fun γ => ob (f γ) fun xs => ob (fi γ) fun i => pat xs i) := ⟨fun {σ F H L γ y Q} s0 hL hE e k => by
  refine (pl_ix (K := K) ht hi).run s0 hL hE e fun v F' H' st ⟨pre, L1, post, h1, ⟨z, r⟩, _⟩ => ?_
  subst z
  exact k v F' H' [] st ⟨rfl, r⟩⟩
theorem se_plLen {s1 : Sl α} {f : ρ → Option (List α)} {up : ρ → List α → Option τ} {pt : τ → ρ → ρ} (ht : SPl t E (sD s1) f up pt) : SE (tCB (rLenQ K) (tCons t tNil)) E (sF jI) (fun γ => ob (f γ) fun xs => some (xs.length : Int)) := ⟨fun {σ F H L γ y Q} s0 hL hE e k => by
  obtain ⟨xs, e1, e⟩ := ob_some e
  cases e
  refine ht.run s0 hL hE e1 fun v F1 H1 st1 ⟨pre, L1, post, h1, ⟨p, vs, M, h2, h3, h4⟩, h5⟩ => ?_
  subst h2 h3
  have hp := st1.hh _ _ (hL (p, .lst vs) (by rw [h1]; simp))
  refine ⟨p, vs, rfl, .inl (.inl (.inl hp)), ?_⟩
  rw [h4.len]
  exact k _ _ _ [] st1 ⟨rfl, rfl⟩⟩
/-! xs[a:c] = ys -/
theorem ss_cut {i : Nat} {R : Rp α} {g : ρ → List α} {up : List α → ρ → ρ} {fe : ρ → Option (List α)} {fa fc : ρ → Option Int} (hu' : Up E i R g up) (he : SE te E (sO R) fe) (hl : SE ta E (sF jI) fa) (hh : SE tc E (sF jI) fc) (hu : SS u E E' Ec s m) :
    SS (tSeq (tAsg te (gCut (tVar i) (tPart ta) (tPart tc))) u) E E' Ec s (fun γ => ob (fe γ) fun ys => ob (fa γ) fun a => ob (fc γ) fun c => ob (pck ((0 ≤ a ∧ a ≤ c ∧ c ≤ ((g γ).length : Int)) ∧ (g γ).length + ys.length ≤ sz) ((g γ).take a.toNat ++ ys ++ (g γ).drop c.toNat)) fun zs => m (up zs γ)) := ⟨fun O hE e fin => by
  obtain ⟨ys, e1, e⟩ := ob_some e
  obtain ⟨a, e2, e⟩ := ob_some e
  obtain ⟨c, e3, e⟩ := ob_some e
  obtain ⟨zs, e4, e⟩ := ob_some e
  obtain ⟨⟨⟨k1, k2, k3⟩, k4⟩, rfl⟩ := pck_some e4
  refine he O.fh (Held.of O) hE e1 fun v F1 H1 L1 s1 ⟨b, us, z1, z2, r1⟩ => ?_
  subst z1 z2
  have O1 := Own.on O s1
  obtain ⟨p, vs, j, h1, h2, h3, h4⟩ := hu' (E.m s1.f0 hE)
  refine ⟨.ref p, h1, ?_⟩
  refine hl O1.fh (fun q hq => (Held.of O1) q (List.mem_append_right _ hq)) (E.m s1.f0 hE) e2 fun w2 F2 H2 L2 s2 ⟨z2, r2⟩ => ?_
  subst z2
  have O2 := Own.on O1 s2
  rw [List.nil_append] at O2
  refine ⟨a, r2, ?_⟩
  refine hh O2.fh (fun q hq => (Held.of O2) q (List.mem_append_right _ hq)) (E.m (s1.f0.trans s2.f0) hE) e3 fun w3 F3 H3 L3 s3 ⟨z3, r3⟩ => ?_
  subst z3
  have O3 := Own.on O2 s3
  rw [List.nil_append] at O3
  refine ⟨c, r3, ?_⟩
  have hl1 := Paired.len h3
  have hl2 := Paired.len r1
  have hne : p ≠ b := fun z => by
    have nd := O3.nd
    rw [List.singleton_append, List.map_cons] at nd
    have := (List.nodup_cons.mp nd).1
    exact this (List.mem_map.mpr ⟨(p, .lst vs), List.mem_of_getElem? h2, z⟩)
  have O4 := O3.set (i := j + 1) (a := p) (o := .lst vs) (by rw [List.singleton_append, List.getElem?_cons_succ]; exact h2) (.lst (vs.take a.toNat ++ us ++ vs.drop c.toNat))
  rw [List.singleton_append, List.set_cons_succ] at O4
  refine ⟨p, b, vs, us, a, c, rfl, rfl, rfl, rfl, O3.at_ (j + 1) (by rw [List.singleton_append, List.getElem?_cons_succ]; exact h2), O3.at_ 0 rfl, hne, k1, k2, by rw [hl1]; exact k3, sz_le (by rw [hl1, hl2]; exact k4), ?_⟩
  have sF := (s1.f0.trans s2.f0).trans s3.f0
  refine hu.run (OwnSb O4 (Sb.dropL [(b, HO.lst us)] _)) (h4 F3 _ _ (s2.f0.trans s3.f0) ?_) e (fin.mo sF)
  have q1 : Paired (R.r F3) vs (g _) := Paired.mono (fun _ _ q => R.m (s2.f0.trans s3.f0) q) h3
  have q2 : Paired (R.r F3) us ys := Paired.mono (fun _ _ q => R.m (s2.f0.trans s3.f0) q) r1
  exact Paired.app (Paired.app (Paired.tk _ q1) q2) (Paired.dp _ q1)⟩
end
end Mi

namespace Mi
open PySem PySem.Spec PyProof.Rows L2 Fw
/-! ### lent lists, results that name no frozen thing -/
theorem Step.weak {F H F' H' : Hp} {L : List (Addr × HO)} (s0 : Same F H) (s : Step H H F' H' L) : Step F H F H' L :=
  ⟨Same.refl _, s0.trans s.hh, s.hh, fun _ _ h => .inl h, fun q hq => let ⟨_, h2, h3⟩ := s.own q hq; ⟨s0.free h2, h2, h3⟩, s.nd, trivial⟩
section
variable {ρ ρ' ρ'' α β δ κ τ : Type} {E : En ρ} {E' : En ρ'} {E1 : En ρ''} {Ec : En κ} {ta tb tc te t : TE} {tA : TA} {A : Rp α} {D : Rp δ} {K : PySem.W.Frag} {u : TS}
structure ScalS (s : Sl α) : Prop where
  run : ∀ {F F' : Hp} {v : V} {L : List (Addr × HO)} {x : α}, s.r v F L x → s.r v F' L x
theorem scsF (h : Scal A) : ScalS (sF A) := ⟨fun ⟨e, r⟩ => ⟨e, h.run r⟩⟩
theorem scsO (h : Scal A) : ScalS (sO A) := ⟨fun ⟨p, vs, e, h1, q⟩ => ⟨p, vs, e, h1, Paired.mono (fun _ _ q => h.run q) q⟩⟩
theorem se_callRS {a : Ar α} {s : Sl β} {f : ρ → Option α} {m : α → Option β} {Ex : XK} (h : SRA tA E a f) (hd : ScalS s) : SE (tCall (spM a s m) [] Ex tA) E s (fun γ => ob (f γ) m) := ⟨fun s0 hL he e k => by
  obtain ⟨x, e1, e⟩ := ob_some e
  rw [q_call]
  exact h.run s0 hL he e1 fun vs F1 H1 s1 r1 => ⟨H1, x, _, Same.refl _, r1, e, fun v F' H' L s2 r2 => k v F1 H' L (s1.tr (Step.weak s1.fh s2)) (hd.run r2)⟩⟩
end
/-! ### exceptions -/
/-- class, line, column -/
abbrev Exn := Nat × Int × Int
def exN : Nat → Str
  | 0 => "InvalidLine"
  | 1 => "InvalidPack"
  | 2 => "NotAnIndex"
  | 3 => "Truncated"
  | 4 => "Damaged"
  | _ => "HomeError"
def exR (K : PySem.W.Frag) (e : Exn) (cls : Value) (d : Option Addr) (F : Hp) : Prop := cls = .ref (He.ga K (exN e.1)) ∧
  ((e.1 = 0 ∧ ∃ dd fs, d = some dd ∧ F dd = some (.xd fs) ∧ fs.lookup ("line" : Str) = some (V.int e.2.1) ∧ fs.lookup ("column" : Str) = some (V.int e.2.2)) ∨ (e.1 ≠ 0 ∧ d = none))
theorem exR.mono {K : PySem.W.Frag} {e : Exn} {cls : Value} {d : Option Addr} {F F' : Hp} (s : Same F F') (h : exR K e cls d F) : exR K e cls d F' := by
  obtain ⟨h1, h2 | h2⟩ := h
  · obtain ⟨h0, dd, fs, a, b, c⟩ := h2
    exact ⟨h1, .inl ⟨h0, dd, fs, a, s _ _ b, c⟩⟩
  · exact ⟨h1, .inr h2⟩
/-- what a raise wishes -/
def rX {β : Type} (K : PySem.W.Frag) (E : XK) (R : RRt β) : RRt (Except Exn β) := ⟨fun F0 H0 Fs Q r => match r with
  | .ok b => R.fin F0 H0 Fs Q b
  | .error e => ∀ cls d F H, Same Fs F → Own F0 H0 F H [] [] → exR K e cls d F → E cls d H, fun {_ _ _ _ _ b} h sF => by
    cases b with
    | ok b => exact R.mo h sF
    | error e => exact fun cls d F H s2 => h cls d F H (sF.trans s2)⟩
section
variable {ρ ρ' ρ'' α β δ κ τ : Type} {E : En ρ} {E' : En ρ'} {E1 : En ρ''} {Ec : En κ} {ta tb tc te t : TE} {tA : TA} {A : Rp α} {B : Rp β} {D : Rp δ} {K : PySem.W.Frag} {u : TS} {W : WX} {s : Sl α} {R : RRt β} {E0 : XK}
def obx {α β : Type} (x : Option (Except Exn α)) (f : α → Option (Except Exn β)) : Option (Except Exn β) := ob x fun r => match r with
  | .ok a => f a
  | .error e => some (.error e)
def rbx {α ρ κ β : Type} (x : Option (Except Exn α)) (f : α → Option (Res ρ κ (Except Exn β))) : Option (Res ρ κ (Except Exn β)) := ob x fun r => match r with
  | .ok a => f a
  | .error e => some (.ret (.error e))
def okx {α : Type} : Except Exn α → Option α
  | .ok a => some a
  | .error _ => none
/-- called with such arguments, it hands back what the mirror tells, or raises it -/
def spX (K : PySem.W.Frag) (A : Ar ρ) (s : Sl β) (m : ρ → Option (Except Exn β)) : Sp := fun vs H Q E => ∃ F γ b, Same F H ∧ A.r F vs γ ∧ m γ = some b ∧ match b with
  | .ok b => ∀ v F' H' L, Step F H F' H' L → s.r v F' L b → Q v H'
  | .error e => ∀ cls d F' H', Step F H F' H' [] → exR K e cls d F' → E cls d H'
def spUX (K : PySem.W.Frag) (A : Au ρ) (R : Rp α) (m : List α → ρ → Option (Except Exn (List α))) : Sp := fun vs H Q E => ∃ F p ws xs γ b, Same F H ∧ F p = none ∧ H p = some (.lst ws) ∧ Paired (R.r F) ws xs ∧ A.r F vs p γ ∧ m xs γ = some b ∧ match b with
  | .ok ys => ∀ F' H' ws', Own F (cutH H p) F' H' [(p, .lst ws')] [] → Paired (R.r F') ws' ys → Q .non H'
  | .error e => ∀ cls d F' H', Own F (cutH H p) F' H' [] [] → exR K e cls d F' → E cls d H'
structure SEX (K : PySem.W.Frag) (W : WX) (t : TE) (E : En ρ) (s : Sl α) (f : ρ → Option (Except Exn α)) : Prop where
  run : ∀ {σ : L2.St} {F H : Hp} {L : List (Addr × HO)} {γ : ρ} {x : Except Exn α} {Q : VK}, Same F H → Held H L → E.r σ F L γ → f γ = some x → (match x with
    | .ok x => ∀ v F' H' L1, Step F H F' H' L1 → s.r v F' L1 x → Q v H'
    | .error e => ∀ cls d F' H', Step F H F' H' [] → exR K e cls d F' → W cls d σ H') → t σ H Q
theorem sx_call {a : Ar δ} {f : ρ → Option δ} {m : δ → Option (Except Exn α)} (h : SA tA E a f) : SEX K W (tCallS (spX K a s m) (WE W) tA) E s (fun γ => ob (f γ) m) := ⟨fun {σ F H L γ x Q} s0 hL he e k => by
  obtain ⟨y, e1, e⟩ := ob_some e
  show tA σ H fun vs H1 => spX K a s m vs H1 Q (WE W σ)
  refine h s0 hL he e1 fun vs F1 H1 s1 r1 => ⟨F1, y, x, s1.fh, r1, e, ?_⟩
  cases x with
  | ok x => exact fun v F' H' L s2 r2 => k v F' H' L (s1.tr s2) r2
  | error er => exact fun cls d F' H' s2 r2 => k cls d F' H' (s1.tr s2) r2⟩
/-- where it can't raise -/
theorem se_callX {a : Ar δ} {f : ρ → Option δ} {m : δ → Option (Except Exn α)} {Ex : XK} (h : SA tA E a f) : SE (tCall (spX K a s m) [] Ex tA) E s (fun γ => ob (f γ) fun x => ob (m x) okx) := ⟨fun s0 hL he e k => by
  obtain ⟨x, e1, e⟩ := ob_some e
  obtain ⟨r, e2, e⟩ := ob_some e
  rw [q_call]
  refine h s0 hL he e1 fun vs F1 H1 s1 r1 => ⟨F1, x, r, s1.fh, r1, e2, ?_⟩
  cases r with
  | ok y => cases e; exact fun v F' H' L s2 r2 => k v F' H' L (s1.tr s2) r2
  | error er => cases e⟩
variable {m : ρ'' → Option (Res ρ' κ (Except Exn β))} {m0 : ρ → Option (Res ρ' κ (Except Exn β))}
theorem ss_asgX {i : Nat} {fe : ρ → Option (Except Exn α)} {p : α → ρ → ρ''} (he : SEX K (fun c d _ H => E0 c d H) te E s fe) (hp : Pt E i s E1 p) (hu : SS u E1 E' Ec (rX K E0 R) m) : SS (tSeq (tAsg te (gName i)) u) E E' Ec (rX K E0 R) (fun γ => rbx (fe γ) fun x => m (p x γ)) := ⟨fun O hE e fin => by
  obtain ⟨x, e1, e⟩ := ob_some e
  refine he.run O.fh (Held.of O) hE e1 ?_
  cases x with
  | ok x =>
    refine fun v F1 H1 L1 s1 r1 => ?_
    obtain ⟨L', h1, h2⟩ := hp (E.m s1.f0 hE) r1
    exact hu.run (OwnSb (Own.on O s1) h2) h1 e (fin.mo s1.f0)
  | error er =>
    cases e
    exact fun cls d F1 H1 s1 r1 => fin cls d F1 H1 s1.f0 (OwnSb (Own.on O s1) (Sb.nil _)) r1⟩
theorem ss_asgGX {g : TG} {is : List Nat} {fe : ρ → Option (Except Exn α)} {p : α → ρ → ρ''} (he : SEX K (fun c d _ H => E0 c d H) te E (sF A) fe) (hp : SG g is E A E1 p) (hu : SS u E1 E' Ec (rX K E0 R) m) : SS (tSeq (tAsg te g) u) E E' Ec (rX K E0 R) (fun γ => rbx (fe γ) fun x => m (p x γ)) := ⟨fun O hE e fin => by
  obtain ⟨x, e1, e⟩ := ob_some e
  refine he.run O.fh (Held.of O) hE e1 ?_
  cases x with
  | ok x =>
    refine fun v F1 H1 L1 s1 ⟨z1, r1⟩ => ?_
    subst z1
    have O1 := Own.on O s1
    rw [List.nil_append] at O1
    exact hp O1.fh (E.m s1.f0 hE) r1 fun σ' L' hb he' _ => hu.run (OwnSb O1 hb) he' e (fin.mo s1.f0)
  | error er =>
    cases e
    exact fun cls d F1 H1 s1 r1 => fin cls d F1 H1 s1.f0 (OwnSb (Own.on O s1) (Sb.nil _)) r1⟩
theorem ss_exprX {fe : ρ → Option (Except Exn α)} (he : SEX K (fun c d _ H => E0 c d H) te E s fe) (hu : SS u E E' Ec (rX K E0 R) m0) : SS (tSeq (tDrop te) u) E E' Ec (rX K E0 R) (fun γ => rbx (fe γ) fun _ => m0 γ) := ⟨fun O hE e fin => by
  obtain ⟨x, e1, e⟩ := ob_some e
  refine he.run O.fh (Held.of O) hE e1 ?_
  cases x with
  | ok x => exact fun v F1 H1 L1 s1 r1 => hu.run (OwnSb (Own.on O s1) (Sb.dropL _ _)) (E.m s1.f0 hE) e (fin.mo s1.f0)
  | error er =>
    cases e
    exact fun cls d F1 H1 s1 r1 => fin cls d F1 H1 s1.f0 (OwnSb (Own.on O s1) (Sb.nil _)) r1⟩
theorem ss_retX {sl : Sl β} {fe : ρ → Option β} (he : SE te E sl fe) : SS (tRet te) E E' Ec (rX K E0 (rS sl)) (fun γ => ob (fe γ) fun x => some (.ret (.ok x))) := ⟨fun O hE e fin => by
  obtain ⟨x, e1, e⟩ := ob_some e
  cases e
  refine he O.fh (Held.of O) hE e1 fun v F1 H1 L1 s1 r1 => ?_
  exact fin v F1 H1 L1 s1.f0 (OwnSb (Own.on O s1) (Sb.dropR _ _)) r1⟩
theorem ss_retOX {i : Nat} {S : Rp α} {g : ρ → List α} (hg : Gt E i (sO S) g) : SS (tRet (tVar i)) E E' Ec (rX K E0 (rS (sO S))) (fun γ => some (.ret (.ok (g γ)))) := ⟨fun {_ _ _ F H L _ _ _} O hE e fin => by
  cases e
  obtain ⟨v, L1, h1, h2, p, vs, h3, h4, h5⟩ := hg hE
  subst h3 h4
  obtain ⟨a, b, hab⟩ := List.append_of_mem (h2 _ List.mem_cons_self)
  refine ⟨_, h1, fin _ F H [(p, .lst vs)] (Same.refl _) (OwnSb O ?_) ⟨p, vs, rfl, rfl, h5⟩⟩
  rw [hab]
  exact ⟨a ++ b, (List.perm_middle (l₁ := a) (l₂ := b)).symm⟩⟩
/-- raise of a class without an __init__ of its own -/
theorem ss_raise0 (c : Nat) (hc : c ≠ 0) {C : Addr} (hC : C = He.ga K (exN c)) : SS (fun _ σ H => (fun (_ : L2.St) (H : Hp) (Q : XK) => Q (.ref C) none H) σ H fun cls d H' => (fun c d (_ : L2.St) H => E0 c d H : WX) cls d σ H') E E' Ec (rX K E0 R) (fun _ => some (.ret (.error (c, 0, 0)))) := ⟨fun {σ F0 H0 F H L γ r D} O hE e fin => by
  cases e
  exact fin (.ref C) none F H (Same.refl _) (OwnSb O (Sb.nil _)) ⟨by rw [hC], .inr ⟨hc, rfl⟩⟩⟩
/-- a call that changes an own list, or raises -/
theorem ss_callUX {a : Au δ} {T : Rp τ} {i : Nat} {g : ρ → List τ} {up : List τ → ρ → ρ} {f : ρ → Option δ} {mc : List τ → δ → Option (Except Exn (List τ))} (hu' : Up E i T g up) (ha : SAu tA E i a f) (hu : SS u E E' Ec (rX K E0 R) m0) :
    SS (tSeq (tDrop (tCallS (spUX K a T mc) (WE fun c d _ H => E0 c d H) tA)) u) E E' Ec (rX K E0 R) (fun γ => ob (f γ) fun y => rbx (mc (g γ) y) fun ys => m0 (up ys γ)) := ⟨fun {σ F0 H0 F H L γ r D} O hE e fin => by
  obtain ⟨y, e1, e⟩ := ob_some e
  obtain ⟨x, e2, e⟩ := ob_some e
  obtain ⟨p, ws, j, h1, h2, h3, h4⟩ := hu' hE
  show tA σ H fun vs H1 => spUX K a T mc vs H1 (fun _ H2 => u D σ H2) (WE (fun c d _ H => E0 c d H) σ)
  refine ha.run O.fh (Held.of O) hE h1 e1 fun vs F1 H1 s1 r1 => ?_
  have O1 := Own.on O s1
  rw [List.nil_append] at O1
  refine ⟨F1, p, ws, g γ, y, x, O1.fh, (O1.own _ (List.mem_of_getElem? h2)).1, O1.at_ j h2, Paired.mono (fun _ _ q => T.m s1.f0 q) h3, r1, e2, ?_⟩
  cases x with
  | ok ys =>
    refine fun F2 H2 ws2 c q2 => ?_
    have O2 := Own.lent O1 h2 c
    exact hu.run O2 (h4 F2 _ _ (s1.f0.trans c.f0) q2) e (fin.mo (s1.f0.trans c.f0))
  | error er =>
    cases e
    refine fun cls d F2 H2 c q2 => fin cls d F2 H2 (s1.f0.trans c.f0) ?_ q2
    have hH0 := (O1.own _ (List.mem_of_getElem? h2)).2.1
    have hc : ∀ b u, b ≠ p → H1 b = some u → H2 b = some u := fun b u n e => c.hh b u (by rw [cutH_ne n]; exact e)
    refine ⟨O1.f0.trans c.f0, c.fh, fun b u e => hc b u (ne_of_none e hH0) (O1.hh b u e), fun b u h => ?_, fun _ h => (nomatch h), List.nodup_nil, trivial⟩
    rcases c.new b u h with h | h
    · exact O1.new b u h
    · by_cases hb : b = p
      · subst hb
        exact .inr hH0
      · rw [cutH_ne hb] at h
        exact .inr (O1.hh.free h)⟩
/-! a try around a call -/
def sE (K : PySem.W.Frag) (a : Addr) (cls : Value) (d : Option Addr) : Sl Exn := ⟨fun v F L e => v = .ref a ∧ L = [] ∧ exR K e cls d F, fun s ⟨h1, h2, h3⟩ => ⟨h1, h2, h3.mono s⟩⟩
theorem ss_try {ρ2 : Type} {E2 : Addr → Value → Option Addr → En ρ2} {a : Ar δ} {C : Addr} {i j : Nat} {ts : Addr → Value → Option Addr → TS} {Wout : WX} {f : ρ → Option δ} {mc : δ → Option (Except Exn α)} {p : α → ρ → ρ''} {pe : Exn → ρ → ρ2} {R' : RRt τ} {mm : ρ'' → Option (Res ρ' κ τ)} {ms : ρ2 → Option (Res Unit Unit τ)} {E4 : Addr → Value → Option Addr → En Unit}
    (hx : ∀ c, PySem.W.exmOne K (.ref (He.ga K (exN c))) (.ref C) = some true) (ha : SA tA E a f) (hp : Pt E j s E1 p) (hu : SS u E1 E' Ec R' mm) (hpe : ∀ a cls d, Pt E i (sE K a cls d) (E2 a cls d) pe) (hs : ∀ a cls d, SS (ts a cls d) (E2 a cls d) (E4 a cls d) eN R' ms) :
    SS (fun D σ H => tSeq (tAsg (tCallS (spX K a s mc) (WE (wAs K (.ref C) i ts Wout D)) tA) (gName j)) u D σ H) E E' Ec R'
      (fun γ => ob (f γ) fun x => ob (mc x) fun r => match r with | .ok y => mm (p y γ) | .error e => ob (Mi.fin (ms (pe e γ))) fun b => some (.ret b)) := ⟨fun {σ F0 H0 F H L γ r D} O hE e fin => by
  obtain ⟨y, e1, e⟩ := ob_some e
  obtain ⟨x, e2, e⟩ := ob_some e
  show tA σ H fun vs H1 => spX K a s mc vs H1 (fun v H2 => u D (σ.set j (some v)) H2) (WE (wAs K (.ref C) i ts Wout D) σ)
  refine ha O.fh (Held.of O) hE e1 fun vs F1 H1 s1 r1 => ⟨F1, y, x, s1.fh, r1, e2, ?_⟩
  have O1 := Own.on O s1
  rw [List.nil_append] at O1
  cases x with
  | ok x =>
    refine fun v F2 H2 L2 s2 r2 => ?_
    obtain ⟨L', h1, h2⟩ := hp (E.m (s1.f0.trans s2.f0) hE) r2
    exact hu.run (OwnSb (Own.on O1 s2) h2) h1 e (fin.mo (s1.f0.trans s2.f0))
  | error er =>
    refine fun cls d F2 H2 s2 r2 => ?_
    have hcl : cls = .ref (He.ga K (exN er.1)) := r2.1
    refine ⟨true, by rw [hcl]; exact hx er.1, fun _ a na => ?_, fun z => nomatch z⟩
    obtain ⟨b, e3, e⟩ := ob_some e
    cases e
    obtain ⟨r3, e4, e5⟩ := ob_some e3
    have O2 := Own.on O1 s2
    rw [List.nil_append] at O2
    obtain ⟨L', h1, h2⟩ := (hpe a cls d).run (v := .ref a) (L1 := []) (x := er) (E.m (s1.f0.trans s2.f0) hE) ⟨rfl, rfl, r2⟩
    refine (hs a cls d).run (OwnSb O2 h2) h1 e4 ?_
    cases r3 with
    | ret b2 =>
      cases e5
      exact R'.mo fin (s1.f0.trans s2.f0)
    | nxt _ => cases e5
    | cnt _ => cases e5
    | brk _ => cases e5⟩
end
/-! ### defs that raise -/
section
variable {ρ ρ' ρ'' α β : Type} {E : En ρ} {E' : En ρ'} {K : PySem.W.Frag} {t : TS}
def DnX (P : Program) (w : World) (K : PySem.W.Frag) (mg : Str → Option Value) (base : Heap) (k : Nat) (f : Addr) (ps : List Str) (sp : Sp) : Prop :=
  ∃ fd, FnOk P w K mg base (L2.CX P w) k f fd ps sp ∧ Binds K fd ps [] ∧ PySem.W.keepIn K (.ref f) = true ∧ Lk K f fd
theorem dnx_mk {P : Program} {w : World} {mg : Str → Option Value} {base : Heap} {x q : Str} {st : Stmt} {f : Addr} {N ps : List Str} {k : Nat} {sp : Sp} (F : ∃ fd, FnP K x q st f fd) (S : FnScope N ps (defScope st))
    (hb : ∀ (kV doc pm : Value) (an : Option Addr) (cdv ct : Value) (us : List Value), us.length = ps.length → bindArgs (PySem.W.fnOf x q (defArgs st) (defBody st) (defScope st) .none kV doc pm an cdv ct) ⟨us, []⟩ = pure (ps.zip us))
    (len : ∀ vs H Q E, sp vs H Q E → vs.length = ps.length)
    (hbody : ∀ (cdv : Value) (A : Around) (outer : List Env) (s : Shared) (H : Hp) (vs : List V) (Q : VK) (E : XK), Room k (A.deeper (envOfC q (defScope st) s.heap.objs.size f cdv)) → sp vs H Q E →
      ∃ t, PSs (cxOf (L2.CX P w) P w K mg base N q (defScope st) f cdv A outer s H E) (defBody st) t ∧ t ⟨fun _ H' => Q .non H', Q, fun _ _ => False, fun _ _ => False⟩ (start N vs) H) : DnX P w K mg base (k + 1) f ps sp := by
  obtain ⟨fd, F⟩ := F
  refine ⟨fd, F.ok S len fun cdv A outer s H vs Q E hr hsp => ?_, F.bindsN hb, F.kp, lk_of F⟩
  obtain ⟨t, h, q⟩ := hbody cdv A outer s H vs Q E hr hsp
  exact ⟨t, h, q⟩
theorem spX_len {a : Ar ρ} {sl : Sl β} {m : ρ → Option (Except Exn β)} {n : Nat} (h : AN a n) : ∀ vs H Q E, spX K a sl m vs H Q E → vs.length = n := fun _ _ _ _ ⟨_, _, _, _, r, _⟩ => h.run r
theorem spUX_len {A : Au ρ} {T : Rp α} {m : List α → ρ → Option (Except Exn (List α))} {n : Nat} (h : AUN A n) : ∀ vs H Q E, spUX K A T m vs H Q E → vs.length = n := fun _ _ _ _ ⟨_, _, _, _, _, _, _, _, _, _, r, _⟩ => h.run r
theorem finX_runX {a : Ar ρ} {sl : Sl β} {n k : Nat} {N : List Str} {mm : ρ → Option (Except Exn β)} {vs : List V} {H : Hp} {Q : VK} {Ex : XK} {D : Ends} (hA : AE a E n) (hn : AN a k) (hN : N.length = k + n) (h : ∃ m : ρ → Option (Res ρ' Unit (Except Exn β)), SS t E E' eN (rX K Ex (rS sl)) m ∧ mm = fun γ => Mi.fin (m γ))
    (q : spX K a sl mm vs H Q Ex) (hD : D.rt = Q) : t D (L2.start N vs) H := by
  obtain ⟨m, hs, hm⟩ := h
  obtain ⟨F, γ, b, s0, r, e, k⟩ := q
  subst hm
  obtain ⟨r1, e1, e2⟩ := ob_some e
  have hl := hn.run r
  have hs' : L2.start N vs = vs.map some ++ List.replicate n none := by
    unfold L2.start
    rw [show N.length - vs.length = n by omega]
  rw [hs']
  refine hs.run (Own.start s0 trivial) (hA.run r) e1 ?_
  cases r1 with
  | ret b2 =>
    cases e2
    cases b with
    | ok y => rw [← hD] at k; exact fun v F' H' L _ O r' => k v F' H' L O r'
    | error er => exact fun cls d F' H' _ O r' => k cls d F' H' O r'
  | nxt _ => cases e2
  | cnt _ => cases e2
  | brk _ => cases e2
/-- of a def that falls off its end or raises -/
def finNX {ρ κ : Type} (x : Option (Res ρ κ (Except Exn Unit))) : Option (Except Exn Unit) := ob x fun r => match r with | .ret b => some b | .nxt _ => some (.ok ()) | _ => none
theorem finNX_runX {a : Ar ρ} {n k : Nat} {N : List Str} {mm : ρ → Option (Except Exn Unit)} {vs : List V} {H : Hp} {Q : VK} {Ex : XK} {D : Ends} (hA : AE a E n) (hn : AN a k) (hN : N.length = k + n) (h : ∃ m : ρ → Option (Res ρ' Unit (Except Exn Unit)), SS t E E' eN (rX K Ex (rS (sF jN))) m ∧ mm = fun γ => finNX (m γ))
    (q : spX K a (sF jN) mm vs H Q Ex) (hD : D.rt = Q) (hD2 : D.nx = fun _ H' => Q .non H') : t D (L2.start N vs) H := by
  obtain ⟨m, hs, hm⟩ := h
  obtain ⟨F, γ, b, s0, r, e, k⟩ := q
  subst hm
  obtain ⟨r1, e1, e2⟩ := ob_some e
  have hl := hn.run r
  have hs' : L2.start N vs = vs.map some ++ List.replicate n none := by
    unfold L2.start
    rw [show N.length - vs.length = n by omega]
  rw [hs']
  refine hs.run (Own.start s0 trivial) (hA.run r) e1 ?_
  cases r1 with
  | ret b2 =>
    cases e2
    cases b with
    | ok y => rw [← hD] at k; exact fun v F' H' L _ O r' => k v F' H' L O r'
    | error er => exact fun cls d F' H' _ O r' => k cls d F' H' O r'
  | nxt _ =>
    cases e2
    exact fun σ F' H' L _ O r' => by rw [hD2]; exact k .non F' H' [] (OwnSb O (Sb.nil _)) ⟨rfl, rfl⟩
  | cnt _ => cases e2
  | brk _ => cases e2
def finUX {ρ κ : Type} (g : ρ → List α) (x : Option (Res ρ κ (Except Exn Unit))) : Option (Except Exn (List α)) := ob x fun r => match r with | .nxt γ => some (.ok (g γ)) | .ret (.error e) => some (.error e) | _ => none
theorem finUX_runX {A : Au ρ} {T : Rp α} {k n : Nat} {N : List Str} {E0 : Addr → En ρ''} {E1 : Addr → En ρ'} {j : List α → ρ → ρ''} {g : ρ' → List α} {i : Nat} {mm : List α → ρ → Option (Except Exn (List α))} {vs : List V} {H : Hp} {Q : VK} {Ex : XK} {D : Ends}
    (hA : ∀ p, AUE A T p (E0 p) n j) (hn : AUN A k) (hN : N.length = k + n) (hg : ∀ p, Gt (E1 p) i (sOA p T) g) (h : ∀ p, ∃ m : ρ'' → Option (Res ρ' Unit (Except Exn Unit)), SS t (E0 p) (E1 p) eN (rX K Ex (rS (sF jN))) m ∧ mm = fun xs γ => finUX g (m (j xs γ))) (q : spUX K A T mm vs H Q Ex)
    (hD2 : D.nx = fun _ H' => Q .non H') : t D (L2.start N vs) H := by
  obtain ⟨F, p, ws, xs, γ, b, s0, hF, hH, q1, r, e, k⟩ := q
  obtain ⟨m, hs, hm⟩ := h p
  subst hm
  obtain ⟨r1, e1, e2⟩ := ob_some e
  have hl := hn.run r
  have hs' : L2.start N vs = vs.map some ++ List.replicate n none := by
    unfold L2.start
    rw [show N.length - vs.length = n by omega]
  rw [hs']
  refine hs.run (Own.lend s0 hF hH) ((hA p).run r q1) e1 ?_
  cases r1 with
  | nxt γ' =>
    cases e2
    refine fun σ F' H' L _ O r' => ?_
    rw [hD2]
    obtain ⟨v, L1, _, h2, vs', _, h4, h5⟩ := hg p r'
    subst h4
    refine k F' H' vs' (OwnSb O ?_) h5
    obtain ⟨a, b, hab⟩ := List.append_of_mem (h2 _ List.mem_cons_self)
    rw [hab]
    exact ⟨a ++ b, (List.perm_middle (l₁ := a) (l₂ := b)).symm⟩
  | ret b2 =>
    cases b2 with
    | ok y => cases e2
    | error er =>
      cases e2
      exact fun cls d F' H' _ O r' => k cls d F' H' O r'
  | cnt _ => cases e2
  | brk _ => cases e2
end
/-! ### what it tells -/
section
variable {α β ρ ρ' κ : Type}
/-- of an outcome -/
def Xf (Q : Except Exn β → Prop) (f : α → Option (Except Exn β)) : Except Exn α → Prop
  | .ok a => W (f a) Q
  | .error e => Q (.error e)
theorem Xf_ok {Q : Except Exn β → Prop} {f : α → Option (Except Exn β)} {a : α} : Xf Q f (.ok a) = W (f a) Q := rfl
theorem Xf_er {Q : Except Exn β → Prop} {f : α → Option (Except Exn β)} {e : Exn} : Xf Q f (.error e) = Q (.error e) := rfl
theorem W_obx {x : Option (Except Exn α)} {f : α → Option (Except Exn β)} {Q : Except Exn β → Prop} : W (obx x f) Q = W x (Xf Q f) := by
  unfold obx
  rw [W_ob]
  congr 1
  funext r
  cases r with
  | ok a => rfl
  | error e => exact W_some
def Xr (Q : Res ρ κ (Except Exn β) → Prop) (f : α → Option (Res ρ κ (Except Exn β))) : Except Exn α → Prop
  | .ok a => W (f a) Q
  | .error e => Q (.ret (.error e))
theorem Xr_ok {Q : Res ρ κ (Except Exn β) → Prop} {f : α → Option (Res ρ κ (Except Exn β))} {a : α} : Xr Q f (.ok a) = W (f a) Q := rfl
theorem Xr_er {Q : Res ρ κ (Except Exn β) → Prop} {f : α → Option (Res ρ κ (Except Exn β))} {e : Exn} : Xr Q f (.error e) = Q (.ret (.error e)) := rfl
theorem W_rbx {x : Option (Except Exn α)} {f : α → Option (Res ρ κ (Except Exn β))} {Q : Res ρ κ (Except Exn β) → Prop} : W (rbx x f) Q = W x (Xr Q f) := by
  unfold rbx
  rw [W_ob]
  congr 1
  funext r
  cases r with
  | ok a => rfl
  | error e => exact W_some
theorem W_okx {a : α} {Q : α → Prop} : W (okx (.ok a)) Q = Q a := W_some
def RfNX (Q : Except Exn Unit → Prop) : Res ρ κ (Except Exn Unit) → Prop
  | .ret b => Q b
  | .nxt _ => Q (.ok ())
  | _ => False
theorem RfNX_ret {Q : Except Exn Unit → Prop} {b : Except Exn Unit} : RfNX (ρ := ρ) (κ := κ) Q (.ret b) = Q b := rfl
theorem RfNX_nxt {Q : Except Exn Unit → Prop} {γ : ρ} : RfNX (κ := κ) Q (.nxt γ) = Q (.ok ()) := rfl
theorem W_finNX {x : Option (Res ρ κ (Except Exn Unit))} {Q : Except Exn Unit → Prop} : W (finNX x) Q = W x (RfNX Q) := by
  unfold finNX
  rw [W_ob]
  congr 1
  funext r
  cases r with
  | nxt γ => exact W_some
  | ret b => exact W_some
  | cnt γ => exact W_none
  | brk γ => exact W_none
def RfUX (Q : Except Exn (List α) → Prop) (g : ρ → List α) : Res ρ κ (Except Exn Unit) → Prop
  | .nxt γ => Q (.ok (g γ))
  | .ret (.error e) => Q (.error e)
  | _ => False
theorem RfUX_nxt {Q : Except Exn (List α) → Prop} {g : ρ → List α} {γ : ρ} : RfUX (κ := κ) Q g (.nxt γ) = Q (.ok (g γ)) := rfl
theorem RfUX_er {Q : Except Exn (List α) → Prop} {g : ρ → List α} {e : Exn} : RfUX (κ := κ) Q g (.ret (.error e)) = Q (.error e) := rfl
theorem W_finUX {g : ρ → List α} {x : Option (Res ρ κ (Except Exn Unit))} {Q : Except Exn (List α) → Prop} : W (finUX g x) Q = W x (RfUX Q g) := by
  unfold finUX
  rw [W_ob]
  congr 1
  funext r
  cases r with
  | nxt γ => exact W_some
  | ret b => cases b with
    | ok y => exact W_none
    | error e => exact W_some
  | cnt γ => exact W_none
  | brk γ => exact W_none
end
end Mi

namespace Mi
open PySem PySem.Spec PyProof.Rows L2 Fw
/-! ### what the text says of the exception classes -/
def exC (K : PySem.W.Frag) (c : Nat) : Addr := He.ga K (exN c)
/-- the classes that isinstance is asked of: 0 to 4 as they are numbered, HomeError, ValueError -/
def exT (K : PySem.W.Frag) (t : Nat) : Value := if t = 6 then .type "ValueError" else .ref (exC K t)
def exIs (c t : Nat) : Bool := decide (c = t) || decide (t = 5) || decide (t = 6)
def xcB (K : PySem.W.Frag) (D : Addr) : Bool := decide (PySem.W.findIn K (.ref D) "__getattribute__" = some (some (.builtin "BaseException.__getattribute__"))) && (decide (PySem.W.findIn K (.ref D) "__getattr__" = some none) && (decide (PySem.W.subIn K (.ref D) (.type "BaseException") = some true) &&
  (PySem.W.hasDictIn K D && (decide (PySem.W.findIn K (.ref D) "__class__" = some (some (.builtin "object.__class__"))) && (decide (PySem.W.specialIn K (.builtin "object.__class__") "__get__" = some (some (.builtin "getset_descriptor.__get__"))) &&
  (decide (PySem.W.takesIn K (.builtin "object.__class__") = some true) && decide (PySem.W.mroIn K D (.type "object") = some true)))))))
theorem xcB_ok {K : PySem.W.Frag} {D : Addr} (h : xcB K D = true) : ExcC K D := by
  obtain ⟨h1, h⟩ := He.ba h
  obtain ⟨h2, h⟩ := He.ba h
  obtain ⟨h3, h⟩ := He.ba h
  obtain ⟨h4, h⟩ := He.ba h
  obtain ⟨h5, h⟩ := He.ba h
  obtain ⟨h6, h⟩ := He.ba h
  obtain ⟨h7, h8⟩ := He.ba h
  exact ⟨of_decide_eq_true h1, of_decide_eq_true h2, of_decide_eq_true h3, h4, of_decide_eq_true h5, of_decide_eq_true h6, of_decide_eq_true h7, of_decide_eq_true h8⟩
def xB (K : PySem.W.Frag) : Bool := (List.range 6).all fun c => xcB K (exC K c) && (decide (PySem.W.exmOne K (.ref (exC K c)) (.ref (exC K 5)) = some true) && ((List.range 7).all fun t => decide (PySem.W.kitOne K (.ref (exC K c)) (exT K t) = some (exIs c t))))
structure XFa (K : PySem.W.Frag) : Prop where
  xc : ∀ c, ExcC K (exC K c)
  xm : ∀ c, PySem.W.exmOne K (.ref (exC K c)) (.ref (exC K 5)) = some true
  is : ∀ c t, t < 7 → PySem.W.kitOne K (.ref (exC K c)) (exT K t) = some (exIs c t)
theorem exC_le (K : PySem.W.Frag) (c : Nat) : ∃ c', c' < 6 ∧ exC K c = exC K c' ∧ ∀ t, t < 7 → exIs c' t = exIs c t := by
  by_cases h : c < 6
  · exact ⟨c, h, rfl, fun _ _ => rfl⟩
  · refine ⟨5, by decide, ?_, fun t ht => ?_⟩
    · obtain ⟨n, rfl⟩ : ∃ n, c = n + 5 := ⟨c - 5, by omega⟩
      rfl
    · unfold exIs
      by_cases h5 : t = 5
      · subst h5; simp
      · by_cases h6 : t = 6
        · subst h6; simp
        · rw [decide_eq_false h5, decide_eq_false h6, decide_eq_false (by omega), decide_eq_false (by omega)]
theorem xB_ok {K : PySem.W.Frag} (h : xB K = true) : XFa K := by
  have key : ∀ c, c < 6 → ExcC K (exC K c) ∧ PySem.W.exmOne K (.ref (exC K c)) (.ref (exC K 5)) = some true ∧ ∀ t, t < 7 → PySem.W.kitOne K (.ref (exC K c)) (exT K t) = some (exIs c t) := fun c hc => by
    have h2 := List.all_eq_true.mp h c (List.mem_range.mpr hc)
    obtain ⟨a, b⟩ := He.ba h2
    obtain ⟨b, d⟩ := He.ba b
    exact ⟨xcB_ok a, of_decide_eq_true b, fun t ht => of_decide_eq_true (List.all_eq_true.mp d t (List.mem_range.mpr ht))⟩
  refine ⟨fun c => ?_, fun c => ?_, fun c t ht => ?_⟩ <;> obtain ⟨c', h1, h2, h3⟩ := exC_le K c <;> rw [h2]
  · exact (key c' h1).1
  · exact (key c' h1).2.1
  · rw [(key c' h1).2.2 t ht, h3 t ht]
/-! ### isinstance(error, C) -/
section
variable {X : Cx} {K : PySem.W.Frag}
def rIsX (K : PySem.W.Frag) (a : Addr) (cls : Value) (d : Option Addr) : List V → Hp → VK → Prop := fun xs H Q => ∃ (D : Addr) (c : V) (cv : Value) (b : Bool), cls = .ref D ∧ ExcC K D ∧ (d = none ∨ ∃ dd fs, d = some dd ∧ H dd = some (.xd fs)) ∧ xs = [.ref a, c] ∧ (∀ u, RelV c u → u = cv) ∧
  PySem.W.kitOne K (.ref D) cv = some b ∧ Q (.bl b) H
theorem isX_ {a : Addr} {cls : Value} {d : Option Addr} {oe : Obj} {pn : List (Addr × Obj)} (hz : Zc cls d oe) (hf : ∃ vs, oe.data = .fields vs) (eK : X.K = K := by rfl) : CallR (X.suite a ((a, oe) :: pn)) (.builtin "isinstance") (rIsX K a cls d) := by
  subst eK
  intro pins s σ H xs us Q I r h
  obtain ⟨D, c, cv, b, rfl, T, hd, rfl, hcv, e, q⟩ := h
  cases r with
  | cons rx rr => cases rr with
    | cons rt rr =>
      cases rr
      cases rx
      obtain rfl := hcv _ rt
      obtain ⟨hget, _⟩ := I.pin (a, oe) (List.mem_append.mpr (.inl List.mem_cons_self))
      obtain ⟨fv, hv⟩ := hf
      obtain ⟨od, J⟩ : ∃ od, PySem.W.InstAt s.heap a oe D od := by
        obtain ⟨z1, z2⟩ := hz
        rcases hd with hd | ⟨dd, fs, hd, hh⟩
        · exact ⟨none, hget, z1, by unfold PySem.W.notCls; rw [hv] <;> rfl, by rw [z2, hd]; trivial⟩
        · have ok : ObjOk X.prog X.w H s.heap dd (.xd fs) := I.hok dd _ hh
          obtain ⟨mA, hns, _⟩ := ok
          obtain ⟨od, ho, _⟩ := lookIn_ns hns
          exact ⟨some od, hget, z1, by unfold PySem.W.notCls; rw [hv] <;> rfl, by rw [z2, hd]; exact ho⟩
      have hcl : (PySem.W.clsIn X.K D).isSome = true := by
        obtain ⟨cd, hc, _⟩ := PySem.W.any_some T.hd
        rw [hc]
        rfl
      exact PySem.W.kia_one (PySem.W.kitx_exc hcl T.hg T.hk T.hs T.ha T.hn T.ht T.hm) I.kIn J e (fun z => nomatch z) fun tk => ⟨.bl b, H, I.kept (t' := tk) fun _ _ z => z, rfl, q⟩
end
section
variable {ρ : Type} {E : En ρ} {K : PySem.W.Frag} {i : Nat} {a : Addr} {cls : Value} {d : Option Addr}
theorem se_isX {g : ρ → Exn} {c : V} {t : Nat} (X : XFa K) (ht : t < 7) (hg : Gt E i (sE K a cls d) g) (hc : ∀ u, RelV c u → u = exT K t) : SE (tCB (rIsX K a cls d) (tCons (tVar i) (tCons (tC c) tNil))) E (sF jB) (fun γ => some (exIs (g γ).1 t)) := ⟨fun s0 hL hE e k => by
  cases e
  obtain ⟨v, L1, h1, _, e1, _, r⟩ := hg hE
  subst e1
  refine ⟨_, h1, exC K (g _).1, c, exT K t, exIs (g _).1 t, r.1, X.xc _, ?_, rfl, hc, X.is _ t ht, k _ _ _ [] (Step.nil s0) ⟨rfl, rfl⟩⟩
  rcases r.2 with ⟨_, dd, fs, e2, e3, _⟩ | ⟨_, e2⟩
  · exact .inr ⟨dd, fs, e2, s0 _ _ e3⟩
  · exact .inl e2⟩
/-- error.line, error.column -/
theorem se_line {g : ρ → Exn} (hg : Gt E i (sE K a cls d) g) : SE (tXf a cls d (exC K 0) "line" (tVar i)) E (sF jI) (fun γ => pck ((g γ).1 = 0) (g γ).2.1) := ⟨fun s0 hL hE e k => by
  obtain ⟨p, rfl⟩ := pck_some e
  obtain ⟨v, L1, h1, _, e1, _, r⟩ := hg hE
  subst e1
  refine ⟨_, h1, rfl, by rw [r.1, p]; rfl, ?_⟩
  rcases r.2 with ⟨_, dd, fs, e2, e3, e4, e5⟩ | ⟨h, _⟩
  · exact ⟨dd, fs, _, e2, s0 _ _ e3, e4, k _ _ _ [] (Step.nil s0) ⟨rfl, rfl⟩⟩
  · exact absurd p h⟩
theorem se_column {g : ρ → Exn} (hg : Gt E i (sE K a cls d) g) : SE (tXf a cls d (exC K 0) "column" (tVar i)) E (sF jI) (fun γ => pck ((g γ).1 = 0) (g γ).2.2) := ⟨fun s0 hL hE e k => by
  obtain ⟨p, rfl⟩ := pck_some e
  obtain ⟨v, L1, h1, _, e1, _, r⟩ := hg hE
  subst e1
  refine ⟨_, h1, rfl, by rw [r.1, p]; rfl, ?_⟩
  rcases r.2 with ⟨_, dd, fs, e2, e3, e4, e5⟩ | ⟨h, _⟩
  · exact ⟨dd, fs, _, e2, s0 _ _ e3, e5, k _ _ _ [] (Step.nil s0) ⟨rfl, rfl⟩⟩
  · exact absurd p h⟩
end
/-! ### try, said once -/
section
variable {α β ρ κ τ : Type}
def trx (x : Option (Except Exn α)) (f : α → Option (Res ρ κ τ)) (g : Exn → Option (Res Unit Unit τ)) : Option (Res ρ κ τ) := ob x fun r => match r with
  | .ok y => f y
  | .error e => ob (Mi.fin (g e)) fun b => some (.ret b)
def Xt (Q : Res ρ κ τ → Prop) (f : α → Option (Res ρ κ τ)) (g : Exn → Option (Res Unit Unit τ)) : Except Exn α → Prop
  | .ok y => W (f y) Q
  | .error e => W (g e) (Rf fun b => Q (.ret b))
theorem Xt_ok {Q : Res ρ κ τ → Prop} {f : α → Option (Res ρ κ τ)} {g : Exn → Option (Res Unit Unit τ)} {y : α} : Xt Q f g (.ok y) = W (f y) Q := rfl
theorem Xt_er {Q : Res ρ κ τ → Prop} {f : α → Option (Res ρ κ τ)} {g : Exn → Option (Res Unit Unit τ)} {e : Exn} : Xt Q f g (.error e) = W (g e) (Rf fun b => Q (.ret b)) := rfl
theorem W_trx {x : Option (Except Exn α)} {f : α → Option (Res ρ κ τ)} {g : Exn → Option (Res Unit Unit τ)} {Q : Res ρ κ τ → Prop} : W (trx x f g) Q = W x (Xt Q f g) := by
  unfold trx
  rw [W_ob]
  congr 1
  funext r
  cases r with
  | ok a => rfl
  | error e =>
    show W (ob (Mi.fin (g e)) fun b => some (.ret b)) Q = _
    rw [W_ob, W_fin]
    unfold Xt
    congr 2
    funext b
    exact W_some
end
theorem ss_tryN {ρ ρ' ρ'' ρ2 α δ κ τ : Type} {E : En ρ} {E' : En ρ'} {E1 : En ρ''} {Ec : En κ} {tA : TA} {K : PySem.W.Frag} {u : TS} {s : Sl α} {E2 : Addr → Value → Option Addr → En ρ2} {a : Ar δ} {i j : Nat} {ts : Addr → Value → Option Addr → TS} {Wout : WX} {f : ρ → Option δ} {mc : δ → Option (Except Exn α)} {p : α → ρ → ρ''} {pe : Exn → ρ → ρ2} {R' : RRt τ}
    {mm : ρ'' → Option (Res ρ' κ τ)} {ms : ρ2 → Option (Res Unit Unit τ)} {E4 : Addr → Value → Option Addr → En Unit}
    (X : XFa K) (ha : SA tA E a f) (hp : Pt E j s E1 p) (hu : SS u E1 E' Ec R' mm) (hpe : ∀ a cls d, Pt E i (sE K a cls d) (E2 a cls d) pe) (hs : ∀ a cls d, SS (ts a cls d) (E2 a cls d) (E4 a cls d) eN R' ms) :
    SS (fun D σ H => tSeq (tAsg (tCallS (spX K a s mc) (WE (wAs K (.ref (exC K 5)) i ts Wout D)) tA) (gName j)) u D σ H) E E' Ec R' (fun γ => ob (f γ) fun x => trx (mc x) (fun y => mm (p y γ)) (fun e => ms (pe e γ))) :=
  ss_conv (ss_try (Wout := Wout) X.xm ha hp hu hpe hs) (by
    funext γ
    refine congrArg (ob (f γ)) ?_
    funext x
    unfold trx
    refine congrArg (ob (mc x)) ?_
    funext r
    cases r <;> rfl)
end Mi

namespace Mi
open PySem PySem.Spec PyProof.Rows L2 Fw
/-! ### own lists handed over -/
section
variable {ρ ρ' ρ'' α β δ κ τ : Type} {E : En ρ} {E' : En ρ'} {E1 : En ρ''} {Ec : En κ} {tA : TA} {K : PySem.W.Frag} {u : TS} {s : Sl α} {s' : Sl β} {s2 : Sl δ}
/-- a name's thing is replaced by another -/
structure Rx (E : En ρ) (i : Nat) (s : Sl α) (g : ρ → α) (s' : Sl β) (E1 : En ρ'') (put : β → ρ → ρ'') : Prop where
  run : ∀ {σ : L2.St} {F : Hp} {L : List (Addr × HO)} {γ : ρ}, E.r σ F L γ → ∃ v pre L1 post, σ[i]? = some (some v) ∧ L = pre ++ (L1 ++ post) ∧ s.r v F L1 (g γ) ∧
    ∀ v' F' L1' x', Same F F' → s'.r v' F' L1' x' → E1.r (σ.set i (some v')) F' (pre ++ (L1' ++ post)) (put x' γ)
theorem x0 : Rx (eC s E) 0 s (fun γ => γ.1) s' (eC s' E) (fun x γ => (x, γ.2)) := ⟨fun ⟨v, σ', L1, L2, e1, e2, h, t⟩ => by
  subst e1 e2
  exact ⟨v, [], L1, L2, rfl, rfl, h, fun v' F' L1' x' z h' => ⟨v', σ', L1', L2, rfl, rfl, h', E.m z t⟩⟩⟩
theorem xU {i : Nat} {g : ρ → α} {put : β → ρ → ρ''} (h : Rx E i s g s' E1 put) : Rx (eU E) (i + 1) s g s' (eU E1) put := ⟨fun ⟨o, σ', e, t⟩ => by
  subst e
  obtain ⟨v, pre, L1, post, h1, h2, h3, h4⟩ := h.run t
  exact ⟨v, pre, L1, post, h1, h2, h3, fun v' F' L1' x' z h' => ⟨o, _, rfl, h4 v' F' L1' x' z h'⟩⟩⟩
theorem xS {i : Nat} {g : ρ → α} {put : β → ρ → ρ''} (h : Rx E i s g s' E1 put) : Rx (eC s2 E) (i + 1) s (fun γ => g γ.2) s' (eC s2 E1) (fun x γ => (γ.1, put x γ.2)) := ⟨fun ⟨v', σ', La, L2, e1, e2, q, t⟩ => by
  subst e1 e2
  obtain ⟨v, pre, L1, post, h1, h2, h3, h4⟩ := h.run t
  subst h2
  exact ⟨v, La ++ pre, L1, post, h1, by rw [List.append_assoc], h3, fun w F' L1' x' z h' => ⟨v', _, La, _, rfl, by rw [List.append_assoc], s2.m z q, h4 w F' L1' x' z h'⟩⟩⟩
/-- called with such arguments and a list that is handed over -/
def spC (A : Au ρ) (R : Rp α) (s : Sl β) (m : List α → ρ → Option β) : Sp := fun vs H Q _ => ∃ F p ws xs γ b, Same F H ∧ F p = none ∧ H p = some (.lst ws) ∧ Paired (R.r F) ws xs ∧ A.r F vs p γ ∧ m xs γ = some b ∧
  ∀ v F' H' L, Own F (cutH H p) F' H' L [] → s.r v F' L b → Q v H'
/-- a callee has taken the own list at p over -/
theorem Own.given {F0 H0 F H F' H' : Hp} {pre post L' : List (Addr × HO)} {p : Addr} {o : HO} (O : Own F0 H0 F H (pre ++ ([(p, o)] ++ post)) []) (c : Own F (cutH H p) F' H' L' []) : Own F0 H0 F' H' (pre ++ (L' ++ post)) [] := by
  have O1 : Own F0 H0 F H ((p, o) :: (pre ++ post)) [] := O.perm (List.perm_middle (l₁ := pre) (l₂ := post)).symm
  obtain ⟨hF, hH0, hH⟩ := O1.own _ List.mem_cons_self
  have nd := O1.nd
  rw [List.map_cons] at nd
  obtain ⟨n1, n2⟩ := List.nodup_cons.mp nd
  have hc : ∀ b u, b ≠ p → H b = some u → H' b = some u := fun b u n e => c.hh b u (by rw [cutH_ne n]; exact e)
  have key : Own F0 H0 F' H' (L' ++ (pre ++ post)) [] := by
    refine ⟨O1.f0.trans c.f0, c.fh, fun b u e => hc b u (ne_of_none e hH0) (O1.hh b u e), fun b u h => ?_, fun q hq => ?_, ?_, trivial⟩
    · rcases c.new b u h with h | h
      · exact O1.new b u h
      · by_cases hb : b = p
        · subst hb
          exact .inr hH0
        · rw [cutH_ne hb] at h
          exact .inr (O1.hh.free h)
    · rcases List.mem_append.mp hq with hq | hq
      · obtain ⟨h1, h2, h3⟩ := c.own q hq
        refine ⟨h1, ?_, h3⟩
        by_cases hb : q.1 = p
        · rw [hb]; exact hH0
        · rw [cutH_ne hb] at h2
          exact O1.hh.free h2
      · obtain ⟨h1, h2, h3⟩ := O1.own q (List.mem_cons_of_mem _ hq)
        have hb : q.1 ≠ p := fun z => n1 (List.mem_map.mpr ⟨q, hq, z⟩)
        refine ⟨?_, h2, hc _ _ hb h3⟩
        cases z : F' q.1 with
        | none => rfl
        | some u =>
          rcases c.new _ _ z with h | h
          · rw [h1] at h; cases h
          · rw [cutH_ne hb, h3] at h; cases h
    · rw [List.map_append]
      refine List.nodup_append.mpr ⟨c.nd, n2, fun x hx y hy e2 => ?_⟩
      obtain ⟨q, hq, rfl⟩ := List.mem_map.mp hx
      obtain ⟨r, hr, rfl⟩ := List.mem_map.mp hy
      have hb : r.1 ≠ p := fun z => n1 (List.mem_map.mpr ⟨r, hr, z⟩)
      have h3 := (O1.own r (List.mem_cons_of_mem _ hr)).2.2
      have h4 := (c.own q hq).2.1
      rw [e2, cutH_ne hb, h3] at h4
      cases h4
  refine key.perm ?_
  rw [← List.append_assoc, ← List.append_assoc]
  exact List.perm_append_comm.append_right post
theorem ss_asgC {A : Au δ} {T : Rp τ} {i : Nat} {g : ρ → List τ} {put : α → ρ → ρ''} {f : ρ → Option δ} {m : List τ → δ → Option α} {Ex : XK} {R : RRt β} {mm : ρ'' → Option (Res ρ' κ β)} (hr : Rx E i (sO T) g s E1 put) (ha : SAu tA E i A f) (hu : SS u E1 E' Ec R mm) :
    SS (tSeq (tAsg (tCall (spC A T s m) [] Ex tA) (gName i)) u) E E' Ec R (fun γ => ob (f γ) fun a => ob (m (g γ) a) fun b => mm (put b γ)) := ⟨fun {σ F0 H0 F H L γ r D} O hE e fin => by
  obtain ⟨a, e1, e⟩ := ob_some e
  obtain ⟨b, e2, e⟩ := ob_some e
  obtain ⟨v, pre, L1, post, h1, h2, ⟨p, vs, h3, h4, h5⟩, h6⟩ := hr.run hE
  subst h3 h4 h2
  show tCall (spC A T s m) [] Ex tA σ H (fun w H1 => u D (σ.set i (some w)) H1)
  rw [q_call]
  refine ha.run O.fh (Held.of O) hE h1 e1 fun us F1 H1 s1 r1 => ?_
  have O1 := Own.on O s1
  rw [List.nil_append] at O1
  have hp : (p, HO.lst vs) ∈ pre ++ ([(p, HO.lst vs)] ++ post) := by simp
  refine ⟨F1, p, vs, g γ, a, b, O1.fh, (O1.own _ hp).1, (O1.own _ hp).2.2, Paired.mono (fun _ _ q => T.m s1.f0 q) h5, r1, e2, fun w F2 H2 L2 c q2 => ?_⟩
  exact hu.run (Own.given O1 c) (h6 w F2 L2 b (s1.f0.trans c.f0) q2) e (fin.mo (s1.f0.trans c.f0))⟩
structure AUC {α : Type} (A : Au ρ) (R : Rp α) (E : En ρ') (n : Nat) (j : List α → ρ → ρ') : Prop where
  run : ∀ {F : Hp} {vs ws : List V} {xs : List α} {γ : ρ} {p : Addr}, A.r F vs p γ → Paired (R.r F) ws xs → E.r (vs.map some ++ List.replicate n none) F [(p, .lst ws)] (j xs γ)
theorem auc_H {R : Rp α} {T : Ar ρ} {E : En ρ} {n : Nat} (h : AE T E n) : AUC (uH T) R (eC (sO R) E) n (fun xs γ => (xs, γ)) := ⟨fun {F vs ws xs γ p} ⟨r, e, t⟩ q => by
  subst e
  exact ⟨_, _, [(p, .lst ws)], [], rfl, rfl, ⟨p, ws, rfl, rfl, q⟩, h.run t⟩⟩
theorem auc_C {R : Rp α} {B : Rp β} {A : Au ρ} {E : En ρ'} {n : Nat} {j : List α → ρ → ρ'} (h : AUC A R E n j) : AUC (uC B A) R (eC (sF B) E) n (fun xs γ => (γ.1, j xs γ.2)) := ⟨fun ⟨v, r, e, r1, t⟩ q => by
  subst e
  exact ⟨v, _, [], _, rfl, rfl, ⟨rfl, r1⟩, h.run t q⟩⟩
theorem spC_len {A : Au ρ} {R : Rp α} {s : Sl β} {m : List α → ρ → Option β} {n : Nat} (h : AUN A n) : ∀ vs H Q E, spC A R s m vs H Q E → vs.length = n := fun _ _ _ _ ⟨_, _, _, _, _, _, _, _, _, _, r, _⟩ => h.run r
theorem finC_runX {A : Au ρ} {R : Rp α} {s : Sl β} {k n : Nat} {N : List Str} {E0 : En ρ''} {E1 : En ρ'} {j : List α → ρ → ρ''} {t : TS} {mm : List α → ρ → Option β} {vs : List V} {H : Hp} {Q : VK} {Ex : XK} {D : Ends}
    (hA : AUC A R E0 n j) (hn : AUN A k) (hN : N.length = k + n) (h : ∃ m : ρ'' → Option (Res ρ' Unit β), SS t E0 E1 eN (rS s) m ∧ mm = fun xs γ => Mi.fin (m (j xs γ))) (q : spC A R s mm vs H Q Ex) (hD : D.rt = Q) : t D (L2.start N vs) H := by
  obtain ⟨F, p, ws, xs, γ, b, s0, hF, hH, q1, r, e, k⟩ := q
  obtain ⟨m, hs, hm⟩ := h
  subst hm
  obtain ⟨r1, e1, e2⟩ := ob_some e
  have hl := hn.run r
  have hs' : L2.start N vs = vs.map some ++ List.replicate n none := by
    unfold L2.start
    rw [show N.length - vs.length = n by omega]
  rw [hs']
  refine hs.run (Own.lend s0 hF hH) (hA.run r q1) e1 ?_
  cases r1 with
  | ret b2 =>
    cases e2
    rw [← hD] at k
    exact fun v F' H' L _ O r' => k v F' H' L O r'
  | nxt _ => cases e2
  | cnt _ => cases e2
  | brk _ => cases e2
end
end Mi

namespace Mi
open PySem PySem.Spec PyProof.Rows L2 Fw
theorem sing_at {l : List Nat} {i : Nat} {x : List Nat} (h : (l.map fun c => [c])[i]? = some x) : ∃ c, l[i]? = some c ∧ x = [c] := by
  rw [List.getElem?_map] at h
  cases e : l[i]? with
  | none => rw [e] at h; cases h
  | some c => rw [e] at h; exact ⟨c, rfl, (Option.some.inj h).symm⟩
/-! ### enumerate(text) -/
/-- each sign with its place, in a new pair -/
def Ites (x : Str) : It := ⟨fun i _ => i < x.cps.size, fun i H v H' => ∃ T c, v = .ref T ∧ H T = none ∧ x.cps[i]? = some c ∧ H' = upd H T (.tup [.int (i : Nat), .str ⟨#[c]⟩]), fun i _ => x.cps.size ≤ i⟩
theorem turn_enumS {P : Program} {w : World} {K : PySem.W.Frag} {elts : List Expr} {kk : Nat} {tpos : Pos} (x : Str) (t : Tok) (e it : Addr) :
    Turn P w K (.Tuple elts kk tpos) (Ites x) [e, it] e (fun i h => (∃ old, IsEnum h e it ((i : Nat) : Int) old) ∧ h.IsStrIter it (strIterType x) x t i ∧ e ≠ it ∧ i ≤ x.cps.size) where
  mem := List.mem_cons_self
  obj := fun i h st b hb => by
    obtain ⟨⟨old, h1⟩, ⟨o, h2, _, h3⟩, _⟩ := st
    rcases List.mem_cons.mp hb with z | hb
    · rw [z]; exact ⟨_, h1, fun v q => nomatch q⟩
    · rw [List.mem_singleton.mp hb]
      exact ⟨o, h2, fun v q => by rw [h3] at q; cases q⟩
  keep := fun i h h' st k => by
    obtain ⟨⟨old, h1⟩, ⟨o, h2, h3⟩, hne, hle⟩ := st
    exact ⟨⟨old, k e List.mem_cons_self _ h1⟩, ⟨o, k it (List.mem_cons_of_mem _ List.mem_cons_self) o h2, h3⟩, hne, hle⟩
  item := by
    intro X hP hw hK hc i pins s σ H E I hf st hg
    subst hP hw hK
    obtain ⟨⟨old, he⟩, hit, hne, hle⟩ := st
    have D : Draws X.prog X.w X.A.in1 it [it] x.cps.size (SignAt x) (fun i h => h.IsStrIter it (strIterType x) x t i) := by
      have hd : X.A.in1.handled = none := I.ok.hd hc
      unfold strIterType
      split
      · exact Draws.strAscii hd it x t
      · exact Draws.strWide hd it x t
    have hel : e < s.heap.objs.size := Heap.lt_size he
    have hil : it < s.heap.objs.size := by
      obtain ⟨_, q, _⟩ := hit
      exact Heap.lt_size q
    refine wpAny_pyNext_enum_itemD D he hit hg hne (fun hm => hne (List.mem_singleton.mp hm)) fun v h' tk hv ho hit' hT hsz hk => ?_
    obtain ⟨c, u, hcx, ev⟩ := hv
    subst ev
    refine ⟨_, rfl, wpAny_letOwnedTupleGo_enum (s := { s with heap := h', toks := tk + 1 }) ho fun h2 he' sb => ?_⟩
    have hT2 : h2.get? s.heap.objs.size = some { cls := .type "tuple", data := .seq #[.int i tk, .str ⟨#[c]⟩ u] } := (sb.2 _ (Nat.ne_of_gt hel)).trans hT
    have new : ObjOk X.prog X.w (upd H s.heap.objs.size (.tup [.int (i : Nat), .str ⟨#[c]⟩])) h2 s.heap.objs.size (.tup [.int (i : Nat), .str ⟨#[c]⟩]) :=
      ⟨by show 2 ≤ sizeLine; decide, [.int i tk, .str ⟨#[c]⟩ u], .cons ⟨_, rfl⟩ (.cons ⟨_, rfl⟩ .nil), ⟨_, hT2, rfl, _, rfl⟩⟩
    have J : Inv X pins σ (upd H s.heap.objs.size (.tup [.int (i : Nat), .str ⟨#[c]⟩])) { s with heap := h2, toks := tk + 1 } :=
      I.turnedNew (ch := [e, it]) (fun b ob hb q => by
        have b1 : b ≠ e := fun z => hb (by rw [z]; exact List.mem_cons_self)
        have b2 : b ≠ it := fun z => hb (by rw [z]; exact List.mem_cons_of_mem _ List.mem_cons_self)
        exact (sb.2 b b1).trans (hk b ob b1 b2 q)) hf (Nat.le_refl _) new
    refine ⟨.ref s.heap.objs.size, _, J, rfl, ⟨_, c, rfl, I.hok.fresh (Nat.le_refl _), hcx, rfl⟩, ⟨⟨.str ⟨#[c]⟩ u, ?_⟩, ?_, hne, hg⟩, fun b hb => ?_⟩
    · rw [show ((i + 1 : Nat) : Int) = (i : Int) + 1 by omega]
      exact he'
    · obtain ⟨o, q1, q2⟩ := hit'
      exact ⟨o, (sb.2 it (Ne.symm hne)).trans q1, q2⟩
    · have hb' : b < s.heap.objs.size := by
        rcases List.mem_cons.mp hb with z | hb
        · rw [z]; exact hel
        · rw [List.mem_singleton.mp hb]; exact hil
      rw [upd_ne (Nat.ne_of_lt hb')]
      exact (hf b hb).1
  done := by
    intro X hP hw hK hc i pins s σ H E I hf st hg
    subst hP hw hK
    obtain ⟨⟨old, he⟩, hit, hne, hle⟩ := st
    have D : Draws X.prog X.w X.A.in1 it [it] x.cps.size (SignAt x) (fun i h => h.IsStrIter it (strIterType x) x t i) := by
      have hd : X.A.in1.handled = none := I.ok.hd hc
      unfold strIterType
      split
      · exact Draws.strAscii hd it x t
      · exact Draws.strWide hd it x t
    obtain ⟨f0, f1, f2, f3, f4, f5⟩ := hf it (List.mem_cons_of_mem _ List.mem_cons_self)
    obtain rfl : i = x.cps.size := Nat.le_antisymm hle hg
    exact wpAny_pyNext_enum_endD D he hit fun h' eb => ⟨rfl, I.turned (t' := s.toks) (fun b o hb q => eb b o hb q) f0 f1 f3 f4 f5⟩
  self := fun A i s Q E st h => by
    obtain ⟨⟨_, he⟩, _⟩ := st
    exact wpAny_pyIter_enum he h
def iEnumS (ta : TA) : TI := fun σ H R => ta σ H fun vs H1 => ∃ x, vs = [.str x] ∧ R (Ites x) H1
theorem pi_enumS {X : Cx} {e : Expr} {ta : TA} {p pos tpos : Pos} {elts : List Expr} {kk : Nat} (hg : Gl X "enumerate") (hm : X.mg "enumerate" = none) (ha : PA X [e] ta) (hs : starEach [e] X.env = [(false, eval e X.env)] := by rfl) :
    PI X (.Tuple elts kk tpos) (.Call (.Name "enumerate" p) [e] [] pos) (iEnumS ta) := by
  refine ⟨fun pins s σ H R I h => ?_⟩
  refine Call_ (ld_blt I hg hm boot_enumerate (PyProof.Rows.callWith_type1 (thn (ha.run pos pins s σ H _ I h) fun us s1 ⟨vs, H1, I1, r1, x, ev, q⟩ => ?_) hs rfl))
  subst ev
  cases r1 with
  | cons r rr =>
    cases rr
    obtain ⟨t, rfl⟩ := r
    refine call_enumerate_str fun h' hen hit hsz hk => wpAny_pyIter_enum hen ?_
    · have J : Inv X pins σ H1 { s1 with heap := h' } := I1.kept (t' := s1.toks) hk
      refine ⟨s1.heap.objs.size + 1, [s1.heap.objs.size + 1, s1.heap.objs.size], _, _, H1, rfl, J, turn_enumS x t (s1.heap.objs.size + 1) s1.heap.objs.size, ⟨⟨.none, hen⟩, hit, Nat.succ_ne_self _, Nat.zero_le _⟩, fun b hb => ?_, q⟩
      have hle : s1.heap.objs.size ≤ b := by
        rcases List.mem_cons.mp hb with z | hb
        · rw [z]; exact Nat.le_add_right _ _
        · rw [List.mem_singleton.mp hb]; exact Nat.le_refl _
      exact I1.fpOk hle (I1.hok.fresh hle)
section
variable {ρ : Type} {E : En ρ} {tA : TA}
theorem si_enumS {fa : ρ → Option (List Nat × Unit)} (h : SA tA E (aC jS aN) fa) : SI (iEnumS tA) E (jT (yC jI (y1 jS))) (fun γ => ob (fa γ) fun x => some (penum (x.1.map fun c => [c]))) where
  run s0 hL he e k := by
    obtain ⟨x, e1, e⟩ := ob_some e
    cases e
    refine h s0 hL he e1 fun vs F1 H1 s1 ⟨v, r, z1, r1, z2⟩ => ?_
    obtain ⟨x, _⟩ := x
    subst z1 z2
    have hsz : (S x).cps.size = x.length := by simp [S]
    refine ⟨S x, by rw [show v = _ from r1.1], k _ _ _ s1 ⟨fun {i F2 H2 y} s1 s2 e => ?_, fun s1 s2 => ?_⟩⟩
    · obtain ⟨g1, g2⟩ := penum_get e
      obtain ⟨c, hc, hy⟩ := sing_at g2
      refine ⟨by show i < (S x).cps.size; rw [hsz]; exact (List.getElem?_eq_some_iff.mp hc).1, fun u H3 hyl => ?_⟩
      obtain ⟨t, c', rfl, nt, e4, rfl⟩ := hyl
      have e5 : x[i]? = some c' := by simpa [S] using e4
      rw [hc] at e5
      cases e5
      refine yieldT s2 nt ⟨_, _, rfl, by show V.int _ = V.int _; rw [g1], _, rfl, by rw [hy]; rfl, by rw [hy]; exact fun d hd => by rw [List.mem_singleton.mp hd]; exact r1.2 c (List.mem_of_getElem? hc)⟩
    · show (S x).cps.size ≤ _
      rw [hsz, penum_len, List.length_map]
      exact Nat.le_refl _
end
end Mi

namespace Mi
open PySem PyProof.Rows L2 Fw
section
variable {α β : Type}
theorem ob_s (a : α) (f : α → Option β) : ob (some a) f = f a := rfl
theorem ixN_last {n : Nat} (h : 0 < n) : ixN n (-(1 : Int)) = some (n - 1) := by
  unfold ixN
  rw [if_neg (by omega), if_pos (by omega)]
  congr 1
  omega
theorem pat_last {xs : List α} {x : α} (h : xs.getLast? = some x) : pat xs (-(1 : Int)) = some x := by
  have hp : 0 < xs.length := List.length_pos_of_mem (List.mem_of_getLast? h)
  unfold pat L2.atI
  rw [ixN_last hp]
  rw [List.getLast?_eq_getElem?] at h
  exact h
theorem pset_last {xs : List α} {x y : α} (h : xs.getLast? = some x) : pset xs (-(1 : Int)) y = some (xs.dropLast ++ [y]) := by
  obtain ⟨ys, rfl⟩ := List.getLast?_eq_some_iff.mp h
  unfold pset
  rw [ixN_last (by simp)]
  simp
end
end Mi
namespace Mi
open PySem PyProof.Rows L2 Fw
section
variable {α : Type}
theorem pat_lastL (ys : List α) (x : α) : pat (ys ++ [x]) (((ys ++ [x]).length : Int) - 1) = some x := by
  have e : ((ys ++ [x]).length : Int) - 1 = (ys.length : Int) := by rw [List.length_append, List.length_singleton]; omega
  rw [e]
  exact pat_nat (by simp)
theorem pset_lastL (ys : List α) (x y : α) : pset (ys ++ [x]) (((ys ++ [x]).length : Int) - 1) y = some (ys ++ [y]) := by
  have e : ((ys ++ [x]).length : Int) - 1 = (ys.length : Int) := by rw [List.length_append, List.length_singleton]; omega
  rw [e, pset_nat (by simp)]
  simp
end
end Mi
namespace Mi
open PySem PyProof.Rows L2 Fw
instance (l : List Nat) : Decidable (Ltr l) := inferInstanceAs (Decidable (∀ c ∈ l, c ∈ ([65, 67, 71, 84, 78] : List Nat)))
theorem rep_flat (l : List Nat) (n : Nat) : (List.replicate n l).flatten.length = n * l.length ∧ ∀ c ∈ (List.replicate n l).flatten, c ∈ l := by
  refine ⟨?_, fun c hc => ?_⟩
  · rw [List.length_flatten, List.map_replicate, List.sum_replicate_nat]
  · obtain ⟨m, h1, h2⟩ := List.mem_flatten.mp hc
    rw [(List.mem_replicate.mp h1).2] at h2
    exact h2
end Mi

namespace Mi
open PySem PySem.Spec PyProof.Rows L2 Fw
/-! ### the error that tells a line and a column -/
/-- the class above it: its __init__ is that of ValueError -/
structure OIn (K : PySem.W.Frag) (B : Addr) : Prop where
  ga : PySem.W.specialIn K (.ref B) "__getattribute__" = some (some (.builtin "type.__getattribute__"))
  ty : PySem.W.typeIn K (.ref B) = some (.type "type")
  rd : PySem.W.readsIn K B (.type "type") = true
  ini : PySem.W.findCls K (.ref B) (.type "type") "__init__" = some (.val (.builtin "ValueError.__init__"))
def oexO (C : Addr) : Option Obj → Bool
  | some o => (match o with
    | ⟨.type "type", _, .cls cd, k⟩ => cd.hasDict && (!cd.hasDel && (match cd.mro with
      | .ref C' :: bm => decide (C' = C) && PySem.HandSPX.refsVE bm
      | _ => false) && (match k.toList with
      | [_, _, _, _, some (.builtin n), _] => decide (n = "ValueError.__new__")
      | _ => false))
    | _ => false)
  | none => false
theorem oexO_ok {C : Addr} {x : Option Obj} (h : oexO C x = true) : ∃ nm q N bs bm sn sub ab col dd k0 k1 k2 k3 k5, x = some (excClassObj nm q C N bs bm true sn sub ab col dd k0 k1 k2 k3 k5 "ValueError.__new__") ∧ PySem.HandSPX.refsVE bm = true := by
  unfold oexO at h
  split at h
  · split at h
    · rename_i dd cd k
      obtain ⟨h1, h⟩ := He.ba h
      obtain ⟨h2, h5⟩ := He.ba h
      obtain ⟨h3, h4⟩ := He.ba h2
      split at h4
      · rename_i C' bm hm
        obtain ⟨e1, hbm⟩ := He.ba h4
        have e1 := of_decide_eq_true e1
        subst e1
        split at h5
        · rename_i k0 k1 k2 k3 n k5 hk
          have e2 := of_decide_eq_true h5
          subst e2
          obtain ⟨nm, bs, mro, ns, qn, hd, sn, sub, ab, col, del⟩ := cd
          dsimp only at hm h1 h3
          subst hm h1
          have h3 : del = false := by cases del <;> first | rfl | cases h3
          subst h3
          obtain ⟨l⟩ := k
          have hk : l = [k0, k1, k2, k3, some (.builtin "ValueError.__new__"), k5] := hk
          subst hk
          exact ⟨nm, qn, ns, bs, bm, sn, sub, ab, col, dd, k0, k1, k2, k3, k5, rfl, hbm⟩
        · cases h5
      · cases h4
    · cases h
  · cases h
structure OFa (K : PySem.W.Frag) : Prop where
  oc : OexC K (exC K 0)
  oi : OIn K (exC K 5)
def viB : Option PySem.W.CFound → Bool
  | some (.val (.builtin n)) => decide (n = "ValueError.__init__")
  | _ => false
theorem viB_ok {x : Option PySem.W.CFound} (h : viB x = true) : x = some (.val (.builtin "ValueError.__init__")) := by
  unfold viB at h
  split at h
  · rw [of_decide_eq_true h]
  · cases h
def oB (K : PySem.W.Frag) : Bool := oexO (exC K 0) (K.lookup (exC K 0)) && (decide (PySem.W.findIn K (.ref (exC K 0)) "__setattr__" = some (some (.builtin "object.__setattr__"))) && (decide (PySem.W.subIn K (.ref (exC K 0)) (.type "BaseException") = some true) &&
  (decide (PySem.W.typeIn K (.ref (exC K 0)) = some (.type "type")) && (PySem.W.keepIn K (.ref (exC K 0)) &&
  (decide (PySem.W.specialIn K (.ref (exC K 5)) "__getattribute__" = some (some (.builtin "type.__getattribute__"))) && (decide (PySem.W.typeIn K (.ref (exC K 5)) = some (.type "type")) && (PySem.W.readsIn K (exC K 5) (.type "type") &&
  viB (PySem.W.findCls K (.ref (exC K 5)) (.type "type") "__init__"))))))))
theorem oB_ok {K : PySem.W.Frag} (h : oB K = true) : OFa K := by
  obtain ⟨h1, h⟩ := He.ba h
  obtain ⟨h2, h⟩ := He.ba h
  obtain ⟨h3, h⟩ := He.ba h
  obtain ⟨h4, h⟩ := He.ba h
  obtain ⟨h5, h⟩ := He.ba h
  obtain ⟨h6, h⟩ := He.ba h
  obtain ⟨h7, h⟩ := He.ba h
  obtain ⟨h8, h9⟩ := He.ba h
  exact ⟨⟨oexO_ok h1, of_decide_eq_true h2, of_decide_eq_true h3, of_decide_eq_true h4, h5⟩, ⟨of_decide_eq_true h6, of_decide_eq_true h7, h8, viB_ok h9⟩⟩
section
variable {X : Cx} {e : Expr} {es : List Expr} {ta : TA} {p1 p2 pos : Pos} {x : Str} {B : Addr}
/-- B.__init__(self, ..) -/
theorem pe_oinit {pl : Sem Bool} (hg : Gl X x) (hm : X.mg x = some (.ref B)) (O : OIn X.K B) (ha : PA X (e :: es) ta) (hdb : (x == ("__debug__" : Str)) = false := by decide)
    (hc : eval (.Call (.Attribute (.Name x p1) "__init__" p2) (e :: es) [] pos) X.env = (do
      let ov ← eval (.Name x p1) X.env
      standAt p2.atName
      let (f, first) ← holding [ov] (getMethod ov "__init__" pl)
      callWith pos f first (backTo pos (starEach (e :: es) X.env)) (backToKw pos (keywordEach [] X.env))) := by rfl)
    (he : starEach (e :: es) X.env = (false, eval e X.env) :: starEach es X.env := by rfl) (hpl : (backTo pos (starEach es X.env)).any (·.1) = false := by rfl) : PE X (.Call (.Attribute (.Name x p1) "__init__" p2) (e :: es) [] pos) (tVeI X.K ta) := by
  refine ⟨fun pins s σ H Q I h => ?_⟩
  refine PySem.W.methodCall_KW (ld_glob I hg hm ?_ hdb) hc
  obtain ⟨m, fr⟩ := I.fr
  refine PySem.W.method_of_cls fr I.ok.mod.kin O.ga (PySem.W.cls_val fr I.ok.mod.kin O.ty O.rd O.ini (by decide +kernel) ?_)
  refine PyProof.Rows.callWith_method1 (thn (ha.run pos pins _ σ H _ ((I.tok _).tok _) h) fun us s1 ⟨vs, H1, I1, r1, a, C, ws, ev, hl, T, ea, q⟩ => ?_) he hpl
  subst ev
  cases r1 with
  | @cons _ u0 _ ur ra rw' =>
    obtain rfl : u0 = Value.ref a := ra
    have hlen : ur.length ≤ sizeLine := by
      rw [← Paired.length rw', sizeLine_eq]
      omega
    exact oinit_ok T I1 ea hlen fun s' J => ⟨.non, H1, J, rfl, q⟩
end
abbrev PLn (l : Int) : Prop := -4611686018427387904 ≤ l ∧ l < 4611686018427387904
theorem PLn.small {l : Int} (h : PLn l) : l.natAbs.log2 < 1920 := by
  by_cases h0 : l.natAbs = 0
  · rw [h0]; decide
  · refine Nat.lt_of_lt_of_le ((Nat.log2_lt (k := 63) h0).mpr ?_) (by decide)
    have := h.1
    have := h.2
    omega
def lnF (l c : Int) : List (Str × V) := [("column", .int c), ("line", .int l)]
/-- what its __init__ does -/
def spIL (K : PySem.W.Frag) : Sp := fun vs H Q _ => ∃ (a : Addr) (l c : Int), vs = [.ref a, .int l, .int c] ∧ PLn l ∧ PLn c ∧ OexC K (exC K 0) ∧ NoAttr K (exC K 0) "line" ∧ NoAttr K (exC K 0) "column" ∧ H a = some (exo a (exC K 0) none) ∧
  ∀ d, H d = none → d ≠ a → Q .non (upd (upd (upd H d (exd d [("line", .int l)])) a (exo a (exC K 0) (some d))) d (exd d (lnF l c)))
theorem spIL_len {K : PySem.W.Frag} : ∀ vs H Q E, spIL K vs H Q E → vs.length = 3 := fun vs H Q E ⟨_, _, _, e, _⟩ => by rw [e]; rfl
section
variable {ρ ρ' κ β : Type} {E : En ρ} {E' : En ρ'} {Ec : En κ} {tA : TA} {K : PySem.W.Frag} {R : RRt β} {E0 : XK}
theorem ss_raiseL {f : ρ → Option (Int × Int × Unit)} (O : OFa K) (n1 : NoAttr K (exC K 0) "line") (n2 : NoAttr K (exC K 0) "column") (ha : SA tA E (aC jI (aC jI aN)) f) : SS (fun _ σ H => tMkO (exC K 0) (spIL K) [] tA σ H fun cls d H' => (fun c d (_ : L2.St) H => E0 c d H : WX) cls d σ H') E E' Ec (rX K E0 R) (fun γ => ob (f γ) fun z => pck (PLn z.1 ∧ PLn z.2.1) (.ret (.error (0, z.1, z.2.1)))) := ⟨fun {σ F0 H0 F H L γ r D} O' hE e fin => by
  obtain ⟨⟨l, c, u⟩, e1, e⟩ := ob_some e
  obtain ⟨⟨b1, b2⟩, e2⟩ := pck_some e
  subst e2
  refine ha O'.fh (Held.of O') hE e1 fun vs F1 H1 s1 r1 => ?_
  obtain ⟨v1, w1, e3, r1, v2, w2, e4, r2, e5⟩ := r1
  subst e5 e4 e3
  cases r1
  cases r2
  refine ⟨by show 2 ≤ 1000; decide, fun a na => ⟨a, l, c, rfl, b1, b2, O.oc, n1, n2, upd_same, fun d nd dne => ⟨rfl, d, lnF l c, ?_, upd_same, ?_, ?_⟩⟩⟩
  · rw [upd_ne (Ne.symm dne), upd_same]
  · rw [upd_ne dne] at nd; exact nd
  · rw [upd_ne dne] at nd
    have eH : upd (del (upd (upd (upd (upd H1 a (exo a (exC K 0) none)) d (exd d [("line", .int l)])) a (exo a (exC K 0) (some d))) d (exd d (lnF l c))) a) d (.xd (lnF l c)) = upd H1 d (.xd (lnF l c)) := by
      funext b
      by_cases hd : b = d
      · subst hd
        rw [upd_same, upd_same]
      · rw [upd_ne hd, upd_ne hd]
        by_cases hb : b = a
        · subst hb
          rw [del_same, na]
        · rw [del_ne hb, upd_ne hd, upd_ne hb, upd_ne hd, upd_ne hb]
    rw [eH]
    have O1 := Own.on O' s1
    rw [List.nil_append] at O1
    have O2 := (O1.ice nd (.xd (lnF l c)))
    exact fin (.ref (exC K 0)) (some d) _ _ (s1.f0.trans fun b u e => by rw [upd_ne (ne_of_none e (O1.fh.free nd))]; exact e) ((OwnSb O2 (Sb.nil _)).chunks trivial) ⟨rfl, .inl ⟨rfl, d, lnF l c, rfl, upd_same, rfl, rfl⟩⟩⟩
end
end Mi

namespace Mi
open PySem PySem.Spec PyProof.Rows L2 Fw
theorem Paired.dr {α β : Type} {A : α → β → Prop} : ∀ {xs : List α} {ys : List β} (n : Nat), Paired A xs ys → Paired A (xs.drop n) (ys.drop n)
  | _, _, 0, h => h
  | _, _, _ + 1, .nil => .nil
  | _, _, n + 1, .cons _ h => Paired.dr n h
theorem Paired.era {α β : Type} {A : α → β → Prop} {xs : List α} {ys : List β} (n : Nat) (h : Paired A xs ys) : Paired A (xs.eraseIdx n) (ys.eraseIdx n) := by
  rw [List.eraseIdx_eq_take_drop_succ, List.eraseIdx_eq_take_drop_succ]
  exact Paired.app (Paired.tk n h) (Paired.dr (n + 1) h)
/-! ### pop(i), insert(i, y) -/
section
variable {ρ ρ' κ α β : Type} {E : En ρ} {E' : En ρ'} {Ec : En κ} {ta te : TE} {K : PySem.W.Frag} {R' : RRt β} {u : TS}
theorem ss_popAt {i : Nat} {R : Rp α} {g : ρ → List α} {up : List α → ρ → ρ} {fi : ρ → Option Int} {m : ρ → Option (Res ρ' κ β)} (hu' : Up E i R g up) (hi : SE ta E (sF jI) fi) (hu : SS u E E' Ec R' m) :
    SS (tSeq (tDrop (tBM K "list" rPopAt (tVar i) (tCons ta tNil))) u) E E' Ec R' (fun γ => ob (fi γ) fun j => ob (pck ((0 ≤ j ∧ j < 4611686018427387904) ∧ j.toNat < (g γ).length) ((g γ).eraseIdx j.toNat)) fun ys => m (up ys γ)) := ⟨fun O hE e fin => by
  obtain ⟨k, e1, e⟩ := ob_some e
  obtain ⟨ys, e2, e⟩ := ob_some e
  obtain ⟨⟨pz, pl⟩, rfl⟩ := pck_some e2
  obtain ⟨p, vs, j, h1, h2, h3, h4⟩ := hu' hE
  refine ⟨.ref p, h1, tyL (O.at_ j h2) ?_⟩
  refine hi O.fh (Held.of O) hE e1 fun v F1 H1 L1 s1 ⟨z1, r1⟩ => ?_
  subst z1
  cases r1
  have O1 := Own.on O s1
  rw [List.nil_append] at O1
  have hl := Paired.len h3
  have hk : k.toNat < vs.length := by omega
  refine ⟨p, vs, k, k.toNat, vs[k.toNat], rfl, rfl, O1.at_ j h2, by omega, by omega, ?_, List.getElem?_eq_getElem hk, ?_⟩
  · unfold seqIndex?
    have e : (if k < 0 then k + (vs.length : Int) else k) = k := if_neg (by omega)
    have e2 : (decide (0 ≤ k) && decide (k < (vs.length : Int))) = true := by rw [decide_eq_true (by omega), decide_eq_true (by omega)]; rfl
    simp only [e, e2]
    rfl
  · exact hu.run (O1.set j h2 _) (h4 F1 _ _ s1.f0 (Paired.era _ (Paired.mono (fun _ _ q => R.m s1.f0 q) h3))) e (fin.mo s1.f0)⟩
theorem ss_insert {i : Nat} {R : Rp α} {g : ρ → List α} {up : List α → ρ → ρ} {fi : ρ → Option Int} {fe : ρ → Option α} {m : ρ → Option (Res ρ' κ β)} (hu' : Up E i R g up) (hi : SE ta E (sF jI) fi) (he : SE te E (sF R) fe) (hu : SS u E E' Ec R' m) :
    SS (tSeq (tDrop (tBM K "list" (fun x vs H Q => ∃ (l : Addr) (xs : List V) (i : Int) (y : V), x = .ref l ∧ vs = [.int i, y] ∧ H l = some (.lst xs) ∧ xs.length < sizeLine ∧ 0 ≤ i ∧ i < 2 ^ 63 ∧ Q .non (upd H l (.lst (xs.take i.toNat ++ [y] ++ xs.drop i.toNat)))) (tVar i) (tCons ta (tCons te tNil)))) u) E E' Ec R'
      (fun γ => ob (fi γ) fun j => ob (fe γ) fun y => ob (pck ((0 ≤ j ∧ j < 4611686018427387904) ∧ (g γ).length < sz) ((g γ).take j.toNat ++ [y] ++ (g γ).drop j.toNat)) fun ys => m (up ys γ)) := ⟨fun O hE e fin => by
  obtain ⟨k, e1, e⟩ := ob_some e
  obtain ⟨y, e3, e⟩ := ob_some e
  obtain ⟨ys, e2, e⟩ := ob_some e
  obtain ⟨⟨pz, pl⟩, rfl⟩ := pck_some e2
  obtain ⟨p, vs, j, h1, h2, h3, h4⟩ := hu' hE
  refine ⟨.ref p, h1, tyL (O.at_ j h2) ?_⟩
  refine hi O.fh (Held.of O) hE e1 fun v F1 H1 L1 s1 ⟨z1, r1⟩ => ?_
  subst z1
  cases r1
  have O1 := Own.on O s1
  rw [List.nil_append] at O1
  refine he O1.fh (Held.of O1) (E.m s1.f0 hE) e3 fun w F2 H2 L2 s2 ⟨z2, r2⟩ => ?_
  subst z2
  have O2 := Own.on O1 s2
  rw [List.nil_append] at O2
  have sF := s1.f0.trans s2.f0
  have hq := Paired.mono (fun _ _ q => R.m sF q) h3
  refine ⟨p, vs, k, w, rfl, rfl, O2.at_ j h2, sz_lt (by rw [Paired.len h3]; exact pl), by omega, by omega, ?_⟩
  exact hu.run (O2.set j h2 _) (h4 F2 _ _ sF (Paired.app (Paired.app (Paired.tk _ hq) (.cons r2 .nil)) (Paired.dr _ hq))) e (fin.mo sF)⟩
end
/-! ### calls that may raise, within larger expressions -/
section
variable {ρ ρ' κ α β δ τ : Type} {E : En ρ} {E' : En ρ'} {Ec : En κ} {ta tb te : TE} {tA tr : TA} {K : PySem.W.Frag} {W : WX} {A : Rp α} {B : Rp β} {E0 : XK} {R0 : RRt τ} {u : TS}
theorem sx_op {r : R2} {s : Sl δ} {fa : ρ → Option α} {fb : ρ → Option (Except Exn β)} {g : α → β → Option δ} (ha : SE ta E (sF A) fa) (hb : SEX K W tb E (sF B) fb) (hs : S2 r A B s g) : SEX K W (tOp r ta tb) E s (fun γ => ob (fa γ) fun x => obx (fb γ) fun y => ob (g x y) fun z => some (.ok z)) := ⟨fun {σ F H L γ x Q} s0 hL he e k => by
  obtain ⟨x1, e1, e⟩ := ob_some e
  obtain ⟨y, e2, e⟩ := ob_some e
  refine ha s0 hL he e1 fun v F1 H1 L1 s1 ⟨z1, r1⟩ => ?_
  subst z1
  refine hb.run s1.fh (hL.mono s1.hh) (E.m s1.f0 he) e2 ?_
  cases y with
  | ok y =>
    obtain ⟨z, e3, e⟩ := ob_some e
    cases e
    refine fun w F2 H2 L2 s2 ⟨z2, r2⟩ => ?_
    subst z2
    exact hs s2.fh (A.m s2.f0 r1) r2 e3 fun z F3 H3 L3 s3 r3 => k z F3 H3 L3 (s1.tr (s2.tr s3)) r3
  | error er =>
    cases e
    exact fun cls d F2 H2 s2 r2 => k cls d F2 H2 (s1.tr s2) r2⟩
theorem sx_fz {f : ρ → Option (Except Exn (List α))} (h : SEX K W te E (sO A) f) : SEX K W te E (sF (jL A)) f := ⟨fun {σ F H L γ x Q} s0 hL he e k => by
  refine h.run s0 hL he e ?_
  cases x with
  | ok x =>
    refine fun v F' H' L1 s2 ⟨p, vs, e1, e2, q⟩ => ?_
    subst e1 e2
    have sP : Same F' (upd F' p (.lst vs)) := fun b u e => by rw [upd_ne (ne_of_none e ((s2.own (p, .lst vs) List.mem_cons_self)).1)]; exact e
    exact k _ _ _ [] (s2.freeze.chunks trivial) ⟨rfl, p, vs, rfl, upd_same, Paired.mono (fun _ _ q => A.m sP q) q⟩
  | error er => exact k⟩
structure SAX (K : PySem.W.Frag) (W : WX) (t : TA) (E : En ρ) (A : Ar α) (f : ρ → Option (Except Exn α)) : Prop where
  run : ∀ {σ : L2.St} {F H : Hp} {L : List (Addr × HO)} {γ : ρ} {x : Except Exn α} {Q : List V → Hp → Prop}, Same F H → Held H L → E.r σ F L γ → f γ = some x → (match x with
    | .ok x => ∀ vs F' H', Step F H F' H' [] → A.r F' vs x → Q vs H'
    | .error e => ∀ cls d F' H', Step F H F' H' [] → exR K e cls d F' → W cls d σ H') → t σ H Q
theorem stX1 {fa : ρ → Option (Except Exn α)} (ha : SEX K W ta E (sF A) fa) : SAX K W (tCons ta tNil) E (aT (y1 A)) fa := ⟨fun {σ F H L γ x Q} s0 hL he e k => by
  refine ha.run s0 hL he e ?_
  cases x with
  | ok x =>
    refine fun v F1 H1 L1 s1 ⟨z1, r1⟩ => ?_
    subst z1
    exact k _ _ _ s1 ⟨v, rfl, r1⟩
  | error er => exact k⟩
theorem stXC {T : Tp β} {fa : ρ → Option α} {fr : ρ → Option (Except Exn β)} (ha : SE ta E (sF A) fa) (hr : SAX K W tr E (aT T) fr) : SAX K W (tCons ta tr) E (aT (yC A T)) (fun γ => ob (fa γ) fun x => obx (fr γ) fun y => some (.ok (x, y))) := ⟨fun {σ F H L γ x Q} s0 hL he e k => by
  obtain ⟨x1, e1, e⟩ := ob_some e
  obtain ⟨y, e2, e⟩ := ob_some e
  refine ha s0 hL he e1 fun v F1 H1 L1 s1 ⟨z1, r1⟩ => ?_
  subst z1
  refine hr.run s1.fh (hL.mono s1.hh) (E.m s1.f0 he) e2 ?_
  cases y with
  | ok y =>
    cases e
    exact fun vs F2 H2 s2 r2 => k _ _ _ (s1.tr s2) ⟨v, vs, rfl, A.m s2.f0 r1, r2⟩
  | error er =>
    cases e
    exact fun cls d F2 H2 s2 r2 => k cls d F2 H2 (s1.tr s2) r2⟩
theorem sx_tup {T : Tp α} {f : ρ → Option (Except Exn α)} {n j : Nat} {R : Rp β} {g : α → β} (h : SAX K W tA E (aT T) f) (hn : Tat T n j R g) (hz : n ≤ sz := by decide) : SEX K W (tTup tA) E (sF (jT T)) f := ⟨fun {σ F H L γ x Q} s0 hL he e k => by
  refine h.run s0 hL he e ?_
  cases x with
  | ok x =>
    refine fun vs F1 H1 s1 r1 => ?_
    refine ⟨sz_le (by rw [show vs.length = n from (hn r1).1]; exact hz), fun p np => ?_⟩
    have s2 := (Step.nil s1.fh).ice np (.tup vs)
    exact k _ _ _ [] (s1.tr (s2.chunks trivial)) ⟨rfl, p, vs, rfl, upd_same, T.m s2.f0 r1⟩
  | error er => exact k⟩
/-- append of what may raise -/
theorem ss_appX {i : Nat} {R : Rp α} {g : ρ → List α} {up : List α → ρ → ρ} {fe : ρ → Option (Except Exn α)} {m : ρ → Option (Res ρ' κ (Except Exn τ))} (hu' : Up E i R g up) (he : SEX K (fun c d _ H => E0 c d H) te E (sF R) fe) (hu : SS u E E' Ec (rX K E0 R0) m) :
    SS (tSeq (tDrop (tBM K "list" rAppend (tVar i) (tCons te tNil))) u) E E' Ec (rX K E0 R0) (fun γ => rbx (fe γ) fun y => ob (pck ((g γ).length < sz) (g γ ++ [y])) fun ys => m (up ys γ)) := ⟨fun {σ F0 H0 F H L γ r D} O hE e fin => by
  obtain ⟨x, e1, e⟩ := ob_some e
  obtain ⟨p, vs, j, h1, h2, h3, h4⟩ := hu' hE
  refine ⟨.ref p, h1, tyL (O.at_ j h2) ?_⟩
  refine he.run O.fh (Held.of O) hE e1 ?_
  cases x with
  | ok x =>
    obtain ⟨ys, e2, e⟩ := ob_some e
    obtain ⟨pz, rfl⟩ := pck_some e2
    refine fun v F1 H1 L1 s1 ⟨z1, r1⟩ => ?_
    subst z1
    have O1 := Own.on O s1
    rw [List.nil_append] at O1
    exact w_app (Q := fun _ H' => u _ _ H') O1 h2 (fun H' O2 => hu.run O2 (h4 F1 _ _ s1.f0 (Paired.app (Paired.mono (fun _ _ q => R.m s1.f0 q) h3) (.cons r1 .nil))) e (fin.mo s1.f0)) (sz_lt (by rw [Paired.len h3]; exact pz))
  | error er =>
    cases e
    exact fun cls d F1 H1 s1 r1 => fin cls d F1 H1 s1.f0 (OwnSb (Own.on O s1) (Sb.nil _)) r1⟩
end
/-! ### a great number, kept shut -/
noncomputable def lit (n : Int) : Int := Classical.choose (⟨n, rfl⟩ : ∃ x : Int, x = n)
theorem lit_eq (n : Int) : lit n = n := Classical.choose_spec (⟨n, rfl⟩ : ∃ x : Int, x = n)
theorem se_lit {ρ : Type} {E : En ρ} {i : Int} : SE (tC (.int i)) E (sF jI) (fun _ => some (lit i)) := by
  rw [lit_eq]
  exact se_int
end Mi

namespace Mi
open PySem PySem.Spec PyProof.Rows L2 Fw
/-! ### a frame that holds the interpreter's statics too -/
abbrev frY (n : Nat) (g : Addr → Option Obj) : PySem.W.Frag := He.frG g (He.asD g n ++ [cStatics])
def obsY (n : Nat) (fa : List He.Fa) (fn : List He.DefD) (ex : PySem.W.Frag → Bool) (g : Addr → Option Obj) : He.AlD × Bool := (He.obsD fa fn (frY n g), ex (frY n g))
structure SaysY (fa : List He.Fa) (fn : List He.DefD) (ex : PySem.W.Frag → Bool) (K : PySem.W.Frag) : Prop where
  d : He.SaysD fa fn K
  more : ex K = true
def hookY (n : Nat) (fa : List He.Fa) (fn : List He.DefD) (ex : PySem.W.Frag → Bool) : PySem.W.Hook where
  α := He.AlD × Bool
  obs := fun s => obsY n fa fn ex s.heap.get?
  val := fun _ => (He.valD fn, true)
  says := fun _ h => ∃ K : PySem.W.Frag, K.In h ∧ SaysY fa fn ex K
  of := fun _ _ e => ⟨_, He.frG_in, congrArg Prod.fst e, congrArg Prod.snd e⟩
  keeps := fun _ _ _ ⟨K, hK, c⟩ k => ⟨K, PySem.W.Frag.In.keeps hK k, c⟩
theorem obsY_eq {n : Nat} {fa : List He.Fa} {fn : List He.DefD} {ex : PySem.W.Frag → Bool} {g : Addr → Option Obj} {s : Shared} (h : ∀ a, g a = s.heap.get? a) : obsY n fa fn ex g = (hookY n fa fn ex).obs s := by
  have e : g = s.heap.get? := funext h
  rw [e] <;> rfl
end Mi

namespace Mi
open PySem PySem.Spec PyProof.Rows L2 Fw
/-! ### objects of own classes -/
structure Fd (ρ : Type) where
  nm : List Str
  r : List (Str × V) → Hp → List (Addr × HO) → ρ → Prop
  m : ∀ {fs : List (Str × V)} {F F' : Hp} {L : List (Addr × HO)} {x : ρ}, Same F F' → r fs F L x → r fs F' L x
  c : ∀ {fs fs' : List (Str × V)} {F : Hp} {L : List (Addr × HO)} {x : ρ}, (∀ f ∈ nm, fs'.lookup f = fs.lookup f) → r fs F L x → r fs' F L x
def fdN : Fd Unit := ⟨[], fun _ _ L _ => L = [], fun _ h => h, fun _ h => h⟩
section
variable {α β δ τ τ' ρ ρ' ρ'' κ : Type}
def fdC (f : Str) (s : Sl α) (T : Fd ρ) : Fd (α × ρ) := ⟨f :: T.nm, fun fs F L γ => ∃ v L1 L2, fs.lookup f = some v ∧ L = L1 ++ L2 ∧ s.r v F L1 γ.1 ∧ T.r fs F L2 γ.2,
  fun z ⟨v, L1, L2, e, e2, h, t⟩ => ⟨v, L1, L2, e, e2, s.m z h, T.m z t⟩,
  fun z ⟨v, L1, L2, e, e2, h, t⟩ => ⟨v, L1, L2, (z f List.mem_cons_self).trans e, e2, h, T.c (fun g hg => z g (List.mem_cons_of_mem _ hg)) t⟩⟩
def NmOk (ns : List Str) (fs : List (Str × V)) : Prop := fs.length ≤ ns.length ∧ ∀ m, m ∉ ns → fs.lookup m = none
theorem putF_old {f : Str} {v x : V} : ∀ {fs : List (Str × V)}, fs.lookup f = some x → (putF f v fs).length = fs.length
  | [], h => nomatch h
  | (g, y) :: r, h => by
    rw [putF]
    by_cases e : g = f
    · rw [if_pos e]; rfl
    · rw [if_neg e, List.length_cons, List.length_cons]
      have e2 : (f == g) = false := beq_eq_false_iff_ne.mpr fun z => e z.symm
      rw [List.lookup_cons, e2] at h
      rw [putF_old h]
theorem NmOk.new {ns : List Str} {fs : List (Str × V)} {f : Str} {v : V} (h : NmOk ns fs) : NmOk (f :: ns) (putF f v fs) := by
  refine ⟨Nat.le_trans (length_putF f v fs) (Nat.succ_le_succ h.1), fun m hm => ?_⟩
  rw [lookup_putF, if_neg fun z => hm (by rw [z]; exact List.mem_cons_self)]
  exact h.2 m fun z => hm (List.mem_cons_of_mem _ z)
theorem NmOk.old {ns : List Str} {fs : List (Str × V)} {f : Str} {v x : V} (h : NmOk ns fs) (e : fs.lookup f = some x) : NmOk ns (putF f v fs) := by
  refine ⟨by rw [putF_old e]; exact h.1, fun m hm => ?_⟩
  rw [lookup_putF, if_neg fun z => ?_]
  · exact h.2 m hm
  · rw [← z, h.2 m hm] at e
    cases e
/-- an own object -/
def sI (C : Addr) (T : Fd ρ) : Sl ρ := ⟨fun v F L γ => ∃ a dx fs M, v = .ref a ∧ L = (a, .ins C dx fs) :: (dx, .own a) :: M ∧ NmOk T.nm fs ∧ T.r fs F M γ, fun z ⟨a, dx, fs, M, h1, h2, h3, h4⟩ => ⟨a, dx, fs, M, h1, h2, h3, T.m z h4⟩⟩
/-- the own object at a -/
def sIA (a : Addr) (C : Addr) (T : Fd ρ) : Sl ρ := ⟨fun v F L γ => v = .ref a ∧ ∃ dx fs M, L = (a, .ins C dx fs) :: (dx, .own a) :: M ∧ NmOk T.nm fs ∧ T.r fs F M γ, fun z ⟨h1, dx, fs, M, h2, h3, h4⟩ => ⟨h1, dx, fs, M, h2, h3, T.m z h4⟩⟩
/-- an object that does not change -/
def jX (C : Addr) (T : Fd ρ) : Rp ρ := ⟨fun F v γ => ∃ a dx fs, v = .ref a ∧ F a = some (.ins C dx fs) ∧ F dx = some (.own a) ∧ NmOk T.nm fs ∧ T.r fs F [] γ, fun z ⟨a, dx, fs, h1, h2, h3, h4, h5⟩ => ⟨a, dx, fs, h1, z _ _ h2, z _ _ h3, h4, T.m z h5⟩⟩
/-! frozen -/
structure FzT (T : Fd ρ) (T' : Fd ρ) : Prop where
  nm : T'.nm = T.nm
  run : ∀ {F0 H0 F H : Hp} {M Z : List (Addr × HO)} {fs : List (Str × V)} {γ : ρ}, Own F0 H0 F H (M ++ Z) [] → T.r fs F M γ → ∃ F', Same F F' ∧ Own F0 H0 F' H Z [] ∧ T'.r fs F' [] γ
theorem fztN : FzT fdN fdN := ⟨rfl, fun {_ _ F _ _ _ _ _} O h => by
  have h : _ = [] := h
  subst h
  exact ⟨F, Same.refl _, O, rfl⟩⟩
theorem fztC {f : Str} {s : Sl α} {R : Rp α} {T T' : Fd ρ} (h : Fz s R) (t : FzT T T') : FzT (fdC f s T) (fdC f (sF R) T') := ⟨by show f :: T'.nm = f :: T.nm; rw [t.nm], fun O ⟨v, L1, L2, e, e2, r1, r2⟩ => by
  subst e2
  rw [List.append_assoc] at O
  obtain ⟨F1, s1, O1, q1⟩ := h.run O r1
  obtain ⟨F2, s2, O2, q2⟩ := t.run O1 (T.m s1 r2)
  exact ⟨F2, s1.trans s2, O2, v, [], [], e, rfl, ⟨rfl, R.m s2 q1⟩, q2⟩⟩
theorem fzI {C : Addr} {T T' : Fd ρ} (t : FzT T T') : Fz (sI C T) (jX C T') := ⟨fun {_ _ F _ _ _ _ _} O ⟨a, dx, fs, M, e1, e2, h3, h4⟩ => by
  subst e1 e2
  have O1 := ((show Own _ _ _ _ ((a, HO.ins C dx fs) :: ((dx, HO.own a) :: (M ++ _))) [] from O).freeze).chunks (C' := []) trivial
  have s1 : Same F (upd F a (.ins C dx fs)) := fun b u e => by rw [upd_ne (ne_of_none e ((O.own (a, .ins C dx fs) List.mem_cons_self)).1)]; exact e
  have O2 := O1.freeze.chunks (C' := []) trivial
  have n2 := (O1.own (dx, .own a) List.mem_cons_self).1
  have s2 : Same (upd F a (.ins C dx fs)) (upd (upd F a (.ins C dx fs)) dx (.own a)) := fun b u e => by rw [upd_ne (ne_of_none e n2)]; exact e
  obtain ⟨F3, s3, O3, q3⟩ := t.run O2 (T.m (s1.trans s2) h4)
  exact ⟨F3, s1.trans (s2.trans s3), O3, a, dx, fs, rfl, s3 _ _ (s2 _ _ upd_same), s3 _ _ upd_same, by rw [t.nm]; exact h3, q3⟩⟩
theorem fzO {R : Rp α} : Fz (sO R) (jL R) := ⟨fun {_ _ F _ _ _ _ _} O ⟨p, vs, e1, e2, q⟩ => by
  subst e1 e2
  have O1 := ((show Own _ _ _ _ ((p, HO.lst vs) :: _) [] from O).freeze).chunks (C' := []) trivial
  have s1 : Same F (upd F p (.lst vs)) := fun b u e => by rw [upd_ne (ne_of_none e ((O.own (p, .lst vs) List.mem_cons_self)).1)]; exact e
  exact ⟨_, s1, O1, p, vs, rfl, upd_same, Paired.mono (fun _ _ q => R.m s1 q) q⟩⟩
/-! fields -/
structure FG (T : Fd ρ) (f : Str) (s : Sl α) (g : ρ → α) : Prop where
  run : ∀ {fs : List (Str × V)} {F : Hp} {M : List (Addr × HO)} {γ : ρ}, T.r fs F M γ → ∃ v L1, fs.lookup f = some v ∧ (∀ q ∈ L1, q ∈ M) ∧ s.r v F L1 (g γ)
theorem fg0 {f : Str} {s : Sl α} {T : Fd ρ} : FG (fdC f s T) f s (fun γ => γ.1) := ⟨fun ⟨v, L1, L2, e, e2, h, _⟩ => ⟨v, L1, e, fun q hq => by rw [e2]; exact List.mem_append_left _ hq, h⟩⟩
theorem fgS {f h : Str} {s : Sl α} {s' : Sl β} {T : Fd ρ} {g : ρ → α} (t : FG T f s g) : FG (fdC h s' T) f s (fun γ => g γ.2) := ⟨fun ⟨v, L1, L2, e, e2, _, r⟩ => by
  obtain ⟨u, M1, h1, h2, h3⟩ := t.run r
  exact ⟨u, M1, h1, fun q hq => by rw [e2]; exact List.mem_append_right _ (h2 q hq), h3⟩⟩
structure FX (T : Fd ρ) (f : Str) (s : Sl α) (g : ρ → α) (up : α → ρ → ρ) : Prop where
  run : ∀ {fs : List (Str × V)} {F : Hp} {M : List (Addr × HO)} {γ : ρ}, T.r fs F M γ → ∃ v pre L1 post, fs.lookup f = some v ∧ M = pre ++ (L1 ++ post) ∧ s.r v F L1 (g γ) ∧
    ∀ F' fs' v' L1' x', Same F F' → fs'.lookup f = some v' → (∀ h, h ≠ f → fs'.lookup h = fs.lookup h) → s.r v' F' L1' x' → T.r fs' F' (pre ++ (L1' ++ post)) (up x' γ)
theorem fx0 {f : Str} {s : Sl α} {T : Fd ρ} (hn : f ∉ T.nm := by decide) : FX (fdC f s T) f s (fun γ => γ.1) (fun x γ => (x, γ.2)) := ⟨fun ⟨v, L1, L2, e, e2, h, t⟩ =>
  ⟨v, [], L1, L2, e, e2, h, fun F' fs' v' L1' x' z el eo r' => ⟨v', L1', L2, el, rfl, r', T.c (fun k hk => eo k fun y => hn (y ▸ hk)) (T.m z t)⟩⟩⟩
theorem fxS {f h : Str} {s : Sl α} {s' : Sl β} {T : Fd ρ} {g : ρ → α} {up : α → ρ → ρ} (t : FX T f s g up) (hn : h ≠ f := by decide) : FX (fdC h s' T) f s (fun γ => g γ.2) (fun x γ => (γ.1, up x γ.2)) := ⟨fun ⟨v, L1, L2, e, e2, q, r⟩ => by
  subst e2
  obtain ⟨u, pre, M1, post, h1, h2, h3, h4⟩ := t.run r
  subst h2
  refine ⟨u, L1 ++ pre, M1, post, h1, by rw [List.append_assoc], h3, fun F' fs' v' L1' x' z el eo r' => ⟨v, L1, pre ++ (L1' ++ post), (eo h hn).trans e, by rw [List.append_assoc], s'.m z q, h4 F' fs' v' L1' x' z el eo r'⟩⟩⟩
/-! a name's thing, which may get another kind -/
structure Fy (E : En ρ) (i : Nat) (s : Sl α) (g : ρ → α) (E' : En ρ') (s' : Sl β) (up : β → ρ → ρ') : Prop where
  run : ∀ {σ : L2.St} {F : Hp} {L : List (Addr × HO)} {γ : ρ}, E.r σ F L γ → ∃ v pre L1 post, σ[i]? = some (some v) ∧ L = pre ++ (L1 ++ post) ∧ s.r v F L1 (g γ) ∧ ∀ F' L1' x', Same F F' → s'.r v F' L1' x' → E'.r σ F' (pre ++ (L1' ++ post)) (up x' γ)
theorem y0 {E : En ρ} {s : Sl α} {s' : Sl β} : Fy (eC s E) 0 s (fun γ => γ.1) (eC s' E) s' (fun x γ => (x, γ.2)) := ⟨fun ⟨v, σ', L1, L2, e1, e2, h, t⟩ => by
  subst e1 e2
  exact ⟨v, [], L1, L2, rfl, rfl, h, fun F' L1' x' z h' => ⟨v, σ', L1', L2, rfl, rfl, h', E.m z t⟩⟩⟩
theorem yU {E : En ρ} {E' : En ρ'} {i : Nat} {s : Sl α} {s' : Sl β} {g : ρ → α} {up : β → ρ → ρ'} (h : Fy E i s g E' s' up) : Fy (eU E) (i + 1) s g (eU E') s' up := ⟨fun ⟨o, σ', e, t⟩ => by
  subst e
  obtain ⟨v, pre, L1, post, h1, h2, h3, h4⟩ := h.run t
  exact ⟨v, pre, L1, post, h1, h2, h3, fun F' L1' x' z h' => ⟨o, σ', rfl, h4 F' L1' x' z h'⟩⟩⟩
theorem yS {E : En ρ} {E' : En ρ'} {i : Nat} {s : Sl α} {s' : Sl β} {s2 : Sl δ} {g : ρ → α} {up : β → ρ → ρ'} (h : Fy E i s g E' s' up) : Fy (eC s2 E) (i + 1) s (fun γ => g γ.2) (eC s2 E') s' (fun x γ => (γ.1, up x γ.2)) := ⟨fun ⟨v', σ', La, L2, e1, e2, q, t⟩ => by
  subst e1 e2
  obtain ⟨v, pre, L1, post, h1, h2, h3, h4⟩ := h.run t
  subst h2
  exact ⟨v, La ++ pre, L1, post, h1, by rw [List.append_assoc], h3, fun F' L1' x' z h' => ⟨v', σ', La, _, rfl, by rw [List.append_assoc], s2.m z q, h4 F' L1' x' z h'⟩⟩⟩
theorem pswap {A B D : List (Addr × HO)} : (A ++ (B ++ D)).Perm (B ++ (A ++ D)) := by
  rw [← List.append_assoc, ← List.append_assoc]
  exact List.perm_append_comm.append_right D
/-- own objects at a place among others are changed -/
theorem Own.at1 {F0 H0 F H : Hp} {C : List Ck} {pre post A : List (Addr × HO)} {p : Addr} {o o' : HO} (O : Own F0 H0 F H (A ++ (pre ++ ((p, o) :: post))) C) : Own F0 H0 F (upd H p o') (A ++ (pre ++ ((p, o') :: post))) C := by
  have e : ∀ q : Addr × HO, A ++ (pre ++ (q :: post)) = (A ++ pre) ++ (q :: post) := fun q => by rw [List.append_assoc]
  rw [e] at O ⊢
  have := O.set (A ++ pre).length (a := p) (o := o) (by rw [List.getElem?_append_right (Nat.le_refl _), Nat.sub_self]; rfl) o'
  rw [List.set_append_right _ _ (Nat.le_refl _), Nat.sub_self] at this
  exact this
end
section
variable {α β δ τ τ' ρ ρ' ρ'' κ ε : Type} {E : En ρ} {E' : En ρ'} {E1 : En ρ''} {Ec : En κ} {ta tb tc te ti t : TE} {tA : TA} {A : Ar α} {R : Rp α} {K : PySem.W.Frag} {s : RRt β} {u : TS} {i : Nat} {f : Str} {C pp : Addr}
/-! reading -/
theorem sIA_sI {T : Fd τ} {v : V} {F : Hp} {L : List (Addr × HO)} {x : τ} (h : (sIA pp C T).r v F L x) : (sI C T).r v F L x := by
  obtain ⟨h1, dx, fs, M, h2, h3, h4⟩ := h
  exact ⟨pp, dx, fs, M, h1, h2, h3, h4⟩
theorem gIA {T : Fd τ} {g : ρ → τ} (h : Gt E i (sIA pp C T) g) : Gt E i (sI C T) g := ⟨fun e => by
  obtain ⟨v, L1, h1, h2, h3⟩ := h e
  exact ⟨v, L1, h1, h2, sIA_sI h3⟩⟩
theorem se_fldO {T : Fd τ} {g : ρ → τ} {gf : τ → α} (cl : Cls K C) (na : NoAttr K C f) (hg : Gt E i (sI C T) g) (hf : FG T f (sF R) gf) : SE (tFld K (tVar i) f) E (sF R) (fun γ => some (gf (g γ))) := ⟨fun s0 hL hE e k => by
  cases e
  obtain ⟨v, L1, h1, h2, a, dx, fs, M, h3, h4, h5, h6⟩ := hg hE
  subst h3 h4
  obtain ⟨w, L3, q1, q2, q3, q4⟩ := hf.run h6
  exact ⟨_, h1, a, C, dx, fs, w, rfl, hL _ (h2 _ List.mem_cons_self), cl, na, q1, k w _ _ [] (Step.nil s0) ⟨rfl, q4⟩⟩⟩
theorem se_fldF {T : Fd τ} {fa : ρ → Option τ} {gf : τ → α} (cl : Cls K C) (na : NoAttr K C f) (ha : SE ta E (sF (jX C T)) fa) (hf : FG T f (sF R) gf) : SE (tFld K ta f) E (sF R) (fun γ => ob (fa γ) fun x => some (gf x)) := ⟨fun s0 hL hE e k => by
  obtain ⟨x, e1, e⟩ := ob_some e
  cases e
  refine ha s0 hL hE e1 fun v F1 H1 L1 s1 ⟨z1, a, dx, fs, h1, h2, h3, h4, h5⟩ => ?_
  subst z1 h1
  obtain ⟨w, L3, q1, q2, q3, q4⟩ := hf.run h5
  exact ⟨a, C, dx, fs, w, rfl, s1.fh _ _ h2, cl, na, q1, k w F1 H1 [] s1 ⟨rfl, q4⟩⟩⟩
/-- a method of an object that does not change -/
theorem se_meth {m : Str} {T : Fd τ} {fa : ρ → Option τ} {fs : ρ → Option α} {sr : Sl δ} {mm : τ × α → Option δ} {Ex : XK} (ha : SE ta E (sF (jX C T)) fa) (hs : SA tA E A fs) (hm : m ∉ T.nm) :
    SE (tMeth C m (spM (aC (jX C T) A) sr mm) [] Ex ta tA) E sr (fun γ => ob (fa γ) fun x => ob (fs γ) fun y => mm (x, y)) := ⟨fun s0 hL hE e k => by
  obtain ⟨x, e1, e⟩ := ob_some e
  obtain ⟨y, e2, e⟩ := ob_some e
  refine ha s0 hL hE e1 fun v F1 H1 L1 s1 ⟨z1, r1⟩ => ?_
  subst z1
  obtain ⟨a, dx, fs, h1, h2, h3, h4, h5⟩ := id r1
  subst h1
  refine ⟨a, dx, fs, rfl, s1.fh _ _ h2, h4.2 m hm, ?_⟩
  refine hs s1.fh (hL.mono s1.hh) (E.m s1.f0 hE) e2 fun vs F2 H2 s2 r2 => ?_
  rw [List.append_nil]
  exact ⟨F2, (x, y), _, s2.fh, ⟨_, vs, rfl, (jX C T).m s2.f0 r1, r2⟩, e, fun v' F' H' L' st r => k v' F' H' L' ((s1.tr s2).tr st) r⟩⟩
/-! ### own objects handed in and changed -/
def cutL (H : Hp) (L : List (Addr × HO)) : Hp := fun b => if b ∈ L.map Prod.fst then none else H b
theorem cutL_in {H : Hp} {L : List (Addr × HO)} {b : Addr} (h : b ∈ L.map Prod.fst) : cutL H L b = none := if_pos h
theorem cutL_out {H : Hp} {L : List (Addr × HO)} {b : Addr} (h : b ∉ L.map Prod.fst) : cutL H L b = H b := if_neg h
theorem cutL_some {H : Hp} {L : List (Addr × HO)} {b : Addr} {o : HO} (h : cutL H L b = some o) : b ∉ L.map Prod.fst ∧ H b = some o := by
  unfold cutL at h
  split at h
  · cases h
  · next q => exact ⟨q, h⟩
theorem Own.lendL {F H : Hp} {L : List (Addr × HO)} (s : Same F (cutL H L)) (h : ∀ q ∈ L, F q.1 = none ∧ H q.1 = some q.2) (nd : (L.map Prod.fst).Nodup) : Own F (cutL H L) F H L [] :=
  ⟨Same.refl _, fun b o e => (cutL_some (s b o e)).2, fun b o e => (cutL_some e).2, fun _ _ h => .inl h, fun q hq => ⟨(h q hq).1, cutL_in (List.mem_map.mpr ⟨q, hq, rfl⟩), (h q hq).2⟩, nd, trivial⟩
theorem Own.lentL {F0 H0 F H F' H' : Hp} {pre L1 post L1' : List (Addr × HO)} {C : List Ck} (O : Own F0 H0 F H (pre ++ (L1 ++ post)) C) (c : Own F (cutL H L1) F' H' L1' []) : Own F0 H0 F' H' (L1' ++ (pre ++ post)) C := by
  have nd := O.nd
  have O2 := O.perm (L' := L1 ++ (pre ++ post)) (by rw [← List.append_assoc, ← List.append_assoc]; exact List.perm_append_comm.append_right post)
  have hdis : ∀ q ∈ pre ++ post, q.1 ∉ L1.map Prod.fst := fun q hq hm => by
    have := O2.nd
    rw [List.map_append, List.nodup_append] at this
    exact this.2.2 _ hm _ (List.mem_map.mpr ⟨q, hq, rfl⟩) rfl
  have hin : ∀ b, b ∈ L1.map Prod.fst → H0 b = none := fun b hb => by
    obtain ⟨q, hq, rfl⟩ := List.mem_map.mp hb
    exact (O2.own q (List.mem_append_left _ hq)).2.1
  have hc : ∀ b u, b ∉ L1.map Prod.fst → H b = some u → H' b = some u := fun b u n e => c.hh b u (by rw [cutL_out n]; exact e)
  have rest : ∀ q ∈ pre ++ post, F' q.1 = none ∧ H0 q.1 = none ∧ H' q.1 = some q.2 := fun q hq => by
    obtain ⟨h1, h2, h3⟩ := O2.own q (List.mem_append_right _ hq)
    refine ⟨?_, h2, hc _ _ (hdis q hq) h3⟩
    cases z : F' q.1 with
    | none => rfl
    | some u =>
      rcases c.new _ _ z with h | h
      · rw [h1] at h; cases h
      · rw [cutL_out (hdis q hq), h3] at h; cases h
  refine ⟨O.f0.trans c.f0, c.fh, fun b u e => hc b u (fun hb => by rw [hin b hb] at e; cases e) (O.hh b u e), fun b u h => ?_, fun q hq => ?_, ?_, O.cs.mono c.f0⟩
  · rcases c.new b u h with h | h
    · exact O.new b u h
    · by_cases hb : b ∈ L1.map Prod.fst
      · exact .inr (hin b hb)
      · rw [cutL_out hb] at h
        exact .inr (O.hh.free h)
  · rcases List.mem_append.mp hq with hq | hq
    · obtain ⟨h1, h2, h3⟩ := c.own q hq
      refine ⟨h1, ?_, h3⟩
      by_cases hb : q.1 ∈ L1.map Prod.fst
      · exact hin _ hb
      · rw [cutL_out hb] at h2
        exact O.hh.free h2
    · exact rest q hq
  · rw [List.map_append, List.nodup_append]
    refine ⟨c.nd, ?_, ?_⟩
    · have := O2.nd
      rw [List.map_append, List.nodup_append] at this
      exact this.2.1
    · intro a ha b hb e
      subst e
      obtain ⟨q, hq, rfl⟩ := List.mem_map.mp ha
      obtain ⟨q', hq', e⟩ := List.mem_map.mp hb
      obtain ⟨_, h2, _⟩ := c.own q hq
      have h3 := (O2.own q' (List.mem_append_right _ hq')).2.2
      have hn := hdis q' hq'
      rw [e] at h3 hn
      rw [cutL_out hn, h3] at h2
      cases h2
/-- called with an own object and such arguments, it changes the object and hands back what the mirror tells -/
def spZ (A : Ar α) (S : Sl τ) (S' : Sl τ') (sr : Sl δ) (m : τ → α → Option (τ' × δ)) : Sp := fun vs H Q _ => ∃ F v ws L x γ y b, vs = v :: ws ∧ Same F (cutL H L) ∧ (∀ q ∈ L, F q.1 = none ∧ H q.1 = some q.2) ∧ (L.map Prod.fst).Nodup ∧ S.r v F L x ∧ A.r F ws γ ∧ m x γ = some (y, b) ∧
  ∀ v' F' H' L' Lr, Own F (cutL H L) F' H' (L' ++ Lr) [] → S'.r v F' L' y → sr.r v' F' Lr b → Q v' H'
/-- C(..) -/
theorem se_make {T : Fd τ'} {fs : ρ → Option α} {m : Unit → α → Option (τ' × Unit)} {Ex : XK} (hs : SA tA E A fs) :
    SE (tMake C (spZ A (sI C fdN) (sI C T) (sF jN) m) [] Ex tA) E (sI C T) (fun γ => ob (fs γ) fun y => ob (m () y) fun z => some z.1) := ⟨fun s0 hL hE e k => by
  obtain ⟨y, e1, e⟩ := ob_some e
  obtain ⟨⟨z, w⟩, e2, e⟩ := ob_some e
  cases e
  refine hs s0 hL hE e1 fun vs F1 H1 s1 r1 => fun x dx nx ndx hne => ?_
  have ecut : cutL (upd (upd H1 dx (.own x)) x (.ins C dx [])) [(x, .ins C dx []), (dx, .own x)] = H1 := by
    funext b
    by_cases hb : b ∈ [(x, HO.ins C dx []), (dx, HO.own x)].map Prod.fst
    · rw [cutL_in hb]
      simp only [List.map_cons, List.map_nil, List.mem_cons, List.not_mem_nil, or_false] at hb
      rcases hb with hb | hb
      · rw [hb, nx]
      · rw [hb, ndx]
    · rw [cutL_out hb]
      simp only [List.map_cons, List.map_nil, List.mem_cons, List.not_mem_nil, or_false, not_or] at hb
      rw [upd_ne hb.1, upd_ne hb.2]
  refine ⟨F1, .ref x, vs, [(x, .ins C dx []), (dx, .own x)], (), y, z, w, by rw [List.append_nil], by rw [ecut]; exact s1.fh, fun q hq => ?_, ?_, ⟨x, dx, [], [], rfl, rfl, ⟨Nat.zero_le _, fun _ _ => rfl⟩, rfl⟩, r1, e2, fun v' F' H' L' Lr O r2 r3 => ?_⟩
  · simp only [List.mem_cons, List.not_mem_nil, or_false] at hq
    rcases hq with hq | hq
    · subst hq; exact ⟨s1.fh.free nx, upd_same⟩
    · subst hq; exact ⟨s1.fh.free ndx, by rw [upd_ne hne, upd_same]⟩
  · simp only [List.map_cons, List.map_nil, List.nodup_cons, List.mem_cons, List.not_mem_nil, or_false, not_false_eq_true, List.nodup_nil, and_true]
    exact fun z => hne z.symm
  · rw [ecut] at O
    obtain ⟨e3, e4⟩ := r3
    subst e3
    rw [List.append_nil] at O
    exact ⟨e4, k _ _ _ _ (s1.tr O) r2⟩⟩
/-- x = obj.m(..), which changes obj -/
theorem ss_asgZ {j : Nat} {m : Str} {T : Fd τ} {g : ρ → τ} {up : τ → ρ → ρ} {fs : ρ → Option α} {D : Rp δ} {p : δ → ρ → ρ''} {mm : τ → α → Option (τ × δ)} {m2 : ρ'' → Option (Res ρ' κ β)} {Ex : XK}
    (hx : Fy E i (sI C T) g E (sI C T) up) (hs : SA tA E A fs) (hm : m ∉ T.nm) (hp : Pt E j (sF D) E1 p) (hu : SS u E1 E' Ec s m2) :
    SS (tSeq (tAsg (tMeth C m (spZ A (sI C T) (sI C T) (sF D) mm) [] Ex (tVar i) tA) (gName j)) u) E E' Ec s (fun γ => ob (fs γ) fun a => ob (mm (g γ) a) fun z => m2 (p z.2 (up z.1 γ))) := ⟨fun {σ F0 H0 F H L γ r D} O hE e fin => by
  obtain ⟨a, e1, e⟩ := ob_some e
  obtain ⟨⟨y, b⟩, e2, e⟩ := ob_some e
  obtain ⟨v, pre, L1, post, h1, h2, h3, h4⟩ := hx.run hE
  obtain ⟨x, dx, fl, M, g1, g2, g3, g4⟩ := id h3
  subst g1
  have hxa : H x = some (.ins C dx fl) := (O.own (x, .ins C dx fl) (by rw [h2, g2]; simp)).2.2
  refine ⟨_, h1, x, dx, fl, rfl, hxa, g3.2 m hm, ?_⟩
  refine hs O.fh (Held.of O) hE e1 fun vs F1 H1 s1 r1 => ?_
  have O1 := Own.on O s1
  rw [List.nil_append, h2] at O1
  rw [List.append_nil]
  have O2 := O1.perm (L' := L1 ++ (pre ++ post)) (by rw [← List.append_assoc, ← List.append_assoc]; exact List.perm_append_comm.append_right post)
  have nd := O2.nd
  rw [List.map_append, List.nodup_append] at nd
  refine ⟨F1, .ref x, vs, L1, g γ, a, y, b, rfl, fun c o ec => ?_, fun q hq => ?_, nd.1, (sI C T).m s1.f0 h3, r1, e2, fun v' F' H' L' Lr c r2 ⟨r3, r4⟩ => ?_⟩
  · rw [cutL_out fun hm => ?_]
    · exact O1.fh c o ec
    · obtain ⟨q, hq, rfl⟩ := List.mem_map.mp hm
      rw [(O2.own q (List.mem_append_left _ hq)).1] at ec
      cases ec
  · have := O2.own q (List.mem_append_left _ hq)
    exact ⟨this.1, this.2.2⟩
  · subst r3
    rw [List.append_nil] at c
    have O3 := Own.lentL O1 c
    have hE2 := h4 F' L' y (s1.f0.trans c.f0) r2
    obtain ⟨L'', q1, q2⟩ := hp.run (L1 := []) (v := v') (x := b) hE2 ⟨rfl, r4⟩
    refine hu.run (OwnSb O3 (q2.trans (Sb.perm ?_))) q1 e (fin.mo (s1.f0.trans c.f0))
    rw [List.nil_append, ← List.append_assoc, ← List.append_assoc]
    exact (List.perm_append_comm).append_right post⟩
/-! ### setting fields -/
/-- self.f = e, a new field -/
theorem ss_fldN {s1 : Sl α} {T : Fd τ} {g : ρ → τ} {up : α × τ → ρ → ρ''} {fe : ρ → Option α} {m : ρ'' → Option (Res ρ' κ β)} (cl : Cls K C) (na : NoAttr K C f) (he : SE te E s1 fe) (hx : Fy E i (sIA pp C T) g E1 (sIA pp C (fdC f s1 T)) up) (hu : SS u E1 E' Ec s m) (hn : f ∉ T.nm := by decide) (hz : T.nm.length < 1000 := by decide) :
    SS (tSeq (sFld K (tVar i) te f) u) E E' Ec s (fun γ => ob (fe γ) fun y => m (up (y, g γ) γ)) := ⟨fun {σ F0 H0 F H L γ r D} O hE e fin => by
  obtain ⟨y, e1, e⟩ := ob_some e
  refine he O.fh (Held.of O) hE e1 fun v F1 H1 L1 st r1 => ?_
  have O1 := Own.on O st
  obtain ⟨w, pre, Lo, post, h1, h2, ⟨h3, dx, fs, M, h5, h6, h7⟩, h4⟩ := hx.run hE
  subst h3 h5 h2
  refine ⟨_, h1, pp, C, dx, fs, rfl, (O1.own (pp, .ins C dx fs) (by simp)).2.2, cl, na, Nat.lt_of_le_of_lt h6.1 hz, ?_⟩
  have O2 := Own.at1 (o' := .ins C dx (putF f v fs)) (post := (dx, HO.own pp) :: (M ++ post)) (by simpa using O1)
  refine hu.run (O2.perm (L' := pre ++ (((pp, .ins C dx (putF f v fs)) :: (dx, .own pp) :: (L1 ++ M)) ++ post)) ?_) (h4 F1 _ (y, g γ) st.f0 ⟨rfl, dx, putF f v fs, L1 ++ M, rfl, h6.new, v, L1, M, ?_, rfl, r1, ?_⟩) e (fin.mo st.f0)
  · have p1 : (pre ++ ((pp, HO.ins C dx (putF f v fs)) :: (dx, HO.own pp) :: (L1 ++ M)) ++ post).Perm (L1 ++ (pre ++ (pp, HO.ins C dx (putF f v fs)) :: (dx, HO.own pp) :: (M ++ post))) := by
      have e1 : pre ++ ((pp, HO.ins C dx (putF f v fs)) :: (dx, HO.own pp) :: (L1 ++ M)) ++ post = (pre ++ [(pp, HO.ins C dx (putF f v fs)), (dx, HO.own pp)]) ++ (L1 ++ (M ++ post)) := by simp
      have e2 : L1 ++ (pre ++ (pp, HO.ins C dx (putF f v fs)) :: (dx, HO.own pp) :: (M ++ post)) = L1 ++ ((pre ++ [(pp, HO.ins C dx (putF f v fs)), (dx, HO.own pp)]) ++ (M ++ post)) := by simp
      rw [e1, e2]
      exact pswap
    simpa using p1
  · rw [lookup_putF, if_pos rfl]
  · exact T.c (fun h hh => by rw [lookup_putF, if_neg (fun z : h = f => hn (z ▸ hh))]) (T.m st.f0 h7)⟩
/-- self.f = e, a field that is there -/
theorem ss_fldS {T : Fd τ} {g : ρ → τ} {gf : τ → α} {uf : α → τ → τ} {up : τ → ρ → ρ} {fe : ρ → Option α} {m : ρ → Option (Res ρ' κ β)} (cl : Cls K C) (na : NoAttr K C f) (he : SE te E (sF R) fe) (hx : Fy E i (sIA pp C T) g E (sIA pp C T) up) (hf : FX T f (sF R) gf uf) (hu : SS u E E' Ec s m) (hz : T.nm.length < 1000 := by decide) :
    SS (tSeq (sFld K (tVar i) te f) u) E E' Ec s (fun γ => ob (fe γ) fun y => m (up (uf y (g γ)) γ)) := ⟨fun {σ F0 H0 F H L γ r D} O hE e fin => by
  obtain ⟨y, e1, e⟩ := ob_some e
  refine he O.fh (Held.of O) hE e1 fun v F1 H1 L1 st ⟨z1, r1⟩ => ?_
  subst z1
  have O1 := Own.on O st
  rw [List.nil_append] at O1
  obtain ⟨w, pre, Lo, post, h1, h2, ⟨h3, dx, fs, M, h5, h6, h7⟩, h4⟩ := hx.run hE
  subst h3 h5 h2
  obtain ⟨v0, p2, L2, q2, k1, k2, ⟨k3, k4⟩, k5⟩ := hf.run h7
  subst k3 k2
  refine ⟨_, h1, pp, C, dx, fs, rfl, (O1.own (pp, .ins C dx fs) (by simp)).2.2, cl, na, Nat.lt_of_le_of_lt h6.1 hz, ?_⟩
  have O2 := Own.at1 (A := []) (o' := .ins C dx (putF f v fs)) (post := (dx, HO.own pp) :: (p2 ++ ([] ++ q2) ++ post)) (by simpa using O1)
  refine hu.run (by simpa using O2) (h4 F1 ((pp, .ins C dx (putF f v fs)) :: (dx, .own pp) :: (p2 ++ ([] ++ q2))) (uf y (g γ)) st.f0 ⟨rfl, dx, putF f v fs, _, rfl, h6.old k1, ?_⟩) e (fin.mo st.f0)
  exact k5 F1 (putF f v fs) v [] y st.f0 (by rw [lookup_putF, if_pos rfl]) (fun h hh => by rw [lookup_putF, if_neg hh]) ⟨rfl, r1⟩⟩
/-- self.f op= e -/
theorem ss_fldAug {h : Int → Int → Int} {T : Fd τ} {g : ρ → τ} {gf : τ → Int} {uf : Int → τ → τ} {up : τ → ρ → ρ} {fe : ρ → Option Int} {m : ρ → Option (Res ρ' κ β)} (cl : Cls K C) (na : NoAttr K C f) (he : SE te E (sF jI) fe) (hx : Fy E i (sIA pp C T) g E (sIA pp C T) up) (hf : FX T f (sF jI) gf uf) (hu : SS u E E' Ec s m) (hz : T.nm.length < 1000 := by decide) :
    SS (tSeq (sFldAug K (tVar i) te (rI0 fun i j => .int (h i j)) f) u) E E' Ec s (fun γ => ob (fe γ) fun y => m (up (uf (h (gf (g γ)) y) (g γ)) γ)) := ⟨fun {σ F0 H0 F H L γ r D} O hE e fin => by
  obtain ⟨y, e1, e⟩ := ob_some e
  obtain ⟨w, pre, Lo, post, h1, h2, ⟨h3, dx, fs, M, h5, h6, h7⟩, h4⟩ := hx.run hE
  subst h3 h5 h2
  obtain ⟨v0, p2, L2, q2, k1, k2, ⟨k3, k4⟩, k5⟩ := hf.run h7
  subst k3 k2
  have k4 : v0 = .int (gf (g γ)) := k4
  subst k4
  refine ⟨_, h1, pp, C, dx, fs, _, rfl, (O.own (pp, .ins C dx fs) (by simp)).2.2, cl, na, k1, ?_⟩
  refine he O.fh (Held.of O) hE e1 fun v F1 H1 L1 st ⟨z1, r1⟩ => ?_
  subst z1
  have r1 : v = .int y := r1
  subst r1
  have O1 := Own.on O st
  rw [List.nil_append] at O1
  refine ⟨_, _, rfl, rfl, dx, fs, (O1.own (pp, .ins C dx fs) (by simp)).2.2, Nat.lt_of_le_of_lt h6.1 hz, ?_⟩
  have O2 := Own.at1 (A := []) (o' := .ins C dx (putF f (.int (h (gf (g γ)) y)) fs)) (post := (dx, HO.own pp) :: (p2 ++ ([] ++ q2) ++ post)) (by simpa using O1)
  refine hu.run (by simpa using O2) (h4 F1 ((pp, .ins C dx (putF f (.int (h (gf (g γ)) y)) fs)) :: (dx, .own pp) :: (p2 ++ ([] ++ q2))) (uf (h (gf (g γ)) y) (g γ)) st.f0 ⟨rfl, dx, _, _, rfl, h6.old k1, ?_⟩) e (fin.mo st.f0)
  exact k5 F1 _ _ [] _ st.f0 (by rw [lookup_putF, if_pos rfl]) (fun h hh => by rw [lookup_putF, if_neg hh]) ⟨rfl, rfl⟩⟩
/-- self.f as a place -/
theorem pl_fld {s1 : Sl α} {T : Fd τ} {g : ρ → τ} {gf : τ → α} {uf : α → τ → τ} {up : τ → ρ → ρ} (cl : Cls K C) (na : NoAttr K C f) (hx : Fy E i (sIA pp C T) g E (sIA pp C T) up) (hf : FX T f s1 gf uf) :
    SPl (tFld K (tVar i) f) E s1 (fun γ => some (gf (g γ))) (fun γ y => some (uf y (g γ))) up := ⟨fun {σ F H L γ y Q} s0 hL hE e k => by
  cases e
  obtain ⟨w, pre, Lo, post, h1, h2, ⟨h3, dx, fs, M, h5, h6, h7⟩, h4⟩ := hx.run hE
  subst h3 h5 h2
  obtain ⟨v0, p2, L2, q2, k1, k2, k3, k5⟩ := hf.run h7
  subst k2
  refine ⟨_, h1, pp, C, dx, fs, v0, rfl, hL (pp, .ins C dx fs) (by simp), cl, na, k1, k v0 F H (Step.nil s0) ⟨pre ++ (pp, .ins C dx fs) :: (dx, .own pp) :: p2, L2, q2 ++ post, by simp, k3, fun F2 L3 y2 γ2 z r e => ?_⟩⟩
  cases e
  have := h4 F2 ((pp, .ins C dx fs) :: (dx, .own pp) :: (p2 ++ (L3 ++ q2))) (uf y2 (g γ)) z ⟨rfl, dx, fs, _, rfl, h6, k5 F2 fs v0 L3 y2 z k1 (fun _ _ => rfl) r⟩
  simpa using this⟩
/-! ### defs that change their object -/
def rZ (pp : Addr) (S : Sl τ) (sr : Sl δ) : RRt (τ × δ) := ⟨fun F0 H0 Fs Q b => ∀ v F H L Lr, Same Fs F → Own F0 H0 F H (L ++ Lr) [] → S.r (.ref pp) F L b.1 → sr.r v F Lr b.2 → Q v H, fun h sF v F H L Lr s2 => h v F H L Lr (sF.trans s2)⟩
theorem ss_retZ {T : Fd τ} {g : ρ → τ} {up : τ → ρ → ρ} {D : Rp δ} {fe : ρ → Option δ} (he : SE te E (sF D) fe) (hx : Fy E i (sIA pp C T) g E (sIA pp C T) up) : SS (tRet te) E E' Ec (rZ pp (sIA pp C T) (sF D)) (fun γ => ob (fe γ) fun b => some (.ret (g γ, b))) := ⟨fun {σ F0 H0 F H L γ r D} O hE e fin => by
  obtain ⟨b, e1, e⟩ := ob_some e
  cases e
  refine he O.fh (Held.of O) hE e1 fun v F1 H1 L1 st ⟨z1, r1⟩ => ?_
  subst z1
  have O1 := Own.on O st
  rw [List.nil_append] at O1
  obtain ⟨w, pre, Lo, post, h1, h2, h3, h4⟩ := hx.run hE
  have e3 := h3.1
  subst e3 h2
  refine fin v F1 H1 Lo [] st.f0 (OwnSb O1 ?_) ((sIA pp C T).m st.f0 h3) ⟨rfl, r1⟩
  rw [List.append_nil]
  exact (Sb.dropR Lo post).trans (Sb.dropL pre (Lo ++ post))⟩
/-- of a body that hands back a value -/
def finZ (x : Option (Res ρ κ (τ × δ))) : Option (τ × δ) := fin x
theorem finZ_runX {T : Fd τ} {T2 : Fd τ'} {a : Ar α} {n k : Nat} {N : List Str} {E0 : Addr → En (τ × ρ)} {sr : Sl δ} {t : TS} {mm : τ → α → Option (τ' × δ)} {vs : List V} {H : Hp} {Q : VK} {Ex : XK} {D : Ends} {j : α → ρ} {E1 : En ρ'}
    (hE : ∀ pp {F vs L x γ}, a.r F vs γ → (sIA pp C T).r (.ref pp) F L x → (E0 pp).r (some (.ref pp) :: (vs.map some ++ List.replicate n none)) F L (x, j γ)) (hn : AN a k) (hN : N.length = k + 1 + n)
    (h : ∀ pp, ∃ m : τ × ρ → Option (Res ρ' Unit (τ' × δ)), SS t (E0 pp) E1 eN (rZ pp (sIA pp C T2) sr) m ∧ mm = fun x γ => finZ (m (x, j γ))) (q : spZ a (sI C T) (sI C T2) sr mm vs H Q Ex) (hD : D.rt = Q) : t D (L2.start N vs) H := by
  obtain ⟨F, v, ws, L, x, γ, y, b, e0, s0, h1, nd, r1, r2, e, k2⟩ := q
  subst e0
  obtain ⟨pp, dx, fs, M, g1, g2, g3, g4⟩ := r1
  subst g1
  obtain ⟨m, hs, hm⟩ := h pp
  subst hm
  obtain ⟨r, e1, e2⟩ := ob_some e
  have hl := hn.run r2
  have hs2 : L2.start N (.ref pp :: ws) = some (.ref pp) :: (ws.map some ++ List.replicate n none) := by
    unfold L2.start
    rw [List.map_cons, List.cons_append, show N.length - (V.ref pp :: ws).length = n by rw [List.length_cons]; omega]
  rw [hs2]
  refine hs.run (Own.lendL s0 h1 nd) (hE pp r2 ⟨rfl, dx, fs, M, g2, g3, g4⟩) e1 ?_
  cases r with
  | ret b' =>
    cases e2
    intro v' F' H' L' Lr _ O r3 r4
    rw [hD]
    exact k2 v' F' H' L' Lr O (sIA_sI r3) r4
  | nxt _ => cases e2
  | cnt _ => cases e2
  | brk _ => cases e2
/-- of a body that hands back None -/
def finZN (g : ρ → τ) (x : Option (Res ρ κ β)) : Option (τ × Unit) := ob x fun r => match r with | .nxt γ => some (g γ, ()) | _ => none
theorem finZN_runX {T : Fd τ} {T2 : Fd τ'} {a : Ar α} {n k i : Nat} {N : List Str} {E0 : Addr → En (τ × ρ)} {t : TS} {mm : τ → α → Option (τ' × Unit)} {vs : List V} {H : Hp} {Q : VK} {Ex : XK} {D : Ends} {j : α → ρ} {E1 : Addr → En ρ'} {g : ρ' → τ'} {up : τ' → ρ' → ρ'}
    (hE : ∀ pp {F vs L x γ}, a.r F vs γ → (sIA pp C T).r (.ref pp) F L x → (E0 pp).r (some (.ref pp) :: (vs.map some ++ List.replicate n none)) F L (x, j γ)) (hn : AN a k) (hN : N.length = k + 1 + n)
    (hx : ∀ pp, Fy (E1 pp) i (sIA pp C T2) g (E1 pp) (sIA pp C T2) up)
    (h : ∀ pp, ∃ m : τ × ρ → Option (Res ρ' Unit (τ' × Unit)), SS t (E0 pp) (E1 pp) eN (rZ pp (sIA pp C T2) (sF jN)) m ∧ mm = fun x γ => finZN g (m (x, j γ))) (q : spZ a (sI C T) (sI C T2) (sF jN) mm vs H Q Ex) (hD2 : D.nx = fun _ H' => Q .non H') : t D (L2.start N vs) H := by
  obtain ⟨F, v, ws, L, x, γ, y, b, e0, s0, h1, nd, r1, r2, e, k2⟩ := q
  subst e0
  obtain ⟨pp, dx, fs, M, g1, g2, g3, g4⟩ := r1
  subst g1
  obtain ⟨m, hs, hm⟩ := h pp
  subst hm
  obtain ⟨r, e1, e2⟩ := ob_some e
  have hl := hn.run r2
  have hs2 : L2.start N (.ref pp :: ws) = some (.ref pp) :: (ws.map some ++ List.replicate n none) := by
    unfold L2.start
    rw [List.map_cons, List.cons_append, show N.length - (V.ref pp :: ws).length = n by rw [List.length_cons]; omega]
  rw [hs2]
  refine hs.run (Own.lendL s0 h1 nd) (hE pp r2 ⟨rfl, dx, fs, M, g2, g3, g4⟩) e1 ?_
  cases r with
  | nxt γ' =>
    cases e2
    intro σ F' H' L' _ O hE'
    rw [hD2]
    obtain ⟨w, pre, Lo, post, h5, h6, h7, _⟩ := (hx pp).run hE'
    have e3 := h7.1
    subst e3 h6
    refine k2 .non F' H' Lo [] (OwnSb O ?_) (sIA_sI h7) ⟨rfl, rfl⟩
    rw [List.append_nil]
    exact (Sb.dropR Lo post).trans (Sb.dropL pre (Lo ++ post))
  | ret _ => cases e2
  | cnt _ => cases e2
  | brk _ => cases e2
theorem aze {T : Fd τ} {a : Ar ρ} {E : En ρ} {n : Nat} (h : AE a E n) : ∀ pp {F : Hp} {vs : List V} {L : List (Addr × HO)} {x : τ} {γ : ρ}, a.r F vs γ → (sIA pp C T).r (.ref pp) F L x → (eC (sIA pp C T) E).r (some (.ref pp) :: (vs.map some ++ List.replicate n none)) F L (x, γ) := fun pp {F vs L x γ} r1 r2 =>
  ⟨_, _, L, [], rfl, by rw [List.append_nil], r2, h.run r1⟩
theorem spZ_len {a : Ar α} {S : Sl τ} {S' : Sl τ'} {sr : Sl δ} {m : τ → α → Option (τ' × δ)} {n : Nat} (h : AN a n) : ∀ vs H Q E, spZ a S S' sr m vs H Q E → vs.length = n + 1 := fun _ _ _ _ ⟨_, _, _, _, _, _, _, _, e, _, _, _, _, r, _⟩ => by rw [e, List.length_cons, h.run r]
/-! what it tells -/
def RfZ (Q : τ × Unit → Prop) (g : ρ → τ) : Res ρ κ β → Prop
  | .nxt γ => Q (g γ, ())
  | _ => False
theorem RfZ_nxt {Q : τ × Unit → Prop} {g : ρ → τ} {γ : ρ} : RfZ (κ := κ) (β := β) Q g (.nxt γ) = Q (g γ, ()) := rfl
theorem W_finZ {x : Option (Res ρ κ (τ × δ))} {Q : τ × δ → Prop} : W (finZ x) Q = W x (Rf Q) := W_fin
theorem W_finZN {g : ρ → τ} {x : Option (Res ρ κ β)} {Q : τ × Unit → Prop} : W (finZN g x) Q = W x (RfZ Q g) := by
  unfold finZN
  rw [W_ob]
  congr 1
  funext r
  cases r with
  | nxt γ => exact W_some
  | ret b => exact W_none
  | cnt γ => exact W_none
  | brk γ => exact W_none
end
end Mi

namespace Mi
open PySem PySem.Spec PyProof.Rows L2 Fw
/-! ### dicts of ints or texts -/
structure Ky (κ : Type) [DecidableEq κ] where
  e : κ → Key
  R : Rp κ
  i : ∀ {a b : κ}, e a = e b → a = b
  v : ∀ {F : Hp} {v : V} {k : κ}, R.r F v k → v = kV (e k)
def kyI : Ky Int := ⟨Sum.inl, jI, fun h => Sum.inl.inj h, fun h => h⟩
def kyS : Ky (List Nat) := ⟨fun l => Sum.inr (S l), jS, fun h => S_inj.mp (Sum.inr.inj h), fun h => h.1⟩
section
variable {ky : Type} [DecidableEq ky] {τ : Type}
def mget (d : List (ky × τ)) (k : ky) : Option τ := (d.find? fun q => decide (q.1 = k)).map (·.2)
def mput (d : List (ky × τ)) (k : ky) (x : τ) : List (ky × τ) := if (d.any fun q => decide (q.1 = k)) = true then d.map (fun q => if q.1 = k then (q.1, x) else q) else d ++ [(k, x)]
def dR (Y : Ky ky) (A : Rp τ) (F : Hp) (kv : Key × V) (x : ky × τ) : Prop := kv.1 = Y.e x.1 ∧ A.r F kv.2 x.2
theorem dR.m {Y : Ky ky} {A : Rp τ} {F F' : Hp} (s : Same F F') {kvs : List (Key × V)} {d : List (ky × τ)} (h : Paired (dR Y A F) kvs d) : Paired (dR Y A F') kvs d := Paired.mono (fun _ _ q => ⟨q.1, A.m s q.2⟩) h
def sM (Y : Ky ky) (A : Rp τ) : Sl (List (ky × τ)) := ⟨fun v F L d => ∃ p kvs, v = .ref p ∧ L = [(p, .dK kvs)] ∧ Paired (dR Y A F) kvs d, fun s ⟨p, kvs, e, h, q⟩ => ⟨p, kvs, e, h, dR.m s q⟩⟩
def jM (Y : Ky ky) (A : Rp τ) : Rp (List (ky × τ)) := ⟨fun F v d => ∃ p kvs, v = .ref p ∧ F p = some (.dK kvs) ∧ Paired (dR Y A F) kvs d, fun s ⟨p, kvs, e, h, q⟩ => ⟨p, kvs, e, s _ _ h, dR.m s q⟩⟩
theorem mget_rel {Y : Ky ky} {A : Rp τ} {F : Hp} {k : ky} : ∀ {kvs : List (Key × V)} {d : List (ky × τ)}, Paired (dR Y A F) kvs d →
    (∀ x, mget d k = some x → ∃ v, valV kvs (Y.e k) = some v ∧ A.r F v x) ∧ (mget d k = none → valV kvs (Y.e k) = none)
  | [], [], .nil => ⟨fun _ e => (nomatch e), fun _ => rfl⟩
  | kv :: kvs, q :: d, .cons h t => by
    obtain ⟨i1, i2⟩ := mget_rel (k := k) t
    by_cases e : q.1 = k
    · have e1 : mget (q :: d) k = some q.2 := by simp [mget, List.find?_cons, e]
      have e2 : valV (kv :: kvs) (Y.e k) = some kv.2 := valV_pos (by rw [h.1, e])
      refine ⟨fun x hx => ?_, fun hx => by rw [e1] at hx; cases hx⟩
      rw [e1] at hx
      cases hx
      exact ⟨_, e2, h.2⟩
    · have e1 : mget (q :: d) k = mget d k := by simp [mget, List.find?_cons, e]
      have e2 : valV (kv :: kvs) (Y.e k) = valV kvs (Y.e k) := valV_neg (by rw [h.1]; exact fun z => e (Y.i z))
      rw [e1, e2]
      exact ⟨i1, i2⟩
theorem any_rel {Y : Ky ky} {A : Rp τ} {F : Hp} {k : ky} : ∀ {kvs : List (Key × V)} {d : List (ky × τ)}, Paired (dR Y A F) kvs d → (kvs.any fun kv => decide (kv.1 = Y.e k)) = (d.any fun q => decide (q.1 = k))
  | [], [], .nil => rfl
  | kv :: kvs, q :: d, .cons h t => by
    rw [List.any_cons, List.any_cons, any_rel t]
    congr 1
    rw [h.1]
    exact decide_eq_decide.mpr ⟨fun z => Y.i z, fun z => by rw [z]⟩
theorem mput_rel {Y : Ky ky} {A : Rp τ} {F : Hp} {k : ky} {v : V} {x : τ} (r : A.r F v x) {kvs : List (Key × V)} {d : List (ky × τ)} (h : Paired (dR Y A F) kvs d) : Paired (dR Y A F) (putK kvs (Y.e k) v) (mput d k x) := by
  have key : ∀ {kvs : List (Key × V)} {d : List (ky × τ)}, Paired (dR Y A F) kvs d → Paired (dR Y A F) (kvs.map fun kv => if kv.1 = Y.e k then (kv.1, v) else kv) (d.map fun q => if q.1 = k then (q.1, x) else q) := by
    intro kvs d h
    induction h with
    | nil => exact .nil
    | @cons kv q _ _ h t ih =>
      refine .cons ?_ ih
      show dR Y A F (if kv.1 = Y.e k then (kv.1, v) else kv) (if q.1 = k then (q.1, x) else q)
      by_cases e : q.1 = k
      · have e2 : kv.1 = Y.e k := by rw [h.1, e]
        rw [if_pos e2, if_pos e]
        exact ⟨h.1, r⟩
      · have e2 : ¬ kv.1 = Y.e k := by rw [h.1]; exact fun z => e (Y.i z)
        rw [if_neg e2, if_neg e]
        exact h
  unfold putK mput
  rw [any_rel h]
  split
  · exact key h
  · exact Paired.app h (.cons ⟨rfl, r⟩ .nil)
theorem fzM {Y : Ky ky} {A : Rp τ} : Fz (sM Y A) (jM Y A) := ⟨fun {_ _ F _ _ _ _ _} O ⟨p, kvs, e1, e2, q⟩ => by
  subst e1 e2
  have O1 := ((show Own _ _ _ _ ((p, HO.dK kvs) :: _) [] from O).freeze).chunks (C' := []) trivial
  have s1 : Same F (upd F p (.dK kvs)) := fun b u e => by rw [upd_ne (ne_of_none e ((O.own (p, .dK kvs) List.mem_cons_self)).1)]; exact e
  exact ⟨_, s1, O1, p, kvs, rfl, upd_same, dR.m s1 q⟩⟩
end
section
variable {ky : Type} [DecidableEq ky] {α β δ τ ρ ρ' ρ'' κ : Type} {E : En ρ} {E' : En ρ'} {E1 : En ρ''} {Ec : En κ} {ta td ty tx te : TE} {A : Rp τ} {Y : Ky ky} {K : PySem.W.Frag} {s : RRt β} {u : TS} {i : Nat} {fd : ρ → Option (List (ky × τ))} {fk : ρ → Option ky} {fx : ρ → Option τ}
theorem se_dnew : SE tDNewK E (sM Y A) (fun _ => some []) := ⟨fun s0 hL hE e k => by
  cases e
  exact fun p np => k _ _ _ _ ((Step.nil s0).alloc np (.dK [])) ⟨p, [], rfl, rfl, .nil⟩⟩
theorem sr_dvar {g : ρ → List (ky × τ)} (hg : Gt E i (sM Y A) g) : SR (tVar i) E (jM Y A) (fun γ => some (g γ)) := ⟨fun s0 hL hE e k => by
  cases e
  obtain ⟨v, L1, h1, h2, p, kvs, h3, h4, h5⟩ := hg hE
  subst h3 h4
  exact ⟨_, h1, k _ _ _ (Step.nil s0) ⟨p, kvs, rfl, hL _ (h2 _ List.mem_cons_self), dR.m s0 h5⟩⟩⟩
theorem se_dget (hd : SR td E (jM Y A) fd) (hk : SE ty E (sF Y.R) fk) (sc : Scal A) : SE (tDGet td ty) E (sF A) (fun γ => ob (fd γ) fun d => ob (fk γ) fun k => mget d k) := ⟨fun s0 hL hE e k => by
  obtain ⟨d, e1, e⟩ := ob_some e
  obtain ⟨y, e2, e⟩ := ob_some e
  refine hd.run s0 hL hE e1 fun v F1 H1 s1 ⟨p, kvs, h1, h2, h3⟩ => ?_
  subst h1
  refine hk s1.fh (hL.mono s1.hh) (E.m s1.f0 hE) e2 fun w F2 H2 L2 s2 ⟨z2, r2⟩ => ?_
  subst z2
  obtain ⟨x, q1, q2⟩ := (mget_rel (dR.m s2.hh h3)).1 _ e
  refine ⟨p, x, rfl, ?_, k x F2 H2 [] (s1.tr s2) ⟨rfl, sc.run q2⟩⟩
  rw [Y.v r2, ← q1]
  exact DGet.k (s2.hh _ _ h2)⟩
theorem se_dget2 (hd : SR td E (jM Y A) fd) (hk : SE ty E (sF Y.R) fk) (hx : SE tx E (sF A) fx) (sc : Scal A) : SE (tDGet2 td ty tx) E (sF A) (fun γ => ob (fd γ) fun d => ob (fk γ) fun k => ob (fx γ) fun x => some ((mget d k).getD x)) := ⟨fun s0 hL hE e k => by
  obtain ⟨d, e1, e⟩ := ob_some e
  obtain ⟨y, e2, e⟩ := ob_some e
  obtain ⟨x, e3, e⟩ := ob_some e
  cases e
  refine hd.run s0 hL hE e1 fun v F1 H1 s1 ⟨p, kvs, h1, h2, h3⟩ => ?_
  subst h1
  refine ⟨p, rfl, .inl ⟨kvs, .inl h2⟩, ?_⟩
  refine hk s1.fh (hL.mono s1.hh) (E.m s1.f0 hE) e2 fun w F2 H2 L2 s2 ⟨z2, r2⟩ => ?_
  subst z2
  have s12 := s1.tr s2
  refine hx s2.fh (hL.mono s12.hh) (E.m s12.f0 hE) e3 fun w3 F3 H3 L3 s3 ⟨z3, r3⟩ => ?_
  subst z3
  have h4 := s3.hh _ _ (s2.hh _ _ h2)
  have h5 := dR.m (s2.hh.trans s3.hh) h3
  rw [Y.v r2]
  refine ⟨_, DGet.k h4, k _ F3 H3 [] (s12.tr s3) ⟨rfl, ?_⟩⟩
  cases q : mget d y with
  | none =>
    rw [(mget_rel h5).2 q]
    exact r3
  | some x' =>
    obtain ⟨v', q1, q2⟩ := (mget_rel h5).1 _ q
    rw [q1]
    exact sc.run q2⟩
theorem din_run {Q : VK} {σ : L2.St} {F H : Hp} {L : List (Addr × HO)} {γ : ρ} {y : ky} {d : List (ky × τ)} (hd : SR td E (jM Y A) fd) (hk : SE ty E (sF Y.R) fk) (s0 : Same F H) (hL : Held H L) (hE : E.r σ F L γ) (e1 : fk γ = some y) (e2 : fd γ = some d)
    (k : ∀ p o H2 F2, Step F H F2 H2 [] → DGet H2 p (kV (Y.e y)) o → o.isSome = (mget d y).isSome → Q (.ref p) H2) : ty σ H fun w H1 => td σ H1 fun x H2 => w = kV (Y.e y) ∧ Q x H2 := by
  refine hk s0 hL hE e1 fun w F1 H1 L1 s1 ⟨z1, r1⟩ => ?_
  subst z1
  refine hd.run s1.fh (hL.mono s1.hh) (E.m s1.f0 hE) e2 fun v F2 H2 s2 ⟨p, kvs, h1, h2, h3⟩ => ?_
  subst h1
  refine ⟨Y.v r1, k p _ H2 F2 (s1.tr s2) (DGet.k h2) ?_⟩
  cases q : mget d y with
  | none => rw [(mget_rel h3).2 q]; rfl
  | some x' =>
    obtain ⟨v', q1, _⟩ := (mget_rel h3).1 _ q
    rw [q1]; rfl
theorem se_din (hk : SE ty E (sF Y.R) fk) (hd : SR td E (jM Y A) fd) : SE (tDIn ty td) E (sF jB) (fun γ => ob (fk γ) fun k => ob (fd γ) fun d => some (mget d k).isSome) := ⟨fun s0 hL hE e k => by
  obtain ⟨y, e1, e⟩ := ob_some e
  obtain ⟨d, e2, e⟩ := ob_some e
  cases e
  refine hk s0 hL hE e1 fun w F1 H1 L1 s1 ⟨z1, r1⟩ => ?_
  subst z1
  refine hd.run s1.fh (hL.mono s1.hh) (E.m s1.f0 hE) e2 fun v F2 H2 s2 ⟨p, kvs, h1, h2, h3⟩ => ?_
  subst h1
  rw [Y.v r1]
  have e3 : (valV kvs (Y.e y)).isSome = (mget d y).isSome := by
    cases q : mget d y with
    | none => rw [(mget_rel h3).2 q]; rfl
    | some x' =>
      obtain ⟨v', q1, _⟩ := (mget_rel h3).1 _ q
      rw [q1]; rfl
  exact ⟨p, _, rfl, DGet.k h2, k _ F2 H2 [] (s1.tr s2) ⟨rfl, by rw [e3]; rfl⟩⟩⟩
theorem se_dnotin (hk : SE ty E (sF Y.R) fk) (hd : SR td E (jM Y A) fd) : SE (tDNotIn ty td) E (sF jB) (fun γ => ob (fk γ) fun k => ob (fd γ) fun d => some (!(mget d k).isSome)) := ⟨fun s0 hL hE e k => by
  obtain ⟨y, e1, e⟩ := ob_some e
  obtain ⟨d, e2, e⟩ := ob_some e
  cases e
  refine hk s0 hL hE e1 fun w F1 H1 L1 s1 ⟨z1, r1⟩ => ?_
  subst z1
  refine hd.run s1.fh (hL.mono s1.hh) (E.m s1.f0 hE) e2 fun v F2 H2 s2 ⟨p, kvs, h1, h2, h3⟩ => ?_
  subst h1
  rw [Y.v r1]
  have e3 : (valV kvs (Y.e y)).isSome = (mget d y).isSome := by
    cases q : mget d y with
    | none => rw [(mget_rel h3).2 q]; rfl
    | some x' =>
      obtain ⟨v', q1, _⟩ := (mget_rel h3).1 _ q
      rw [q1]; rfl
  exact ⟨p, _, rfl, DGet.k h2, k _ F2 H2 [] (s1.tr s2) ⟨rfl, by rw [e3]; rfl⟩⟩⟩
theorem sc_lenD : SC (fun xs H Q => ∃ a kvs, xs = [V.ref a] ∧ H a = some (.dK kvs) ∧ Q (.int kvs.length) H) (aC (jM Y A) aN) (sF jI) (fun x => some (x.1.length : Int)) := sc_val fun {_ _ _ a _} s0 ⟨v, r, e1, ⟨p, kvs, e3, h, q⟩, e2⟩ k => by
  subst e1 e2 e3
  refine ⟨p, kvs, rfl, s0 _ _ h, ?_⟩
  rw [Paired.len q]
  exact k _ rfl
/-- d[k] = x -/
theorem ss_dput {g : ρ → List (ky × τ)} {up : List (ky × τ) → ρ → ρ} {m : ρ → Option (Res ρ' κ β)} (hx : Fx E i (sM Y A) g up) (hk : SE ty E (sF Y.R) fk) (hv : SE tx E (sF A) fx) (hu : SS u E E' Ec s m) :
    SS (tSeq (sDPut (tVar i) ty tx) u) E E' Ec s (fun γ => ob (fx γ) fun x => ob (fk γ) fun k => ob (pck ((g γ).length < sz) (mput (g γ) k x)) fun d => m (up d γ)) := ⟨fun {σ F0 H0 F H L γ r D} O hE e fin => by
  obtain ⟨x, e1, e⟩ := ob_some e
  obtain ⟨y, e2, e⟩ := ob_some e
  obtain ⟨d, e3, e⟩ := ob_some e
  obtain ⟨pz, rfl⟩ := pck_some e3
  refine hv O.fh (Held.of O) hE e1 fun v F1 H1 L1 s1 ⟨z1, r1⟩ => ?_
  subst z1
  have O1 := Own.on O s1
  rw [List.nil_append] at O1
  obtain ⟨w, pre, Lo, post, h1, h2, ⟨p, kvs, h3, h5, h6⟩, h4⟩ := hx.run hE
  subst h3 h5 h2
  refine ⟨_, h1, ?_⟩
  refine hk O1.fh (Held.of O1) (E.m s1.f0 hE) e2 fun w2 F2 H2 L2 s2 ⟨z2, r2⟩ => ?_
  subst z2
  have O2 := Own.on O1 s2
  rw [List.nil_append] at O2
  have hp : H2 p = some (.dK kvs) := (O2.own (p, .dK kvs) (by simp)).2.2
  rw [Y.v r2]
  refine ⟨p, _, rfl, DPut.k hp (sz_lt (by rw [Paired.len h6]; exact pz)), ?_⟩
  have O3 := Own.at1 (A := []) (o' := .dK (putK kvs (Y.e y) v)) (post := post) (by simpa using O2)
  refine hu.run (by simpa using O3) (h4 F2 [(p, .dK (putK kvs (Y.e y) v))] _ (s1.f0.trans s2.f0) ⟨p, _, rfl, rfl, mput_rel (A.m s2.f0 r1) (dR.m (s1.f0.trans s2.f0) h6)⟩) e (fin.mo (s1.f0.trans s2.f0))⟩
/-- return x, an own thing -/
theorem ss_retK {s1 : Sl β} {g : ρ → β} {up : β → ρ → ρ} (hx : Fx E i s1 g up) : SS (tRet (tVar i)) E E' Ec (rS s1) (fun γ => some (.ret (g γ))) := ⟨fun {_ _ _ F H L _ _ _} O hE e fin => by
  cases e
  obtain ⟨v, pre, L1, post, h1, h2, h3, _⟩ := hx.run hE
  subst h2
  refine ⟨v, h1, fin v F H L1 (Same.refl _) (OwnSb O ?_) h3⟩
  exact (Sb.dropR L1 post).trans (Sb.dropL pre (L1 ++ post))⟩
end
end Mi

namespace Mi
open PySem PySem.Spec PyProof.Rows L2 Fw
/-! ### plain lemmas: dicts, shifts, columns -/
section
variable {ky τ : Type} [DecidableEq ky]
theorem mget_nil (k : ky) : mget ([] : List (ky × τ)) k = none := rfl
theorem mget_cons (q : ky × τ) (d : List (ky × τ)) (k : ky) : mget (q :: d) k = if q.1 = k then some q.2 else mget d k := by
  unfold mget
  rw [List.find?_cons]
  by_cases h : q.1 = k
  · rw [if_pos h, decide_eq_true h]
    rfl
  · rw [if_neg h, decide_eq_false h]
theorem mget_app (d : List (ky × τ)) (q : ky × τ) (k : ky) : mget (d ++ [q]) k = match mget d k with | some x => some x | none => if q.1 = k then some q.2 else none := by
  induction d with
  | nil => rw [List.nil_append, mget_cons, mget_nil]
  | cons a d ih =>
    rw [List.cons_append, mget_cons, mget_cons]
    by_cases h : a.1 = k
    · rw [if_pos h, if_pos h]
    · rw [if_neg h, if_neg h, ih]
theorem mget_any (d : List (ky × τ)) (k : ky) : (d.any fun q => decide (q.1 = k)) = (mget d k).isSome := by
  induction d with
  | nil => rfl
  | cons a d ih =>
    rw [List.any_cons, mget_cons, ih]
    by_cases h : a.1 = k
    · rw [if_pos h, decide_eq_true h]; rfl
    · rw [if_neg h, decide_eq_false h]; rfl
theorem mget_mput (d : List (ky × τ)) (k k' : ky) (x : τ) : mget (mput d k x) k' = if k' = k then some x else mget d k' := by
  unfold mput
  rw [mget_any]
  by_cases h : (mget d k).isSome = true
  · rw [if_pos h]
    have key : ∀ d : List (ky × τ), mget (d.map fun q => if q.1 = k then (q.1, x) else q) k' = if k' = k then (mget d k).map fun _ => x else mget d k' := by
      intro d
      induction d with
      | nil => rw [List.map_nil, mget_nil, mget_nil]; split <;> rfl
      | cons a d ih =>
        rw [List.map_cons, mget_cons, ih, mget_cons, mget_cons]
        by_cases ha : a.1 = k
        · rw [if_pos ha]
          by_cases hk : k' = k
          · rw [if_pos hk, if_pos hk, if_pos (show a.1 = k' by rw [hk]; exact ha), if_pos ha]; rfl
          · rw [if_neg hk, if_neg hk, if_neg (show ¬ a.1 = k' from fun z => hk (z.symm.trans ha)), if_neg (show ¬ a.1 = k' from fun z => hk (z.symm.trans ha))]
        · rw [if_neg ha, if_neg ha]
          by_cases hk : k' = k
          · rw [if_pos hk, if_pos hk, if_neg (show ¬ a.1 = k' by rw [hk]; exact ha)]
          · rw [if_neg hk, if_neg hk]
    rw [key]
    by_cases hk : k' = k
    · rw [if_pos hk, if_pos hk]
      cases e : mget d k with
      | none => rw [e] at h; cases h
      | some y => rfl
    · rw [if_neg hk, if_neg hk]
  · rw [if_neg h, mget_app]
    by_cases hk : k' = k
    · rw [if_pos hk, hk]
      cases e : mget d k with
      | none => dsimp only; rw [if_pos rfl]
      | some y => rw [e] at h; exact absurd rfl h
    · rw [if_neg hk]
      cases e : mget d k' with
      | none => dsimp only; rw [if_neg fun z => hk z.symm]
      | some y => rfl
theorem mput_len (d : List (ky × τ)) (k : ky) (x : τ) : (mput d k x).length ≤ d.length + 1 := by
  unfold mput
  split
  · rw [List.length_map]; exact Nat.le_succ _
  · rw [List.length_append]; exact Nat.le_refl _
end
theorem PShl.of {a n : Nat} {j : Int} (h : a < 2 ^ n) (hj : 0 ≤ j) (hn : (n : Int) + j ≤ 134217728) : PShl (a : Int) j := by
  refine ⟨hj, ?_⟩
  have : Builtin.Int.intBits (a : Int) ≤ n := by
    unfold Builtin.Int.intBits
    by_cases h0 : a = 0
    · subst h0
      exact Nat.zero_le _
    · rw [if_neg (by simpa using h0), Int.natAbs_natCast]
      exact (Nat.log2_lt h0).mpr h
  omega
/-- a column -/
def cl (n : Nat) (D : Nat → Int) : List Int := (List.range n).map D
theorem cl_len (n : Nat) (D : Nat → Int) : (cl n D).length = n := by unfold cl; rw [List.length_map, List.length_range]
theorem cl_get {n i : Nat} {D : Nat → Int} (h : i < n) : (cl n D)[i]? = some (D i) := by
  unfold cl
  rw [List.getElem?_map, List.getElem?_range h]
  rfl
theorem cl_pat {n i : Nat} {D : Nat → Int} (h : i < n) : pat (cl n D) (i : Int) = some (D i) := pat_nat (cl_get h)
theorem cl_snoc (n : Nat) (D : Nat → Int) : cl n D ++ [D n] = cl (n + 1) D := by
  unfold cl
  rw [List.range_succ, List.map_append]
  rfl
theorem prange_cl (n : Nat) : prange (n : Int) = cl n fun i => (i : Int) := by
  unfold prange cl
  rw [Int.toNat_natCast]
theorem cl_congr {n : Nat} {D E : Nat → Int} (h : ∀ i, i < n → D i = E i) : cl n D = cl n E := List.map_congr_left fun i hi => h i (List.mem_range.mp hi)
theorem lcM_id {τ : Type} (xs : List τ) : lcM (fun c => some c) xs = some xs := by
  have := lcM_map (f := fun c : τ => some c) (g := fun c => c) (xs := xs) fun _ _ => rfl
  rw [this, List.map_id']
end Mi

namespace Mi
open PySem PySem.Spec PyProof.Rows L2 Fw
/-! ### set(list of ints), sorted of it: any number of them below 4095 -/
section
variable {P : Program} {w : World} {A : Around} {E : Value → Shared → Prop} {s : Shared}
abbrev eS (w : World) : Obj := { cls := .type "set", dict := none, data := .set #[] 0 (.fresh 0 0 (!w.params.followText "set-order")) }
/-- what filling a set leaves -/
def Filled (w : World) (s : Shared) (ns : List Int) (s2 : Shared) : Prop := ∃ h2 tk c, s2 = { s with heap := h2, toks := tk } ∧ SetR w h2 s.heap.objs.size (fun j => decide (j ∈ ns)) c ∧ c ≤ ns.length ∧ ∀ b o, s.heap.get? b = some o → h2.get? b = some o
set_option maxRecDepth 100000 in
set_option maxHeartbeats 3200000 in
theorem setL_run {l : Addr} {items : Array Value} {ns : List Int} {Q : Value → Shared → Prop} (hh : A.handled = none) (hl : s.heap.IsList l items) (hi : IntsAre items.toList ns) (hb : ns.length + 1 < scanBound)
    (h : ∀ s2, Filled w s ns s2 → Q (.ref s.heap.objs.size) s2) : wpAny (model P w) A (call (.type "set") [.ref l]) Q E s := by
  have en : items.size = ns.length := by have q := IntsAre.length hi; rwa [Array.length_toList] at q
  obtain ⟨c, tl, hmro⟩ := PySem.F.called_set.mro
  have k1 := PySem.F.called_set.made; have k2 := PySem.F.called_set.sub; have k3 := PySem.F.called_set.notType; have k4 := PySem.F.called_set.canCreate; have k5 := PySem.F.typeCall_set_1 (.ref l)
  refine wpAny_call (codeAny_of_tree (show wpAny _ _ (callAny (.type "set") _) _ _ _ from wpAny_pure ⟨Code.quiet_builtin _ (by decide +kernel), codeAny_builtin PySem.F.entry_type_call ?_⟩))
  rw [Around.under_plain (weight_type_call_type "set" [.ref l] []) rfl]
  repeat (any_goals (first | assumption | wp_step))
  refine codeAny_mono (code_set_led1 (.ref l) (E := E) (Q₁ := fun obj z => obj = .ref s.heap.objs.size ∧ z = { s with heap := s.heap.push (eS w) }) ⟨rfl, rfl⟩) fun r z hr => ?_
  match r, hr with
  | .error e, hr => exact hr
  | .ok .next, hr => exact hr.elim
  | .ok .brk, hr => exact hr.elim
  | .ok .cont, hr => exact hr.elim
  | .ok (.ret obj), ⟨e1, e2⟩ =>
    subst e1 e2
    have g1 : (s.heap.push (eS w)).get? s.heap.objs.size = some (eS w) := Heap.get?_push_size _ rfl
    have T1 : Shared.TypeIs { s with heap := s.heap.push (eS w) } (.ref s.heap.objs.size) "set" := ⟨_, g1, rfl⟩
    have k6 := PySem.F.called_set.init.lookup; have k7 := PySem.F.called_set.init.bind (.ref s.heap.objs.size)
    repeat (any_goals (first | assumption | wp_step))
    refine codeAny_mono (codeAny_call_builtin (R := wants (fun r z => r = .none ∧ Filled w s ns z) E) PySem.F.called_set.init.plain PySem.F.entry_set_init (check_set_init_1 T1 ?_)) fun r2 z2 hr2 => ?_
    · have hl1 : (s.heap.push (eS w)).IsList l items := hl.push _
      obtain ⟨⟨oc, od, oda, os⟩, hol, hcl, nl, hdl⟩ := hl
      simp only at hcl hdl
      subst hcl hdl
      have lS : l < s.heap.objs.size := Heap.lt_size hol
      have hol2 : (s.heap.push (eS w)).get? l = some { cls := .type "list", dict := od, data := .seq items nl, slots := os } := Heap.get?_push_of_some _ hol
      have u1 := PySem.F.sub_list_set; have u2 := PySem.F.sub_list_frozenset
      have u3 : (Value.type "list" == Value.type "dict") = false := by decide
      unfold Builtin.«set.__init__» noKeywords Builtin.Frozenset.updateFrom
      generalize hp : pyIter = pI
      wp_walk
      subst hp
      refine wpAny_pyIter_list hl1 (wpAny_bind (wpAny_runValue ?_))
      have hsz : (s.heap.push (eS w)).objs.size = s.heap.objs.size + 1 := Heap.size_push ..
      have n1 : l ≠ (s.heap.push (eS w)).objs.size := by rw [hsz]; exact Nat.ne_of_lt (Nat.lt_succ_of_lt lS)
      have n2 : s.heap.objs.size ∉ [(s.heap.push (eS w)).objs.size, l] := by
        simp only [List.mem_cons, List.not_mem_nil, or_false, not_or]
        exact ⟨by rw [hsz]; exact Nat.ne_of_lt (Nat.lt_succ_self _), Nat.ne_of_gt lS⟩
      have hv : ∀ (i : Nat) (v : Value), items[i]? = some v → ∃ k t, ns[i]? = some k ∧ v = .int k t := fun i v e => by
        have hi2 : i < ns.length := by rw [← en]; exact (Array.getElem?_eq_some_iff.mp e).1
        obtain ⟨t, e2⟩ := IntsAre.int_at hi i v (by rw [Array.getElem?_toList]; exact e)
        exact ⟨ns[i], t, List.getElem?_eq_getElem hi2, by rw [e2, List.getD_eq_getElem?_getD, List.getElem?_eq_getElem hi2]; rfl⟩
      refine set_update_ints ((Walks.list (by simp [hh]) _ l n1 items).toS) s.heap.objs.size n2 ns en hb hv (items.size - 0) 0 _ (by omega) (Nat.zero_le _) ⟨⟨_, Heap.get?_push_size _ rfl, rfl, rfl⟩, hl1.push _⟩ ⟨0, Nat.le_refl 0, setR_new_at (Heap.get?_push_of_some _ g1)⟩ fun z c2 hm hc hS => ?_
      obtain ⟨hz, gz, dz, tz, oz⟩ := z
      have a1 : gz = s.gens := hm.gens
      have a2 : dz = s.drawn := hm.drawn
      have a3 : oz = s.os := hm.os
      subst a1 a2 a3
      refine wpAny_pure (show wpAny _ _ (ret Value.none) _ _ _ from wpAny_pure ⟨rfl, hz, tz, c2, rfl, hS, by omega, fun b o e => ?_⟩)
      have hbs : b < s.heap.objs.size := Heap.lt_size e
      refine hm.heap b o ?_ (Heap.get?_push_of_some _ (Heap.get?_push_of_some _ e))
      simp only [List.mem_cons, List.not_mem_nil, or_false, not_or]
      exact ⟨Nat.ne_of_lt hbs, by rw [hsz]; exact Nat.ne_of_lt (Nat.lt_succ_of_lt hbs)⟩
    · match r2, hr2 with
      | .error e, hr2 => exact hr2
      | .ok .next, hr2 => exact hr2.elim
      | .ok .brk, hr2 => exact hr2.elim
      | .ok .cont, hr2 => exact hr2.elim
      | .ok (.ret u), ⟨e3, e4⟩ =>
        subst e3
        repeat (any_goals (first | assumption | wp_step))
        exact h _ e4
/-- sorted(set), any number -/
theorem sortedSet_run {a : Addr} {S : Int → Bool} {n : Nat} {Q : Value → Shared → Prop} (R : SetR w s.heap a S n) (hh : A.handled = none)
    (hQ : ∀ s2 p (out : List Value) (c : Nat) (ns : List Int), (∀ b o, s.heap.get? b = some o → s2.heap.get? b = some o) → s2.gens = s.gens → s2.os = s.os → s.heap.objs.size ≤ p → s2.heap.get? p = some (PyProof.Rows.seqObj "list" out.toArray c) → IntsAre out ns →
      ns.Pairwise (· < ·) → (∀ k, k ∈ ns ↔ S k = true) → ns.length ≤ 4096 → Q (.ref p) s2) : wpAny (model P w) A (call (.builtin "sorted") [.ref a]) Q E s := by
  obtain ⟨o, es, ep, t, ho, hex, hd, g, nd, hm, hb, hf, hn, hr, hl⟩ := R
  refine Calls.call_function_entry PyProof.Rows.kind_sorted PyProof.Rows.plain_sorted PyProof.Rows.entry_sorted (PyProof.Rows.args_sorted1 _) ?_
  unfold Builtin.«sorted»
  refine wpAny_bind (m := checkCount "sorted" 1 1 _) (wpAny_pure (wpAny_bind (collect_set (A := A.in1) hh ⟨o, ho, hex.1, hd⟩ hf hb hr hl fun s1 vs q1 hz g1 o1 pm => ?_)))
  have hvl : vs.length < 4096 := by rw [pm.length_eq, List.length_map, Array.length_toList]; exact hb
  have hI : IntsAre vs (vs.map Builtin.Re.reRawOf) := L2.ints_of vs fun v hv => by
    obtain ⟨e, he, q⟩ := List.mem_map.mp (pm.mem_iff.mp hv)
    obtain ⟨k, tk, h1, _⟩ := g e he
    exact ⟨k, tk, by rw [← q]; exact h1⟩
  have pk : (vs.map Builtin.Re.reRawOf).Perm (es.toList.map keyOf) := by have q := pm.map Builtin.Re.reRawOf; rw [List.map_map] at q; exact q
  have hZ : vs.length ≤ sizeLine := by rw [sizeLine_eq]; omega
  refine wpAny_bind (wpAny_newList ?_ hZ)
  have hoL : (s1.heap.push (PyProof.Rows.seqObj "list" vs.toArray 0)).get? s1.heap.objs.size = some (PyProof.Rows.seqObj "list" vs.toArray 0) := Heap.get?_push_size _ rfl
  refine wpAny_bind (wpAny_holding (wpAny_call_entry PyProof.Rows.slot_list_sort ⟨_, hoL, rfl⟩ PyProof.Rows.entry_list_sort (SrtO.list_sort_ord SrtO.swo_int hoL hZ (fun h2 => SrtO.ints_sortable hI h2) fun out k1 k2 => ⟨_, rfl, ?_⟩) (PyProof.Rows.args_list_sort _)))
  obtain ⟨j1, j2, j3⟩ := SrtO.ints_out hI k1 k2
  obtain ⟨c, hc⟩ := PyProof.Rows.sortedHeap_at (vs := vs) (out := out.toArray) hoL
  have pn := j2.trans pk
  refine wpAny_pure ⟨_, rfl, hQ _ s1.heap.objs.size out c _ (fun b u e => ?_) g1 o1 hz hc j1 (lt_of_le_nodup _ j3 (pn.nodup_iff.mpr nd)) (fun k => by rw [pn.mem_iff, ← hm k]) ?_⟩
  · have q := q1 b u e
    have hlt := Heap.lt_size q
    refine (PyProof.Rows.sortedHeap_old (Nat.ne_of_lt hlt) ?_).trans (Heap.get?_push_of_some _ q)
    rw [PyProof.Rows.size_push']
    exact Nat.lt_succ_of_lt hlt
  · rw [pn.length_eq, List.length_map, Array.length_toList]; exact Nat.le_of_lt hb
end
/-! as rules -/
section
variable {X : Cx} {K : PySem.W.Frag}
def rSetL (K : PySem.W.Frag) (w : World) : List V → Hp → VK → Prop := fun vs H Q => ∃ (a : Addr) (ns : List Int), vs = [V.ref a] ∧ SqL K H a (ns.map V.int) ∧ ns.length ≤ 4000 ∧ ∀ p c, H p = none → Q (.ref p) (upd H p (SetO w p (fun j => decide (j ∈ ns)) c))
theorem cr_setL (hc : X.calm = true) (eK : X.K = K := by rfl) : CallR X (.type "set") (rSetL K X.w) := by
  subst eK
  rintro pins s σ H vs us Q I r ⟨a, ns, rfl, hs, hb, q⟩
  obtain ⟨its, rv, hl, hz⟩ := I.list hs
  rw [Vals.ref1 r]
  refine setL_run (ns := ns) (I.ok.hd hc) hl.isList (by simpa using rv.ints) (by unfold scanBound; omega) fun s2 ⟨h2, tk, c, e, hS, _, keep⟩ => ?_
  subst e
  obtain ⟨o, _, _, _, ho, _⟩ := id hS
  exact ⟨.ref _, _, I.laid (t' := tk) (o := SetO X.w s.heap.objs.size (fun j => decide (j ∈ ns)) c) keep (Nat.le_refl _) (setO_new hS), rfl, q _ c (I.hok.fresh (Nat.le_refl _))⟩
def rSortSet (w : World) : List V → Hp → VK → Prop := fun vs H Q => ∃ (a : Addr) (S : Int → Bool) (n : Nat), vs = [V.ref a] ∧ H a = some (SetO w a S n) ∧
  ∀ (ns : List Int) (p : Addr), ns.Pairwise (· < ·) → (∀ k : Int, k ∈ ns ↔ S k = true) → H p = none → Q (.ref p) (upd H p (.lst (ns.map V.int)))
theorem cr_sortSet (hc : X.calm = true) : CallR X (.builtin "sorted") (rSortSet X.w) := by
  rintro pins s σ H vs us Q I r ⟨a, S, n, rfl, ha, q⟩
  rw [Vals.ref1 r]
  refine sortedSet_run (setO_get I ha) (I.ok.hd hc) fun s2 p out c ns k g o hp hg hi hs hm hl => ?_
  have hn : H p = none := I.hok.fresh hp
  have hz : (ns.map V.int).length ≤ sizeLine := by rw [List.length_map, sizeLine_eq]; omega
  obtain ⟨h2, g2, d2, t2, o2⟩ := s2
  have o3 : o2 = s.os := o
  subst o3
  exact ⟨.ref p, upd H p (.lst (ns.map V.int)), I.call (ch := []) (h' := h2) (g' := g2) (d' := d2) (t' := t2) (Un.laid k hp hn) (I.hok.laid k hp ⟨hz, out, c, vals_of_ints hi, hg⟩) (by rw [show g2 = s.gens from g]; exact I.bare) (fun _ z => nomatch z), rfl, q ns p hs hm hn⟩
end
/-! readings -/
section
variable {α ρ : Type} {E : En ρ} {te : TE} {K : PySem.W.Frag} {w : World}
/-- sorted(set(xs)) -/
theorem se_sortset {f : ρ → Option (List Int)} {g : List Int → List Int} (hg : ∀ xs, (g xs).Pairwise (· < ·) ∧ ∀ k, k ∈ g xs ↔ k ∈ xs) (h : SE te E (sF (jL jI)) f) :
    SE (tCB (rSortSet w) (tCons (tCB (rSetL K w) (tCons te tNil)) tNil)) E (sO jI) (fun γ => ob (f γ) fun xs => pck (xs.length ≤ 4000) (g xs)) := ⟨fun s0 hL hE e k => by
  obtain ⟨xs, e1, e⟩ := ob_some e
  obtain ⟨pz, rfl⟩ := pck_some e
  refine h s0 hL hE e1 fun v F1 H1 L1 s1 ⟨z1, a, vs, e2, h1, p1⟩ => ?_
  subst z1 e2
  have ev : vs = xs.map V.int := Paired.ofMap (fun _ _ q => q) p1
  subst ev
  refine ⟨a, xs, rfl, .inl (.inl (s1.fh _ _ h1)), pz, fun q c nq => ?_⟩
  refine ⟨q, _, c, rfl, upd_same, fun ns p hs hm np => ?_⟩
  have hpq : p ≠ q := fun z => by rw [z, upd_same] at np; cases np
  have np1 : H1 p = none := by rw [upd_ne hpq] at np; exact np
  have en : ns = g xs := by
    refine List.Perm.eq_of_pairwise (le := fun a b => a < b) (fun a b _ _ h1 h2 => absurd h1 (Int.not_lt.mpr (Int.le_of_lt h2))) hs (hg xs).1 ?_
    refine (List.perm_ext_iff_of_nodup (hs.imp fun h => Int.ne_of_lt h) ((hg xs).1.imp fun h => Int.ne_of_lt h)).mpr fun k => ?_
    rw [hm k, (hg xs).2 k, decide_eq_true_iff]
  have st : Step F1 (upd H1 q (SetO w q (fun j => decide (j ∈ xs)) c)) F1 (upd (upd H1 q (SetO w q (fun j => decide (j ∈ xs)) c)) p (.lst (ns.map V.int))) [(p, .lst (ns.map V.int))] :=
    (Step.nil (s1.fh.trans fun b u e => by rw [upd_ne (ne_of_none e nq)]; exact e)).alloc np _
  have st2 := s1.more (show Same H1 (upd H1 q (SetO w q (fun j => decide (j ∈ xs)) c)) from fun b u e => by rw [upd_ne (ne_of_none e nq)]; exact e)
  have pr : Paired (jI.r F1) (ns.map V.int) (g xs) := by rw [en]; exact Paired.mk (A := jI.r F1) (f := V.int) (fun _ => rfl) (g xs)
  exact k (.ref p) F1 _ [(p, .lst (ns.map V.int))] (Step.tr st2 st) ⟨p, _, rfl, rfl, pr⟩⟩
end
/-- into an ascending list, once -/
def insU (x : Int) : List Int → List Int
  | [] => [x]
  | y :: ys => if x < y then x :: y :: ys else if x = y then y :: ys else y :: insU x ys
theorem mem_insU (x k : Int) : ∀ ys, k ∈ insU x ys ↔ k = x ∨ k ∈ ys
  | [] => by simp [insU]
  | y :: ys => by
    rw [insU]
    split
    · simp
    · split
      · next h => subst h; simp
      · rw [List.mem_cons, mem_insU x k ys, List.mem_cons]
        constructor
        · rintro (h | h | h)
          · exact .inr (.inl h)
          · exact .inl h
          · exact .inr (.inr h)
        · rintro (h | h | h)
          · exact .inr (.inl h)
          · exact .inl h
          · exact .inr (.inr h)
theorem insU_lt (x : Int) : ∀ {ys : List Int}, ys.Pairwise (· < ·) → (insU x ys).Pairwise (· < ·)
  | [], _ => List.pairwise_singleton _ _
  | y :: ys, h => by
    obtain ⟨h1, h2⟩ := List.pairwise_cons.mp h
    rw [insU]
    split
    · next hx => exact List.pairwise_cons.mpr ⟨fun z hz => (List.mem_cons.mp hz).elim (fun e => e ▸ hx) fun hz => Int.lt_trans hx (h1 z hz), h⟩
    · split
      · exact h
      · next h3 h4 =>
        refine List.pairwise_cons.mpr ⟨fun z hz => ?_, insU_lt x h2⟩
        rcases (mem_insU x z ys).mp hz with e | hz
        · omega
        · exact h1 z hz
/-- the members, ascending, each once -/
def psset : List Int → List Int
  | [] => []
  | x :: xs => insU x (psset xs)
theorem psset_ok : ∀ xs, (psset xs).Pairwise (· < ·) ∧ ∀ k, k ∈ psset xs ↔ k ∈ xs
  | [] => ⟨List.Pairwise.nil, fun _ => Iff.rfl⟩
  | x :: xs => ⟨insU_lt x (psset_ok xs).1, fun k => by rw [psset, mem_insU, (psset_ok xs).2 k, List.mem_cons]⟩
end Mi

namespace Mi
open PySem PySem.Spec PyProof.Rows L2 Fw
/-! ### dict comprehensions, sorted pairs, copies of own lists, making with keywords -/
section
variable {ky : Type} [DecidableEq ky] {α β τ ρ ρ' : Type}
def ldF (p : α → Option Bool) (fk : α → Option ky) (fv : α → Option τ) : List (ky × τ) → List α → Option (List (ky × τ))
  | d, [] => some d
  | d, x :: xs => ob (p x) fun b => if b = true then ob (fk x) fun k => ob (fv x) fun y => ob (pck (d.length < sz) (mput d k y)) fun d2 => ldF p fk fv d2 xs else ldF p fk fv d xs
variable {E : En ρ} {E' : En ρ'} {tk tv : TE} {A : Rp α} {B : Rp τ} {Y : Ky ky}
theorem wipe_two (σ : L2.St) (vs : List Nat) : wipe (wipe σ vs) vs = wipe σ vs := by
  have gen : ∀ (ws : List Nat), (∀ i ∈ ws, i ∈ vs) → wipe (wipe σ ws) vs = wipe σ vs := by
    intro ws
    induction ws with
    | nil => intro _; rfl
    | cons a as ih =>
      intro h
      show wipe ((wipe σ as).set a none) vs = _
      rw [wipe_comm _ _ _ vs (h a List.mem_cons_self), ih fun i hi => h i (List.mem_cons_of_mem _ hi)]
  exact gen vs fun _ h => h
theorem se_dcF {wi : TI} {g : TG} {tt : TT} {is vs : List Nat} {fi : ρ → Option (List α)} {ft : ρ' → Option Bool} {fk : ρ' → Option ky} {fv : ρ' → Option τ} {u : α → ρ → ρ'} (hi : SI wi E A fi) (hw : Wp E vs) (hg : SG g is E A E' u) (ht : ST tt E' ft) (hk : SE tk E' (sF Y.R) fk) (he : SE tv E' (sF B) fv) (hv : ∀ i ∈ is, i ∈ vs := by decide) :
    SE (tDc wi g tt tk tv vs) E (sM Y B) (fun γ => ob (fi γ) fun xs => ldF (fun x => ft (u x γ)) (fun x => fk (u x γ)) (fun x => fv (u x γ)) [] xs) := ⟨fun {σ _ _ L γ res Q} s0 hL hE e k => by
  obtain ⟨xs, e1, e2⟩ := ob_some e
  refine hi.run s0 hL hE e1 fun J F1 H1 s1 it => ?_
  have hE1 := E.m s1.f0 hE
  have hL1 := hL.mono s1.hh
  intro D hD
  let In := fun (i : Nat) (H' : Hp) => ∃ (F' : Hp) (kvs : List (Key × V)) (d : List (ky × τ)), Step F1 H1 F' H' [(D, .dK kvs)] ∧ Paired (dR Y B F') kvs d ∧ ldF (fun x => ft (u x γ)) (fun x => fk (u x γ)) (fun x => fv (u x γ)) d (xs.drop i) = some res
  refine ⟨fun i m H' => m = xs.length - i ∧ i ≤ xs.length ∧ In i H', ⟨xs.length, by omega, Nat.zero_le _, F1, [], [], (Step.nil s1.fh).alloc hD _, .nil, e2⟩, ?_⟩
  rintro i m H' ⟨rfl, hi, F', kvs, d, s2, pa, e4⟩
  by_cases hlt : i < xs.length
  · obtain ⟨x, hx⟩ : ∃ x, xs[i]? = some x := ⟨_, List.getElem?_eq_getElem hlt⟩
    obtain ⟨go, yl⟩ := it.one s2.f0 s2.fh hx
    have ed : xs.drop i = x :: xs.drop (i + 1) := by
      rw [List.drop_eq_getElem_cons hlt]
      rw [List.getElem?_eq_getElem hlt] at hx
      rw [Option.some.inj hx]
    rw [ed] at e4
    obtain ⟨b, e6, e7⟩ := ob_some e4
    refine .inr ⟨go, fun H'' => In (i + 1) H'', fun H'' h => ⟨xs.length - (i + 1), by omega, rfl, hlt, h⟩, fun v H3 hy => ?_⟩
    obtain ⟨F3, s3, r3⟩ := yl v H3 hy
    have s13 := Own.on s2 s3
    rw [List.nil_append] at s13
    refine hg s3.fh (hw (E.m s13.f0 hE1)) r3 fun σ4 L4 hb4 hE4 hw4 => ⟨by rw [hw4 vs hv]; exact wipe_two σ vs, ?_⟩
    have hL4 : Held H3 L4 := fun q hq => (hL1.mono s13.hh) q (hb4.mem hq)
    refine ht s3.fh hL4 hE4 e6 fun F5 H5 s5 => ?_
    have s15 := Own.on s13 s5
    rw [List.nil_append] at s15
    cases b with
    | false =>
      rw [if_neg Bool.false_ne_true] at e7 ⊢
      exact ⟨F5, kvs, d, s15, dR.m (s3.f0.trans s5.f0) pa, e7⟩
    | true =>
      rw [if_pos rfl] at e7 ⊢
      obtain ⟨y, e8, e9⟩ := ob_some e7
      obtain ⟨z, e10, e11⟩ := ob_some e9
      obtain ⟨d2, e12, e13⟩ := ob_some e11
      obtain ⟨pz, rfl⟩ := pck_some e12
      refine hk s5.fh (hL4.mono s5.hh) (E'.m s5.f0 hE4) e8 fun w F6 H6 L6 s6 ⟨z6, r6⟩ => ?_
      subst z6
      have s16 := Own.on s15 s6
      rw [List.nil_append] at s16
      refine he s6.fh ((hL4.mono s5.hh).mono s6.hh) (E'.m (s5.f0.trans s6.f0) hE4) e10 fun w7 F7 H7 L7 s7 ⟨z7, r7⟩ => ?_
      subst z7
      have s17 := Own.on s16 s7
      rw [List.nil_append] at s17
      have pa7 := dR.m (((s3.f0.trans s5.f0).trans s6.f0).trans s7.f0) pa
      exact ⟨kvs, Y.e y, Y.v r6, s17.at_ 0 rfl, sz_lt (by rw [Paired.len pa]; exact pz), F7, _, mput d y z, s17.set 0 rfl _, mput_rel r7 pa7, e13⟩
  · have hi2 : i = xs.length := by omega
    subst hi2
    rw [List.drop_length] at e4
    cases e4
    exact .inl ⟨it.stop s2.f0 s2.fh, k _ _ _ _ (by have := Own.on s1 s2; rwa [List.append_nil] at this) ⟨D, kvs, rfl, rfl, pa⟩⟩⟩
end
section
variable {ρ α β δ : Type} {E : En ρ} {ta tb te : TE} {tA tk : TA} {K : PySem.W.Frag} {C : Addr}
/-- a builtin's new list of things without heap, from lent things -/
theorem se_cbRS {r : List V → Hp → VK → Prop} {a : Ar α} {s : Sl δ} {g : α → Option δ} {f : ρ → Option α} (h : SRA tA E a f) (hs : SC r a s g) (hd : ScalS s) : SE (tCB r tA) E s (fun γ => ob (f γ) g) := ⟨fun s0 hL he e k => by
  obtain ⟨x, e1, e⟩ := ob_some e
  refine h.run s0 hL he e1 fun vs F1 H1 s1 r1 => ?_
  exact hs.run (Same.refl H1) r1 e fun z F5 H5 L5 s5 r5 => k z F1 H5 L5 (s1.tr (Step.weak s1.fh s5)) (hd.run r5)⟩
/-! sorted pairs -/
abbrev jP : Rp (Int × Int) := jT (yC jI (y1 jI))
def pleb (p q : Int × Int) : Bool := decide (p.1 < q.1 ∨ (p.1 = q.1 ∧ p.2 ≤ q.2))
def psortP (xs : List (Int × Int)) : List (Int × Int) := xs.mergeSort pleb
theorem psortP_perm (xs : List (Int × Int)) : (psortP xs).Perm xs := List.mergeSort_perm xs pleb
theorem pleb_iff {p q : Int × Int} : pleb p q = true ↔ p.1 < q.1 ∨ (p.1 = q.1 ∧ p.2 ≤ q.2) := by unfold pleb; rw [decide_eq_true_iff]
theorem psortP_srt (xs : List (Int × Int)) : (psortP xs).Pairwise fun p q => pleb p q = true := by
  refine List.pairwise_mergeSort (fun a b c h1 h2 => ?_) (fun a b => ?_) xs
  · rw [pleb_iff] at *
    omega
  · rw [Bool.or_eq_true, pleb_iff, pleb_iff]
    omega
theorem psortP_eq {xs ys : List (Int × Int)} (h : ys.Perm xs) (hs : ys.Pairwise fun p q => pleb p q = true) : ys = psortP xs := by
  refine List.Perm.eq_of_pairwise (le := fun p q => pleb p q = true) (fun a b _ _ h1 h2 => ?_) hs (psortP_srt xs) (h.trans (psortP_perm xs).symm)
  rw [pleb_iff] at h1 h2
  exact Prod.ext (by omega) (by omega)
open Classical in
noncomputable def pvk (F : Hp) (v : V) : Int × Int := if h : ∃ x, jP.r F v x then h.choose else (0, 0)
theorem jP_r {F : Hp} {v : V} {x : Int × Int} : jP.r F v x ↔ ∃ t, v = .ref t ∧ F t = some (.tup [.int x.1, .int x.2]) := by
  constructor
  · rintro ⟨a, vs, e1, e2, v1, r, e3, e4, v2, e5, e6⟩
    have e4 : v1 = .int x.1 := e4
    have e6 : v2 = .int x.2 := e6
    subst e3 e4 e5 e6
    exact ⟨a, e1, e2⟩
  · rintro ⟨t, e1, e2⟩
    exact ⟨t, _, e1, e2, _, _, rfl, rfl, _, rfl, rfl⟩
theorem jP_uq {F : Hp} {v : V} {x y : Int × Int} (h : jP.r F v x) (k : jP.r F v y) : x = y := by
  obtain ⟨t, e1, e2⟩ := jP_r.mp h
  obtain ⟨t', e3, e4⟩ := jP_r.mp k
  subst e1
  cases e3
  rw [e2] at e4
  injection e4 with e4
  injection e4 with e4
  injection e4 with e5 e6
  injection e5 with e5
  injection e6 with e6 _
  injection e6 with e6
  exact Prod.ext e5 e6
theorem pvk_r {F : Hp} {v : V} {x : Int × Int} (h : jP.r F v x) : pvk F v = x := by
  have q : ∃ x, jP.r F v x := ⟨x, h⟩
  unfold pvk
  rw [dif_pos q]
  exact jP_uq q.choose_spec h
theorem sc_sortP : SC (rSortedPO K) (aC (jL jP) aN) (sO jP) (fun x => some (psortP x.1)) := ⟨fun {F H vs a b Q} s0 ⟨v, r, e1, ⟨p, us, e3, h, q⟩, e2⟩ e k => by
  cases e
  subst e1 e2 e3
  have hk : ∀ v ∈ us, ∃ x, x ∈ a.1 ∧ jP.r F v x := fun v hv => by
    obtain ⟨i, hi⟩ := List.mem_iff_getElem?.mp hv
    have hl := (List.getElem?_eq_some_iff.mp hi).1
    rw [Paired.len q] at hl
    obtain ⟨v2, h1, h2⟩ := Paired.at q (List.getElem?_eq_getElem hl)
    rw [hi] at h1
    cases h1
    exact ⟨_, List.getElem_mem hl, h2⟩
  refine ⟨p, us, pvk F, rfl, .inl (.inl (s0 _ _ h)), fun x hx => ?_, fun ys d hs hb nd => ?_⟩
  · obtain ⟨y, _, hy⟩ := hk x hx
    rw [pvk_r hy]
    obtain ⟨t, e1, e2⟩ := jP_r.mp hy
    exact ⟨t, e1, s0 _ _ e2⟩
  · refine k (.ref d) F _ [(d, .lst ys)] ((Step.nil s0).alloc nd _) ⟨d, ys, rfl, rfl, ?_⟩
    have hp : ∀ {us : List V} {xs : List (Int × Int)}, Paired (jP.r F) us xs → us.map (pvk F) = xs := by
      intro us xs h
      induction h with
      | nil => rfl
      | cons h _ ih => rw [List.map_cons, ih, pvk_r h]
    have e : ys.map (pvk F) = psortP a.1 := by
      refine psortP_eq ?_ ?_
      · rw [← hp q]
        exact hb.perm.map _
      · rw [List.pairwise_map]
        refine hs.imp ?_
        intro x y h
        have h : SrtO.lexB (pvk F y) (pvk F x) = false := h
        have := SrtO.lexB_no.mp h
        rw [pleb_iff]
        omega
    rw [← e]
    have hall : ∀ zs : List V, (∀ v ∈ zs, v ∈ us) → Paired (jP.r F) zs (zs.map (pvk F)) := by
      intro zs
      induction zs with
      | nil => intro _; exact .nil
      | cons z zs ih =>
        intro hz
        obtain ⟨y, _, hy⟩ := hk z (hz z List.mem_cons_self)
        rw [List.map_cons, pvk_r hy]
        exact .cons hy (ih fun v hv => hz v (List.mem_cons_of_mem _ hv))
    exact hall ys fun v hv => hb.perm.mem_iff.mp hv⟩
/-! making with keywords -/
/-- a def with keyword-only parameters, all of them given -/
def DnK (P : Program) (w : World) (K : PySem.W.Frag) (mg : Str → Option Value) (base : Heap) (k : Nat) (f : Addr) (ps : List Str) (n : Nat) (ks : List Str) (sp : Sp) : Prop :=
  ∃ fd, FnOk P w K mg base CX0 k f fd ps sp ∧ KBn K fd ps n ks (fun us ws => us ++ ws) (fun vs zs => vs ++ zs) ∧ PySem.W.keepIn K (.ref f) = true ∧ Lk K f fd
theorem dnK_mk {P : Program} {w : World} {K : PySem.W.Frag} {mg : Str → Option Value} {base : Heap} {x q : Str} {st : Stmt} {f : Addr} {N ps ks : List Str} {k n : Nat} {sp : Sp} (F : ∃ fd, FnP K x q st f fd) (S : FnScope N ps (defScope st))
    (hb : ∀ (kV doc pm : Value) (an : Option Addr) (cdv ct : Value) (us ws : List Value), us.length = n → ws.length = ks.length → bindArgs (PySem.W.fnOf x q (defArgs st) (defBody st) (defScope st) .none kV doc pm an cdv ct) ⟨us, ks.zip ws⟩ = pure (ps.zip (us ++ ws)))
    (len : ∀ vs H Q E, sp vs H Q E → vs.length = ps.length)
    (hbody : ∀ (cdv : Value) (A : Around) (outer : List Env) (s : Shared) (H : Hp) (vs : List V) (Q : VK) (E : XK), Room k (A.deeper (envOfC q (defScope st) s.heap.objs.size f cdv)) → sp vs H Q E →
      ∃ t, PSs (cxOf CX0 P w K mg base N q (defScope st) f cdv A outer s H E).nox (defBody st) t ∧ t ⟨fun _ H' => Q .non H', Q, fun _ _ => False, fun _ _ => False⟩ (start N vs) H) : DnK P w K mg base (k + 1) f ps n ks sp := by
  obtain ⟨fd, F⟩ := F
  refine ⟨fd, F.ok S len fun cdv A outer s H vs Q E hr hsp => ?_, ?_, F.kp, lk_of F⟩
  · obtain ⟨t, h, q⟩ := hbody cdv A outer s H vs Q E hr hsp
    exact ⟨t, h.nox, q⟩
  · obtain ⟨oc, od, dV, kV, doc, pm, an, cdv, ct, osl, e, lk, hcd, hD, hK⟩ := F.ex
    subst e
    have hd : dV = .none := by
      rcases hD with ⟨_, h⟩ | ⟨h, _⟩
      · exact h
      · exact absurd rfl h
    subst hd
    exact ⟨fun s us ws X l1 l2 => .of_eq (hb kV doc pm an cdv ct us ws l1 l2), fun r1 r2 => Vals.append r1 r2⟩
/-- C(e, k = v, ..) -/
theorem se_makeK {τ' : Type} {R : Rp α} {B : Ar β} {T : Fd τ'} {fa : ρ → Option α} {fk : ρ → Option β} {m : Unit → α × β → Option (τ' × Unit)} {n2 : Nat} {Ex : XK} (ha : SE ta E (sF R) fa) (hk : SA tk E B fk) (hn : AN B n2) :
    SE (tMakeK C 1 n2 (spZ (aC R B) (sI C fdN) (sI C T) (sF jN) m) (fun vs zs => vs ++ zs) Ex (tCons ta tNil) tk) E (sI C T) (fun γ => ob (fa γ) fun x => ob (fk γ) fun y => ob (m () (x, y)) fun z => some z.1) := ⟨fun {σ F H L γ z Q} s0 hL hE e k => by
  obtain ⟨x, e1, e⟩ := ob_some e
  obtain ⟨y, e2, e3⟩ := ob_some e
  refine ha s0 hL hE e1 fun v F1 H1 L1 s1 ⟨z1, r1⟩ => ?_
  subst z1
  refine hk s1.fh (hL.mono s1.hh) (E.m s1.f0 hE) e2 fun vs F2 H2 s2 r2 => ⟨rfl, hn.run r2, ?_⟩
  let E0 : En (α × β) := ⟨fun _ F L γ => L = [] ∧ (aC R B).r F (v :: vs) γ, fun z ⟨h1, h2⟩ => ⟨h1, (aC R B).m z h2⟩⟩
  have hs0 : SA (fun _ H Q => Q (v :: vs) H) E0 (aC R B) (fun γ => some γ) := ⟨fun {σ F H L γ z Q} s0 _ he e kk => by
    cases e
    exact kk _ _ _ (Step.nil s0) he.2⟩
  have mk := se_make (C := C) (T := T) (m := m) (Ex := Ex) hs0
  have r0 : E0.r σ F2 [] (x, y) := ⟨rfl, v, vs, rfl, R.m s2.f0 r1, r2⟩
  have go := mk.run (σ := σ) (Q := Q) s2.fh (fun q hq => absurd hq List.not_mem_nil) r0 (x := z) e3 fun w F3 H3 L3 st r3 => k w F3 H3 L3 ((s1.tr s2).tr st) r3
  intro x2 dx n1 n3 n4
  have g2 := go x2 dx n1 n3 n4
  rw [List.append_nil] at g2
  exact g2⟩
end
end Mi

namespace Mi
open PySem PySem.Spec PyProof.Rows L2 Fw
/-! ### text[::-1] -/
def tRevS (te : TE) : TE := fun σ H Q => te σ H fun x H1 => ∃ z : Str, x = .str z ∧ z.length ≤ sizeLine ∧ Q (.str ⟨z.cps.toList.reverse.toArray⟩) H1
theorem back_ix (z : Str) : ((Builtin.Str.strSliceIndices none none (-1) z.length).filterMap (z.cps[·]?)).toArray = z.cps.toList.reverse.toArray := by
  have e : Builtin.Str.strSliceIndices none none (-1) z.length = (List.range z.cps.size).reverse := by
    show sliceRange ((z.cps.size : Int) - 1) (-1) (-1) = _
    rw [PySem.W.krv_sliceRange, PySem.W.krv_range]
  rw [e, List.filterMap_reverse, PySem.W.krv_all]
section
variable {X : Cx}
theorem pe_revS {e : Expr} {te : TE} {k : Nat} {p1 p2 p3 pos : Pos} (he : PE X e te) : PE X (.Subscript e (.Slice none none (some (.UnaryOp .USub (.Constant (.int 1) k p1) p2)) p3) pos) (tRevS te) := by
  refine ⟨fun pins s σ H Q I h => Subscript_ (thn (he.run pins s σ H _ I h) fun v s1 ⟨x, H1, I1, r1, z, ex, hz, q⟩ => ?_)⟩
  subst ex
  obtain ⟨t, rfl⟩ := r1
  have step : PO X (some (.UnaryOp .USub (.Constant (.int 1) k p1) p2)) (tPart (tUn (rU fun i => .int (-i)) (tC (.int 1)))) := po_some (pe_un un_neg pe_int)
  refine wpAny_Slice (thn (po_none.run pins s1 σ H1 (fun o G => o = none ∧ G = H1) I1 ⟨rfl, rfl⟩) fun a s2 ⟨o2, H2, I2, pa, eo2, eH2⟩ => ?_)
  subst eo2 eH2
  refine thn (po_none.run pins s2 σ H2 (fun o G => o = none ∧ G = H2) I2 ⟨rfl, rfl⟩) fun b s3 ⟨o3, H3, I3, pb, eo3, eH3⟩ => ?_
  subst eo3 eH3
  refine thn (step.run pins s3 σ H3 (fun o G => o = some (-1) ∧ G = H3) I3 ⟨1, rfl, -1, rfl, rfl, rfl⟩) fun c s4 ⟨o4, H4, I4, pc, eo4, eH4⟩ => ?_
  subst eo4 eH4
  have I5 : Inv X pins σ H4 { s4 with heap := s4.heap.push { cls := .type "slice", data := .fields #[a, b, c] } } := I4.kept (t' := s4.toks) fun d ob y => Heap.get?_push_of_some _ y
  cases pa
  cases pb
  cases pc with
  | int i u =>
    show wpAny (model X.prog X.w) X.A (subscriptTail e (.Slice none none (some (.UnaryOp .USub (.Constant (.int 1) k p1) p2)) p3) (.str z t) (.ref s4.heap.objs.size)) (EP X pins σ Q) X.xe { s4 with heap := s4.heap.push { cls := .type "slice", data := .fields #[.none, .none, .int (-1) u] } }
    refine tail_any (ops := [.str z t, .ref s4.heap.objs.size]) (typeIs_str _ _ _) F.slot_str_getitem.lookup ?_ (by with_unfolding_all rfl)
    refine wpAny_getItem_str_slice (l := none) (u := none) (st := some (-1, u)) ⟨_, Heap.get?_push_size _ rfl, rfl, rfl⟩ rfl ?_
    have hl : (⟨((Builtin.Str.strSliceIndices none none (-1) z.length).filterMap (z.cps[·]?)).toArray⟩ : Str).length ≤ sizeLine := by
      rw [back_ix]
      show (z.cps.toList.reverse.toArray).size ≤ sizeLine
      rw [List.size_toArray, List.length_reverse, Array.length_toList]
      exact hz
    refine ⟨hl, .str _, H4, I5.tok _, ⟨_, rfl⟩, ?_⟩
    have q2 := q
    rw [← back_ix] at q2
    exact q2
end
section
variable {ρ : Type} {E : En ρ} {ta : TE}
theorem se_revS {fa : ρ → Option (List Nat)} (ha : SE ta E (sF jS) fa) : SE (tRevS ta) E (sF jS) (fun γ => ob (fa γ) fun x => pck (x.length ≤ sz) x.reverse) := ⟨fun s0 hL hE e k => by
  obtain ⟨x, e1, e⟩ := ob_some e
  obtain ⟨p, e⟩ := pck_some e
  subst e
  refine ha s0 hL hE e1 fun v F1 H1 L1 s1 ⟨z1, r1⟩ => ?_
  subst z1
  refine ⟨S x, r1.1, ?_, ?_⟩
  · show (S x).cps.size ≤ sizeLine
    have := sz_le p
    simpa [S] using this
  · have e2 : (⟨(S x).cps.toList.reverse.toArray⟩ : Str) = S x.reverse := by simp [S]
    rw [e2]
    exact k _ _ _ _ s1 ⟨rfl, rfl, fun c hc => r1.2 c (List.mem_reverse.mp hc)⟩⟩
end
end Mi

namespace Mi
open PySem PySem.Spec PyProof.Rows L2 Fw
/-! ### own lists lent to an expression, own lists walked by a loop -/
section
variable {α β ρ ρ'' κ : Type}
/-- no list stands behind it -/
structure Unl (R : Rp α) : Prop where
  run : ∀ {F : Hp} {p : Addr} {us : List V} {v : V} {x : α}, F p = some (.lst us) → R.r F v x → R.r (cutH F p) v x
structure UnT (T : Tp α) : Prop where
  run : ∀ {F : Hp} {p : Addr} {us vs : List V} {x : α}, F p = some (.lst us) → T.r F vs x → T.r (cutH F p) vs x
structure UnS (s : Sl α) : Prop where
  run : ∀ {F : Hp} {p : Addr} {us : List V} {v : V} {L : List (Addr × HO)} {x : α}, F p = some (.lst us) → s.r v F L x → s.r v (cutH F p) L x
variable {A : Rp α} {B : Rp β} {T : Tp β}
theorem ul_s (h : Scal A) : Unl A := ⟨fun _ r => h.run r⟩
theorem ul_1 (h : Unl A) : UnT (y1 A) := ⟨fun hp ⟨v, e, r⟩ => ⟨v, e, h.run hp r⟩⟩
theorem ul_C (h : Unl A) (t : UnT T) : UnT (yC A T) := ⟨fun hp ⟨v, r, e, h1, h2⟩ => ⟨v, r, e, h.run hp h1, t.run hp h2⟩⟩
theorem ul_T (t : UnT T) : Unl (jT T) := ⟨fun {F p us v x} hp ⟨a, vs, e, h, q⟩ => by
  have ne : a ≠ p := fun z => by
    rw [z, hp] at h
    cases h
  exact ⟨a, vs, e, (cutH_ne ne).trans h, t.run hp q⟩⟩
theorem ul_O (h : Unl A) : Unl (jO A) := ⟨fun {_ _ _ _ x} hp q => match x, q with
  | none, q => q
  | some _, q => h.run hp q⟩
theorem us_F (h : Unl A) : UnS (sF A) := ⟨fun hp ⟨e, r⟩ => ⟨e, h.run hp r⟩⟩
theorem us_O (h : Unl A) : UnS (sO A) := ⟨fun hp ⟨q, vs, e, e2, r⟩ => ⟨q, vs, e, e2, Paired.mono (fun _ _ z => h.run hp z) r⟩⟩
variable {E E' : En ρ} {t : TE} {i : Nat} {s1 : Sl β} {g : ρ → List α} {up : List α → ρ → ρ} {f : ρ → Option β}
theorem se_lend (hx : Fy E i (sO A) g E' (sF (jL A)) up) (hu : ∀ γ, up (g γ) γ = γ) (he : SE t E' s1 f) (h : UnS s1) : SE t E s1 f := ⟨fun {σ F H L γ x Q} s0 hL hE e k => by
  obtain ⟨v, pre, L1, post, h1, h2, ⟨p, vs, h3, h4, h5⟩, h6⟩ := hx.run hE
  subst h3 h4 h2
  have hp : H p = some (.lst vs) := hL (p, .lst vs) (by simp)
  let G : Hp := fun b => if b = p then some (.lst vs) else F b
  have gp : G p = some (.lst vs) := if_pos rfl
  have gn : ∀ b, b ≠ p → G b = F b := fun b hb => if_neg hb
  have sFG : Same F G := fun b o eb => by
    by_cases hb : b = p
    · have q := s0 b o eb
      rw [hb] at q ⊢
      rw [gp, ← q, hp]
    · rw [gn b hb]; exact eb
  have sGH : Same G H := fun b o eb => by
    by_cases hb : b = p
    · rw [hb] at eb ⊢
      rw [gp] at eb
      rw [hp, eb]
    · rw [gn b hb] at eb; exact s0 b o eb
  have hE2 := h6 G [] (g γ) sFG ⟨rfl, p, vs, rfl, gp, Paired.mono (fun _ _ q => A.m sFG q) h5⟩
  rw [hu] at hE2
  refine he sGH (fun q hq => hL q (by simp only [List.nil_append, List.mem_append] at hq; simp only [List.mem_append, List.mem_cons]; exact hq.elim .inl fun z => .inr (.inr z))) hE2 e fun w F1 H1 Lr st r => ?_
  cases hF : F p with
  | some o =>
    have eG : G = F := by
      funext b
      by_cases hb : b = p
      · rw [hb, gp, hF, ← hp, ← s0 p o hF]
      · exact gn b hb
    rw [eG] at st
    exact k w F1 H1 Lr st r
  | none =>
    have f1p : F1 p = some (.lst vs) := st.f0 _ _ gp
    refine k w (cutH F1 p) H1 Lr ⟨fun b o eb => ?_, fun b o eb => st.fh b o (cutH_sub b o eb), st.hh, fun b o eb => ?_, fun q hq => ?_, st.nd, trivial⟩ (h.run f1p r)
    · have hb : b ≠ p := fun z => by rw [z, hF] at eb; cases eb
      rw [cutH_ne hb]
      exact st.f0 b o (sFG b o eb)
    · have hb : b ≠ p := fun z => by rw [z, cutH_same] at eb; cases eb
      rw [cutH_ne hb] at eb
      rcases st.new b o eb with z | z
      · rw [gn b hb] at z
        exact .inl z
      · exact .inr z
    · obtain ⟨q1, q2, q3⟩ := st.own q hq
      refine ⟨?_, q2, q3⟩
      cases z : cutH F1 p q.1 with
      | none => rfl
      | some u => rw [cutH_sub _ _ z] at q1; cases q1⟩
/-- the own list at p, of values vs, that stays -/
def sOV (p : Addr) (vs : List V) (A : Rp α) : Sl (List α) := ⟨fun v F L xs => v = .ref p ∧ L = [(p, .lst vs)] ∧ Paired (A.r F) vs xs, fun z ⟨e, h, q⟩ => ⟨e, h, Paired.mono (fun _ _ q => A.m z q) q⟩⟩
variable {E1 : Addr → List V → En ρ} {E2 : Addr → List V → En ρ''} {Ec : En κ} {δ : Type} {s : RRt δ} {K : PySem.W.Frag}
theorem ss_forO {gt : TG} {is : List Nat} {tb : TS} {pf : α → ρ → ρ''} {mb : ρ'' → Option (Res ρ ρ δ)} (hx : ∀ p vs, Fy E i (sO A) g (E1 p vs) (sOV p vs A) up) (hy : ∀ p vs, Fy (E1 p vs) i (sOV p vs A) g E (sO A) up) (hu : ∀ γ, up (g γ) γ = γ)
    (hg : ∀ p vs, SG gt is (E1 p vs) A (E2 p vs) pf) (hb : ∀ p vs, SS tb (E2 p vs) (E1 p vs) (E1 p vs) s mb) :
    SS (tFor (iList K (tVar i)) gt tb) E E Ec s (fun γ => forR (fun x γ => mb (pf x γ)) (g γ) γ) := ⟨fun {σ F0 H0 F H L γ r D} O hE e fin => by
  obtain ⟨p, vs, hs, hp, hE1, hq⟩ : ∃ p vs, σ[i]? = some (some (.ref p)) ∧ H p = some (.lst vs) ∧ (E1 p vs).r σ F L γ ∧ Paired (A.r F) vs (g γ) := by
    obtain ⟨v, pre, L1, post, h1, h2, ⟨p, vs, h3, h4, h5⟩, _⟩ := (hx 0 []).run hE
    subst h3 h4
    have hp : H p = some (.lst vs) := (O.own (p, .lst vs) (by rw [h2]; simp)).2.2
    obtain ⟨v', pre', L1', post', k1, k2, ⟨p', vs', k3, k4, k5⟩, k6⟩ := (hx p vs).run hE
    subst k3 k4
    rw [h1] at k1
    cases k1
    have hp' : H p = some (.lst vs') := (O.own (p, .lst vs') (by rw [k2]; simp)).2.2
    rw [hp] at hp'
    cases hp'
    have r := k6 F [(p, .lst vs)] (g γ) (Same.refl F) ⟨rfl, rfl, k5⟩
    rw [← k2, hu] at r
    exact ⟨p, vs, h1, hp, r, h5⟩
  have thaw : ∀ {σ F L γ}, (E1 p vs).r σ F L γ → H = H → (E.r σ F L (up (g γ) γ)) ∧ ∃ q ∈ L, q = (p, .lst vs) := fun {σ F L γ} h _ => by
    obtain ⟨v, pre, L1, post, k1, k2, ⟨k3, k4, k5⟩, k6⟩ := (hy p vs).run h
    subst k3 k4
    have r := k6 F [(p, .lst vs)] (g γ) (Same.refl F) ⟨p, vs, rfl, rfl, k5⟩
    rw [← k2] at r
    exact ⟨r, (p, .lst vs), by rw [k2]; simp, rfl⟩
  have thaw1 : ∀ {σ F L γ}, (E1 p vs).r σ F L γ → E.r σ F L γ := fun h => by
    have r := (thaw h rfl).1
    rwa [hu] at r
  have at_ : ∀ {σ' F' H' L' γ'}, Own F0 H0 F' H' L' [] → (E1 p vs).r σ' F' L' γ' → H' p = some (.lst vs) := fun O' h => by
    obtain ⟨q, hq, e⟩ := (thaw h rfl).2
    have := (O'.own q hq).2.2
    rw [e] at this
    exact this
  refine ⟨.ref p, hs, p, rfl, ⟨vs, .inl (.inl hp)⟩, ?_⟩
  refine ⟨fun k m σ' H' => m = (g γ).length - k ∧ k ≤ (g γ).length ∧ ∃ F' L' γ', Same F F' ∧ Own F0 H0 F' H' L' [] ∧ (E1 p vs).r σ' F' L' γ' ∧ forR (fun x γ => mb (pf x γ)) ((g γ).drop k) γ' = some r,
    ⟨(g γ).length, by omega, Nat.zero_le _, F, L, γ, Same.refl _, O, hE1, e⟩, ?_⟩
  rintro k m σ' H' ⟨rfl, hi, F', L', γ', sF', O', hE', e'⟩
  have hp' := at_ O' hE'
  by_cases hlt : k < (g γ).length
  · have hx2 : (g γ)[k]? = some (g γ)[k] := List.getElem?_eq_getElem hlt
    obtain ⟨w, w1, w2⟩ := Paired.at hq hx2
    rw [List.drop_eq_getElem_cons hlt] at e'
    obtain ⟨r1, e2, e3⟩ := ob_some e'
    refine .inr ⟨⟨vs, w, .inl (.inl hp'), w1⟩, fun σ2 H2 => ∃ F' L' γ', Same F F' ∧ Own F0 H0 F' H2 L' [] ∧ (E1 p vs).r σ2 F' L' γ' ∧ forR (fun x γ => mb (pf x γ)) ((g γ).drop (k + 1)) γ' = some r, fun σ2 H2 h => ⟨(g γ).length - (k + 1), by omega, rfl, hlt, h⟩, fun v H3 ⟨y1, y2⟩ => ?_⟩
    subst y1
    have e5 := (y2 vs (.inl (.inl hp'))).symm.trans w1
    cases e5
    refine (hg p vs) O'.fh hE' (A.m sF' w2) fun σ4 L4 hb4 hE4 _ => ?_
    refine (hb p vs).run (OwnSb O' hb4) hE4 e2 ?_
    cases r1 with
    | nxt γ2 => exact fun σ5 F5 H5 L5 s5 O5 hE5 => ⟨F5, L5, γ2, sF'.trans s5, O5, hE5, e3⟩
    | cnt γ2 => exact fun σ5 F5 H5 L5 s5 O5 hE5 => ⟨F5, L5, γ2, sF'.trans s5, O5, hE5, e3⟩
    | brk γ2 =>
      cases e3
      exact fun σ5 F5 H5 L5 s5 O5 hE5 => fin σ5 F5 H5 L5 (sF'.trans s5) O5 (thaw1 hE5)
    | ret b =>
      cases e3
      exact s.mo fin sF'
  · have hi2 : k = (g γ).length := by omega
    subst hi2
    rw [List.drop_length] at e'
    cases e'
    exact .inl ⟨⟨vs, .inl (.inl hp'), by rw [Paired.len hq]; exact Nat.le_refl _⟩, fin _ _ _ _ sF' O' (thaw1 hE')⟩⟩
theorem ss_forON {gt : TG} {is : List Nat} {tb : TS} {pf : α → ρ → ρ''} {mb : ρ'' → Option (Res ρ ρ δ)} {f : α → ρ → Option (Res ρ ρ δ)} (hx : ∀ p vs, Fy E i (sO A) g (E1 p vs) (sOV p vs A) up) (hy : ∀ p vs, Fy (E1 p vs) i (sOV p vs A) g E (sO A) up) (hu : ∀ γ, up (g γ) γ = γ)
    (hg : ∀ p vs, SG gt is (E1 p vs) A (E2 p vs) pf) (hb : ∀ p vs, SS tb (E2 p vs) (E1 p vs) (E1 p vs) s mb) (hf : ∀ x γ, mb (pf x γ) = f x γ) :
    SS (tFor (iList K (tVar i)) gt tb) E E Ec s (fun γ => forR f (g γ) γ) := by
  have e : f = fun x γ => mb (pf x γ) := by
    funext x γ
    exact (hf x γ).symm
  rw [e]
  exact ss_forO hx hy hu hg hb
end
end Mi

namespace Mi
open PySem PySem.Spec PyProof.Rows L2 Fw
/-! ### x in l of data, a tuple -/
section
variable {X : Cx} {K : PySem.W.Frag} {k : Nat}
theorem inD_ (hr : Room k X.A) (e : X.K = K := by rfl) : OpR X (compareOp .In) (rInD K) := e ▸ op_inD (by have := hr.un; omega)
theorem notInD_ (hr : Room k X.A) (e : X.K = K := by rfl) : OpR X (compareOp .NotIn) (rNotInD K) := e ▸ op_notInD (by have := hr.un; omega)
end
section
variable {α : Type} [DecidableEq α] {n : Nat} {dt : α → PyData} {R : Rp α} {K : PySem.W.Frag}
def pinD (x : α) (ys : List α) : Bool := decide (x ∈ ys)
theorem pinD_dec (x : α) (ys : List α) [Decidable (x ∈ ys)] : pinD x ys = decide (x ∈ ys) := decide_eq_decide.mpr Iff.rfl
theorem s2_inT (h : Eqr R n dt) (hn : n ≤ 63 := by decide) : S2 (rInD K) R (jL R) (sF jB) (fun x ys => some (pinD x ys)) := s2_inD h hn
theorem s2_notInT (h : Eqr R n dt) (hn : n ≤ 63 := by decide) : S2 (rNotInD K) R (jL R) (sF jB) (fun x ys => some (!pinD x ys)) := s2_notInD h hn
end
end Mi

namespace Mi
open PySem PySem.Spec PyProof.Rows L2 Fw
/-! ### sorted(xs), the items data of one shape -/
/-- items with their data, in order -/
noncomputable def zsort (zs : List (V × PyData)) : List (V × PyData) := zs.mergeSort fun x y => !PySem.W.dataLt y.2 x.2
def rSortedD (K : PySem.W.Frag) : List V → Hp → VK → Prop := fun vs H Q => ∃ (a : Addr) (zs : List (V × PyData)), vs = [V.ref a] ∧ SqL K H a (zs.map (·.1)) ∧ (∀ z ∈ zs, Dp K H z.1 z.2) ∧ PySem.W.AllAlike (zs.map (·.2)) ∧ PySem.W.Sortable (zs.map (·.2)) ∧ (∀ z ∈ zs, z.2.depth ≤ 64) ∧
  ∀ p, H p = none → Q (.ref p) (upd H p (.lst ((zsort zs).map (·.1))))
theorem each_of_vals : ∀ {zs : List (V × PyData)} {us : List Value}, Vals (zs.map (·.1)) us → PySem.W.EachIs (fun v (z : V × PyData) => RelV z.1 v) us zs
  | [], _, .nil => .nil
  | _ :: _, _, .cons r t => .cons r (each_of_vals t)
theorem vals_of_each : ∀ {zs : List (V × PyData)} {us : List Value}, PySem.W.EachIs (fun v (z : V × PyData) => RelV z.1 v) us zs → Vals (zs.map (·.1)) us
  | _, _, .nil => .nil
  | _, _, .cons r t => .cons r (vals_of_each t)
theorem each_reads {X : Cx} {pins : List (Addr × Obj)} {σ : L2.St} {H : Hp} {s : Shared} (I : Inv X pins σ H s) : ∀ {zs : List (V × PyData)} {us : List Value}, PySem.W.EachIs (fun v (z : V × PyData) => RelV z.1 v) us zs → (∀ z ∈ zs, Dp X.K H z.1 z.2) → PySem.W.EachIs (fun v (z : V × PyData) => ∃ as, Reads s.heap v z.2 as) us zs
  | _, _, .nil, _ => .nil
  | _, _, .cons r t, h => .cons (Dp.reads I _ _ _ (h _ List.mem_cons_self) r) (each_reads I t fun z hz => h z (List.mem_cons_of_mem _ hz))
section
variable {X : Cx} {K : PySem.W.Frag} {k : Nat}
theorem cr_sortedD (hu : X.A.units + 66 < cLine) : CallR X (.builtin "sorted") (rSortedD X.K) := by
  intro pins s σ H vs us Q I r h
  obtain ⟨a, zs, rfl, hs, hd, ha, hk, hz, q⟩ := h
  obtain ⟨its, rv, pl, hl⟩ := I.list hs
  obtain ⟨u, rfl, ru⟩ := vals1 r
  obtain rfl : u = Value.ref a := ru
  have e := each_of_vals rv
  rw [List.length_map] at hl
  refine PySem.W.sorted_data (β := V × PyData) (enc := fun z => z.2) (R := fun v z => RelV z.1 v) pl.isList e (each_reads I e hd) ha hk hl (fun z hm => by have := hz z hm; omega) fun out ho he => ?_
  obtain ⟨n, hn⟩ := sortedAll_at s.heap its (List.toArray out)
  have kp : ∀ b o, s.heap.get? b = some o → (sortedAll s.heap its (List.toArray out)).get? b = some o := fun _ _ => sortedAll_old
  have rv2 : Vals ((zsort zs).map (·.1)) out := vals_of_each he
  refine ⟨.ref (s.heap.objs.size + 1), upd H (s.heap.objs.size + 1) (.lst ((zsort zs).map (·.1))), I.laid (t' := s.toks) kp (Nat.le_succ _) ⟨?_, out, n, rv2, hn⟩, rfl, q _ (I.hok.fresh (Nat.le_succ _))⟩
  rw [List.length_map, show (zsort zs).length = zs.length from List.length_mergeSort _]
  exact hl
theorem sortedD_ (hr : Room k X.A) (e : X.K = K := by rfl) : CallR X (.builtin "sorted") (rSortedD K) := e ▸ cr_sortedD (by have := hr.un; omega)
end
section
variable {α : Type} [DecidableEq α] {n : Nat} {dt : α → PyData} {R : Rp α} {K : PySem.W.Frag}
noncomputable def psortD (dt : α → PyData) (xs : List α) : List α := xs.mergeSort fun x y => !PySem.W.dataLt (dt y) (dt x)
/-- data that can be sorted -/
structure Srb (dt : α → PyData) : Prop where
  al : ∀ x y, PySem.W.alike (dt x) (dt y) = true
  tu : (∀ x, ∃ d r, dt x = .tuple (d :: r)) ∨ ∀ x, dt x ≠ .none ∧ ∀ xs, dt x ≠ .tuple xs
theorem sc_sortD (h : Eqr R n dt) (hs : Srb dt) (hn : n ≤ 64 := by decide) : SC (rSortedD K) (aC (jL R) aN) (sO R) (fun x => pck (x.1.length ≤ sz) (psortD dt x.1)) := ⟨fun {F H vs a b Q} s0 ⟨v, r, e1, ⟨p, us, e3, hp, q⟩, e2⟩ e k => by
  obtain ⟨pz, rfl⟩ := pck_some e
  subst e1 e2 e3
  obtain ⟨xs, _⟩ := a
  have hp := s0 _ _ hp
  have q : Paired (R.r F) us xs := q
  have hl := Paired.len q
  have m1 : ((us.zip xs).map fun z : V × α => (z.1, dt z.2)).map (·.1) = us := by
    rw [List.map_map]
    exact List.map_fst_zip (Nat.le_of_eq hl)
  have m2 : ((us.zip xs).map fun z : V × α => (z.1, dt z.2)).map (·.2) = xs.map dt := by
    rw [List.map_map]
    conv => rhs; rw [← List.map_snd_zip (l₁ := us) (l₂ := xs) (Nat.le_of_eq hl.symm), List.map_map]
    rfl
  have pr : ∀ z ∈ us.zip xs, R.r F z.1 z.2 := fun z hz => by
    obtain ⟨i, hi⟩ := List.mem_iff_getElem?.mp hz
    obtain ⟨h1, h2⟩ := List.getElem?_zip_eq_some.mp hi
    obtain ⟨v, e1, e2⟩ := Paired.at q h2
    rw [h1] at e1
    cases e1
    exact e2
  have ex : zsort ((us.zip xs).map fun z : V × α => (z.1, dt z.2)) = ((us.zip xs).mergeSort fun x y => !PySem.W.dataLt (dt y.2) (dt x.2)).map fun z : V × α => (z.1, dt z.2) :=
    (List.map_mergeSort (r := fun x y : V × α => !PySem.W.dataLt (dt y.2) (dt x.2)) (l := us.zip xs) (s := fun x y : V × PyData => !PySem.W.dataLt y.2 x.2) (f := fun z : V × α => (z.1, dt z.2)) fun _ _ _ _ => rfl).symm
  have ey : psortD dt xs = ((us.zip xs).mergeSort fun x y => !PySem.W.dataLt (dt y.2) (dt x.2)).map (·.2) := by
    rw [List.map_mergeSort (s := fun x y : α => !PySem.W.dataLt (dt y) (dt x)) (f := fun z : V × α => z.2) fun _ _ _ _ => rfl, List.map_snd_zip (Nat.le_of_eq hl.symm)]
    rfl
  refine ⟨p, (us.zip xs).map fun z : V × α => (z.1, dt z.2), rfl, ?_, fun z hz => ?_, ?_, ?_, fun z hz => ?_, fun d nd => ?_⟩
  · rw [m1]
    exact .inl (.inl hp)
  · obtain ⟨y, hy, rfl⟩ := List.mem_map.mp hz
    exact Dp.mono s0 _ _ (h.dp (pr y hy))
  · rw [m2]
    exact PySem.W.AllAlike.of hs.al
  · rw [m2]
    rcases hs.tu with t | t
    · exact PySem.W.Sortable.tuples t
    · exact PySem.W.Sortable.others t
  · obtain ⟨y, hy, rfl⟩ := List.mem_map.mp hz
    have := h.dep y.2
    show (dt y.2).depth ≤ 64
    omega
  · refine k (.ref d) F _ [(d, .lst _)] ((Step.nil s0).alloc nd _) ⟨d, _, rfl, rfl, ?_⟩
    rw [ex, ey, List.map_map]
    have all : ∀ zs : List (V × α), (∀ z ∈ zs, z ∈ us.zip xs) → Paired (R.r F) (zs.map ((fun x : V × PyData => x.1) ∘ fun z : V × α => (z.1, dt z.2))) (zs.map (·.2)) := by
      intro zs
      induction zs with
      | nil => intro _; exact .nil
      | cons z zs ih =>
        intro hz
        exact .cons (pr z (hz z List.mem_cons_self)) (ih fun y hy => hz y (List.mem_cons_of_mem _ hy))
    exact all _ fun z hz => (List.mergeSort_perm _ _).mem_iff.mp hz⟩
theorem psortD_perm (xs : List α) : (psortD dt xs).Perm xs := List.mergeSort_perm _ _
theorem psortD_id {xs : List α} (h : xs.Pairwise fun x y => PySem.W.dataLt (dt y) (dt x) = false) : psortD dt xs = xs :=
  List.mergeSort_of_pairwise (h.imp fun {a b} e => by rw [e]; rfl)
end
/-! pairs of hits -/
abbrev T4 : Type := Int × Int × Int × Int
def d4 (x : T4) : PyData := .tuple [.int x.1, .int x.2.1, .int x.2.2.1, .int x.2.2.2]
def d44 (x : T4 × T4) : PyData := .tuple [d4 x.1, d4 x.2]
theorem srb44 : Srb d44 := ⟨fun x y => by simp [d44, d4, PySem.W.alike, PySem.W.alikeAll], .inl fun x => ⟨_, _, rfl⟩⟩
noncomputable def psort44 (xs : List (T4 × T4)) : List (T4 × T4) := psortD d44 xs
theorem sc_sort44 {K : PySem.W.Frag} : SC (rSortedD K) (aC (jL (jT (yC (jT (yC jI (yC jI (yC jI (y1 jI))))) (y1 (jT (yC jI (yC jI (yC jI (y1 jI))))))))) aN) (sO (jT (yC (jT (yC jI (yC jI (yC jI (y1 jI))))) (y1 (jT (yC jI (yC jI (yC jI (y1 jI))))))))) (fun x => pck (x.1.length ≤ sz) (psort44 x.1)) :=
  sc_sortD (dt := d44) (qT (qC (qT (qC qI (qC qI (qC qI (q1 qI))))) (q1 (qT (qC qI (qC qI (qC qI (q1 qI)))))))) srb44
end Mi

namespace Lb
open PySem PySem.Calls PyProof.Rows PySem.W
/-! ### sorting by keys that are new lists -/
section
variable {prog : Program} {w : World} {A : Around} {E : Value → Shared → Prop} {s : Shared} {a kS : Addr} {vs : List Value} {e1 : Nat} {P : PySem.Fin → Shared → Prop} {kz : List PyData}
/-- a call that keeps what was there and gives the key k, whose lists are new -/
def KeyNew (k : PyData) (s₁ : Shared) (v : Value) (s₂ : Shared) : Prop := ∃ g n, s₂ = { s₁ with heap := g, toks := n } ∧ (∀ x u, s₁.heap.get? x = some u → g.get? x = some u) ∧ ∃ as, Reads g v k as ∧ ∀ x ∈ as, s₁.heap.get? x = none
/-- keys read so far: their lists are not the store -/
def KeyAt (g : Heap) (kS : Addr) (v : Value) (k : PyData) : Prop := (∃ as, Reads g v k as ∧ kS ∉ as) ∧ alike k k = true
theorem KeyAt.push {g : Heap} {v : Value} {k : PyData} {kA : Array Value} {e : Nat} {u : Value} (at_ : g.get? kS = some (seqObj "list" kA e)) (h : KeyAt g kS v k) : KeyAt (g.update kS (Obj.mapSeq (·.push u))) kS v k := by
  obtain ⟨⟨as, r, n⟩, al⟩ := h
  have sb := Heap.SameBut.update g kS (Obj.mapSeq (·.push u))
  exact ⟨⟨as, Reads.keepBut (a := kS) (fun x o hx q => (sb.2 x hx).trans q) (fun o q => by rw [at_] at q; cases q; rfl) k v as al r n, n⟩, al⟩
theorem KeyAt.more {g g' : Heap} {v : Value} {k : PyData} (up : ∀ x u, g.get? x = some u → g'.get? x = some u) (h : KeyAt g kS v k) : KeyAt g' kS v k :=
  let ⟨⟨as, r, n⟩, al⟩ := h
  ⟨⟨as, PyProof.Rows.Reads.keeps up r, n⟩, al⟩
theorem keyN_rest {f : Value} {h₁ : Heap} (keep0 : KeepsBut a h₁ s.heap) (new0 : h₁.get? kS = none) (store0 : s.heap.get? kS = some (seqObj "list" #[] 0)) (list0 : s.heap.get? a = some (seqObj "list" #[] e1)) (ne0 : kS ≠ a)
    (len0 : kz.length = vs.length) (big : vs.length ≤ sizeLine) (all_ : AllAlike kz) (sortable : Sortable kz) (units : ∀ d, d ∈ kz → A.units + d.depth < cLine)
    (one : ∀ (i : Nat) (v : Value) (k : PyData), vs[i]? = some v → kz[i]? = some k → ∀ (g : Heap) (n : Nat), KeepsBut a h₁ g → wpAny (model prog w) A (call f [v]) (KeyNew k { s with heap := g, toks := n }) (fun _ _ => False) { s with heap := g, toks := n })
    (fin_ : ∀ g n out c, KeepsBut a h₁ g → g.get? a = some (seqObj "list" (List.toArray out) c) → KeyedOut false kz vs out → P (.done (.ret .none)) { s with heap := g, toks := n }) :
    wpAny (model prog w) A (ksk_rest a f false vs.toArray e1 (.ref kS)) P E s := by
  unfold ksk_rest
  refine wpAny_bind (wpAny_rule ?_)
  first | rw [List.forIn_toArray] | (rw [← Array.forIn_toList]; simp only [List.toList_toArray])
  let Inv_ : Nat → Shared → Prop := fun i s' => ∃ g n kA e, s' = { s with heap := g, toks := n } ∧ KeepsBut a h₁ g ∧ g.get? kS = some (seqObj "list" kA e) ∧ g.get? a = some (seqObj "list" #[] e1) ∧ EachIs (KeyAt g kS) kA.toList (kz.take i)
  have start : Inv_ 0 s := ⟨s.heap, s.toks, #[], 0, rfl, keep0, store0, list0, by rw [List.take_zero]; exact EachIs.nil⟩
  refine wpAny_bind (ksk_fold Inv_ vs 0 s start (fun j x s' at_ inv => ?_) fun s' inv => ?_)
  · obtain ⟨g, n, kA, e, rfl, up, st, ls, ks⟩ := inv
    rw [Nat.zero_add] at ks ⊢
    have lt : j < vs.length := (List.getElem?_eq_some_iff.mp at_).1
    obtain ⟨k, kj⟩ : ∃ k, kz[j]? = some k := ⟨_, List.getElem?_eq_getElem (len0 ▸ lt)⟩
    have self_ := all_ k (List.mem_of_getElem? kj) k (List.mem_of_getElem? kj)
    have sz : kA.size ≤ vs.length := by
      have l1 := ks.length
      rw [Array.length_toList, List.length_take] at l1
      omega
    refine wpAny_bind (wpAny_attempt (wpAny_mono (one j x k at_ kj g n up) (fun v s2 got => ?_) fun _ _ no => no.elim))
    obtain ⟨g2, n2, rfl, k2, as, rd, fresh⟩ := got
    have st2 := k2 _ _ st
    have ls2 := k2 _ _ ls
    have notS : kS ∉ as := fun m => by
      have z : g.get? kS = none := fresh kS m
      rw [st] at z
      cases z
    have sb := Heap.SameBut.update g2 kS (Obj.mapSeq (·.push v))
    obtain ⟨c2, at2⟩ : ∃ c2, (g2.update kS (Obj.mapSeq (·.push v))).get? kS = some (seqObj "list" (kA.push v) c2) := ⟨_, get?_update_seq st2 (·.push v)⟩
    refine wpAny_bind (listUpdate_at st2 rfl ?_ (Nat.le_trans sz big) (by rw [Array.size_push]; omega))
    refine wpAny_pure ⟨rfl, _, _, kA.push v, c2, rfl, (up.trans_all k2).same sb (.inr new0), at2, (sb.2 a ne0.symm).trans ls2, ?_⟩
    rw [List.take_add_one, kj, Option.toList_some, Array.toList_push]
    exact each_snoc (KeyAt.push st2 ⟨⟨as, rd, notS⟩, self_⟩) (ks.mono fun u d q => KeyAt.push st2 (q.more k2))
  · obtain ⟨g, n, kA, e, rfl, up, st, ls, ks⟩ := inv
    have full : kz.take (0 + vs.length) = kz := List.take_of_length_le (by omega)
    rw [full] at ks
    have ks2 : EachIs (fun v k => ∃ as, Reads g v k as) kA.toList kz := ks.mono fun v k q => let ⟨⟨as, r, _⟩, _⟩ := q; ⟨as, r⟩
    have len1 : kA.size = vs.length := by
      have l1 := ks.length
      rw [Array.length_toList] at l1
      omega
    refine wpAny_bind (listItems_at st rfl ?_)
    exact keyH_end (κ := dataKind g kz) (h₁ := h₁) (b := false) up new0 st ls ne0 (SortsAt.data (s := { s with heap := g, toks := n }) ks2 all_ sortable units) len1 big fun g3 n3 c k3 at3 => fin_ g3 n3 _ c k3 at3 ⟨g, kA.toList, all_, rfl, ks2⟩
theorem keyN_sorted {l : Addr} {f : Addr} {Q : Value → Shared → Prop} {β : Type} {bs : List β} {R : Value → β → Prop} (k : β → PyData) (hl : s.heap.IsList l vs.toArray) (each : EachIs R vs bs) (all_ : AllAlike (bs.map k)) (sortable : Sortable (bs.map k)) (big : bs.length ≤ sizeLine)
    (units : ∀ x, x ∈ bs → A.units + 2 + (k x).depth < cLine)
    (one : ∀ (v : Value) (x : β), R v x → x ∈ bs → ∀ (g : Heap) (n : Nat), (∀ y u, s.heap.get? y = some u → g.get? y = some u) → wpAny (model prog w) A.in1.in1 (call (.ref f) [v]) (KeyNew (k x) { s with heap := g, toks := n }) (fun _ _ => False) { s with heap := g, toks := n })
    (fin_ : ∀ out c g n, (∀ y u, s.heap.get? y = some u → g.get? y = some u) → g.get? (s.heap.objs.size + 1) = some (seqObj "list" (List.toArray out) c) → out.length = bs.length → EachIs R out (bs.mergeSort (dataLe false k)) → Q (.ref (s.heap.objs.size + 1)) { s with heap := g, toks := n }) :
    wpAny (model prog w) A (call (.builtin "sorted") [.ref l] [(Str.ofString "key", .ref f)]) Q E s := by
  have len1 := each.length
  have lenk : (bs.map k).length = vs.length := by rw [List.length_map]; exact len1.symm
  have up : ∀ {g : Heap}, KeepsBut (s.heap.objs.size + 1) (copyHeap s.heap vs) g → ∀ y u, s.heap.get? y = some u → g.get? y = some u := fun kp y u q => kp y u (Nat.ne_of_lt (Nat.lt_succ_of_lt (Heap.lt_size q))) (copyHeap_old q)
  refine sorted_of_sort hl (len1 ▸ big) (ksk_s1 _ _) (fun _ => ksk_l1 _ _) fun E' => ?_
  rw [ksk_t1]
  have at0 : (copyHeap s.heap vs).get? (s.heap.objs.size + 1) = some (seqObj "list" vs.toArray 0) := copyHeap_at s.heap vs
  have lt0 := Heap.lt_size at0
  obtain ⟨e1, at1⟩ : ∃ e1, ((copyHeap s.heap vs).update (s.heap.objs.size + 1) (Obj.mapSeq fun _ => (#[] : Array Value))).get? (s.heap.objs.size + 1) = some (seqObj "list" #[] e1) := ⟨_, get?_update_seq at0 fun _ => #[]⟩
  generalize hS : s.heap.objs.size + 1 = a at at0 lt0 at1 up ⊢
  generalize hC : copyHeap s.heap vs = C at at0 lt0 at1 up ⊢
  have szT : ((C.update a (Obj.mapSeq fun _ => (#[] : Array Value))).push (seqObj "tuple" vs.toArray 0)).objs.size = C.objs.size + 1 := by rw [size_push', Heap.size_update]
  unfold ksk_tree
  refine wpAny_bind (listItems_at at0 rfl ?_)
  refine wpAny_bind (listUpdate_at at0 rfl ?_ (by rw [List.size_toArray, len1]; exact big) (Nat.zero_le _))
  refine wpAny_bind (seqEpoch_at at1 rfl ?_)
  refine wpAny_bind (wpAny_newTuple ?_ (len1 ▸ big))
  refine wpAny_bind (wpAny_newList ?_ (Nat.zero_le _))
  refine wpAny_holding ?_
  have kp0 : KeepsBut a C (sortingHeap C a vs) := fun y u ny q => sortingHeap_old ny q
  refine keyN_rest (A := A.in1.in1) (kz := bs.map k) (h₁ := C) (s := { s with heap := ((C.update a (Obj.mapSeq fun _ => (#[] : Array Value))).push (seqObj "tuple" vs.toArray 0)).push (seqObj "list" #[] 0) }) (kS := ((C.update a (Obj.mapSeq fun _ => (#[] : Array Value))).push (seqObj "tuple" vs.toArray 0)).objs.size)
    kp0 (Heap.get?_none_of_le (by rw [szT]; exact Nat.le_succ _)) (Heap.get?_push_size _ rfl) (Heap.get?_push_of_some _ (Heap.get?_push_of_some _ at1)) (by rw [szT]; exact Nat.ne_of_gt (Nat.lt_succ_of_lt lt0)) lenk (len1 ▸ big) all_ sortable (bound_map (A := A.in1.in1) units) ?_ ?_
  · intro i v d hv hd g n kp
    rw [List.getElem?_map] at hd
    cases q : bs[i]? with
    | none => rw [q] at hd; cases hd
    | some x =>
      rw [q] at hd
      cases hd
      have hz : (v, x) ∈ vs.zip bs := List.mem_of_getElem? (i := i) (by rw [List.getElem?_zip_eq_some]; exact ⟨hv, q⟩)
      exact one v x (each.zip _ hz) (List.mem_of_getElem? q) g n (up kp)
  · intro g n out c kp atg ko
    refine ⟨rfl, ?_⟩
    subst hS
    exact fin_ out c g n (up kp) atg ((ko.length lenk).trans len1) (keyedOut_each k ko each)
end
/-! ### the lambda numbers[start:], called -/
section
variable {prog : Program} {w : World} {A : Around} {E : Value → Shared → Prop} {s : Shared}
theorem ints_reads {h : Heap} : ∀ {its : List Value} {ns : List Int}, IntsAre its ns → ReadsAll h its (ns.map PyData.int) []
  | _, _, .nil => .nil
  | _, _, .cons n t r => ReadsAll.cons (as := []) (bs := []) (Reads.int n t) (ints_reads r)
theorem ints_drop {its : List Value} {ns : List Int} (h : IntsAre its ns) : ∀ k : Nat, IntsAre (its.drop k) (ns.drop k) := by
  induction h with
  | nil => intro k; rw [List.drop_nil, List.drop_nil]; exact .nil
  | cons n t r ih =>
    intro k
    cases k with
    | zero => exact .cons n t r
    | succ k => rw [List.drop_succ_cons, List.drop_succ_cons]; exact ih k
/-- one key: the numbers from k on -/
theorem lam_cut {env : Env} {nm x : Str} {b cell : Addr} {its : List Value} {ns : List Int} {k : Nat} {t : Tok} {m : Str → Option Value} {p1 p2 p3 p4 : Pos} (hk : env.scope.kind = .function) (hx : env.kindOf x = some .local) (hn : env.kindOf nm = some .free)
    (hc : env.cells.lookup nm = some cell) (hcell : s.heap.IsCell cell (some (.ref b))) (hl : s.heap.IsList b its.toArray) (hi : IntsAre its ns) (hz : its.length ≤ sizeLine) (hns : s.heap.Ns env.locals m) (hm : m x = some (.int (k : Int) t))
    (d1 : (nm == ("__debug__" : Str)) = false) (d2 : (nm == ("__classdict__" : Str)) = false) (d3 : (x == ("__debug__" : Str)) = false) :
    wpAny (model prog w) A (eval (.Subscript (.Name nm p1) (.Slice (some (.Name x p2)) none none p3) p4) env) (KeyNew (.list ((ns.drop k).map PyData.int)) s) E s := by
  refine Subscript_ (wpAny_Name (wpAny_loadName_free hk hn hc hcell ?_ d2) d1)
  refine wpAny_Slice ?_
  rw [evalPart_some]
  refine wpAny_Name (wpAny_loadName_local hk hx hns hm ?_) d3
  rw [evalPart_none]
  refine wpAny_pure (wpAny_pure ?_)
  have hl2 := hl.push { cls := .type "slice", data := .fields #[.int (k : Int) t, .none, .none] }
  refine tail_any (ops := [.ref s.heap.objs.size, .ref b]) hl2.typeIs slot_list_getitem.lookup ?_ (by with_unfolding_all rfl)
  refine wpAny_getItem_list_slice hl2 (Heap.IsSliceOf.new ..) (.int (k : Int) t) .none .none (by simp) ?_ (by rw [List.size_toArray]; exact hz)
  rw [L2.slicePick_cut, HT.sIx_nat, HT.sIx_none]
  have e : (its.drop (min k its.length)).take (its.length - min k its.length) = its.drop k := by
    by_cases h : k ≤ its.length
    · rw [Nat.min_eq_left h, List.take_of_length_le (by rw [List.length_drop]; exact Nat.le_refl _)]
    · rw [Nat.min_eq_right (by omega), List.drop_length, List.drop_eq_nil_of_le (by omega)]; simp
  rw [e]
  refine ⟨_, _, rfl, fun y u q => Heap.get?_push_of_some _ (Heap.get?_push_of_some _ q), _, Reads.list (Heap.get?_push_size _ rfl) rfl rfl (ints_reads (ints_drop hi k)), fun y hy => ?_⟩
  rw [List.mem_singleton.mp hy]
  refine Heap.get?_none_of_le ?_
  rw [size_push']
  exact Nat.le_succ _
/-- the names of such a lambda -/
def lamNames (x nm : Str) : List (Str × NameKind) := [(x, .local), (nm, .free)]
theorem lam_call {f c' b cell : Addr} {qual x nm : Str} {params : Arguments} {scope : Scope} {cl : List (Str × Addr)} {pm ctv : Value} {its : List Value} {ns : List Int} {k : Nat} {t : Tok} {p1 p2 p3 p4 : Pos} (hroom : A.depth < recursionLimit) (lim : s.heap.NoLimit)
    (ho : s.heap.get? f = some (kla_obj "<lambda>" qual params (.Subscript (.Name nm p1) (.Slice (some (.Name x p2)) none none p3) p4) scope cl pm c' ctv)) (hcode : s.heap.CodeRec (.ref c') qual)
    (h1 : scope.kind = .function) (h2 : scope.isCoroutine = false) (h3 : scope.isGenerator = false) (h4 : scope.names = lamNames x nm) (hxn : (nm == x) = false)
    (hbind : ∀ v : Value, bindArgs (kla_fn "<lambda>" qual params (.Subscript (.Name nm p1) (.Slice (some (.Name x p2)) none none p3) p4) scope cl pm (.ref c') ctv) ⟨[v], []⟩ = pure [(x, v)])
    (hcl : cl.lookup nm = some cell) (hcell : s.heap.IsCell cell (some (.ref b))) (hl : s.heap.IsList b its.toArray) (hi : IntsAre its ns) (hz : its.length ≤ sizeLine)
    (d1 : (nm == ("__debug__" : Str)) = false) (d2 : (nm == ("__classdict__" : Str)) = false) (d3 : (x == ("__debug__" : Str)) = false) :
    wpAny (model prog w) A (call (.ref f) [.int (k : Int) t]) (KeyNew (.list ((ns.drop k).map PyData.int)) s) E s := by
  have kx : scope.names.lookup x = some .local := by rw [h4]; unfold lamNames; rw [List.lookup_cons, beq_self_eq_true]
  have kn : scope.names.lookup nm = some .free := by
    rw [h4]
    unfold lamNames
    rw [List.lookup_cons, hxn]
    show List.lookup nm [(nm, NameKind.free)] = _
    rw [List.lookup_cons, beq_self_eq_true]
  refine wpAny_call (kla_callFunE hroom ho rfl h2 h3 rfl hcode ?_)
  rw [hbind]
  refine wpAny_pure (wpAny_newFunctionEnv (fun y hy => ?_) (fun y hy => ?_) (fun g hns hsb => ⟨lim.fresh _ hsb, ?_⟩) h1)
  · rw [h4] at hy
    unfold lamNames at hy
    simp only [List.mem_cons, List.not_mem_nil, or_false] at hy
    rcases hy with e | e <;> rw [e] <;> exact fun z => by cases z
  · rw [List.mem_singleton.mp hy]
    exact kx
  · have kp : ∀ y u, s.heap.get? y = some u → g.get? y = some u := fun y u e => hsb.extBut y u (Nat.ne_of_lt (Heap.lt_size e)) (Heap.get?_push_of_some _ e)
    refine kla_codeExpr (wpAny_mono (lam_cut (s := { s with heap := g, toks := s.toks + 1 }) (cell := cell) (b := b) (its := its) (k := k) (t := t) (m := fun y => ([(x, Value.int (k : Int) t)] : List (Str × Value)).reverse.lookup y) h1 kx kn hcl ?_ ?_ hi hz hns ?_ d1 d2 d3) (fun v s2 got => ?_) fun e s2 no => no)
    · obtain ⟨o, e1, e2⟩ := hcell
      exact ⟨o, kp _ _ e1, e2⟩
    · obtain ⟨o, e1, e2⟩ := hl
      exact ⟨o, kp _ _ e1, e2⟩
    · show List.lookup x [(x, Value.int (k : Int) t)] = _
      rw [List.lookup_cons, beq_self_eq_true]
    · obtain ⟨g2, n2, e2, k2, as, rd, fr⟩ := got
      refine ⟨g2, n2, e2, fun y u q => k2 y u (kp y u q), as, rd, fun y hy => ?_⟩
      cases q : s.heap.get? y with
      | none => rfl
      | some u =>
        have z : g.get? y = none := fr y hy
        rw [kp y u q] at z
        cases z
end
end Lb
namespace Lb
open PySem PySem.Spec PySem.Calls PyProof.Rows L2 LamX
/-- what a table tells: code objects of one name -/
def TabOk (H : Hp) (q : Str) (ps : Array Value) : Prop := TriplesOk ps.toList ∧ ∀ (pos : Pos) (cv : Value), codeAmong pos ps.toList = some cv → ∃ c, cv = .ref c ∧ H c = some (CodeO c q)
/-- the table is as it was, or has one code object more -/
def Grown (q : Str) (P : Addr) (ps : Array Value) (H : Hp) (ps2 : Array Value) (H2 : Hp) : Prop := (H2 = H ∧ ps2 = ps) ∨ ∃ (c' : Addr) (pos : Pos), H c' = none ∧ c' ≠ P ∧ ps2 = ps ++ #[rawInt pos.line, rawInt pos.col, .ref c'] ∧ H2 = upd (upd H P (.tbl ps2)) c' (CodeO c' q)
theorem Grown.ok {q : Str} {P : Addr} {ps ps2 : Array Value} {H H2 : Hp} (g : Grown q P ps H ps2 H2) (hP : H P = some (.tbl ps)) (t : TabOk H q ps) : H2 P = some (.tbl ps2) ∧ TabOk H2 q ps2 ∧ ∀ x u, x ≠ P → H x = some u → H2 x = some u := by
  rcases g with ⟨rfl, rfl⟩ | ⟨c', pos, n, ne, rfl, rfl⟩
  · exact ⟨hP, t, fun _ _ _ e => e⟩
  · have keep : ∀ x u, x ≠ P → H x = some u → upd (upd H P (.tbl (ps ++ #[rawInt pos.line, rawInt pos.col, .ref c']))) c' (CodeO c' q) x = some u := fun x u h e => by
      rw [upd_ne (ne_of_none e n), upd_ne h]
      exact e
    have eL : (ps ++ #[rawInt pos.line, rawInt pos.col, .ref c']).toList = ps.toList ++ [rawInt pos.line, rawInt pos.col, .ref c'] := by simp
    refine ⟨by rw [upd_ne (Ne.symm ne), upd_same], ⟨by rw [eL]; exact PySem.TriplesOk_snoc _ _ _ _ t.1, fun p cv h => ?_⟩, keep⟩
    rw [eL] at h
    rcases among_app _ t.1 h with z | z
    · obtain ⟨c, e1, e2⟩ := t.2 p cv z
      refine ⟨c, e1, keep c _ (fun y => ?_) e2⟩
      rw [y, hP] at e2
      have e3 := Option.some.inj e2
      unfold CodeO at e3
      cases e3
    · exact ⟨c', z, upd_same⟩
section
variable {X : Cx} {pins : List (Addr × Obj)} {σ : L2.St} {H : Hp} {s : Shared}
theorem lam_mk {c P : Addr} {ps : Array Value} {params : Arguments} {body : Expr} {scope : Scope} {pos : Pos} {E Q : Value → Shared → Prop} (I : Inv X pins σ H s) (TB : LamX.TabB X.base X.mg c P) (at_ : X.env.code = .ref c) (hP : H P = some (.tbl ps)) (ok : TabOk H (X.env.qual ++ "<lambda>") ps)
    (hdef : defaultsOf params X.env = ([], [])) (hfree : ∀ y ∈ scope.names, y.2 = .free → ∃ c, X.env.cells.lookup y.1 = some c)
    (fin_ : ∀ (f c' : Addr) (pm ctv : Value) (ps2 : Array Value) (H2 : Hp) (s' : Shared), Inv X pins σ H2 s' → Grown (X.env.qual ++ "<lambda>") P ps H ps2 H2 → s'.heap.get? f = some (PySem.W.kla_obj "<lambda>" (X.env.qual ++ "<lambda>") params body scope (cloFrom X.env.cells scope.names []) pm c' ctv) → H2 c' = some (CodeO c' (X.env.qual ++ "<lambda>")) → Q (.ref f) s') :
    wpAny (model X.prog X.w) X.A (eval (.Lambda params body scope pos) X.env) Q E s := by
  refine PySem.W.kla_eval hdef ?_
  have tab_ : s.heap.get? P = some { cls := .none, data := .fields ps } := I.hok P _ hP
  have blt : s.heap.BuiltinsAt X.mg P := TB.bm.keeps I.bk
  cases among : codeAmong pos ps.toList with
  | some cv =>
    obtain ⟨c', e, known⟩ := ok.2 pos cv among
    subst e
    refine PySem.W.kla_makeFunctionHit (mg := X.mg) (c := c) (P := P) (ps := ps) (closure_ok hfree) I.ok.glob (I.mod.glob.keeps I.bk) at_ (TB.code.keeps I.bk) tab_ ok.1 among blt fun ctv g n up _ => ?_
    refine fin_ g.objs.size c' ((X.mg "__name__").getD .none) ctv ps H _ (I.kept (t' := n) fun b o e => Heap.get?_push_of_some _ (up b o e)) (.inl ⟨rfl, rfl⟩) (Heap.get?_push_size _ rfl) known
  | none =>
    refine PySem.W.kla_makeFunction (mg := X.mg) (c := c) (P := P) (ps := ps) (closure_ok hfree) I.ok.glob (I.mod.glob.keeps I.bk) at_ (TB.code.keeps I.bk) tab_ ok.1 among TB.gP blt fun c' ctv g n ext ge lt rec_ tb => ?_
    obtain ⟨c2, oc, us, tk, e2, at2, dt, nm⟩ := rec_
    cases e2
    have nC : H c' = none := I.hok.fresh ge
    have J := LamX.inv_table (t' := n) (more := #[rawInt pos.line, rawInt pos.col, .ref c']) (q := X.env.qual ++ "<lambda>") (h' := g.push (PySem.W.kla_obj "<lambda>" (X.env.qual ++ "<lambda>") params body scope (cloFrom X.env.cells scope.names []) ((X.mg "__name__").getD .none) c' ctv)) I hP (fun b o nb e => Heap.get?_push_of_some _ (ext b o nb e)) (Heap.get?_push_of_some _ tb) ge ⟨oc, us, tk, Heap.get?_push_of_some _ at2, dt, nm⟩
    exact fin_ g.objs.size c' ((X.mg "__name__").getD .none) ctv _ _ _ J (.inr ⟨c', pos, nC, Ne.symm (ne_of_none hP nC), rfl, rfl⟩) (Heap.get?_push_size _ rfl) upd_same
end
/-- places, by the numbers from there on -/
def psufs (ns ms : List Int) : List Int := ms.mergeSort fun x y => decide (ns.drop x.toNat ≤ ns.drop y.toNat)
/-- sorted(e, key=lambda x: nm[x:]); nm stands in slot i, the maker's table at P -/
def tSortL (K : PySem.W.Frag) (q : Str) (P : Addr) (i : Nat) (te : TE) : TE := fun σ H Q => te σ H fun v H1 => ∃ (a b : Addr) (ms ns : List Int) (ps : Array Value), v = .ref a ∧ SqL K H1 a (ms.map V.int) ∧ (∀ m ∈ ms, 0 ≤ m) ∧ σ[i]? = some (some (.ref b)) ∧ SqL K H1 b (ns.map V.int) ∧ a ≠ P ∧ b ≠ P ∧ H1 P = some (.tbl ps) ∧ TabOk H1 q ps ∧
  ∀ (ps2 : Array Value) (H2 : Hp) (d : Addr), Grown q P ps H1 ps2 H2 → H2 d = none → Q (.ref d) (upd H2 d (.lst ((psufs ns ms).map V.int)))
theorem each_ints : ∀ {vs : List Value} {ns : List Int}, IntsAre vs ns → PySem.W.EachIs (fun v (m : Int) => ∃ t, v = Value.int m t) vs ns
  | _, _, .nil => .nil
  | _, _, .cons n t r => .cons ⟨t, rfl⟩ (each_ints r)
theorem vals_each : ∀ {vs : List Value} {ns : List Int}, PySem.W.EachIs (fun v (m : Int) => ∃ t, v = Value.int m t) vs ns → Vals (ns.map V.int) vs
  | _, _, .nil => .nil
  | _, _, .cons r t => .cons r (vals_each t)
def sufKey (ns : List Int) (m : Int) : PyData := .list ((ns.drop m.toNat).map PyData.int)
theorem sufKey_al (ns ms : List Int) : PySem.W.AllAlike (ms.map (sufKey ns)) := PySem.W.AllAlike.of fun x y => by
  unfold sufKey
  rw [PySem.W.alike]
  exact PySem.W.alike_ints _ _
theorem sufKey_srt (ns ms : List Int) : PySem.W.Sortable (ms.map (sufKey ns)) := PySem.W.Sortable.others (enc := sufKey ns) fun x => ⟨(by unfold sufKey; intro z; cases z), (by unfold sufKey; intro xs z; cases z)⟩
theorem sufKey_dep (ns : List Int) (m : Int) : (sufKey ns m).depth = 1 := by
  unfold sufKey
  rw [PyData.depth, PySem.W.depth_ints]
theorem sufKey_sort (ns ms : List Int) : ms.mergeSort (PySem.W.dataLe false (sufKey ns)) = psufs ns ms := by
  unfold psufs
  rw [show sufKey ns = fun m => PyData.list (((fun m : Int => ns.drop m.toNat) m).map .int) from rfl, PySem.W.dataLe_rows]
section
variable {X : Cx}
theorem pe_sortLam {x nm : Str} {te : TE} {P c : Addr} {i k : Nat} {e : Expr} {params : Arguments} {scope : Scope} {p p1 p2 p3 p4 lpos kpos pos : Pos} (he : PE X e te) (TB : LamX.TabB X.base X.mg c P) (at_ : X.env.code = .ref c) (hr : Room (k + 2) X.A) (hg : Gl X "sorted") (hm : X.mg "sorted" = none)
    (hN : X.N[i]? = some nm) (hcell : X.env.scope.names.lookup nm = some .cell) (h1 : scope.kind = .function) (h2 : scope.isCoroutine = false) (h3 : scope.isGenerator = false) (h4 : scope.names = lamNames x nm) (hdef : defaultsOf params X.env = ([], []))
    (hbind : ∀ (q : Str) (cl : List (Str × Addr)) (pm cdv ctv v : Value), bindArgs (PySem.W.kla_fn "<lambda>" q params (.Subscript (.Name nm p1) (.Slice (some (.Name x p2)) none none p3) p4) scope cl pm cdv ctv) ⟨[v], []⟩ = pure [(x, v)])
    (hs : starEach [e] X.env = (false, eval e X.env) :: starEach [] X.env := by rfl) (hb1 : backTo pos (starEach [e] X.env) = (false, eval e X.env) :: backTo pos (starEach [] X.env) := by rfl) (hb2 : (backTo pos (starEach [e] X.env)).any (·.1) = false := by rfl)
    (hxn : (nm == x) = false := by decide) (d1 : (nm == ("__debug__" : Str)) = false := by decide) (d2 : (nm == ("__classdict__" : Str)) = false := by decide) (d3 : (x == ("__debug__" : Str)) = false := by decide) :
    PE X (.Call (.Name "sorted" p) [e] [⟨some "key", .Lambda params (.Subscript (.Name nm p1) (.Slice (some (.Name x p2)) none none p3) p4) scope lpos, kpos⟩] pos) (tSortL X.K (X.env.qual ++ "<lambda>") P i te) := by
  refine ⟨fun pins s σ H Q I h => ?_⟩
  refine wpAny_Call_Name_kw (ld_blt I hg hm (by rfl) ?_ (by decide) (by decide))
  let Body : V → Hp → Prop := fun v H1 => ∃ (a b : Addr) (ms ns : List Int) (ps : Array Value), v = .ref a ∧ SqL X.K H1 a (ms.map V.int) ∧ (∀ m ∈ ms, 0 ≤ m) ∧ σ[i]? = some (some (.ref b)) ∧ SqL X.K H1 b (ns.map V.int) ∧ a ≠ P ∧ b ≠ P ∧ H1 P = some (.tbl ps) ∧ TabOk H1 (X.env.qual ++ "<lambda>") ps ∧
    ∀ (ps2 : Array Value) (H2 : Hp) (d : Addr), Grown (X.env.qual ++ "<lambda>") P ps H1 ps2 H2 → H2 d = none → Q (.ref d) (upd H2 d (.lst ((psufs ns ms).map V.int)))
  refine PyProof.Rows.callWith_kw (thn ((pa_cons he pa_nil (hs := hs)).run pos pins s σ H (fun vs H1 => match vs with | [v] => Body v H1 | _ => False) I h) fun us s1 ⟨vs, H1, I1, r1, q1⟩ => ?_) hb1 hb2 (by rfl) (by rfl)
  cases r1 with
  | nil => exact q1.elim
  | cons ra r1 =>
  cases r1 with
  | cons _ _ => exact q1.elim
  | nil =>
  obtain ⟨a, b, ms, ns, ps, rfl, la, pos_, hb, lb, naP, nbP, hP, tok, fin_⟩ := q1
  obtain rfl := ra
  have kn : scope.names.lookup nm = some .free := by
    rw [h4]
    unfold lamNames
    rw [List.lookup_cons, hxn]
    show List.lookup nm [(nm, NameKind.free)] = _
    rw [List.lookup_cons, beq_self_eq_true]
  have hfree : ∀ y ∈ scope.names, y.2 = .free → ∃ c, X.env.cells.lookup y.1 = some c := fun y hy e => by
    rw [h4] at hy
    unfold lamNames at hy
    simp only [List.mem_cons, List.not_mem_nil, or_false] at hy
    rcases hy with z | z
    · rw [z] at e; cases e
    · rw [z]
      exact I1.ok.has _ (.inl hcell)
  show wpAny _ _ (evalAll ((do let v ← eval (.Lambda params (.Subscript (.Name nm p1) (.Slice (some (.Name x p2)) none none p3) p4) scope lpos) X.env; standAt pos; pure v) :: [])) _ _ s1
  refine wpAny_evalAll_cons (wpAny_bind (lam_mk I1 TB at_ hP tok hdef hfree fun f c' pm ctv ps2 H2 s2 I2 gr hf hc' => wpAny_bind (wpAny_standAt (wpAny_pure (wpAny_evalAll_nil ?_)))))
  show wpAny _ _ (call (.builtin "sorted") [.ref a] [(Str.ofString "key", .ref f)]) _ _ s2
  obtain ⟨hP2, tok2, up2⟩ := gr.ok hP tok
  have la2 : SqL X.K H2 a (ms.map V.int) := by
    rcases la with (z | ⟨o, z⟩) | z
    · exact .inl (.inl (up2 _ _ naP z))
    · exact .inl (.inr ⟨o, up2 _ _ naP z⟩)
    · exact .inr z
  have lb2 : SqL X.K H2 b (ns.map V.int) := by
    rcases lb with (z | ⟨o, z⟩) | z
    · exact .inl (.inl (up2 _ _ nbP z))
    · exact .inl (.inr ⟨o, up2 _ _ nbP z⟩)
    · exact .inr z
  obtain ⟨ita, ra2, pla, lena⟩ := I2.list la2
  obtain ⟨itb, rb2, plb, lenb⟩ := I2.list lb2
  have ia := ra2.ints
  have ib := rb2.ints
  rw [List.length_map] at lena
  obtain ⟨oc, us, tk, cat, cdt, cnm⟩ := (I2.hok _ _ hc').1
  obtain ⟨m, hns, look⟩ := I2.loc
  obtain ⟨w', rw', l⟩ := look i nm (.ref b) hN hb (.inr (.inl hcell))
  obtain rfl : w' = Value.ref b := rw'
  obtain ⟨cell, hcl, hcv⟩ : ∃ cell, X.env.cells.lookup nm = some cell ∧ s2.heap.IsCell cell (some (.ref b)) := by
    rcases l with ⟨z, _⟩ | ⟨_, cell, z1, z2⟩
    · have z : X.env.scope.names.lookup nm = some .local := z
      rw [hcell] at z
      cases z
    · exact ⟨cell, z1, z2⟩
  have hlook : (cloFrom X.env.cells scope.names []).lookup nm = some cell := by
    rw [h4]
    unfold lamNames
    simp [cloFrom, hcl]
  have hR := hr.in1.in1
  refine keyN_sorted (β := Int) (R := fun v m => ∃ t, v = Value.int m t) (bs := ms) (vs := ita) (sufKey ns) pla.isList (each_ints ia) (sufKey_al ns ms) (sufKey_srt ns ms) lena (fun y hy => ?_) (fun v y hv hy g n up => ?_) fun out c g n up atg lo eo => ?_
  · rw [sufKey_dep]
    have := hr.un
    omega
  · obtain ⟨t, rfl⟩ := hv
    have ey : ((y.toNat : Nat) : Int) = y := by have := pos_ y hy; omega
    have got := lam_call (prog := X.prog) (w := X.w) (A := X.A.in1.in1) (E := fun _ _ => False) (s := { s2 with heap := g, toks := n }) (f := f) (c' := c') (b := b) (cell := cell) (qual := X.env.qual ++ "<lambda>") (its := itb) (ns := ns) (k := y.toNat) (t := t) (cl := cloFrom X.env.cells scope.names []) (pm := pm) (ctv := ctv)
      (by have := hR.dp; omega) (I2.nolimit.keeps up) (up _ _ hf) ⟨c', oc, us, tk, rfl, up _ _ cat, cdt, cnm⟩ h1 h2 h3 h4 hxn (fun v => hbind _ _ _ _ _ v) hlook (let ⟨o, e1, e2⟩ := hcv; ⟨o, up _ _ e1, e2⟩) (let ⟨o, e1, e2⟩ := plb.isList; ⟨o, up _ _ e1, e2⟩) ib (by rw [← rb2.length]; exact lenb) d1 d2 d3
    rw [ey] at got
    exact got
  · rw [sufKey_sort] at eo
    refine ⟨.ref _, upd H2 (s2.heap.objs.size + 1) (.lst ((psufs ns ms).map V.int)), I2.laid (t' := n) up (Nat.le_succ _) ⟨?_, out, c, vals_each eo, atg⟩, rfl, fin_ ps2 H2 _ gr (I2.hok.fresh (Nat.le_succ _))⟩
    rw [List.length_map, show (psufs ns ms).length = ms.length from List.length_mergeSort _]
    exact lena
end
end Lb

namespace Mi
open PySem PySem.Spec PyProof.Rows L2 Fw Lb
/-! ### a maker's table, an own thing that grows -/
theorem TabOk.mono {F F' : Hp} {q : Str} {ps : Array Value} (s : Same F F') (t : TabOk F q ps) : TabOk F' q ps := ⟨t.1, fun pos cv h => by
  obtain ⟨c, e1, e2⟩ := t.2 pos cv h
  exact ⟨c, e1, s _ _ e2⟩⟩
theorem set_same {τ : Type} {L : List τ} {j : Nat} {x : τ} (h : L[j]? = some x) : L.set j x = L := by
  refine List.ext_getElem? fun k => ?_
  by_cases e : j = k
  · subst e
    rw [List.getElem?_set_self (List.getElem?_eq_some_iff.mp h).1, h]
  · rw [List.getElem?_set_ne e]
theorem TabOk.nil (F : Hp) (q : Str) : TabOk F q #[] := ⟨True.intro, fun pos cv h => by
  have z : codeAmong pos [] = some cv := h
  simp [codeAmong] at z⟩
/-- the names, the table behind them -/
def eT (P : Addr) (q : Str) : En Unit := ⟨fun σ F L _ => σ = [] ∧ ∃ ps, L = [(P, .tbl ps)] ∧ TabOk F q ps, fun s ⟨e, ps, h, t⟩ => ⟨e, ps, h, TabOk.mono s t⟩⟩
section
variable {α β ρ ρ' ρ'' κ : Type} {E : En ρ} {E' : En ρ'} {E1 : En ρ''} {Ec : En κ} {P : Addr} {q : Str} {te : TE} {tA : TA} {t u : TS} {s : RRt β} {sl : Sl β} {s' : Sl α} {K : PySem.W.Frag}
structure Tl (E : En ρ) (P : Addr) (q : Str) : Prop where
  run : ∀ {σ : L2.St} {F : Hp} {L : List (Addr × HO)} {γ : ρ}, E.r σ F L γ → ∃ ps j, L[j]? = some (P, .tbl ps) ∧ TabOk F q ps ∧ ∀ F' ps', Same F F' → TabOk F' q ps' → E.r σ F' (L.set j (P, .tbl ps')) γ
theorem tl0 : Tl (eT P q) P q := ⟨fun ⟨e, ps, h, t⟩ => by
  subst h
  exact ⟨ps, 0, rfl, t, fun F' ps' _ t' => ⟨e, ps', rfl, t'⟩⟩⟩
theorem tlU (h : Tl E P q) : Tl (eU E) P q := ⟨fun ⟨o, σ', e, t⟩ => by
  obtain ⟨ps, j, h1, h2, h3⟩ := h.run t
  exact ⟨ps, j, h1, h2, fun F' ps' sF t' => ⟨o, σ', e, h3 F' ps' sF t'⟩⟩⟩
theorem tlS (h : Tl E P q) : Tl (eC s' E) P q := ⟨fun ⟨v, σ', L1, L2, e1, e2, r, t⟩ => by
  obtain ⟨ps, j, h1, h2, h3⟩ := h.run t
  subst e2
  refine ⟨ps, L1.length + j, ?_, h2, fun F' ps' sF t' => ⟨v, σ', L1, L2.set j (P, .tbl ps'), e1, ?_, s'.m sF r, h3 F' ps' sF t'⟩⟩
  · rw [List.getElem?_append_right (Nat.le_add_right _ _), Nat.add_sub_cancel_left]
    exact h1
  · rw [List.set_append_right (h := Nat.le_add_right _ _), Nat.add_sub_cancel_left]⟩
/-- the table has grown -/
theorem tab_step {F0 H0 F H H2 : Hp} {L : List (Addr × HO)} {j : Nat} {ps ps2 : Array Value} (O : Own F0 H0 F H L []) (hj : L[j]? = some (P, .tbl ps)) (ok : TabOk F q ps) (g : Grown q P ps H ps2 H2) : ∃ F2, Same F F2 ∧ Own F0 H0 F2 H2 (L.set j (P, .tbl ps2)) [] ∧ TabOk F2 q ps2 := by
  rcases g with ⟨rfl, rfl⟩ | ⟨c', pos, n, ne, rfl, rfl⟩
  · refine ⟨F, Same.refl _, ?_, ok⟩
    rwa [set_same hj]
  · have O2 := O.set j hj (.tbl (ps ++ #[rawInt pos.line, rawInt pos.col, .ref c']))
    have np : upd H P (.tbl (ps ++ #[rawInt pos.line, rawInt pos.col, .ref c'])) c' = none := by rw [upd_ne ne]; exact n
    have nF : F c' = none := (O.none0 n).1
    have O3 := O2.ice np (LamX.CodeO c' q)
    refine ⟨_, fun b o e => by rw [upd_ne (ne_of_none e nF)]; exact e, O3.chunks trivial, ?_⟩
    have eL : (ps ++ #[rawInt pos.line, rawInt pos.col, .ref c']).toList = ps.toList ++ [rawInt pos.line, rawInt pos.col, .ref c'] := by simp
    refine ⟨by rw [eL]; exact PySem.TriplesOk_snoc _ _ _ _ ok.1, fun p cv h => ?_⟩
    rw [eL] at h
    rcases LamX.among_app _ ok.1 h with z | z
    · obtain ⟨c, e1, e2⟩ := ok.2 p cv z
      exact ⟨c, e1, by rw [upd_ne (ne_of_none e2 nF)]; exact e2⟩
    · exact ⟨c', z, upd_same⟩
theorem TabOk.up {F H : Hp} {ps : Array Value} (s : Same F H) (t : TabOk F q ps) : TabOk H q ps := TabOk.mono s t
/-- what a return wishes, the table with it -/
def rT {β : Type} (P : Addr) (q : Str) (s : Sl β) : RRt β := ⟨fun F0 H0 Fs Q b => ∀ v F H L ps, Same Fs F → Own F0 H0 F H ((P, .tbl ps) :: L) [] → TabOk F q ps → s.r v F L b → Q v H, fun h sF v F H L ps s2 => h v F H L ps (sF.trans s2)⟩
theorem mem_front {A : List (Addr × HO)} {x : Addr × HO} {j : Nat} (h : A[j]? = some x) : ∃ R, (x :: R).Perm A := by
  obtain ⟨a, b, hab⟩ := List.append_of_mem (List.mem_of_getElem? h)
  exact ⟨a ++ b, by rw [hab]; exact (List.perm_middle (l₁ := a) (l₂ := b)).symm⟩
/-- own things of a value ahead, the table among the others: both are kept -/
theorem sb_tab {L1 L : List (Addr × HO)} {x : Addr × HO} {j : Nat} (h : L[j]? = some x) : Sb (x :: L1) (L1 ++ L) := by
  obtain ⟨R, hR⟩ := mem_front h
  refine ⟨R, ?_⟩
  refine List.Perm.trans ?_ (hR.append_left L1)
  show (x :: (L1 ++ R)).Perm (L1 ++ x :: R)
  exact (List.perm_middle (l₁ := L1) (l₂ := R)).symm
theorem ss_retT {fe : ρ → Option β} (ht : Tl E P q) (he : SE te E sl fe) : SS (tRet te) E E' Ec (rT P q sl) (fun γ => ob (fe γ) fun x => some (.ret x)) := ⟨fun O hE e fin => by
  obtain ⟨x, e1, e⟩ := ob_some e
  cases e
  refine he O.fh (Held.of O) hE e1 fun v F1 H1 L1 s1 r1 => ?_
  obtain ⟨ps, j, h1, h2, _⟩ := ht.run (E.m s1.f0 hE)
  exact fin v F1 H1 L1 ps s1.f0 (OwnSb (Own.on O s1) (sb_tab h1)) h2 r1⟩
/-! sorted(e, key=lambda x: nm[x:]) -/
theorem lam_core {i : Nat} {fe : ρ → Option (List Int)} {g : ρ → List Int} (ht : Tl E P q) (hg : Gt E i (sF (jL jI)) g) (he : SE te E (sO jI) fe) {σ : L2.St} {F0 H0 F H : Hp} {L : List (Addr × HO)} {γ : ρ} {ms : List Int} {Q : VK} (O : Own F0 H0 F H L []) (hE : E.r σ F L γ) (e1 : fe γ = some ms) (hpos : ∀ m ∈ ms, 0 ≤ m)
    (k : ∀ (d : Addr) (F2 H2 : Hp) (L2 L3 : List (Addr × HO)) (j : Nat) (ps2 : Array Value), Same F F2 → Own F0 H0 F2 H2 ((d, .lst ((psufs (g γ) ms).map V.int)) :: (L3 ++ L2)) [] → L2[j]? = some (P, HO.tbl ps2) → TabOk F2 q ps2 → E.r σ F2 L2 γ → Q (.ref d) H2) : tSortL K q P i te σ H Q := by
  show te σ H _
  refine he O.fh (Held.of O) hE e1 fun v F1 H1 L1 s1 ⟨p, vs, z1, z2, r1⟩ => ?_
  subst z1 z2
  have O1 := Own.on O s1
  have hE1 := E.m s1.f0 hE
  obtain ⟨ps, j, h1, h2, h3⟩ := ht.run hE1
  have hj : ([(p, HO.lst vs)] ++ L)[j + 1]? = some (P, .tbl ps) := h1
  obtain ⟨w, Lb, g1, _, zb, ⟨b, ns, g2, g3, g4⟩⟩ := hg.run hE1
  subst g2
  have ev : vs = ms.map V.int := ints_of r1
  have en : ns = (g γ).map V.int := ints_of g4
  have hp : H1 p = some (.lst vs) := O1.at_ 0 rfl
  have hP : H1 P = some (.tbl ps) := O1.at_ (j + 1) hj
  have hb : H1 b = some (.lst ns) := O1.fh _ _ g3
  refine ⟨p, b, ms, g γ, ps, rfl, .inl (.inl (by rw [← ev]; exact hp)), hpos, g1, .inl (.inl (by rw [← en]; exact hb)), ne_of hp hP (fun z => by cases z), ne_of hb hP (fun z => by cases z), hP, TabOk.up O1.fh h2, fun ps2 H2 d gr nd => ?_⟩
  obtain ⟨F2, sF, O2, ok2⟩ := tab_step O1 hj h2 gr
  have O3 := O2.alloc nd (.lst ((psufs (g γ) ms).map V.int))
  have es : ([(p, HO.lst vs)] ++ L).set (j + 1) (P, .tbl ps2) = [(p, HO.lst vs)] ++ L.set j (P, .tbl ps2) := rfl
  rw [es] at O3
  refine k d F2 _ (L.set j (P, .tbl ps2)) [(p, .lst vs)] j ps2 (s1.f0.trans sF) O3 ?_ ok2 (h3 F2 ps2 sF ok2)
  exact List.getElem?_set_self (List.getElem?_eq_some_iff.mp h1).1
theorem ss_retLam {i : Nat} {fe : ρ → Option (List Int)} {g : ρ → List Int} (ht : Tl E P q) (hg : Gt E i (sF (jL jI)) g) (he : SE te E (sO jI) fe) : SS (tRet (tSortL K q P i te)) E E' Ec (rT P q (sO jI)) (fun γ => ob (fe γ) fun ms => ob (pck (∀ m ∈ ms, 0 ≤ m) (psufs (g γ) ms)) fun x => some (.ret x)) := ⟨fun {σ F0 H0 F H L γ r D} O hE e fin => by
  obtain ⟨ms, e1, e⟩ := ob_some e
  obtain ⟨x, e2, e⟩ := ob_some e
  obtain ⟨hpos, rfl⟩ := pck_some e2
  cases e
  refine lam_core ht hg he O hE e1 hpos fun d F2 H2 L2 L3 j ps2 sF O2 hj ok _ => ?_
  refine fin (.ref d) F2 H2 [(d, .lst _)] ps2 sF (OwnSb O2 ?_) ok ⟨d, _, rfl, rfl, Paired.mk (A := jI.r _) (fun _ => rfl) _⟩
  have := sb_tab (L1 := (d, HO.lst ((psufs (g γ) ms).map V.int)) :: L3) hj
  refine Sb.trans ?_ this
  exact ⟨L3, List.Perm.refl _⟩⟩
theorem ss_asgLam {i j : Nat} {fe : ρ → Option (List Int)} {g : ρ → List Int} {p : List Int → ρ → ρ''} {m : ρ'' → Option (Res ρ' κ β)} (ht : Tl E P q) (hg : Gt E i (sF (jL jI)) g) (he : SE te E (sO jI) fe) (hp : Pt E j (sO jI) E1 p) (hu : SS u E1 E' Ec s m) :
    SS (tSeq (tAsg (tSortL K q P i te) (gName j)) u) E E' Ec s (fun γ => ob (fe γ) fun ms => ob (pck (∀ m ∈ ms, 0 ≤ m) (psufs (g γ) ms)) fun x => m (p x γ)) := ⟨fun {σ F0 H0 F H L γ r D} O hE e fin => by
  obtain ⟨ms, e1, e⟩ := ob_some e
  obtain ⟨x, e2, e⟩ := ob_some e
  obtain ⟨hpos, rfl⟩ := pck_some e2
  show tSortL K q P i te σ H (fun x H1 => gName j x σ H1 (u D))
  refine lam_core ht hg he O hE e1 hpos fun d F2 H2 L2 L3 jj ps2 sF O2 hj ok hE2 => ?_
  obtain ⟨L', h1, h2⟩ := hp.run (L1 := [(d, .lst ((psufs (g γ) ms).map V.int))]) (x := psufs (g γ) ms) hE2 ⟨d, _, rfl, rfl, Paired.mk (A := jI.r _) (fun _ => rfl) _⟩
  refine hu.run (OwnSb O2 (h2.trans ?_)) h1 e (fin.mo sF)
  exact (Sb.dropL L3 L2).left [(d, .lst ((psufs (g γ) ms).map V.int))]⟩
/-! calls of defs that need the table -/
theorem Own.lent2 {F0 H0 F H F' H' : Hp} {L L2 : List (Addr × HO)} {C : List Ck} {p : Addr} {o o' : HO} {j : Nat} (O : Own F0 H0 F H L C) (hj : L[j]? = some (p, o)) (c : Own F (cutH H p) F' H' ((p, o') :: L2) []) : Own F0 H0 F' H' (L2 ++ L.set j (p, o')) C := by
  obtain ⟨hF, hH0, hH⟩ := O.own (p, o) (List.mem_of_getElem? hj)
  have O1 := Own.lent O hj (OwnSb c ⟨L2, List.Perm.refl _⟩)
  have nd := c.nd
  rw [List.map_cons] at nd
  obtain ⟨n1, n2⟩ := List.nodup_cons.mp nd
  have new : ∀ q ∈ L2, F' q.1 = none ∧ H0 q.1 = none ∧ H' q.1 = some q.2 ∧ q.1 ≠ p ∧ H q.1 = none := fun q hq => by
    obtain ⟨a1, a2, a3⟩ := c.own q (List.mem_cons_of_mem _ hq)
    have ne : q.1 ≠ p := fun z => n1 (by
      have m := List.mem_map_of_mem (f := Prod.fst) hq
      rw [z] at m
      exact m)
    rw [cutH_ne ne] at a2
    exact ⟨a1, O.hh.free a2, a3, ne, a2⟩
  refine ⟨O1.f0, O1.fh, O1.hh, O1.new, fun q hq => ?_, ?_, O1.cs⟩
  · rcases List.mem_append.mp hq with h | h
    · obtain ⟨a1, a2, a3, _, _⟩ := new q h
      exact ⟨a1, a2, a3⟩
    · exact O1.own q h
  · rw [List.map_append]
    refine List.nodup_append.mpr ⟨n2, O1.nd, fun x hx y hy e => ?_⟩
    obtain ⟨a, ha, rfl⟩ := List.mem_map.mp hx
    obtain ⟨r, hr, rfl⟩ := List.mem_map.mp hy
    obtain ⟨_, _, _, ne, no⟩ := new a ha
    obtain ⟨k, hk⟩ := List.mem_iff_getElem?.mp hr
    by_cases z : j = k
    · subst z
      rw [List.getElem?_set_self (List.getElem?_eq_some_iff.mp hj).1] at hk
      cases hk
      exact ne e
    · rw [List.getElem?_set_ne z] at hk
      have h3 := (O.own r (List.mem_of_getElem? hk)).2.2
      rw [← e, no] at h3
      cases h3
def spT (P : Addr) (q : Str) (A : Ar ρ) (s : Sl β) (m : ρ → Option β) : Sp := fun vs H Q _ => ∃ F ps γ y, Same F H ∧ F P = none ∧ H P = some (.tbl ps) ∧ TabOk F q ps ∧ A.r F vs γ ∧ m γ = some y ∧
  ∀ v F' H' ps' L, Own F (cutH H P) F' H' ((P, .tbl ps') :: L) [] → TabOk F' q ps' → s.r v F' L y → Q v H'
theorem spT_len {A : Ar ρ} {m : ρ → Option β} {n : Nat} (h : AN A n) : ∀ vs H Q E, spT P q A sl m vs H Q E → vs.length = n := fun _ _ _ _ ⟨_, _, _, _, _, _, _, _, r, _⟩ => h.run r
theorem callT_core {A : Ar α} {fa : ρ → Option α} {mf : α → Option β} {Ex : XK} (ht : Tl E P q) (ha : SA tA E A fa) {σ : L2.St} {F0 H0 F H : Hp} {L : List (Addr × HO)} {γ : ρ} {a : α} {y : β} {Q : VK} (O : Own F0 H0 F H L []) (hE : E.r σ F L γ) (e1 : fa γ = some a) (e2 : mf a = some y)
    (k : ∀ v F2 H2 L2 L1, Same F F2 → Own F0 H0 F2 H2 (L1 ++ L2) [] → E.r σ F2 L2 γ → sl.r v F2 L1 y → Q v H2) : tCall (spT P q A sl mf) [] Ex tA σ H Q := by
  rw [q_call]
  refine ha.run O.fh (Held.of O) hE e1 fun vs F1 H1 s1 r1 => ?_
  have O1 := Own.on O s1
  rw [List.nil_append] at O1
  obtain ⟨ps, j, h1, h2, h3⟩ := ht.run (E.m s1.f0 hE)
  refine ⟨F1, ps, a, y, O1.fh, (O1.own _ (List.mem_of_getElem? h1)).1, O1.at_ j h1, h2, r1, e2, fun v F2 H2 ps2 L2 c ok r2 => ?_⟩
  exact k v F2 H2 (L.set j (P, .tbl ps2)) L2 (s1.f0.trans c.f0) (Own.lent2 O1 h1 c) (h3 F2 ps2 c.f0 ok) r2
theorem ss_asgT {A : Ar α} {i : Nat} {δ : Type} {sd : Sl δ} {fa : ρ → Option α} {mf : α → Option δ} {Ex : XK} {p : δ → ρ → ρ''} {m : ρ'' → Option (Res ρ' κ β)} (ht : Tl E P q) (ha : SA tA E A fa) (hp : Pt E i sd E1 p) (hu : SS u E1 E' Ec s m) :
    SS (tSeq (tAsg (tCall (spT P q A sd mf) [] Ex tA) (gName i)) u) E E' Ec s (fun γ => ob (ob (fa γ) mf) fun y => m (p y γ)) := ⟨fun {σ F0 H0 F H L γ r D} O hE e fin => by
  obtain ⟨y, e1, e⟩ := ob_some e
  obtain ⟨a, e2, e3⟩ := ob_some e1
  show tCall (spT P q A sd mf) [] Ex tA σ H (fun x H1 => gName i x σ H1 (u D))
  refine callT_core ht ha O hE e2 e3 fun v F2 H2 L2 L1 sF O2 hE2 r2 => ?_
  obtain ⟨L', h1, h2⟩ := hp.run hE2 r2
  exact hu.run (OwnSb O2 h2) h1 e (fin.mo sF)⟩
/-! a list made of such a call's items -/
/-- E, in which the list at a is known -/
structure TX (E : En ρ) (EX : Addr → List V → List α → En ρ) (A : Rp α) : Prop where
  into : ∀ {a : Addr} {vs : List V} {xs : List α} {σ : L2.St} {F : Hp} {L : List (Addr × HO)} {γ : ρ}, E.r σ F L γ → F a = some (.lst vs) → Paired (A.r F) vs xs → (EX a vs xs).r σ F L γ
  know : ∀ {a : Addr} {vs : List V} {xs : List α} {σ : L2.St} {F : Hp} {L : List (Addr × HO)} {γ : ρ}, (EX a vs xs).r σ F L γ → F a = some (.lst vs) ∧ Paired (A.r F) vs xs
def eTX (P : Addr) (q : Str) (A : Rp α) (a : Addr) (vs : List V) (xs : List α) : En Unit := ⟨fun σ F L γ => (eT P q).r σ F L γ ∧ F a = some (.lst vs) ∧ Paired (A.r F) vs xs, fun s ⟨e, h, p⟩ => ⟨(eT P q).m s e, s _ _ h, Paired.mono (fun _ _ q => A.m s q) p⟩⟩
theorem tx0 {A : Rp α} : TX (eT P q) (eTX P q A) A := ⟨fun h e p => ⟨h, e, p⟩, fun h => h.2⟩
theorem txU {EX : Addr → List V → List α → En ρ} {A : Rp α} (h : TX E EX A) : TX (eU E) (fun a vs xs => eU (EX a vs xs)) A := ⟨fun ⟨o, σ', e, t⟩ k p => ⟨o, σ', e, h.into t k p⟩, fun ⟨o, σ', e, t⟩ => h.know t⟩
theorem txS {δ : Type} {sd : Sl δ} {EX : Addr → List V → List α → En ρ} {A : Rp α} (h : TX E EX A) : TX (eC sd E) (fun a vs xs => eC sd (EX a vs xs)) A := ⟨fun ⟨v, σ', L1, L2, e1, e2, r, t⟩ k p => ⟨v, σ', L1, L2, e1, e2, r, h.into t k p⟩, fun ⟨v, σ', L1, L2, e1, e2, r, t⟩ => h.know t⟩
/-- the walk of the list at a -/
def iAt (K : PySem.W.Frag) (a : Addr) : TI := fun _ H Q => Q (Itl K a) H
theorem si_at {EX : Addr → List V → List α → En ρ} {A : Rp α} (h : TX E EX A) {a : Addr} {vs : List V} {xs : List α} : SI (iAt K a) (EX a vs xs) A (fun _ => some xs) where
  run s0 hL he e k := by
    cases e
    obtain ⟨e1, e2⟩ := h.know he
    exact k _ _ _ (Step.nil s0) (itl_ok (.inl (.inl e1)) e2)
theorem ss_asgLT {δ ε : Type} {A : Rp α} {B : Rp δ} {Af : Ar ε} {i : Nat} {g : TG} {tt : TT} {ws : List Nat} {fa : ρ → Option ε} {mf : ε → Option (List α)} {fl : List α → ρ → Option (List δ)} {Ex : XK} {EX : Addr → List V → List α → En ρ} {p : List δ → ρ → ρ''} {m : ρ'' → Option (Res ρ' κ β)}
    (ht : Tl E P q) (ha : SA tA E Af fa) (hx : TX E EX A) (hl : ∀ a vs xs, SE (tLc (iAt K a) g tt te ws) (EX a vs xs) (sO B) (fl xs)) (hp : ∀ a vs xs, ∃ E2 : En ρ'', Pt (EX a vs xs) i (sO B) E2 p ∧ ∀ {σ F L γ}, E2.r σ F L γ → E1.r σ F L γ) (hu : SS u E1 E' Ec s m) :
    SS (tSeq (tAsg (tLc (iList K (tCall (spT P q Af (sO A) mf) [] Ex tA)) g tt te ws) (gName i)) u) E E' Ec s (fun γ => ob (ob (ob (fa γ) mf) fun xs => fl xs γ) fun y => m (p y γ)) := ⟨fun {σ F0 H0 F H L γ r D} O hE e fin => by
  obtain ⟨y, e1, e⟩ := ob_some e
  obtain ⟨xs, e2, e3⟩ := ob_some e1
  obtain ⟨a, e4, e5⟩ := ob_some e2
  refine callT_core ht ha O hE e4 e5 fun v F2 H2 L2 L1 sF O2 hE2 r2 => ?_
  obtain ⟨d, vs, z1, z2, pr⟩ := r2
  subst z1 z2
  have hd : H2 d = some (.lst vs) := O2.at_ 0 rfl
  have O3 := O2.freeze
  have sF2 : Same F2 (upd F2 d (.lst vs)) := fun b o e => by rw [upd_ne (ne_of_none e (O2.own _ List.mem_cons_self).1)]; exact e
  have O3 := O3.chunks (C' := []) trivial
  have hX := hx.into (E.m sF2 hE2) (a := d) (vs := vs) (xs := xs) upd_same (Paired.mono (fun _ _ q => A.m sF2 q) pr)
  refine ⟨d, rfl, ⟨vs, .inl (.inl hd)⟩, ?_⟩
  show tLc (iAt K d) g tt te ws σ H2 (fun x H1 => gName i x σ H1 (u D))
  refine (hl d vs xs).run O3.fh (Held.of O3) hX e3 fun v F4 H4 L4 s4 r4 => ?_
  obtain ⟨E2, hp2, hE12⟩ := hp d vs xs
  obtain ⟨L', h1, h2⟩ := hp2.run ((EX d vs xs).m s4.f0 hX) r4
  exact hu.run (OwnSb (Own.on O3 s4) h2) (hE12 h1) e (fin.mo (sF.trans (sF2.trans s4.f0)))⟩
/-- leaving out what is known -/
structure TD (E2 E1 : En ρ) : Prop where
  run : ∀ {σ : L2.St} {F : Hp} {L : List (Addr × HO)} {γ : ρ}, E2.r σ F L γ → E1.r σ F L γ
theorem td0 {A : Rp α} {a : Addr} {vs : List V} {xs : List α} : TD (eTX P q A a vs xs) (eT P q) := ⟨fun h => h.1⟩
theorem tdU {E2 E1 : En ρ} (h : TD E2 E1) : TD (eU E2) (eU E1) := ⟨fun ⟨o, σ', e, t⟩ => ⟨o, σ', e, h.run t⟩⟩
theorem tdS {δ : Type} {sd : Sl δ} {E2 E1 : En ρ} (h : TD E2 E1) : TD (eC sd E2) (eC sd E1) := ⟨fun ⟨v, σ', L1, L2, e1, e2, r, t⟩ => ⟨v, σ', L1, L2, e1, e2, r, h.run t⟩⟩
/-! defs -/
structure AET (a : Ar ρ) (P : Addr) (q : Str) (E : En ρ) (n : Nat) : Prop where
  run : ∀ {F : Hp} {vs : List V} {γ : ρ} {ps : Array Value}, a.r F vs γ → TabOk F q ps → E.r (vs.map some ++ List.replicate n none) F [(P, .tbl ps)] γ
theorem aet_0 : AET aN P q (eT P q) 0 := ⟨fun {_ _ _ ps} e t => by
  have e : _ = [] := e
  subst e
  exact ⟨rfl, ps, rfl, t⟩⟩
theorem aet_U {a : Ar Unit} {E : En Unit} {n : Nat} (ha : a = aN) (h : AET a P q E n) : AET a P q (eU E) (n + 1) := ⟨fun {F vs γ ps} e t => by
  have h2 := h.run e t
  subst ha
  have e2 : vs = [] := e
  subst e2
  exact ⟨none, List.replicate n none, rfl, h2⟩⟩
theorem aet_C {B : Rp α} {a : Ar ρ} {n : Nat} (h : AET a P q E n) : AET (aC B a) P q (eC (sF B) E) n := ⟨fun {_ _ _ ps} ⟨v, r, e, r1, r2⟩ t => by
  subst e
  exact ⟨v, _, [], [(P, .tbl ps)], rfl, rfl, ⟨rfl, r1⟩, h.run r2 t⟩⟩
theorem finT_runX {a : Ar ρ} {n k : Nat} {N : List Str} {mm : ρ → Option β} {vs : List V} {H : Hp} {Q : VK} {Ex : XK} {D : Ends} (hA : AET a P q E n) (hn : AN a k) (hN : N.length = k + n) (h : ∃ m : ρ → Option (Res ρ' Unit β), SS t E E' eN (rT P q sl) m ∧ mm = fun γ => Mi.fin (m γ)) (hq : spT P q a sl mm vs H Q Ex) (hD : D.rt = Q) : t D (L2.start N vs) H := by
  obtain ⟨m, h, rfl⟩ := h
  obtain ⟨F, ps, γ, b, s0, hF, hH, tk, r, e, k⟩ := hq
  obtain ⟨r1, e1, e2⟩ := ob_some e
  have hl := hn.run r
  have hs : L2.start N vs = vs.map some ++ List.replicate n none := by
    unfold L2.start
    rw [show N.length - vs.length = n by omega]
  rw [hs]
  refine h.run (Own.lend s0 hF hH) (hA.run r tk) e1 ?_
  cases r1 with
  | ret b => cases e2; rw [← hD] at k; exact fun v F' H' L ps' _ O t' r' => k v F' H' ps' L O t' r'
  | nxt _ => cases e2
  | cnt _ => cases e2
  | brk _ => cases e2
/-- a law: the table is not asked for behind it -/
def spTL (P : Addr) (q : Str) (A : Ar ρ) (s : Sl β) (m : ρ → Option β) : Sp := fun vs H Q _ => ∃ F ps γ y, Same F H ∧ F P = none ∧ H P = some (.tbl ps) ∧ TabOk F q ps ∧ A.r F vs γ ∧ m γ = some y ∧
  ∀ v F' H' L, Own F (cutH H P) F' H' L [] → s.r v F' L y → Q v H'
theorem spTL_len {A : Ar ρ} {m : ρ → Option β} {n : Nat} (h : AN A n) : ∀ vs H Q E, spTL P q A sl m vs H Q E → vs.length = n := fun _ _ _ _ ⟨_, _, _, _, _, _, _, _, r, _⟩ => h.run r
theorem finTL_runX {a : Ar ρ} {n k : Nat} {N : List Str} {mm : ρ → Option β} {vs : List V} {H : Hp} {Q : VK} {Ex : XK} {D : Ends} (hA : AET a P q E n) (hn : AN a k) (hN : N.length = k + n) (h : ∃ m : ρ → Option (Res ρ' Unit β), SS t E E' eN (rS sl) m ∧ mm = fun γ => Mi.fin (m γ)) (hq : spTL P q a sl mm vs H Q Ex) (hD : D.rt = Q) : t D (L2.start N vs) H := by
  obtain ⟨m, h, rfl⟩ := h
  obtain ⟨F, ps, γ, b, s0, hF, hH, tk, r, e, k⟩ := hq
  obtain ⟨r1, e1, e2⟩ := ob_some e
  have hl := hn.run r
  have hs : L2.start N vs = vs.map some ++ List.replicate n none := by
    unfold L2.start
    rw [show N.length - vs.length = n by omega]
  rw [hs]
  refine h.run (Own.lend s0 hF hH) (hA.run r tk) e1 ?_
  cases r1 with
  | ret b => cases e2; rw [← hD] at k; exact fun v F' H' L _ O r' => k v F' H' L O r'
  | nxt _ => cases e2
  | cnt _ => cases e2
  | brk _ => cases e2
end
/-- a def whose code object has a table -/
theorem dnT_mk {P : Program} {w : World} {K : PySem.W.Frag} {mg : Str → Option Value} {base : Heap} {d : He.Defn} {x q : Str} {st : Stmt} {N ps : List Str} {k : Nat} {sp : Sp} (F : ∃ fd, FnP K x q st (He.fAd K d) fd) (S : FnScope N ps (defScope st))
    (hb : ∀ (kV doc pm : Value) (an : Option Addr) (cdv ct : Value) (us : List Value), us.length = ps.length → bindArgs (PySem.W.fnOf x q (defArgs st) (defBody st) (defScope st) .none kV doc pm an cdv ct) ⟨us, []⟩ = pure (ps.zip us))
    (len : ∀ vs H Q E, sp vs H Q E → vs.length = ps.length)
    (hbody : ∀ (cdv : Value) (A : Around) (outer : List Env) (s : Shared) (H : Hp) (vs : List V) (Q : VK) (E : XK), cdv = .ref (He.cT K d).1 → Room k (A.deeper (envOfC q (defScope st) s.heap.objs.size (He.fAd K d) cdv)) → sp vs H Q E →
      ∃ t, PSs (cxOf CX0 P w K mg base N q (defScope st) (He.fAd K d) cdv A outer s H E).nox (defBody st) t ∧ t ⟨fun _ H' => Q .non H', Q, fun _ _ => False, fun _ _ => False⟩ (start N vs) H) : Dn P w K mg base (k + 1) (He.fAd K d) ps sp := by
  obtain ⟨fd, F⟩ := F
  have bd := F.bindsN hb
  have kp := F.kp
  obtain ⟨oc, od, dV, kV, doc, pm, an, cdv, ct, osl, e, lk, hcd, _, _⟩ := F.ex
  obtain ⟨c, hc⟩ := He.codeIn_ref hcd
  have hc2 : cdv = .ref (He.cT K d).1 := by
    have := He.codeOf_eq lk (by rw [e]; exact hc)
    rw [hc]
    exact congrArg Value.ref this.symm
  subst e
  refine ⟨_, fn_of lk hcd S len fun A outer s H vs Q E hr hsp => ?_, bd, kp, ⟨_, _, _, lk⟩⟩
  obtain ⟨t, h, q⟩ := hbody cdv A outer s H vs Q E hc2 hr hsp
  exact ⟨t, h.nox, q⟩
end Mi

namespace Lw
open PySem PySem.Spec PyProof.Rows L2 Fw
/-! ### the text by places -/
def top (i : Nat) : Stmt := PySem.Challenge.pw_homereads_k12_suffix_rows.main.body.getD i (.Pass ⟨0, 0, 0, 0⟩)
abbrev s_lows_of : Stmt := top 1
abbrev s_is_valley : Stmt := top 2
abbrev s_bucket_ends : Stmt := top 3
abbrev s_put_at_ends : Stmt := top 4
abbrev s_put_high : Stmt := top 5
abbrev s_put_low : Stmt := top 6
abbrev s_induced : Stmt := top 7
abbrev s_same_hill : Stmt := top 8
abbrev s_hill_names : Stmt := top 9
abbrev s_sorted_rows : Stmt := top 10
abbrev s_suffix_rows : Stmt := top 11
abbrev s_law_cell : Stmt := top 13
abbrev s_law_row : Stmt := top 14
abbrev s_law_integer : Stmt := top 15
abbrev s_law_integers : Stmt := top 16
abbrev s_law_numbers : Stmt := top 17
abbrev s_law : Stmt := top 18
theorem sc_lows_of : FnScope ["numbers", "lows", "at"] ["numbers"] (defScope s_lows_of) := ⟨rfl, rfl, rfl, by decide +kernel, rfl, by decide +kernel, by decide +kernel⟩
theorem sc_is_valley : FnScope ["lows", "at"] ["lows", "at"] (defScope s_is_valley) := ⟨rfl, rfl, rfl, by decide +kernel, rfl, by decide +kernel, by decide +kernel⟩
theorem sc_bucket_ends : FnScope ["numbers", "size", "ends", "number", "total"] ["numbers", "size"] (defScope s_bucket_ends) := ⟨rfl, rfl, rfl, by decide +kernel, rfl, by decide +kernel, by decide +kernel⟩
theorem sc_put_at_ends : FnScope ["numbers", "size", "starts", "rows", "ends", "start", "number"] ["numbers", "size", "starts"] (defScope s_put_at_ends) := ⟨rfl, rfl, rfl, by decide +kernel, rfl, by decide +kernel, by decide +kernel⟩
theorem sc_put_high : FnScope ["numbers", "size", "lows", "rows", "heads", "row", "start", "number"] ["numbers", "size", "lows", "rows"] (defScope s_put_high) := ⟨rfl, rfl, rfl, by decide +kernel, rfl, by decide +kernel, by decide +kernel⟩
theorem sc_put_low : FnScope ["numbers", "size", "lows", "rows", "ends", "row", "start", "number"] ["numbers", "size", "lows", "rows"] (defScope s_put_low) := ⟨rfl, rfl, rfl, by decide +kernel, rfl, by decide +kernel, by decide +kernel⟩
theorem sc_induced : FnScope ["numbers", "size", "lows", "valleys", "rows"] ["numbers", "size", "lows", "valleys"] (defScope s_induced) := ⟨rfl, rfl, rfl, by decide +kernel, rfl, by decide +kernel, by decide +kernel⟩
theorem sc_same_hill : FnScope ["numbers", "lows", "one", "two", "at"] ["numbers", "lows", "one", "two"] (defScope s_same_hill) := ⟨rfl, rfl, rfl, by decide +kernel, rfl, by decide +kernel, by decide +kernel⟩
theorem sc_hill_names : FnScope ["numbers", "lows", "ordered", "names", "name", "before", "start"] ["numbers", "lows", "ordered"] (defScope s_hill_names) := ⟨rfl, rfl, rfl, by decide +kernel, rfl, by decide +kernel, by decide +kernel⟩
theorem sc_sorted_rows : FnScope ["numbers", "size", "lows", "valleys", "at", "rows", "ordered", "start", "names", "count", "inner"] ["numbers", "size"] (defScope s_sorted_rows) := ⟨rfl, rfl, rfl, by decide +kernel, rfl, by decide +kernel, by decide +kernel⟩
theorem sc_suffix_rows : FnScope ["numbers", "ranks", "number"] ["numbers"] (defScope s_suffix_rows) := ⟨rfl, rfl, rfl, by decide +kernel, rfl, by decide +kernel, by decide +kernel⟩
theorem sc_law_cell : FnScope ["_law_script", "_law_k"] ["_law_script", "_law_k"] (defScope s_law_cell) := ⟨rfl, rfl, rfl, by decide +kernel, rfl, by decide +kernel, by decide +kernel⟩
theorem sc_law_row : FnScope ["_law_cell_here", "_law_count", "_law_bound", "_law_rest", "_law_mixed", "_law_row_here", "_law_k"] ["_law_cell_here", "_law_count", "_law_bound"] (defScope s_law_row) := ⟨rfl, rfl, rfl, by decide +kernel, rfl, by decide +kernel, by decide +kernel⟩
theorem sc_law_integer : FnScope ["_law_value"] ["_law_value"] (defScope s_law_integer) := ⟨rfl, rfl, rfl, by decide +kernel, rfl, by decide +kernel, by decide +kernel⟩
theorem sc_law_integers : FnScope ["_law_values", "_law_value"] ["_law_values"] (defScope s_law_integers) := ⟨rfl, rfl, rfl, by decide +kernel, rfl, by decide +kernel, by decide +kernel⟩
theorem sc_law_numbers : FnScope ["_law_shape", "_law_cell_here", "_law_size", "_law_kind", "_law_k", "_law_x"] ["_law_shape", "_law_cell_here", "_law_size"] (defScope s_law_numbers) := ⟨rfl, rfl, rfl, by decide +kernel, rfl, by decide +kernel, by decide +kernel⟩
theorem sc_law : FnScope ["_law_script", "_law_lists", "_law_k", "_law_shape", "_law_numbers_here", "_law_expected", "_law_at", "_law_handed", "_law_actual"] ["_law_script"] (defScope s_law) := ⟨rfl, rfl, rfl, by decide +kernel, rfl, by decide +kernel, by decide +kernel⟩
structure Tx (w : World) (K : PySem.W.Frag) (mg : Str → Option Value) : Prop where
  g_lows_of : mg "lows_of" = some (.ref (He.ga K "lows_of"))
  g_is_valley : mg "is_valley" = some (.ref (He.ga K "is_valley"))
  g_bucket_ends : mg "bucket_ends" = some (.ref (He.ga K "bucket_ends"))
  g_put_at_ends : mg "put_at_ends" = some (.ref (He.ga K "put_at_ends"))
  g_put_high : mg "put_high" = some (.ref (He.ga K "put_high"))
  g_put_low : mg "put_low" = some (.ref (He.ga K "put_low"))
  g_induced : mg "induced" = some (.ref (He.ga K "induced"))
  g_same_hill : mg "same_hill" = some (.ref (He.ga K "same_hill"))
  g_hill_names : mg "hill_names" = some (.ref (He.ga K "hill_names"))
  g_sorted_rows : mg "sorted_rows" = some (.ref (He.ga K "sorted_rows"))
  g_suffix_rows : mg "suffix_rows" = some (.ref (He.ga K "suffix_rows"))
  g_law_cell : mg "_law_cell" = some (.ref (He.ga K "_law_cell"))
  g_law_row : mg "_law_row" = some (.ref (He.ga K "_law_row"))
  g_law_integer : mg "_law_integer" = some (.ref (He.ga K "_law_integer"))
  g_law_integers : mg "_law_integers" = some (.ref (He.ga K "_law_integers"))
  g_law_numbers : mg "_law_numbers" = some (.ref (He.ga K "_law_numbers"))
  g_law : mg "law" = some (.ref (He.ga K "law"))
  z_range : mg "range" = none
  z_len : mg "len" = none
  z_reversed : mg "reversed" = none
  z_sorted : mg "sorted" = none
  z_set : mg "set" = none
  z_int : mg "int" = none
  z_abs : mg "abs" = none
  z_isinstance : mg "isinstance" = none
  z_bool : mg "bool" = none
  z_list : mg "list" = none
  z_all : mg "all" = none
  d_lows_of : ∃ fd, FnP K "lows_of" "lows_of" s_lows_of (He.ga K "lows_of") fd
  d_is_valley : ∃ fd, FnP K "is_valley" "is_valley" s_is_valley (He.ga K "is_valley") fd
  d_bucket_ends : ∃ fd, FnP K "bucket_ends" "bucket_ends" s_bucket_ends (He.ga K "bucket_ends") fd
  d_put_at_ends : ∃ fd, FnP K "put_at_ends" "put_at_ends" s_put_at_ends (He.ga K "put_at_ends") fd
  d_put_high : ∃ fd, FnP K "put_high" "put_high" s_put_high (He.ga K "put_high") fd
  d_put_low : ∃ fd, FnP K "put_low" "put_low" s_put_low (He.ga K "put_low") fd
  d_induced : ∃ fd, FnP K "induced" "induced" s_induced (He.ga K "induced") fd
  d_same_hill : ∃ fd, FnP K "same_hill" "same_hill" s_same_hill (He.ga K "same_hill") fd
  d_hill_names : ∃ fd, FnP K "hill_names" "hill_names" s_hill_names (He.ga K "hill_names") fd
  d_sorted_rows : ∃ fd, FnP K "sorted_rows" "sorted_rows" s_sorted_rows (He.ga K "sorted_rows") fd
  d_suffix_rows : ∃ fd, FnP K "suffix_rows" "suffix_rows" s_suffix_rows (He.ga K "suffix_rows") fd
  d_law_cell : ∃ fd, FnP K "_law_cell" "_law_cell" s_law_cell (He.ga K "_law_cell") fd
  d_law_row : ∃ fd, FnP K "_law_row" "_law_row" s_law_row (He.ga K "_law_row") fd
  d_law_integer : ∃ fd, FnP K "_law_integer" "_law_integer" s_law_integer (He.ga K "_law_integer") fd
  d_law_integers : ∃ fd, FnP K "_law_integers" "_law_integers" s_law_integers (He.ga K "_law_integers") fd
  d_law_numbers : ∃ fd, FnP K "_law_numbers" "_law_numbers" s_law_numbers (He.ga K "_law_numbers") fd
  d_law : ∃ fd, FnP K "law" "law" s_law (He.ga K "law") fd
end Lw
namespace Lw
open PySem PySem.Spec PyProof.Rows L2 Fw Mi Lb
abbrev tC (K : PySem.W.Frag) : Addr := (He.cT K ("law", none)).1
abbrev tP (K : PySem.W.Frag) : Addr := (He.cT K ("law", none)).2
abbrev tQ : Str := ("law" ++ ".<locals>." : Str) ++ "<lambda>"
end Lw
namespace Lw
open PySem PySem.Spec PyProof.Rows L2 Fw Mi Lb
section
variable {P : Program} {w : World} {K : PySem.W.Frag} {mg : Str → Option Value} {base : Heap}
noncomputable def m_law_cell (script : (List Int)) (k : Int) : Option Int := fin (κ := Unit) (ρ := Unit) (rb (if (decide (k < (script.length : Int))) = true then (rb (ob (ob (ob (pat script k) fun x4 => some (x4, ())) fun z5 => some z5.1) fun r6 => some (.ret r6)) fun γ => some (.nxt γ)) else (some (.nxt (script, k, ())))) fun γ => rb (some (.ret (0 : Int))) fun γ => some (.nxt γ))
abbrev sp_law_cell (K : PySem.W.Frag) : Sp := spM (aC (jQ K jI) (aC jI aN)) (sF jI) (fun γ => m_law_cell γ.1 γ.2.1)
theorem ok_law_cell (T : Tx w K mg) : Dn P w K mg base 1 (He.ga K "_law_cell") ["_law_script", "_law_k"] (sp_law_cell K) := by
  refine dn_mk T.d_law_cell sc_law_cell (fun _ _ _ _ _ _ us hl => match us, hl with | [_, _], _ => rfl) (spM_len (an_C (an_C an_0))) fun cdv A outer s H vs Q E hr h => ?_
  refine ⟨_, (pss_cons (ps_if (pt_cmpR op_lt (pv 1) (pe_callB (lenQ_ (K := K)) (by rfl) T.z_len (by decide +kernel) (pa_cons (pv 0) pa_nil)) (nomark _))
      (pss_cons (ps_ret (pe_callTy k_int (by rfl) T.z_int (by decide +kernel) (pa_cons (pe_ix (ixL_ (K := K)) (pv 0) (pv 1) (fun _ _ => rfl)) pa_nil)))
      pss_nil)
      pss_nil)
      (pss_cons (ps_ret pe_int)
      pss_nil)), ?_⟩
  refine fin_runX (E := (eC (sF (jQ K jI)) (eC (sF jI) eN))) (E' := eN) (ae_C (ae_C ae_0)) (an_C (an_C an_0)) rfl ?S h rfl
  exact ⟨_, (ss_seq (ss_if (st_test (se_op (se_var (gS g0)) (se_cb (sa_cons (se_var g0) sa_nil) (sc_lenQ (K := K))) (s2_C0 (f := fun i j => decide (i < j))))) (ss_seq (ss_ret (se_cb (sa_cons (se_op (se_var g0) (se_var (gS g0)) s2_ixQ) sa_nil) sc_int)) ss_nil) ss_nil) (ss_seq (ss_ret se_int) ss_nil)), by exact rfl⟩
end
end Lw
namespace Lw
open PySem PySem.Spec PyProof.Rows L2 Fw Mi Lb
local macro_rules | `(tactic| walk_at "m") => `(tactic| simp only [pidx_one, pinS_one, pninS_one, W_some, W_none, W_ob, W_bind, W_pck, W_rb, W_fin, W_finN, W_T, W_F, W_Tr, W_Fa, Rw_nxt, Rw_ret, Rw_cnt, Rf_ret, Rf_nxt, RfN_ret, RfN_nxt, W_finU, RfU_nxt, W_finZ, W_finZN, RfZ_nxt, lcM_id, W_obx, Xf_ok, Xf_er, W_rbx, Xr_ok, Xr_er, W_okx, W_finNX, RfNX_ret, RfNX_nxt, W_finUX, RfUX_nxt, RfUX_er, W_trx, Xt_ok, Xt_er, decide_true, decide_false, Bool.not_true, Bool.not_false])
theorem w_cell {ns : List Int} {k : Int} {Q : Int → Prop} (hk : 0 ≤ k) (q : ∀ c, Q c) : W (m_law_cell ns k) Q := by
  unfold m_law_cell
  walk_at "m"
  refine W_ifD (fun h => ?_) (fun h => ?_)
  · walk_at "m"
    exact W_pat ⟨hk, h⟩ fun c _ => q c
  · walk_at "m"
    exact q _

end Lw
namespace Sa
/-! ### counting the places below n -/
open Classical in
noncomputable def cnt (n : Nat) (P : Nat → Prop) : Nat := (List.range n).countP fun j => decide (P j)
section
variable {n : Nat} {P Q R : Nat → Prop}
theorem cnt_succ : cnt (n + 1) P = cnt n P + cnt 1 (fun _ => P n) := by
  unfold cnt
  rw [List.range_succ, List.countP_append]
  rfl
theorem cnt_one_pos {p : Prop} (h : p) : cnt 1 (fun _ => p) = 1 := by
  unfold cnt
  rw [show List.range 1 = [0] from rfl, List.countP_cons_of_pos (by simpa using h)]
  rfl
theorem cnt_one_neg {p : Prop} (h : ¬ p) : cnt 1 (fun _ => p) = 0 := by
  unfold cnt
  rw [show List.range 1 = [0] from rfl, List.countP_cons_of_neg (by simpa using h)]
  rfl
theorem cnt_yes (h : P n) : cnt (n + 1) P = cnt n P + 1 := by rw [cnt_succ, cnt_one_pos h]
theorem cnt_not (h : ¬ P n) : cnt (n + 1) P = cnt n P := by rw [cnt_succ, cnt_one_neg h]; rfl
theorem cnt_nil : cnt 0 P = 0 := rfl
theorem cnt_congr (h : ∀ j, j < n → (P j ↔ Q j)) : cnt n P = cnt n Q := by
  unfold cnt
  refine List.countP_congr fun j hj => ?_
  have := h j (List.mem_range.mp hj)
  simp [this]
theorem cnt_mono (h : ∀ j, j < n → P j → Q j) : cnt n P ≤ cnt n Q := by
  unfold cnt
  refine List.countP_mono_left fun j hj e => ?_
  have := h j (List.mem_range.mp hj)
  simp at e ⊢
  exact this e
theorem cnt_le : cnt n P ≤ n := by
  unfold cnt
  have := List.countP_le_length (p := fun j => @decide (P j) (Classical.propDecidable _)) (l := List.range n)
  rwa [List.length_range] at this
theorem cnt_none (h : ∀ j, j < n → ¬ P j) : cnt n P = 0 := by
  induction n with
  | zero => rfl
  | succ n ih => rw [cnt_not (h n (Nat.lt_succ_self n)), ih fun j hj => h j (by omega)]
theorem cnt_all (h : ∀ j, j < n → P j) : cnt n P = n := by
  induction n with
  | zero => rfl
  | succ n ih => rw [cnt_yes (h n (Nat.lt_succ_self n)), ih fun j hj => h j (by omega)]
theorem cnt_add (h : ∀ j, j < n → (R j ↔ P j ∨ Q j)) (d : ∀ j, j < n → P j → ¬ Q j) : cnt n R = cnt n P + cnt n Q := by
  induction n with
  | zero => rfl
  | succ n ih =>
    have ih := ih (fun j hj => h j (by omega)) (fun j hj => d j (by omega))
    have hn := h n (Nat.lt_succ_self n)
    have dn := d n (Nat.lt_succ_self n)
    by_cases hp : P n
    · rw [cnt_yes (hn.mpr (.inl hp)), cnt_yes hp, cnt_not (dn hp), ih]
      omega
    · by_cases hq : Q n
      · rw [cnt_yes (hn.mpr (.inr hq)), cnt_not hp, cnt_yes hq, ih]
        omega
      · rw [cnt_not (fun z => (hn.mp z).elim hp hq), cnt_not hp, cnt_not hq, ih]
theorem cnt_is {k : Nat} (hk : k < n) (h : ∀ j, j < n → (P j ↔ j = k)) : cnt n P = 1 := by
  induction n with
  | zero => omega
  | succ n ih =>
    have hn := h n (Nat.lt_succ_self n)
    by_cases e : n = k
    · rw [cnt_yes (hn.mpr e), cnt_none fun j hj z => by have := (h j (by omega)).mp z; omega]
    · rw [cnt_not (fun z => e (hn.mp z)), ih (by omega) fun j hj => h j (by omega)]
theorem cnt_more {k : Nat} (hk : k < n) (hn : ¬ P k) (h : ∀ j, j < n → (Q j ↔ P j ∨ j = k)) : cnt n Q = cnt n P + 1 := by
  rw [cnt_add (P := P) (Q := fun j => j = k) h (fun j _ hp e => hn (e ▸ hp)), cnt_is hk fun j _ => Iff.rfl]
theorem cnt_lt {k : Nat} (hk : k < n) (hn : ¬ P k) (hq : Q k) (h : ∀ j, j < n → P j → Q j) : cnt n P < cnt n Q := by
  have h1 := cnt_more (n := n) (P := P) (Q := fun j => P j ∨ j = k) hk hn fun j _ => Iff.rfl
  have h2 : cnt n (fun j => P j ∨ j = k) ≤ cnt n Q := cnt_mono fun j hj z => z.elim (h j hj) fun e => e ▸ hq
  omega
theorem cnt_pos {k : Nat} (hk : k < n) (h : P k) : 0 < cnt n P := by
  have := cnt_lt (P := fun _ => False) (Q := P) hk (fun z => z) h (fun _ _ z => z.elim)
  omega
/-- one of n values below n each is taken -/
theorem onto {f : Nat → Nat} (hf : ∀ i, i < n → f i < n) (hi : ∀ i j, i < n → j < n → f i = f j → i = j) {k : Nat} (hk : k < n) : ∃ i, i < n ∧ f i = k := by
  by_cases h : ∃ i, i < n ∧ f i = k
  · exact h
  · exfalso
    have nd : ((List.range n).map f).Nodup := by
      rw [List.nodup_iff_pairwise_ne, List.pairwise_map]
      refine List.Pairwise.imp_of_mem ?_ List.nodup_range
      intro a b ha hb hne e
      exact hne (hi a b (List.mem_range.mp ha) (List.mem_range.mp hb) e)
    have sb : ((List.range n).map f) ⊆ (List.range n).erase k := fun x hx => by
      obtain ⟨i, h1, rfl⟩ := List.mem_map.mp hx
      have h1 := List.mem_range.mp h1
      exact (List.Nodup.mem_erase_iff List.nodup_range).mpr ⟨fun e => h ⟨i, h1, e⟩, List.mem_range.mpr (hf i h1)⟩
    have := nd.length_le_of_subset sb
    rw [List.length_map, List.length_erase_of_mem (List.mem_range.mpr hk), List.length_range] at this
    omega
end
end Sa

namespace Sa
/-! ### induced sorting: the order that an order of the valleys induces -/
/-- numbers whose last one is the only 0, and which suffixes are low -/
structure Sx (n : Nat) (num : Nat → Nat) (low : Nat → Bool) : Prop where
  pos : 0 < n
  last : num (n - 1) = 0
  only : ∀ i, i + 1 < n → 0 < num i
  lowl : low (n - 1) = true
  lowr : ∀ i, i + 1 < n → low i = if num i = num (i + 1) then low (i + 1) else decide (num i < num (i + 1))
def code (num : Nat → Nat) (low : Nat → Bool) (i : Nat) : Nat := 2 * num i + (if low i then 1 else 0)
def vly (low : Nat → Bool) (i : Nat) : Prop := 0 < i ∧ low i = true ∧ low (i - 1) = false
instance (low : Nat → Bool) (i : Nat) : Decidable (vly low i) := inferInstanceAs (Decidable (_ ∧ _ ∧ _))
section
variable {n : Nat} {num : Nat → Nat} {low : Nat → Bool}
theorem Sx.hi (h : Sx n num low) {i : Nat} (hi : i < n) (hl : low i = false) : i + 1 < n := by
  by_cases e : i = n - 1
  · rw [e, h.lowl] at hl; cases hl
  · have := h.pos; omega
/-- behind one that is not low -/
theorem Sx.down (h : Sx n num low) {i : Nat} (hi : i < n) (hl : low i = false) : num (i + 1) < num i ∨ (num (i + 1) = num i ∧ low (i + 1) = false) := by
  have h1 := h.hi hi hl
  have h2 := h.lowr i h1
  rw [hl] at h2
  by_cases e : num i = num (i + 1)
  · rw [if_pos e] at h2
    exact .inr ⟨e.symm, h2.symm⟩
  · rw [if_neg e] at h2
    have := of_decide_eq_false h2.symm
    exact .inl (by omega)
/-- behind a low one -/
theorem Sx.up (h : Sx n num low) {i : Nat} (hi : i + 1 < n) (hl : low i = true) : num i < num (i + 1) ∨ (num (i + 1) = num i ∧ low (i + 1) = true) := by
  have h2 := h.lowr i hi
  rw [hl] at h2
  by_cases e : num i = num (i + 1)
  · rw [if_pos e] at h2
    exact .inr ⟨e.symm, h2.symm⟩
  · rw [if_neg e] at h2
    exact .inl (of_decide_eq_true h2.symm)
theorem Sx.codeD (h : Sx n num low) {i : Nat} (hi : i < n) (hl : low i = false) : code num low (i + 1) < code num low i ∨ (code num low (i + 1) = code num low i ∧ low (i + 1) = false) := by
  unfold code
  rcases h.down hi hl with e | ⟨e, e2⟩
  · left; split <;> split <;> omega
  · right; rw [e, e2, hl]; exact ⟨rfl, rfl⟩
theorem Sx.codeU (h : Sx n num low) {i : Nat} (hi : i + 1 < n) (hl : low i = true) : code num low i < code num low (i + 1) ∨ (code num low (i + 1) = code num low i ∧ low (i + 1) = true) := by
  unfold code
  rcases h.up hi hl with e | ⟨e, e2⟩
  · left; split <;> split <;> omega
  · right; rw [e, e2, hl]; exact ⟨rfl, rfl⟩
theorem code_num {i j : Nat} : code num low i = code num low j ↔ num i = num j ∧ low i = low j := by
  unfold code
  cases low i <;> cases low j <;> simp <;> omega
theorem code_lt {i j : Nat} : code num low i < code num low j ↔ num i < num j ∨ (num i = num j ∧ low i = false ∧ low j = true) := by
  unfold code
  cases low i <;> cases low j <;> simp <;> omega
/-- the key up to the next valley, k steps at most -/
def kh (num : Nat → Nat) (low : Nat → Bool) (rk : Nat → Nat) : Nat → Nat → List Nat
  | 0, i => [code num low i, rk i]
  | k + 1, i => if low i = true then [code num low i, rk i] else code num low i :: kh num low rk k (i + 1)
def key1 (n : Nat) (num : Nat → Nat) (low : Nat → Bool) (rk : Nat → Nat) (i : Nat) : List Nat := kh num low rk (n - i) i
def kk (n : Nat) (num : Nat → Nat) (low : Nat → Bool) (rk : Nat → Nat) : Nat → Nat → List Nat
  | 0, i => [code num low i]
  | k + 1, i => if low i = true then code num low i :: (if i + 1 < n then kk n num low rk k (i + 1) else []) else key1 n num low rk i
/-- the key of all -/
def key (n : Nat) (num : Nat → Nat) (low : Nat → Bool) (rk : Nat → Nat) (i : Nat) : List Nat := kk n num low rk (n - i) i
variable {rk : Nat → Nat}
theorem key1_low {i : Nat} (hl : low i = true) : key1 n num low rk i = [code num low i, rk i] := by
  unfold key1
  cases n - i with
  | zero => rfl
  | succ k => rw [kh, if_pos hl]
theorem key1_hi {i : Nat} (hi : i < n) (hl : low i = false) : key1 n num low rk i = code num low i :: key1 n num low rk (i + 1) := by
  unfold key1
  rw [show n - i = (n - (i + 1)) + 1 by omega, kh, if_neg (by rw [hl]; decide)]
theorem key_low {i : Nat} (hi : i + 1 < n) (hl : low i = true) : key n num low rk i = code num low i :: key n num low rk (i + 1) := by
  unfold key
  rw [show n - i = (n - (i + 1)) + 1 by omega, kk, if_pos hl, if_pos hi]
theorem key_hi {i : Nat} (hi : i < n) (hl : low i = false) : key n num low rk i = key1 n num low rk i := by
  unfold key
  rw [show n - i = (n - (i + 1)) + 1 by omega, kk, if_neg (by rw [hl]; decide)]
theorem key_last (h : Sx n num low) : key n num low rk (n - 1) = [code num low (n - 1)] := by
  have := h.pos
  unfold key
  rw [show n - (n - 1) = 0 + 1 by omega, kk, if_pos h.lowl, if_neg (by omega)]
theorem key1_head (i : Nat) (hi : i < n) : ∃ t, key1 n num low rk i = code num low i :: t ∧ t ≠ [] := by
  cases hl : low i with
  | true => exact ⟨_, key1_low hl, List.cons_ne_nil _ _⟩
  | false =>
    refine ⟨_, key1_hi hi hl, ?_⟩
    unfold key1
    cases n - (i + 1) with
    | zero => exact List.cons_ne_nil _ _
    | succ k => rw [kh]; split <;> exact List.cons_ne_nil _ _
theorem key_head (h : Sx n num low) {i : Nat} (hi : i < n) : ∃ t, key n num low rk i = code num low i :: t := by
  cases hl : low i with
  | true =>
    by_cases e : i + 1 < n
    · exact ⟨_, key_low e hl⟩
    · rw [show i = n - 1 by have := h.pos; omega]
      exact ⟨_, key_last h⟩
  | false =>
    obtain ⟨t, e, _⟩ := key1_head (rk := rk) (num := num) (low := low) i hi
    exact ⟨t, by rw [key_hi hi hl, e]⟩
/-! comparisons -/
theorem key_code (h : Sx n num low) {i j : Nat} (hi : i < n) (hj : j < n) (e : code num low i < code num low j) : key n num low rk i < key n num low rk j := by
  obtain ⟨t, e1⟩ := key_head (rk := rk) h hi
  obtain ⟨u, e2⟩ := key_head (rk := rk) h hj
  rw [e1, e2, List.cons_lt_cons_iff]
  exact .inl e
theorem key1_code {i j : Nat} (hi : i < n) (hj : j < n) (e : code num low i < code num low j) : key1 n num low rk i < key1 n num low rk j := by
  obtain ⟨t, e1, _⟩ := key1_head (rk := rk) (num := num) (low := low) i hi
  obtain ⟨u, e2, _⟩ := key1_head (rk := rk) (num := num) (low := low) j hj
  rw [e1, e2, List.cons_lt_cons_iff]
  exact .inl e
theorem ltirr {l : List Nat} : ¬ l < l := List.lt_irrefl l
theorem lttr {a b c : List Nat} (h : a < b) (k : b < c) : a < c := List.lt_trans h k
theorem ltasym {a b : List Nat} (h : a < b) : ¬ b < a := fun k => ltirr (lttr h k)
theorem lttri : ∀ (a b : List Nat), a < b ∨ a = b ∨ b < a
  | [], [] => .inr (.inl rfl)
  | [], _ :: _ => .inl (List.nil_lt_cons ..)
  | _ :: _, [] => .inr (.inr (List.nil_lt_cons ..))
  | x :: a, y :: b => by
    rw [List.cons_lt_cons_iff, List.cons_lt_cons_iff]
    rcases Nat.lt_trichotomy x y with h | h | h
    · exact .inl (.inl h)
    · subst h
      rcases lttri a b with k | k | k
      · exact .inl (.inr ⟨rfl, k⟩)
      · exact .inr (.inl (by rw [k]))
      · exact .inr (.inr (.inr ⟨rfl, k⟩))
    · exact .inr (.inr (.inl h))
theorem cons_lt {x : Nat} {a b : List Nat} : x :: a < x :: b ↔ a < b := by
  rw [List.cons_lt_cons_iff]
  exact ⟨fun h => h.elim (fun z => absurd z (Nat.lt_irrefl x)) And.right, fun h => .inr ⟨rfl, h⟩⟩
/-- one that is not low lies behind the next one -/
theorem key1_down (h : Sx n num low) : ∀ (k i : Nat), n - i = k → i < n → low i = false → key1 n num low rk (i + 1) < key1 n num low rk i := by
  intro k
  induction k with
  | zero => intro i hk hi _; omega
  | succ k ih =>
    intro i hk hi hl
    have h1 := h.hi hi hl
    rcases h.codeD hi hl with e | ⟨e, e2⟩
    · exact key1_code h1 hi e
    · rw [key1_hi hi hl]
      have := ih (i + 1) (by omega) h1 e2
      rw [key1_hi h1 e2, e] at this ⊢
      rw [cons_lt]
      exact this
/-- a low one lies ahead of the next one -/
theorem key_up (h : Sx n num low) : ∀ (k i : Nat), n - i = k → i + 1 < n → low i = true → key n num low rk i < key n num low rk (i + 1) := by
  intro k
  induction k with
  | zero => intro i hk hi _; omega
  | succ k ih =>
    intro i hk hi hl
    rcases h.codeU hi hl with e | ⟨e, e2⟩
    · exact key_code h (by omega) hi e
    · rw [key_low hi hl]
      by_cases e3 : i + 2 < n
      · have := ih (i + 1) (by omega) e3 e2
        rw [key_low e3 e2, e] at this ⊢
        rw [cons_lt]
        exact this
      · have e4 : i + 1 = n - 1 := by omega
        have h5 := h.only i hi
        have h6 := h.last
        rw [code_num] at e
        rw [← e4] at h6
        omega
/-- the place of the valley where a key ends -/
theorem key1_len (h : Sx n num low) : ∀ (k i : Nat), n - i = k → i < n → ∃ v, i ≤ v ∧ v < n ∧ low v = true ∧ (∀ j, i ≤ j → j < v → low j = false) ∧ (key1 n num low rk i).length = v - i + 2 ∧ (key1 n num low rk i).getLast? = some (rk v) := by
  intro k
  induction k with
  | zero => intro i hk hi; omega
  | succ k ih =>
    intro i hk hi
    cases hl : low i with
    | true => exact ⟨i, Nat.le_refl _, hi, hl, fun j a b => by omega, by rw [key1_low hl]; simp, by rw [key1_low hl]; rfl⟩
    | false =>
      obtain ⟨v, h1, h2, h3, h4, h5, h6⟩ := ih (i + 1) (by omega) (h.hi hi hl)
      refine ⟨v, by omega, h2, h3, fun j a b => ?_, by rw [key1_hi hi hl, List.length_cons, h5]; omega, ?_⟩
      · by_cases e : j = i
        · rw [e]; exact hl
        · exact h4 j (by omega) b
      · rw [key1_hi hi hl, List.getLast?_cons, h6]
        rfl
end
end Sa

namespace Sa
/-! ### induced sorting: the places -/
section
variable {n : Nat} {num : Nat → Nat} {low : Nat → Bool} {rk : Nat → Nat}
/-- the rank tells valleys apart -/
def Rk (n : Nat) (low : Nat → Bool) (rk : Nat → Nat) : Prop := ∀ v w, v < n → w < n → vly low v → vly low w → rk v = rk w → v = w
def LV (low : Nat → Bool) (x : Nat) : Prop := low x = false ∨ vly low x
theorem key1_inj (h : Sx n num low) (hr : Rk n low rk) {x y : Nat} (hx : x < n) (hy : y < n) (lx : LV low x) (ly : LV low y) (e : key1 n num low rk x = key1 n num low rk y) : x = y := by
  obtain ⟨v, a1, a2, a3, a4, a5, a6⟩ := key1_len (rk := rk) h _ x rfl hx
  obtain ⟨w, b1, b2, b3, b4, b5, b6⟩ := key1_len (rk := rk) h _ y rfl hy
  have vv : ∀ {x v : Nat}, LV low x → x ≤ v → low v = true → (∀ j, x ≤ j → j < v → low j = false) → vly low v := fun {x v} lx a1 a3 a4 => by
    by_cases e : x = v
    · subst e
      rcases lx with l | l
      · rw [a3] at l; cases l
      · exact l
    · exact ⟨by omega, a3, a4 _ (by omega) (by omega)⟩
  rw [e] at a5 a6
  rw [a6] at b6
  have := hr v w a2 b2 (vv lx a1 a3 a4) (vv ly b1 b3 b4) (Option.some.inj b6)
  omega
theorem key_inj (h : Sx n num low) (hr : Rk n low rk) : ∀ (k x y : Nat), n - x = k → x < n → y < n → key n num low rk x = key n num low rk y → x = y := by
  intro k
  induction k with
  | zero => intro x y hk hx; omega
  | succ k ih =>
    intro x y hk hx hy e
    have hc : code num low x = code num low y := by
      obtain ⟨t, e1⟩ := key_head (rk := rk) h hx
      obtain ⟨u, e2⟩ := key_head (rk := rk) h hy
      rw [e1, e2] at e
      exact (List.cons.inj e).1
    obtain ⟨cn, cl⟩ := code_num.mp hc
    cases hl : low x with
    | false =>
      rw [hl] at cl
      rw [key_hi hx hl, key_hi hy cl.symm] at e
      exact key1_inj h hr hx hy (.inl hl) (.inl cl.symm) e
    | true =>
      rw [hl] at cl
      by_cases h1 : x + 1 < n
      · have h2 : y + 1 < n := by
          have := h.only x h1
          by_cases e3 : y = n - 1
          · rw [cn, e3, h.last] at this; omega
          · omega
        rw [key_low h1 hl, key_low h2 cl.symm] at e
        have := ih (x + 1) (y + 1) (by omega) h1 h2 (List.cons.inj e).2
        omega
      · have e3 : x = n - 1 := by omega
        by_cases h2 : y + 1 < n
        · have := h.only y h2
          rw [← cn, e3, h.last] at this
          omega
        · omega
/-- the row of a suffix -/
noncomputable def row (n : Nat) (num : Nat → Nat) (low : Nat → Bool) (rk : Nat → Nat) (i : Nat) : Nat := cnt n fun j => key n num low rk j < key n num low rk i
theorem row_lt (h : Sx n num low) {i j : Nat} (hi : i < n) (hk : key n num low rk i < key n num low rk j) : row n num low rk i < row n num low rk j :=
  cnt_lt (k := i) hi ltirr hk fun _ _ z => lttr z hk
theorem row_iff (h : Sx n num low) (hr : Rk n low rk) {i j : Nat} (hi : i < n) (hj : j < n) : row n num low rk i < row n num low rk j ↔ key n num low rk i < key n num low rk j := by
  refine ⟨fun z => ?_, row_lt h hi⟩
  rcases lttri (key n num low rk i) (key n num low rk j) with a | a | a
  · exact a
  · rw [key_inj h hr _ i j rfl hi hj a] at z; omega
  · have := row_lt h hj a; omega
theorem row_inj (h : Sx n num low) (hr : Rk n low rk) {i j : Nat} (hi : i < n) (hj : j < n) (e : row n num low rk i = row n num low rk j) : i = j := by
  rcases lttri (key n num low rk i) (key n num low rk j) with a | a | a
  · have := row_lt h hi a; omega
  · exact key_inj h hr _ i j rfl hi hj a
  · have := row_lt h hj a; omega
theorem row_n (h : Sx n num low) {i : Nat} (hi : i < n) : row n num low rk i < n := by
  have := cnt_lt (n := n) (P := fun j => key n num low rk j < key n num low rk i) (Q := fun _ => True) hi ltirr trivial fun _ _ _ => trivial
  rw [cnt_all (n := n) (P := fun _ => True) fun _ _ => trivial] at this
  exact this
theorem row_onto (h : Sx n num low) (hr : Rk n low rk) {k : Nat} (hk : k < n) : ∃ i, i < n ∧ row n num low rk i = k :=
  onto (fun _ hi => row_n h hi) (fun _ _ hi hj e => row_inj h hr hi hj e) hk
/-! buckets -/
noncomputable def bB (n : Nat) (num : Nat → Nat) (c : Nat) : Nat := cnt n fun j => num j < c
noncomputable def bE (n : Nat) (num : Nat → Nat) (c : Nat) : Nat := cnt n fun j => num j ≤ c
theorem bE_B (c : Nat) : bE n num c = bB n num (c + 1) := cnt_congr fun j _ => by omega
theorem bB_0 : bB n num 0 = 0 := cnt_none fun j _ => by omega
theorem bE_le (c : Nat) : bE n num c ≤ n := cnt_le
theorem bB_mono {c d : Nat} (h : c ≤ d) : bB n num c ≤ bB n num d := cnt_mono fun j _ z => by omega
noncomputable def nH (n : Nat) (num : Nat → Nat) (low : Nat → Bool) (c : Nat) : Nat := cnt n fun j => num j = c ∧ low j = false
noncomputable def nL (n : Nat) (num : Nat → Nat) (low : Nat → Bool) (c : Nat) : Nat := cnt n fun j => num j = c ∧ low j = true
theorem bE_split (c : Nat) : bE n num c = bB n num c + nH n num low c + nL n num low c := by
  have h1 : bE n num c = cnt n (fun j => num j < c ∨ (num j = c ∧ low j = false)) + nL n num low c := cnt_add (fun j _ => by cases low j <;> simp <;> omega) (fun j _ a b => by rcases a with a | a <;> simp_all)
  have h2 : cnt n (fun j => num j < c ∨ (num j = c ∧ low j = false)) = bB n num c + nH n num low c := cnt_add (fun j _ => Iff.rfl) (fun j _ a b => by omega)
  omega
theorem row_hi (h : Sx n num low) {i : Nat} (hi : i < n) (hl : low i = false) : row n num low rk i = bB n num (num i) + cnt n (fun j => low j = false ∧ num j = num i ∧ key1 n num low rk j < key1 n num low rk i) := by
  refine cnt_add (fun j hj => ?_) (fun j _ a b => by omega)
  rcases Nat.lt_trichotomy (num j) (num i) with e | e | e
  · exact ⟨fun _ => .inl e, fun _ => key_code h hj hi (code_lt.mpr (.inl e))⟩
  · cases hlj : low j with
    | false => rw [key_hi hi hl, key_hi hj hlj]; exact ⟨fun z => .inr ⟨rfl, e, z⟩, fun z => z.elim (fun a => by omega) fun b => b.2.2⟩
    | true => exact ⟨fun z => absurd z (ltasym (key_code h hi hj (code_lt.mpr (.inr ⟨e.symm, hl, hlj⟩)))), fun z => z.elim (fun a => by omega) fun b => nomatch b.1⟩
  · exact ⟨fun z => absurd z (ltasym (key_code h hi hj (code_lt.mpr (.inl e)))), fun z => z.elim (fun a => by omega) fun b => by omega⟩
theorem row_low (h : Sx n num low) (hr : Rk n low rk) {i : Nat} (hi : i < n) (hl : low i = true) : row n num low rk i + 1 + cnt n (fun j => low j = true ∧ num j = num i ∧ key n num low rk i < key n num low rk j) = bE n num (num i) := by
  have h1 : cnt n (fun j => key n num low rk j < key n num low rk i ∨ j = i) = row n num low rk i + 1 := cnt_more hi ltirr fun _ _ => Iff.rfl
  have h2 : bE n num (num i) = cnt n (fun j => key n num low rk j < key n num low rk i ∨ j = i) + cnt n (fun j => low j = true ∧ num j = num i ∧ key n num low rk i < key n num low rk j) := by
    refine cnt_add (fun j hj => ?_) (fun j _ a b => ?_)
    · rcases Nat.lt_trichotomy (num j) (num i) with e | e | e
      · exact ⟨fun _ => .inl (.inl (key_code h hj hi (code_lt.mpr (.inl e)))), fun _ => by omega⟩
      · refine ⟨fun _ => ?_, fun _ => by omega⟩
        cases hlj : low j with
        | false => exact .inl (.inl (key_code h hj hi (code_lt.mpr (.inr ⟨e, hlj, hl⟩))))
        | true =>
          rcases lttri (key n num low rk j) (key n num low rk i) with a | a | a
          · exact .inl (.inl a)
          · exact .inl (.inr (key_inj h hr _ j i rfl hj hi a))
          · exact .inr ⟨rfl, e, a⟩
      · refine ⟨fun z => by omega, fun z => ?_⟩
        have := key_code (rk := rk) h hi hj (code_lt.mpr (.inl e))
        rcases z with (a | a) | a
        · exact absurd a (ltasym this)
        · rw [a] at e; omega
        · omega
    · rcases a with a | a
      · exact ltasym a b.2.2
      · rw [a] at b; exact ltirr b.2.2
  omega
theorem row_hi_b (h : Sx n num low) {i : Nat} (hi : i < n) (hl : low i = false) : bB n num (num i) ≤ row n num low rk i ∧ row n num low rk i < bB n num (num i) + nH n num low (num i) := by
  rw [row_hi h hi hl]
  have : cnt n (fun j => low j = false ∧ num j = num i ∧ key1 n num low rk j < key1 n num low rk i) < nH n num low (num i) := cnt_lt hi (fun z => ltirr z.2.2) ⟨rfl, hl⟩ fun j _ z => ⟨z.2.1, z.1⟩
  omega
/-- where a valley is put at first -/
noncomputable def pv (n : Nat) (num : Nat → Nat) (low : Nat → Bool) (rk : Nat → Nat) (v : Nat) : Nat := bE n num (num v) - cnt n fun w => vly low w ∧ num w = num v ∧ rk v ≤ rk w
theorem pv_b (h : Sx n num low) {v : Nat} (hv : v < n) (l : vly low v) : pv n num low rk v + cnt n (fun w => vly low w ∧ num w = num v ∧ rk v ≤ rk w) = bE n num (num v) ∧ bB n num (num v) + nH n num low (num v) ≤ pv n num low rk v ∧ pv n num low rk v < bE n num (num v) := by
  have h1 : cnt n (fun w => vly low w ∧ num w = num v ∧ rk v ≤ rk w) ≤ nL n num low (num v) := cnt_mono fun j _ z => ⟨z.2.1, z.1.2.1⟩
  have h2 : 0 < cnt n (fun w => vly low w ∧ num w = num v ∧ rk v ≤ rk w) := cnt_pos hv ⟨l, rfl, Nat.le_refl _⟩
  have h3 := bE_split (n := n) (num := num) (low := low) (num v)
  unfold pv
  omega
/-- the place of one that is not low, or a valley, while the others are put -/
noncomputable def qv (n : Nat) (num : Nat → Nat) (low : Nat → Bool) (rk : Nat → Nat) (x : Nat) : Nat := if low x = true then pv n num low rk x else row n num low rk x
theorem qv_hi {x : Nat} (hl : low x = false) : qv n num low rk x = row n num low rk x := by unfold qv; rw [if_neg (by rw [hl]; decide)]
theorem qv_v {x : Nat} (l : vly low x) : qv n num low rk x = pv n num low rk x := by unfold qv; rw [if_pos l.2.1]
theorem qv_b (h : Sx n num low) {x : Nat} (hx : x < n) (l : LV low x) : bB n num (num x) ≤ qv n num low rk x ∧ qv n num low rk x < bE n num (num x) := by
  have h3 := bE_split (n := n) (num := num) (low := low) (num x)
  rcases l with l | l
  · rw [qv_hi l]
    have := row_hi_b (rk := rk) h hx l
    omega
  · rw [qv_v l]
    have := pv_b (rk := rk) h hx l
    omega
theorem qv_n (h : Sx n num low) {x : Nat} (hx : x < n) (l : LV low x) : qv n num low rk x < n := by
  have := qv_b (rk := rk) h hx l
  have := bE_le (n := n) (num := num) (num x)
  omega
theorem qv_lt (h : Sx n num low) {x y : Nat} (hx : x < n) (hy : y < n) (lx : LV low x) (ly : LV low y) (e : key1 n num low rk x < key1 n num low rk y) : qv n num low rk x < qv n num low rk y := by
  have b1 := qv_b (rk := rk) h hx lx
  have b2 := qv_b (rk := rk) h hy ly
  rcases Nat.lt_trichotomy (num x) (num y) with a | a | a
  · have h4 : bE n num (num x) ≤ bB n num (num y) := by rw [bE_B]; exact bB_mono a
    omega
  · rcases lx with l1 | l1 <;> rcases ly with l2 | l2
    · rw [qv_hi l1, qv_hi l2]
      exact row_lt h hx (by rw [key_hi hx l1, key_hi hy l2]; exact e)
    · rw [qv_hi l1, qv_v l2]
      have c1 := row_hi_b (rk := rk) h hx l1
      have c2 := pv_b (rk := rk) h hy l2
      rw [a] at c1
      omega
    · exact absurd e (ltasym (key1_code hy hx (code_lt.mpr (.inr ⟨a.symm, l2, l1.2.1⟩))))
    · rw [qv_v l1, qv_v l2]
      have c1 := pv_b (rk := rk) h hx l1
      have c2 := pv_b (rk := rk) h hy l2
      rw [key1_low l1.2.1, key1_low l2.2.1, code_num.mpr ⟨a, l1.2.1.trans l2.2.1.symm⟩, cons_lt] at e
      have e : rk x < rk y := by
        rw [List.cons_lt_cons_iff] at e
        rcases e with e | e
        · exact e
        · exact absurd e.2 ltirr
      have : cnt n (fun w => vly low w ∧ num w = num y ∧ rk y ≤ rk w) < cnt n (fun w => vly low w ∧ num w = num x ∧ rk x ≤ rk w) := cnt_lt hx (fun z => by omega) ⟨l1, rfl, Nat.le_refl _⟩ fun j _ z => ⟨z.1, by omega, by omega⟩
      rw [a] at c1 this
      omega
  · exact absurd e (ltasym (key1_code hy hx (code_lt.mpr (.inl a))))
theorem qv_iff (h : Sx n num low) (hr : Rk n low rk) {x y : Nat} (hx : x < n) (hy : y < n) (lx : LV low x) (ly : LV low y) : qv n num low rk x < qv n num low rk y ↔ key1 n num low rk x < key1 n num low rk y := by
  refine ⟨fun z => ?_, qv_lt h hx hy lx ly⟩
  rcases lttri (key1 n num low rk x) (key1 n num low rk y) with a | a | a
  · exact a
  · rw [key1_inj h hr hx hy lx ly a] at z; omega
  · have := qv_lt h hy hx ly lx a; omega
theorem qv_inj (h : Sx n num low) (hr : Rk n low rk) {x y : Nat} (hx : x < n) (hy : y < n) (lx : LV low x) (ly : LV low y) (e : qv n num low rk x = qv n num low rk y) : x = y := by
  rcases lttri (key1 n num low rk x) (key1 n num low rk y) with a | a | a
  · have := qv_lt h hx hy lx ly a; omega
  · exact key1_inj h hr hx hy lx ly a
  · have := qv_lt h hy hx ly lx a; omega
/-- behind one that is not low stands another such one, or a valley -/
theorem Sx.lv (h : Sx n num low) {i : Nat} (hi : i < n) (hl : low i = false) : LV low (i + 1) := by
  cases e : low (i + 1) with
  | false => exact .inl e
  | true => exact .inr ⟨Nat.succ_pos _, e, hl⟩
end
end Sa

namespace Sa
/-! ### induced sorting: the passes -/
def up {α : Type} (f : Nat → α) (k : Nat) (x : α) : Nat → α := fun j => if j = k then x else f j
theorem up_at {α : Type} {f : Nat → α} {k : Nat} {x : α} : up f k x k = x := if_pos rfl
theorem up_ne {α : Type} {f : Nat → α} {k j : Nat} {x : α} (h : j ≠ k) : up f k x j = f j := if_neg h
section
variable {n : Nat} {num : Nat → Nat} {low : Nat → Bool} {rk : Nat → Nat}
/-- valleys of some rank on are put -/
structure PE (n : Nat) (num : Nat → Nat) (low : Nat → Bool) (rk : Nat → Nat) (r : Nat) (f : Nat → Int) (en : Nat → Nat) : Prop where
  val : ∀ v, v < n → vly low v → r ≤ rk v → f (pv n num low rk v) = v
  rest : ∀ k, (∀ v, v < n → vly low v → r ≤ rk v → pv n num low rk v ≠ k) → f k = -1
  ends : ∀ c, en c + cnt n (fun w => vly low w ∧ num w = c ∧ r ≤ rk w) = bE n num c
theorem PE.start (m : Nat) (hm : ∀ v, v < n → vly low v → rk v < m) : PE n num low rk m (fun _ => -1) (bE n num) :=
  ⟨fun v hv l z => by have := hm v hv l; omega, fun _ _ => rfl, fun c => by rw [cnt_none fun j hj z => by have := hm j hj z.1; omega]; rfl⟩
theorem PE.step (h : Sx n num low) (hr : Rk n low rk) {r : Nat} {f : Nat → Int} {en : Nat → Nat} {v : Nat} (hp : PE n num low rk (r + 1) f en) (hv : v < n) (l : vly low v) (e : rk v = r) :
    en (num v) - 1 < n ∧ 0 < en (num v) ∧ PE n num low rk r (up f (en (num v) - 1) (v : Int)) (up en (num v) (en (num v) - 1)) := by
  have h1 := hp.ends (num v)
  have h2 : cnt n (fun w => vly low w ∧ num w = num v ∧ rk v ≤ rk w) = cnt n (fun w => vly low w ∧ num w = num v ∧ r + 1 ≤ rk w) + 1 := by
    refine cnt_more hv (fun z => by omega) fun j hj => ⟨fun z => ?_, fun z => ?_⟩
    · by_cases e2 : rk j = rk v
      · exact .inr (hr j v hj hv z.1 l e2)
      · exact .inl ⟨z.1, z.2.1, by omega⟩
    · rcases z with z | z
      · exact ⟨z.1, z.2.1, by omega⟩
      · rw [z]; exact ⟨l, rfl, Nat.le_refl _⟩
  have h3 := pv_b (rk := rk) h hv l
  have h4 : en (num v) - 1 = pv n num low rk v := by omega
  have h5 := bE_le (n := n) (num := num) (num v)
  refine ⟨by omega, by omega, fun w hw lw hrw => ?_, fun k hk => ?_, fun c => ?_⟩
  · rw [h4]
    by_cases e2 : rk w = r
    · rw [hr w v hw hv lw l (e2.trans e.symm), up_at]
    · rw [up_ne, hp.val w hw lw (by omega)]
      intro e3
      have := qv_inj h hr hw hv (.inr lw) (.inr l) (by rw [qv_v lw, qv_v l]; exact e3)
      rw [this] at e2
      exact e2 e
  · rw [h4, up_ne fun z => hk v hv l (by omega) z.symm]
    exact hp.rest k fun w hw lw hrw => hk w hw lw (by omega)
  · by_cases ec : c = num v
    · subst ec
      rw [up_at]
      rw [e] at h2 h3
      omega
    · rw [up_ne ec]
      have := hp.ends c
      rw [cnt_congr (Q := fun w => vly low w ∧ num w = c ∧ r + 1 ≤ rk w) fun j hj => ⟨fun z => ⟨z.1, z.2.1, ?_⟩, fun z => ⟨z.1, z.2.1, by omega⟩⟩]
      · exact this
      · by_cases e2 : rk j = r
        · have := hr j v hj hv z.1 l (e2.trans e.symm)
          rw [this] at z
          exact absurd z.2.1.symm ec
        · have := z.2.2
          omega
/-- rows before r have been looked at for those that are not low -/
structure HI (n : Nat) (num : Nat → Nat) (low : Nat → Bool) (rk : Nat → Nat) (r : Nat) (f : Nat → Int) (hd : Nat → Nat) : Prop where
  put : ∀ i, i < n → low i = false → qv n num low rk (i + 1) < r → f (row n num low rk i) = i
  val : ∀ v, v < n → vly low v → f (pv n num low rk v) = v
  free : ∀ i, i < n → low i = false → r ≤ qv n num low rk (i + 1) → f (row n num low rk i) = -1
  rest : ∀ k, (∀ x, x < n → LV low x → qv n num low rk x ≠ k) → f k = -1
  heads : ∀ c, hd c = bB n num c + cnt n (fun j => low j = false ∧ num j = c ∧ qv n num low rk (j + 1) < r)
theorem HI.start (h : Sx n num low) (hr : Rk n low rk) {f : Nat → Int} {en : Nat → Nat} (hp : PE n num low rk 0 f en) : HI n num low rk 0 f (bB n num) := by
  refine ⟨fun i _ _ z => absurd z (Nat.not_lt_zero _), fun v hv l => hp.val v hv l (Nat.zero_le _), fun i hi hl _ => hp.rest _ fun v hv l _ e => ?_, fun k hk => hp.rest k fun v hv l _ e => hk v hv (.inr l) (by rw [qv_v l]; exact e), fun c => by rw [cnt_none fun j _ z => absurd z.2.2 (Nat.not_lt_zero _)]; rfl⟩
  have := qv_inj h hr hv hi (.inr l) (.inl hl) (by rw [qv_v l, qv_hi hl]; exact e)
  rw [this] at l
  rw [l.2.1] at hl
  cases hl
theorem qv_down (h : Sx n num low) {i : Nat} (hi : i < n) (hl : low i = false) : qv n num low rk (i + 1) < qv n num low rk i :=
  qv_lt h (h.hi hi hl) hi (h.lv hi hl) (.inl hl) (key1_down h _ i rfl hi hl)
theorem HI.step (h : Sx n num low) (hr : Rk n low rk) {r : Nat} {f : Nat → Int} {hd : Nat → Nat} (hp : HI n num low rk r f hd) :
    (f r = -1 ∧ HI n num low rk (r + 1) f hd) ∨ ∃ x, x < n ∧ f r = (x : Int) ∧ (((x = 0 ∨ low (x - 1) = true) ∧ HI n num low rk (r + 1) f hd) ∨
      (0 < x ∧ low (x - 1) = false ∧ hd (num (x - 1)) < n ∧ HI n num low rk (r + 1) (up f (hd (num (x - 1))) ((x - 1 : Nat) : Int)) (up hd (num (x - 1)) (hd (num (x - 1)) + 1)))) := by
  have skip : (∀ i, i < n → low i = false → qv n num low rk (i + 1) ≠ r) → HI n num low rk (r + 1) f hd := fun z => by
    refine ⟨fun i hi hl e => hp.put i hi hl (by have := z i hi hl; omega), hp.val, fun i hi hl e => hp.free i hi hl (by omega), hp.rest, fun c => ?_⟩
    rw [hp.heads c]
    congr 1
    exact cnt_congr fun j hj => ⟨fun a => ⟨a.1, a.2.1, by have := a.2.2; omega⟩, fun a => ⟨a.1, a.2.1, by have := z j hj a.1; have := a.2.2; omega⟩⟩
  by_cases hx : ∃ x, x < n ∧ LV low x ∧ qv n num low rk x = r
  · obtain ⟨x, hx, lx, ex⟩ := hx
    have hf : f r = (x : Int) := by
      rcases lx with l | l
      · have := hp.put x hx l (by have := qv_down (rk := rk) h hx l; omega)
        rw [qv_hi l] at ex
        rwa [ex] at this
      · have := hp.val x hx l
        rw [qv_v l] at ex
        rwa [ex] at this
    refine .inr ⟨x, hx, hf, ?_⟩
    by_cases h0 : x = 0 ∨ low (x - 1) = true
    · refine .inl ⟨h0, skip fun i hi hl e => ?_⟩
      have e2 := qv_inj h hr (h.hi hi hl) hx (h.lv hi hl) lx (e.trans ex.symm)
      rcases h0 with h0 | h0
      · omega
      · rw [← e2, Nat.add_sub_cancel, hl] at h0
        cases h0
    · have hx0 : 0 < x := by omega
      have hl : low (x - 1) = false := by
        cases e : low (x - 1) with
        | false => rfl
        | true => exact absurd (.inr e) h0
      obtain ⟨i, rfl⟩ : ∃ i, x = i + 1 := ⟨x - 1, by omega⟩
      rw [Nat.add_sub_cancel] at hl ⊢
      have hi : i < n := by omega
      have e1 : hd (num i) = row n num low rk i := by
        rw [hp.heads, row_hi h hi hl]
        congr 1
        refine cnt_congr fun j hj => ⟨fun a => ⟨a.1, a.2.1, ?_⟩, fun a => ⟨a.1, a.2.1, ?_⟩⟩
        · have := (qv_iff h hr (h.hi hj a.1) hx (h.lv hj a.1) lx).mp (by rw [ex]; exact a.2.2)
          rw [key1_hi hi hl, key1_hi hj a.1, code_num.mpr ⟨a.2.1, a.1.trans hl.symm⟩, cons_lt]
          exact this
        · have := a.2.2
          rw [key1_hi hi hl, key1_hi hj a.1, code_num.mpr ⟨a.2.1, a.1.trans hl.symm⟩, cons_lt] at this
          rw [← ex]
          exact (qv_iff h hr (h.hi hj a.1) hx (h.lv hj a.1) lx).mpr this
      have e2 : ∀ j, j < n → low j = false → qv n num low rk (j + 1) = r → j = i := fun j hj hlj e => by
        have := qv_inj h hr (h.hi hj hlj) hx (h.lv hj hlj) lx (e.trans ex.symm)
        omega
      refine .inr ⟨hx0, hl, by rw [e1]; exact row_n h hi, fun j hj hlj e => ?_, fun v hv l => ?_, fun j hj hlj e => ?_, fun k hk => ?_, fun c => ?_⟩
      · rw [e1]
        by_cases ej : j = i
        · rw [ej, up_at]
        · rw [up_ne fun z => ej (row_inj h hr hj hi z)]
          exact hp.put j hj hlj (by have : qv n num low rk (j + 1) ≠ r := fun z => ej (e2 j hj hlj z); omega)
      · rw [e1, up_ne, hp.val v hv l]
        intro z
        have := qv_inj h hr hv hi (.inr l) (.inl hl) (by rw [qv_v l, qv_hi hl]; exact z)
        rw [this] at l
        rw [l.2.1] at hl
        cases hl
      · rw [e1, up_ne]
        · exact hp.free j hj hlj (by omega)
        · intro z
          rw [row_inj h hr hj hi z, ex] at e
          omega
      · rw [e1, up_ne]
        · exact hp.rest k hk
        · intro z
          exact hk i hi (.inl hl) (by rw [qv_hi hl]; exact z.symm)
      · by_cases ec : c = num i
        · subst ec
          rw [up_at, hp.heads, Nat.add_assoc]
          congr 1
          refine (cnt_more hi (fun z => by have := z.2.2; omega) fun j hj => ⟨fun a => ?_, fun a => ?_⟩).symm
          · by_cases ej : j = i
            · exact .inr ej
            · exact .inl ⟨a.1, a.2.1, by have : qv n num low rk (j + 1) ≠ r := fun z => ej (e2 j hj a.1 z); omega⟩
          · rcases a with a | a
            · exact ⟨a.1, a.2.1, by omega⟩
            · rw [a]; exact ⟨hl, rfl, by omega⟩
        · rw [up_ne ec, hp.heads]
          congr 1
          refine cnt_congr fun j hj => ⟨fun a => ⟨a.1, a.2.1, by omega⟩, fun a => ⟨a.1, a.2.1, ?_⟩⟩
          by_cases ej : j = i
          · rw [ej] at a; exact absurd a.2.1.symm ec
          · have : qv n num low rk (j + 1) ≠ r := fun z => ej (e2 j hj a.1 z); omega
  · refine .inl ⟨hp.rest r fun x hx' lx e => hx ⟨x, hx', lx, e⟩, skip fun i hi hl e => hx ⟨i + 1, h.hi hi hl, h.lv hi hl, e⟩⟩
/-- rows from r on have been looked at for those that are low -/
structure LO (n : Nat) (num : Nat → Nat) (low : Nat → Bool) (rk : Nat → Nat) (r : Nat) (f : Nat → Int) (en : Nat → Nat) : Prop where
  hi : ∀ i, i < n → low i = false → f (row n num low rk i) = i
  last : f (row n num low rk (n - 1)) = ((n - 1 : Nat) : Int)
  put : ∀ i, i + 1 < n → low i = true → r ≤ row n num low rk (i + 1) → f (row n num low rk i) = i
  ends : ∀ c, en c + cnt n (fun j => (j + 1 < n ∧ low j = true ∧ num j = c) ∧ r ≤ row n num low rk (j + 1)) = bE n num c
theorem row_last (h : Sx n num low) : row n num low rk (n - 1) = 0 := by
  have := h.pos
  refine cnt_none fun j hj z => ?_
  by_cases e : j = n - 1
  · rw [e] at z; exact ltirr z
  · refine ltasym z (key_code h (by omega) hj (code_lt.mpr (.inl ?_)))
    rw [h.last]
    exact h.only j (by omega)
theorem HI.done (h : Sx n num low) (h2 : 2 ≤ n) {f : Nat → Int} {hd : Nat → Nat} (hp : HI n num low rk n f hd) : LO n num low rk n f (bE n num) := by
  have l : vly low (n - 1) := by
    refine ⟨by omega, h.lowl, ?_⟩
    have h3 := h.lowr (n - 2) (by omega)
    have h4 := h.only (n - 2) (by omega)
    have h5 := h.last
    rw [show n - 2 + 1 = n - 1 by omega] at h3
    rw [if_neg (by omega), decide_eq_false (by omega)] at h3
    rw [show n - 1 - 1 = n - 2 by omega]
    exact h3
  refine ⟨fun i hi hl => hp.put i hi hl (qv_n h (h.hi hi hl) (h.lv hi hl)), ?_, fun i hi hl e => ?_, fun c => ?_⟩
  · have e : pv n num low rk (n - 1) = 0 := by
      have h3 := pv_b (rk := rk) h (show n - 1 < n by omega) l
      have h4 : bE n num (num (n - 1)) = 1 := cnt_is (show n - 1 < n by omega) fun j hj => by
        rw [h.last]
        refine ⟨fun z => ?_, fun z => by rw [z, h.last]; exact Nat.le_refl _⟩
        by_cases e : j + 1 < n
        · have := h.only j e; omega
        · omega
      omega
    rw [row_last h, ← e]
    exact hp.val (n - 1) (by omega) l
  · have := row_n (rk := rk) h hi
    omega
  · rw [cnt_none fun j hj z => by have := row_n (rk := rk) h z.1.1; omega]
    rfl
theorem row_up (h : Sx n num low) {i : Nat} (hi : i + 1 < n) (hl : low i = true) : row n num low rk i < row n num low rk (i + 1) := row_lt h (by omega) (key_up h _ i rfl hi hl)
theorem LO.step (h : Sx n num low) (hr : Rk n low rk) {r : Nat} {f : Nat → Int} {en : Nat → Nat} (hp : LO n num low rk (r + 1) f en) (hrn : r < n) :
    ∃ x, x < n ∧ f r = (x : Int) ∧ (((x = 0 ∨ low (x - 1) = false) ∧ LO n num low rk r f en) ∨
      (0 < x ∧ low (x - 1) = true ∧ 0 < en (num (x - 1)) ∧ en (num (x - 1)) - 1 < n ∧ LO n num low rk r (up f (en (num (x - 1)) - 1) ((x - 1 : Nat) : Int)) (up en (num (x - 1)) (en (num (x - 1)) - 1)))) := by
  obtain ⟨x, hx, ex⟩ := row_onto h hr hrn
  have hf : f r = (x : Int) := by
    cases l : low x with
    | false => rw [← ex]; exact hp.hi x hx l
    | true =>
      by_cases h1 : x + 1 < n
      · rw [← ex]; exact hp.put x h1 l (by have := row_up (rk := rk) h h1 l; omega)
      · rw [← ex, show x = n - 1 by omega]; exact hp.last
  refine ⟨x, hx, hf, ?_⟩
  have e2 : ∀ j, j + 1 < n → row n num low rk (j + 1) = r → j + 1 = x := fun j hj e => row_inj h hr hj hx (e.trans ex.symm)
  by_cases h0 : x = 0 ∨ low (x - 1) = false
  · refine .inl ⟨h0, hp.hi, hp.last, fun i hi hl e => ?_, fun c => ?_⟩
    · refine hp.put i hi hl ?_
      have : row n num low rk (i + 1) ≠ r := fun z => by
        have := e2 i hi z
        rcases h0 with h0 | h0
        · omega
        · rw [← this, Nat.add_sub_cancel, hl] at h0; cases h0
      omega
    · rw [← hp.ends c]
      congr 1
      refine cnt_congr fun j hj => ⟨fun a => ⟨a.1, ?_⟩, fun a => ⟨a.1, by omega⟩⟩
      have : row n num low rk (j + 1) ≠ r := fun z => by
        have := e2 j a.1.1 z
        rcases h0 with h0 | h0
        · omega
        · rw [← this, Nat.add_sub_cancel, a.1.2.1] at h0; cases h0
      omega
  · have hx0 : 0 < x := by omega
    have hl : low (x - 1) = true := by
      cases e : low (x - 1) with
      | true => rfl
      | false => exact absurd (.inr e) h0
    obtain ⟨i, rfl⟩ : ∃ i, x = i + 1 := ⟨x - 1, by omega⟩
    rw [Nat.add_sub_cancel] at hl ⊢
    have hi : i < n := by omega
    have h5 := h.only i hx
    have h3 := row_low h hr hi hl
    have h4 := hp.ends (num i)
    have e1 : cnt n (fun j => (j + 1 < n ∧ low j = true ∧ num j = num i) ∧ r + 1 ≤ row n num low rk (j + 1)) = cnt n (fun j => low j = true ∧ num j = num i ∧ key n num low rk i < key n num low rk j) := by
      refine cnt_congr fun j hj => ⟨fun a => ⟨a.1.2.1, a.1.2.2, ?_⟩, fun a => ?_⟩
      · have := (row_iff h hr hx a.1.1).mp (by rw [ex]; have := a.2; omega)
        rw [key_low hx hl, key_low a.1.1 a.1.2.1, code_num.mpr ⟨a.1.2.2, a.1.2.1.trans hl.symm⟩, cons_lt]
        exact this
      · have hj1 : j + 1 < n := by
          by_cases z : j + 1 < n
          · exact z
          · have e6 : j = n - 1 := by omega
            have := a.2.1
            rw [e6, h.last] at this
            omega
        have := a.2.2
        rw [key_low hx hl, key_low hj1 a.1, code_num.mpr ⟨a.2.1, a.1.trans hl.symm⟩, cons_lt] at this
        have := (row_iff h hr hx hj1).mpr this
        exact ⟨⟨hj1, a.1, a.2.1⟩, by omega⟩
    have e3 : en (num i) - 1 = row n num low rk i := by omega
    have hn := row_n (rk := rk) h hi
    refine .inr ⟨hx0, hl, by omega, by omega, fun j hj hlj => ?_, ?_, fun j hj hlj e => ?_, fun c => ?_⟩
    · rw [e3, up_ne]
      · exact hp.hi j hj hlj
      · intro z
        rw [row_inj h hr hj hi z, hl] at hlj
        cases hlj
    · rw [e3, up_ne]
      · exact hp.last
      · intro z
        have := row_inj h hr (by omega) hi z
        omega
    · rw [e3]
      by_cases ej : j = i
      · rw [ej, up_at]
      · rw [up_ne fun z => ej (row_inj h hr (by omega) hi z)]
        exact hp.put j hj hlj (by have : row n num low rk (j + 1) ≠ r := fun z => ej (by have := e2 j hj z; omega); omega)
    · by_cases ec : c = num i
      · subst ec
        rw [up_at]
        have : cnt n (fun j => (j + 1 < n ∧ low j = true ∧ num j = num i) ∧ r ≤ row n num low rk (j + 1)) = cnt n (fun j => (j + 1 < n ∧ low j = true ∧ num j = num i) ∧ r + 1 ≤ row n num low rk (j + 1)) + 1 := by
          refine cnt_more hi (fun z => by have := z.2; omega) fun j hj => ⟨fun a => ?_, fun a => ?_⟩
          · by_cases ej : j = i
            · exact .inr ej
            · exact .inl ⟨a.1, by have : row n num low rk (j + 1) ≠ r := fun z => ej (by have := e2 j a.1.1 z; omega); omega⟩
          · rcases a with a | a
            · exact ⟨a.1, by omega⟩
            · rw [a]; exact ⟨⟨hx, hl, rfl⟩, by omega⟩
        omega
      · rw [up_ne ec, ← hp.ends c]
        congr 1
        refine cnt_congr fun j hj => ⟨fun a => ⟨a.1, ?_⟩, fun a => ⟨a.1, by omega⟩⟩
        by_cases ej : j = i
        · rw [ej] at a; exact absurd a.1.2.2.symm ec
        · have : row n num low rk (j + 1) ≠ r := fun z => ej (by have := e2 j a.1.1 z; omega)
          omega
theorem LO.all (h : Sx n num low) {f : Nat → Int} {en : Nat → Nat} (hp : LO n num low rk 0 f en) {i : Nat} (hi : i < n) : f (row n num low rk i) = i := by
  cases l : low i with
  | false => exact hp.hi i hi l
  | true =>
    by_cases h1 : i + 1 < n
    · exact hp.put i h1 l (Nat.zero_le _)
    · rw [show i = n - 1 by omega]; exact hp.last
end
end Sa

namespace Sa
/-! ### induced sorting: hills, suffixes -/
section
variable {n : Nat} {num : Nat → Nat} {low : Nat → Bool} {rk : Nat → Nat}
/-- the codes up to the next low one -/
def ha (num : Nat → Nat) (low : Nat → Bool) : Nat → Nat → List Nat
  | 0, i => [code num low i]
  | k + 1, i => if low i = true then [code num low i] else code num low i :: ha num low k (i + 1)
def hi1 (n : Nat) (num : Nat → Nat) (low : Nat → Bool) (i : Nat) : List Nat := ha num low (n - i) i
def hb (n : Nat) (num : Nat → Nat) (low : Nat → Bool) : Nat → Nat → List Nat
  | 0, i => [code num low i]
  | k + 1, i => if low i = true then code num low i :: (if i + 1 < n then hb n num low k (i + 1) else []) else hi1 n num low i
/-- the codes up to the next valley -/
def hill (n : Nat) (num : Nat → Nat) (low : Nat → Bool) (i : Nat) : List Nat := hb n num low (n - i) i
theorem hi1_low {i : Nat} (hl : low i = true) : hi1 n num low i = [code num low i] := by
  unfold hi1
  cases n - i with
  | zero => rfl
  | succ k => rw [ha, if_pos hl]
theorem hi1_hi {i : Nat} (hi : i < n) (hl : low i = false) : hi1 n num low i = code num low i :: hi1 n num low (i + 1) := by
  unfold hi1
  rw [show n - i = (n - (i + 1)) + 1 by omega, ha, if_neg (by rw [hl]; decide)]
theorem hill_low {i : Nat} (hi : i + 1 < n) (hl : low i = true) : hill n num low i = code num low i :: hill n num low (i + 1) := by
  unfold hill
  rw [show n - i = (n - (i + 1)) + 1 by omega, hb, if_pos hl, if_pos hi]
theorem hill_hi {i : Nat} (hi : i < n) (hl : low i = false) : hill n num low i = hi1 n num low i := by
  unfold hill
  rw [show n - i = (n - (i + 1)) + 1 by omega, hb, if_neg (by rw [hl]; decide)]
theorem hill_last (h : Sx n num low) : hill n num low (n - 1) = [code num low (n - 1)] := by
  have := h.pos
  unfold hill
  rw [show n - (n - 1) = 0 + 1 by omega, hb, if_pos h.lowl, if_neg (by omega)]
theorem hi1_head {i : Nat} (hi : i < n) : ∃ t, hi1 n num low i = code num low i :: t := by
  cases hl : low i with
  | true => exact ⟨_, hi1_low hl⟩
  | false => exact ⟨_, hi1_hi hi hl⟩
theorem hill_head (h : Sx n num low) {i : Nat} (hi : i < n) : ∃ t, hill n num low i = code num low i :: t := by
  cases hl : low i with
  | true =>
    by_cases e : i + 1 < n
    · exact ⟨_, hill_low e hl⟩
    · rw [show i = n - 1 by have := h.pos; omega]
      exact ⟨_, hill_last h⟩
  | false =>
    obtain ⟨t, e⟩ := hi1_head (n := n) (num := num) (low := low) hi
    exact ⟨t, by rw [hill_hi hi hl, e]⟩
theorem hi1_code {i j : Nat} (hi : i < n) (hj : j < n) (e : code num low i < code num low j) : hi1 n num low i < hi1 n num low j := by
  obtain ⟨t, e1⟩ := hi1_head (n := n) (num := num) (low := low) hi
  obtain ⟨u, e2⟩ := hi1_head (n := n) (num := num) (low := low) hj
  rw [e1, e2, List.cons_lt_cons_iff]
  exact .inl e
theorem hill_code (h : Sx n num low) {i j : Nat} (hi : i < n) (hj : j < n) (e : code num low i < code num low j) : hill n num low i < hill n num low j := by
  obtain ⟨t, e1⟩ := hill_head h hi
  obtain ⟨u, e2⟩ := hill_head h hj
  rw [e1, e2, List.cons_lt_cons_iff]
  exact .inl e
/-- one of the same number as the last is the last -/
theorem Sx.is_last (h : Sx n num low) {i : Nat} (hi : i < n) (e : num i = num (n - 1)) : i = n - 1 := by
  by_cases z : i + 1 < n
  · have := h.only i z
    rw [e, h.last] at this
    omega
  · omega
theorem code_tri {x y : Nat} (h : ¬ code num low x < code num low y) (k : ¬ code num low y < code num low x) : code num low x = code num low y := by omega
theorem hi1_le (h : Sx n num low) : ∀ (k x y : Nat), n - x = k → x < n → y < n → key1 n num low rk x < key1 n num low rk y → ¬ hi1 n num low y < hi1 n num low x := by
  intro k
  induction k with
  | zero => intro x y hk hx; omega
  | succ k ih =>
    intro x y hk hx hy e
    by_cases c1 : code num low x < code num low y
    · exact ltasym (hi1_code hx hy c1)
    by_cases c2 : code num low y < code num low x
    · exact absurd e (ltasym (key1_code hy hx c2))
    have c := code_tri c1 c2
    obtain ⟨cn, cl⟩ := code_num.mp c
    cases hl : low x with
    | true =>
      rw [hi1_low hl, hi1_low (cl ▸ hl), c]
      exact ltirr
    | false =>
      have hl2 : low y = false := cl ▸ hl
      rw [key1_hi hx hl, key1_hi hy hl2, c, cons_lt] at e
      rw [hi1_hi hx hl, hi1_hi hy hl2, c, cons_lt]
      exact ih (x + 1) (y + 1) (by omega) (h.hi hx hl) (h.hi hy hl2) e
theorem hill_le (h : Sx n num low) : ∀ (k x y : Nat), n - x = k → x < n → y < n → key n num low rk x < key n num low rk y → ¬ hill n num low y < hill n num low x := by
  intro k
  induction k with
  | zero => intro x y hk hx; omega
  | succ k ih =>
    intro x y hk hx hy e
    by_cases c1 : code num low x < code num low y
    · exact ltasym (hill_code h hx hy c1)
    by_cases c2 : code num low y < code num low x
    · exact absurd e (ltasym (key_code h hy hx c2))
    have c := code_tri c1 c2
    obtain ⟨cn, cl⟩ := code_num.mp c
    cases hl : low x with
    | true =>
      have hl2 : low y = true := cl ▸ hl
      by_cases z1 : x + 1 < n
      · have z2 : y + 1 < n := by
          by_cases z : y + 1 < n
          · exact z
          · have := h.is_last hx (by rw [cn, show y = n - 1 by omega])
            omega
        rw [key_low z1 hl, key_low z2 hl2, c, cons_lt] at e
        rw [hill_low z1 hl, hill_low z2 hl2, c, cons_lt]
        exact ih (x + 1) (y + 1) (by omega) z1 z2 e
      · have := h.is_last hy (by rw [← cn, show x = n - 1 by omega])
        rw [this, show x = n - 1 by omega] at e
        exact absurd e ltirr
    | false =>
      have hl2 : low y = false := cl ▸ hl
      rw [key_hi hx hl, key_hi hy hl2] at e
      rw [hill_hi hx hl, hill_hi hy hl2]
      exact hi1_le h _ x y rfl hx hy e
/-! suffixes -/
/-- the numbers of a list -/
def nm (xs : List Nat) (i : Nat) : Nat := xs.getD i 0
variable {xs : List Nat}
theorem drop_nm {i : Nat} (hi : i < xs.length) : xs.drop i = nm xs i :: xs.drop (i + 1) := by
  rw [List.drop_eq_getElem_cons hi]
  unfold nm
  rw [List.getD_eq_getElem?_getD, List.getElem?_eq_getElem hi]
  rfl
theorem suf_cons {i j : Nat} (hi : i < xs.length) (hj : j < xs.length) (e : nm xs i = nm xs j) : xs.drop i < xs.drop j ↔ xs.drop (i + 1) < xs.drop (j + 1) := by
  rw [drop_nm hi, drop_nm hj, e, cons_lt]
theorem suf_num {i j : Nat} (hi : i < xs.length) (hj : j < xs.length) (e : nm xs i < nm xs j) : xs.drop i < xs.drop j := by
  rw [drop_nm hi, drop_nm hj, List.cons_lt_cons_iff]
  exact .inl e
theorem suf_code (h : Sx xs.length (nm xs) low) : ∀ (k i j : Nat), xs.length - i = k → i < xs.length → j < xs.length → code (nm xs) low i < code (nm xs) low j → xs.drop i < xs.drop j := by
  intro k
  induction k with
  | zero => intro i j hk hi; omega
  | succ k ih =>
    intro i j hk hi hj e
    rcases code_lt.mp e with e1 | ⟨e1, e2, e3⟩
    · exact suf_num hi hj e1
    · have hi1 := h.hi hi e2
      have hj1 : j + 1 < xs.length := by
        by_cases z : j + 1 < xs.length
        · exact z
        · have := h.is_last hi (by rw [e1, show j = xs.length - 1 by omega])
          omega
      rw [suf_cons hi hj e1]
      refine ih (i + 1) (j + 1) (by omega) hi1 hj1 ?_
      have a := h.codeD hi e2
      have b := h.codeU hj1 e3
      omega
theorem hi1_suf (h : Sx xs.length (nm xs) low) : ∀ (k x y : Nat), xs.length - x = k → x < xs.length → y < xs.length → hi1 xs.length (nm xs) low x < hi1 xs.length (nm xs) low y → xs.drop x < xs.drop y := by
  intro k
  induction k with
  | zero => intro x y hk hx; omega
  | succ k ih =>
    intro x y hk hx hy e
    by_cases c1 : code (nm xs) low x < code (nm xs) low y
    · exact suf_code h _ x y rfl hx hy c1
    by_cases c2 : code (nm xs) low y < code (nm xs) low x
    · exact absurd e (ltasym (hi1_code hy hx c2))
    have c := code_tri c1 c2
    obtain ⟨cn, cl⟩ := code_num.mp c
    cases hl : low x with
    | true =>
      rw [hi1_low hl, hi1_low (cl ▸ hl), c] at e
      exact absurd e ltirr
    | false =>
      have hl2 : low y = false := cl ▸ hl
      rw [hi1_hi hx hl, hi1_hi hy hl2, c, cons_lt] at e
      rw [suf_cons hx hy cn]
      exact ih (x + 1) (y + 1) (by omega) (h.hi hx hl) (h.hi hy hl2) e
theorem hill_suf (h : Sx xs.length (nm xs) low) : ∀ (k x y : Nat), xs.length - x = k → x < xs.length → y < xs.length → hill xs.length (nm xs) low x < hill xs.length (nm xs) low y → xs.drop x < xs.drop y := by
  intro k
  induction k with
  | zero => intro x y hk hx; omega
  | succ k ih =>
    intro x y hk hx hy e
    by_cases c1 : code (nm xs) low x < code (nm xs) low y
    · exact suf_code h _ x y rfl hx hy c1
    by_cases c2 : code (nm xs) low y < code (nm xs) low x
    · exact absurd e (ltasym (hill_code h hy hx c2))
    have c := code_tri c1 c2
    obtain ⟨cn, cl⟩ := code_num.mp c
    cases hl : low x with
    | true =>
      have hl2 : low y = true := cl ▸ hl
      by_cases z1 : x + 1 < xs.length
      · have z2 : y + 1 < xs.length := by
          by_cases z : y + 1 < xs.length
          · exact z
          · have := h.is_last hx (by rw [cn, show y = xs.length - 1 by omega])
            omega
        rw [hill_low z1 hl, hill_low z2 hl2, c, cons_lt] at e
        rw [suf_cons hx hy cn]
        exact ih (x + 1) (y + 1) (by omega) z1 z2 e
      · have := h.is_last hy (by rw [← cn, show x = xs.length - 1 by omega])
        rw [this, show x = xs.length - 1 by omega] at e
        exact absurd e ltirr
    | false =>
      have hl2 : low y = false := cl ▸ hl
      rw [hill_hi hx hl, hill_hi hy hl2] at e
      exact hi1_suf h _ x y rfl hx hy e
/-- the keys order all suffixes, if the ranks order the valleys' -/
theorem key1_suf (h : Sx xs.length (nm xs) low) (hr : ∀ v w, v < xs.length → w < xs.length → vly low v → vly low w → rk v < rk w → xs.drop v < xs.drop w) :
    ∀ (k x y : Nat), xs.length - x = k → x < xs.length → y < xs.length → LV low x → LV low y → key1 xs.length (nm xs) low rk x < key1 xs.length (nm xs) low rk y → xs.drop x < xs.drop y := by
  intro k
  induction k with
  | zero => intro x y hk hx; omega
  | succ k ih =>
    intro x y hk hx hy lx ly e
    by_cases c1 : code (nm xs) low x < code (nm xs) low y
    · exact suf_code h _ x y rfl hx hy c1
    by_cases c2 : code (nm xs) low y < code (nm xs) low x
    · exact absurd e (ltasym (key1_code hy hx c2))
    have c := code_tri c1 c2
    obtain ⟨cn, cl⟩ := code_num.mp c
    cases hl : low x with
    | true =>
      have hl2 : low y = true := cl ▸ hl
      rw [key1_low hl, key1_low hl2, c, cons_lt, List.cons_lt_cons_iff] at e
      have vx : vly low x := lx.resolve_left fun z => by rw [hl] at z; cases z
      have vy : vly low y := ly.resolve_left fun z => by rw [hl2] at z; cases z
      rcases e with e | e
      · exact hr x y hx hy vx vy e
      · exact absurd e.2 ltirr
    | false =>
      have hl2 : low y = false := cl ▸ hl
      rw [key1_hi hx hl, key1_hi hy hl2, c, cons_lt] at e
      rw [suf_cons hx hy cn]
      exact ih (x + 1) (y + 1) (by omega) (h.hi hx hl) (h.hi hy hl2) (h.lv hx hl) (h.lv hy hl2) e
theorem key_suf (h : Sx xs.length (nm xs) low) (hr : ∀ v w, v < xs.length → w < xs.length → vly low v → vly low w → rk v < rk w → xs.drop v < xs.drop w) :
    ∀ (k x y : Nat), xs.length - x = k → x < xs.length → y < xs.length → key xs.length (nm xs) low rk x < key xs.length (nm xs) low rk y → xs.drop x < xs.drop y := by
  intro k
  induction k with
  | zero => intro x y hk hx; omega
  | succ k ih =>
    intro x y hk hx hy e
    by_cases c1 : code (nm xs) low x < code (nm xs) low y
    · exact suf_code h _ x y rfl hx hy c1
    by_cases c2 : code (nm xs) low y < code (nm xs) low x
    · exact absurd e (ltasym (key_code h hy hx c2))
    have c := code_tri c1 c2
    obtain ⟨cn, cl⟩ := code_num.mp c
    cases hl : low x with
    | true =>
      have hl2 : low y = true := cl ▸ hl
      by_cases z1 : x + 1 < xs.length
      · have z2 : y + 1 < xs.length := by
          by_cases z : y + 1 < xs.length
          · exact z
          · have := h.is_last hx (by rw [cn, show y = xs.length - 1 by omega])
            omega
        rw [key_low z1 hl, key_low z2 hl2, c, cons_lt] at e
        rw [suf_cons hx hy cn]
        exact ih (x + 1) (y + 1) (by omega) z1 z2 e
      · have := h.is_last hy (by rw [← cn, show x = xs.length - 1 by omega])
        rw [this, show x = xs.length - 1 by omega] at e
        exact absurd e ltirr
    | false =>
      have hl2 : low y = false := cl ▸ hl
      rw [key_hi hx hl, key_hi hy hl2] at e
      exact key1_suf h hr _ x y rfl hx hy (.inl hl) (.inl hl2) e
/-! from valley to valley -/
theorem hi1_codes (h : Sx n num low) : ∀ (k x : Nat), n - x = k → x < n → low x = false → ∃ d, 0 < d ∧ x + d < n ∧ vly low (x + d) ∧ (∀ j, j < d → low (x + j) = false) ∧ hi1 n num low x = (List.range (d + 1)).map fun j => code num low (x + j) := by
  intro k
  induction k with
  | zero => intro x hk hx; omega
  | succ k ih =>
    intro x hk hx hl
    have h1 := h.hi hx hl
    have cons : ∀ (d : Nat) (f : Nat → Nat), (List.range (d + 1 + 1)).map f = f 0 :: (List.range (d + 1)).map fun j => f (j + 1) := fun d f => by
      rw [List.range_succ_eq_map, List.map_cons, List.map_map]
      rfl
    cases h2 : low (x + 1) with
    | true =>
      refine ⟨1, by omega, h1, ⟨by omega, h2, hl⟩, fun j hj => by rw [show j = 0 by omega]; exact hl, ?_⟩
      rw [hi1_hi hx hl, hi1_low h2]
      rfl
    | false =>
      obtain ⟨d, a1, a2, a3, a4, a5⟩ := ih (x + 1) (by omega) h1 h2
      refine ⟨d + 1, by omega, by omega, by rw [show x + (d + 1) = x + 1 + d by omega]; exact a3, fun j hj => ?_, ?_⟩
      · by_cases e : j = 0
        · rw [e]; exact hl
        · have := a4 (j - 1) (by omega)
          rwa [show x + 1 + (j - 1) = x + j by omega] at this
      · rw [hi1_hi hx hl, a5, cons]
        congr 1
        exact List.map_congr_left fun j _ => by rw [show x + 1 + j = x + (j + 1) by omega]
theorem hill_codes (h : Sx n num low) : ∀ (k x : Nat), n - x = k → x + 1 < n → ∃ d, 0 < d ∧ x + d < n ∧ vly low (x + d) ∧ (∀ j, 0 < j → j < d → ¬ vly low (x + j)) ∧ hill n num low x = (List.range (d + 1)).map fun j => code num low (x + j) := by
  intro k
  induction k with
  | zero => intro x hk hx; omega
  | succ k ih =>
    intro x hk hx
    have cons : ∀ (d : Nat) (f : Nat → Nat), (List.range (d + 1 + 1)).map f = f 0 :: (List.range (d + 1)).map fun j => f (j + 1) := fun d f => by
      rw [List.range_succ_eq_map, List.map_cons, List.map_map]
      rfl
    cases hl : low x with
    | false =>
      obtain ⟨d, a1, a2, a3, a4, a5⟩ := hi1_codes h _ x rfl (by omega) hl
      refine ⟨d, a1, a2, a3, fun j h1 h2 z => ?_, by rw [hill_hi (by omega) hl]; exact a5⟩
      have := a4 j h2
      rw [z.2.1] at this
      cases this
    | true =>
      have hx2 : x + 1 + 1 < n := by
        by_cases z : x + 1 + 1 < n
        · exact z
        · have h3 := h.up hx hl
          have h4 := h.last
          have h5 := h.only x hx
          rw [show n - 1 = x + 1 by omega] at h4
          omega
      obtain ⟨d, a1, a2, a3, a4, a5⟩ := ih (x + 1) (by omega) hx2
      refine ⟨d + 1, by omega, by omega, by rw [show x + (d + 1) = x + 1 + d by omega]; exact a3, fun j h1 h2 z => ?_, ?_⟩
      · by_cases e : j = 1
        · rw [e] at z
          have := z.2.2
          rw [Nat.add_sub_cancel, hl] at this
          cases this
        · refine a4 (j - 1) (by omega) (by omega) ?_
          rwa [show x + 1 + (j - 1) = x + j by omega]
      · rw [hill_low hx hl, a5, cons]
        congr 1
        exact List.map_congr_left fun j _ => by rw [show x + 1 + j = x + (j + 1) by omega]
theorem suf_shift : ∀ (d x y : Nat), x + d ≤ xs.length → y + d ≤ xs.length → (∀ j, j < d → nm xs (x + j) = nm xs (y + j)) → (xs.drop x < xs.drop y ↔ xs.drop (x + d) < xs.drop (y + d))
  | 0, x, y, _, _, _ => Iff.rfl
  | d + 1, x, y, hx, hy, h => by
    have h0 := h 0 (Nat.succ_pos d)
    rw [suf_cons (show x < xs.length by omega) (show y < xs.length by omega) h0, suf_shift d (x + 1) (y + 1) (by omega) (by omega) fun j hj => by
      have := h (j + 1) (by omega)
      rwa [show x + (j + 1) = x + 1 + j by omega, show y + (j + 1) = y + 1 + j by omega] at this]
    rw [show x + 1 + d = x + (d + 1) by omega, show y + 1 + d = y + (d + 1) by omega]
end
end Sa

namespace Sa
/-! ### induced sorting: names, the smaller problem -/
/-- the last one is the only 0 -/
structure Inp (xs : List Nat) : Prop where
  pos : 0 < xs.length
  last : nm xs (xs.length - 1) = 0
  only : ∀ i, i + 1 < xs.length → 0 < nm xs i
/-- which suffixes are low -/
def lwk (xs : List Nat) : Nat → Nat → Bool
  | 0, _ => true
  | k + 1, i => if i + 1 < xs.length then (if nm xs i = nm xs (i + 1) then lwk xs k (i + 1) else decide (nm xs i < nm xs (i + 1))) else true
def lw (xs : List Nat) (i : Nat) : Bool := lwk xs (xs.length - i) i
theorem lw_end {xs : List Nat} {i : Nat} (h : xs.length ≤ i + 1) : lw xs i = true := by
  unfold lw
  cases xs.length - i with
  | zero => rfl
  | succ k => rw [lwk, if_neg (by omega)]
theorem lw_step {xs : List Nat} {i : Nat} (h : i + 1 < xs.length) : lw xs i = if nm xs i = nm xs (i + 1) then lw xs (i + 1) else decide (nm xs i < nm xs (i + 1)) := by
  unfold lw
  rw [show xs.length - i = (xs.length - (i + 1)) + 1 by omega, lwk, if_pos h]
theorem Inp.sx {xs : List Nat} (h : Inp xs) : Sx xs.length (nm xs) (lw xs) := ⟨h.pos, h.last, h.only, lw_end (by have := h.pos; omega), fun i hi => lw_step hi⟩
/-- the rows of a list of numbers -/
def Rows (xs rs : List Nat) : Prop := rs.Perm (List.range xs.length) ∧ rs.Pairwise fun a b => xs.drop a < xs.drop b
section
variable {xs : List Nat}
/-- the valleys in the text's order -/
def vals (xs : List Nat) : List Nat := (List.range xs.length).filter fun i => decide (vly (lw xs) i)
theorem mem_vals {v : Nat} : v ∈ vals xs ↔ v < xs.length ∧ vly (lw xs) v := by
  unfold vals
  rw [List.mem_filter, List.mem_range, decide_eq_true_iff]
theorem vals_lt : (vals xs).Pairwise (· < ·) := List.Pairwise.filter _ List.pairwise_lt_range
theorem vals_nd : (vals xs).Nodup := vals_lt.imp fun h => Nat.ne_of_lt h
theorem vals_last (h : Inp xs) (h2 : 2 ≤ xs.length) : vly (lw xs) (xs.length - 1) := by
  refine ⟨by omega, lw_end (by omega), ?_⟩
  have h3 := lw_step (xs := xs) (i := xs.length - 2) (by omega)
  have h4 := h.only (xs.length - 2) (by omega)
  have h5 := h.last
  rw [show xs.length - 2 + 1 = xs.length - 1 by omega] at h3
  rw [if_neg (by omega), decide_eq_false (by omega)] at h3
  rw [show xs.length - 1 - 1 = xs.length - 2 by omega]
  exact h3
theorem vals_nil (h : Inp xs) : vals xs = [] ↔ xs.length = 1 := by
  constructor
  · intro e
    by_cases h2 : 2 ≤ xs.length
    · have : xs.length - 1 ∈ vals xs := mem_vals.mpr ⟨by omega, vals_last h h2⟩
      rw [e] at this
      cases this
    · have := h.pos; omega
  · intro e
    refine List.eq_nil_iff_forall_not_mem.mpr fun v hv => ?_
    have := mem_vals.mp hv
    have := this.2.1
    omega
/-- the last valley is the last place -/
theorem vals_get_last (h : Inp xs) (h2 : 2 ≤ xs.length) {j : Nat} (hj : (vals xs)[j]? = some (xs.length - 1)) : j + 1 = (vals xs).length := by
  obtain ⟨hl, e⟩ := List.getElem?_eq_some_iff.mp hj
  by_cases z : j + 1 < (vals xs).length
  · have := List.pairwise_iff_getElem.mp (vals_lt (xs := xs)) j (j + 1) hl z (by omega)
    have h3 := (mem_vals.mp (List.getElem_mem z)).1
    omega
  · omega
theorem vals_next {i v d : Nat} (hi : (vals xs)[i]? = some v) (h1 : 0 < d) (h2 : v + d < xs.length) (h3 : vly (lw xs) (v + d)) (h4 : ∀ j, 0 < j → j < d → ¬ vly (lw xs) (v + j)) : (vals xs)[i + 1]? = some (v + d) := by
  obtain ⟨k, hk⟩ := List.mem_iff_getElem?.mp (mem_vals.mpr ⟨h2, h3⟩)
  obtain ⟨hi1, e1⟩ := List.getElem?_eq_some_iff.mp hi
  obtain ⟨hk1, e2⟩ := List.getElem?_eq_some_iff.mp hk
  have mono := List.pairwise_iff_getElem.mp (vals_lt (xs := xs))
  have hik : i < k := by
    rcases Nat.lt_trichotomy i k with z | z | z
    · exact z
    · subst z
      omega
    · have := mono k i hk1 hi1 z
      omega
  have hi2 : i + 1 < (vals xs).length := by omega
  have a1 := mono i (i + 1) hi1 hi2 (by omega)
  have a2 : (vals xs)[i + 1] ≤ v + d := by
    by_cases z : i + 1 = k
    · subst z
      omega
    · have := mono (i + 1) k hi2 hk1 (by omega)
      omega
  have a3 := (mem_vals.mp (List.getElem_mem hi2)).2
  rw [List.getElem?_eq_getElem hi2]
  congr 1
  by_cases z : (vals xs)[i + 1] = v + d
  · exact z
  · exfalso
    refine h4 ((vals xs)[i + 1] - v) (by omega) (by omega) ?_
    rw [show v + ((vals xs)[i + 1] - v) = (vals xs)[i + 1] by omega]
    exact a3
/-! names along an order -/
abbrev hl (xs : List Nat) (i : Nat) : List Nat := hill xs.length (nm xs) (lw xs) i
/-- the names of the hills of a list of valleys -/
def na (xs os : List Nat) : Nat → Nat
  | 0 => 0
  | i + 1 => na xs os i + if hl xs (os.getD i 0) = hl xs (os.getD (i + 1) 0) then 0 else 1
theorem na_mono {os : List Nat} {i j : Nat} (h : i ≤ j) : na xs os i ≤ na xs os j := by
  induction j with
  | zero => rw [show i = 0 by omega]; exact Nat.le_refl _
  | succ j ih =>
    by_cases e : i = j + 1
    · rw [e]; exact Nat.le_refl _
    · have := ih (by omega)
      rw [na]
      omega
theorem na_le {os : List Nat} (i : Nat) : na xs os i ≤ i := by
  induction i with
  | zero => exact Nat.le_refl _
  | succ i ih =>
    rw [na]
    split <;> omega
theorem na_same {os : List Nat} {i j : Nat} (h : i ≤ j) (e : na xs os i = na xs os j) : hl xs (os.getD i 0) = hl xs (os.getD j 0) := by
  induction j with
  | zero => rw [show i = 0 by omega]
  | succ j ih =>
    by_cases z : i = j + 1
    · rw [z]
    · have h1 := na_mono (xs := xs) (os := os) (show i ≤ j by omega)
      rw [na] at e
      by_cases c : hl xs (os.getD j 0) = hl xs (os.getD (j + 1) 0)
      · rw [if_pos c] at e
        rw [ih (by omega) (by omega), c]
      · rw [if_neg c] at e
        omega
/-- an order of the valleys in which no hill falls -/
structure Ord (xs os : List Nat) : Prop where
  nd : os.Nodup
  mem : ∀ v, v ∈ os ↔ v ∈ vals xs
  le : os.Pairwise fun v w => ¬ hl xs w < hl xs v
theorem Ord.at {os : List Nat} (h : Ord xs os) {i j : Nat} (hij : i ≤ j) (hj : j < os.length) : ¬ hl xs (os.getD j 0) < hl xs (os.getD i 0) := by
  by_cases e : i = j
  · rw [e]; exact ltirr
  · have := List.pairwise_iff_getElem.mp h.le i j (by omega) hj (by omega)
    rw [List.getD_eq_getElem?_getD, List.getD_eq_getElem?_getD, List.getElem?_eq_getElem hj, List.getElem?_eq_getElem (show i < os.length by omega)]
    exact this
theorem Ord.anti {os : List Nat} {a b : List Nat} (h1 : ¬ a < b) (h2 : ¬ b < a) : a = b := by
  rcases lttri a b with z | z | z
  · exact absurd z h1
  · exact z
  · exact absurd z h2
theorem Ord.same {os : List Nat} (h : Ord xs os) {i j : Nat} (hij : i ≤ j) (hj : j < os.length) (e : hl xs (os.getD i 0) = hl xs (os.getD j 0)) : na xs os i = na xs os j := by
  induction j with
  | zero => rw [show i = 0 by omega]
  | succ j ih =>
    by_cases z : i = j + 1
    · rw [z]
    · have h1 := h.at (show i ≤ j by omega) (show j < os.length by omega)
      have h2 := h.at (show j ≤ j + 1 by omega) hj
      rw [← e] at h2
      have h3 : hl xs (os.getD j 0) = hl xs (os.getD i 0) := Ord.anti (os := os) h1 h2
      rw [na, if_pos (h3.trans e)]
      exact ih (by omega) (by omega) h3.symm
theorem Ord.less {os : List Nat} (h : Ord xs os) {i j : Nat} (hi : i < os.length) (hj : j < os.length) (e : na xs os i < na xs os j) : hl xs (os.getD i 0) < hl xs (os.getD j 0) := by
  have hij : i < j := by
    by_cases z : i < j
    · exact z
    · have := na_mono (xs := xs) (os := os) (show j ≤ i by omega)
      omega
  rcases lttri (hl xs (os.getD i 0)) (hl xs (os.getD j 0)) with z | z | z
  · exact z
  · rw [h.same (by omega) hj z] at e
    omega
  · exact absurd z (h.at (by omega) hj)
/-- a valley's name -/
def name (xs os : List Nat) (v : Nat) : Nat := na xs os (os.idxOf v)
theorem getD_idx {os : List Nat} {v : Nat} (h : v ∈ os) : os.getD (os.idxOf v) 0 = v := by
  have := List.idxOf_lt_length_of_mem h
  rw [List.getD_eq_getElem?_getD, List.getElem?_eq_getElem this]
  simp
theorem Ord.name_eq {os : List Nat} (h : Ord xs os) {v w : Nat} (hv : v ∈ os) (hw : w ∈ os) (e : name xs os v = name xs os w) : hl xs v = hl xs w := by
  unfold name at e
  rcases Nat.le_total (os.idxOf v) (os.idxOf w) with z | z
  · have := na_same z e
    rwa [getD_idx hv, getD_idx hw] at this
  · have := na_same z e.symm
    rw [getD_idx hv, getD_idx hw] at this
    exact this.symm
theorem Ord.name_lt {os : List Nat} (h : Ord xs os) {v w : Nat} (hv : v ∈ os) (hw : w ∈ os) (e : name xs os v < name xs os w) : hl xs v < hl xs w := by
  have := h.less (List.idxOf_lt_length_of_mem hv) (List.idxOf_lt_length_of_mem hw) e
  rwa [getD_idx hv, getD_idx hw] at this
/-- the names in the text's order -/
def red (xs os : List Nat) : List Nat := (vals xs).map (name xs os)
theorem red_len {os : List Nat} : (red xs os).length = (vals xs).length := List.length_map _
theorem red_nm {os : List Nat} {i v : Nat} (h : (vals xs)[i]? = some v) : nm (red xs os) i = name xs os v := by
  unfold nm red
  rw [List.getD_eq_getElem?_getD, List.getElem?_map, h]
  rfl
theorem Ord.zero {os : List Nat} (h : Ord xs os) (hx : Inp xs) (h2 : 2 ≤ xs.length) {v : Nat} (hv : v ∈ os) : name xs os v = 0 ↔ v = xs.length - 1 := by
  have hl0 : xs.length - 1 ∈ os := (h.mem _).mpr (mem_vals.mpr ⟨by omega, vals_last hx h2⟩)
  have s := hx.sx
  have small : ∀ w, w ∈ os → w ≠ xs.length - 1 → hl xs (xs.length - 1) < hl xs w := fun w hw ne => by
    have := mem_vals.mp ((h.mem w).mp hw)
    refine hill_code s (by omega) this.1 (code_lt.mpr (.inl ?_))
    rw [hx.last]
    exact hx.only w (by omega)
  have hpos : 0 < os.length := List.length_pos_of_mem hl0
  have h0 : os.getD 0 0 ∈ os := by rw [List.getD_eq_getElem?_getD, List.getElem?_eq_getElem hpos]; exact List.getElem_mem hpos
  have first : os.getD 0 0 = xs.length - 1 := by
    by_cases e : os.getD 0 0 = xs.length - 1
    · exact e
    · have a := small _ h0 e
      have b := h.at (Nat.zero_le (os.idxOf (xs.length - 1))) (List.idxOf_lt_length_of_mem hl0)
      rw [getD_idx hl0] at b
      exact absurd a b
  constructor
  · intro e
    by_cases z : v = xs.length - 1
    · exact z
    · have := na_same (xs := xs) (os := os) (Nat.zero_le (os.idxOf v)) (by rw [show na xs os (os.idxOf v) = 0 from e]; rfl)
      rw [getD_idx hv, first] at this
      exact absurd (this ▸ small v hv z) ltirr
  · intro e
    subst e
    unfold name
    have : os.idxOf (xs.length - 1) = 0 := by
      rw [← first, List.getD_eq_getElem?_getD, List.getElem?_eq_getElem hpos]
      show os.idxOf (os[0]) = 0
      cases os with
      | nil => cases hpos
      | cons a t => exact List.idxOf_cons_self
    rw [this]
    rfl
theorem Ord.inp {os : List Nat} (h : Ord xs os) (hx : Inp xs) (h2 : 2 ≤ xs.length) : Inp (red xs os) := by
  have hl0 := mem_vals.mpr ⟨show xs.length - 1 < xs.length by omega, vals_last hx h2⟩
  obtain ⟨j, hj⟩ := List.mem_iff_getElem?.mp hl0
  have hjl := vals_get_last hx h2 hj
  refine ⟨by rw [red_len]; omega, ?_, fun i hi => ?_⟩
  · rw [red_len, show (vals xs).length - 1 = j by omega, red_nm hj]
    exact (h.zero hx h2 ((h.mem _).mpr hl0)).mpr rfl
  · rw [red_len] at hi
    have hg : (vals xs)[i]? = some (vals xs)[i] := List.getElem?_eq_getElem (by omega)
    rw [red_nm hg]
    refine Nat.pos_of_ne_zero fun z => ?_
    have := (h.zero hx h2 ((h.mem _).mpr (List.mem_of_getElem? hg))).mp z
    rw [this] at hg
    have := vals_get_last hx h2 hg
    omega
theorem Ord.red_suf {os : List Nat} (h : Ord xs os) (hx : Inp xs) (h2 : 2 ≤ xs.length) : ∀ (k i j v w : Nat), (vals xs).length - i = k → (vals xs)[i]? = some v → (vals xs)[j]? = some w → (red xs os).drop i < (red xs os).drop j → xs.drop v < xs.drop w := by
  intro k
  have s := hx.sx
  induction k with
  | zero =>
    intro i j v w hk hi
    have := (List.getElem?_eq_some_iff.mp hi).1
    omega
  | succ k ih =>
    intro i j v w hk hi hj e
    have mi := List.mem_of_getElem? hi
    have mj := List.mem_of_getElem? hj
    have oi := (h.mem v).mpr mi
    have oj := (h.mem w).mpr mj
    have li := (List.getElem?_eq_some_iff.mp hi).1
    have lj := (List.getElem?_eq_some_iff.mp hj).1
    have vi := (mem_vals.mp mi).1
    have vj := (mem_vals.mp mj).1
    have ni := red_nm (os := os) hi
    have nj := red_nm (os := os) hj
    rcases Nat.lt_trichotomy (name xs os v) (name xs os w) with c | c | c
    · exact hill_suf s _ v w rfl vi vj (h.name_lt oi oj c)
    · have hh := h.name_eq oi oj c
      by_cases z1 : v = xs.length - 1
      · have := (h.zero hx h2 oj).mp (c.symm.trans ((h.zero hx h2 oi).mpr z1))
        have e1 := vals_get_last hx h2 (z1 ▸ hi)
        have e2 := vals_get_last hx h2 (this ▸ hj)
        rw [show i = j by omega] at e
        exact absurd e ltirr
      · by_cases z2 : w = xs.length - 1
        · have := (h.zero hx h2 oi).mp (c.trans ((h.zero hx h2 oj).mpr z2))
          exact absurd this z1
        · obtain ⟨d, a1, a2, a3, a4, a5⟩ := hill_codes s _ v rfl (by omega)
          obtain ⟨d', b1, b2, b3, b4, b5⟩ := hill_codes s _ w rfl (by omega)
          rw [show hill xs.length (nm xs) (lw xs) v = hl xs v from rfl, hh, show hl xs w = hill xs.length (nm xs) (lw xs) w from rfl, b5] at a5
          have ed : d' = d := by
            have := congrArg List.length a5
            rw [List.length_map, List.length_map, List.length_range, List.length_range] at this
            omega
          subst ed
          have hcode : ∀ t, t < d' → nm xs (v + t) = nm xs (w + t) := fun t ht => by
            have := congrArg (fun l : List Nat => l[t]?) a5
            simp only [List.getElem?_map, List.getElem?_range (show t < d' + 1 by omega), Option.map_some] at this
            exact (code_num.mp (Option.some.inj this)).1.symm
          rw [suf_shift d' v w (by omega) (by omega) hcode]
          refine ih (i + 1) (j + 1) (v + d') (w + d') (by omega) (vals_next hi a1 a2 a3 a4) (vals_next hj b1 b2 b3 b4) ?_
          rwa [suf_cons (by rw [red_len]; exact li) (by rw [red_len]; exact lj) (by rw [ni, nj, c])] at e
    · exact absurd e (ltasym (suf_num (by rw [red_len]; exact lj) (by rw [red_len]; exact li) (by rw [ni, nj]; exact c)))
/-! an order of the valleys gives the rows -/
def rkOf (os : List Nat) (v : Nat) : Nat := os.idxOf v
theorem rk_ok {os : List Nat} (hm : ∀ v, v ∈ os ↔ v ∈ vals xs) : Rk xs.length (lw xs) (rkOf os) := fun v w hv hw lv lw' e => by
  have m1 := (hm v).mpr (mem_vals.mpr ⟨hv, lv⟩)
  have m2 := (hm w).mpr (mem_vals.mpr ⟨hw, lw'⟩)
  have := getD_idx m1
  rw [show os.idxOf v = os.idxOf w from e, getD_idx m2] at this
  exact this.symm
/-- rows told by a table -/
theorem rows_tab {key' : Nat → Nat → Prop} {f : Nat → Int} {row' : Nat → Nat} {n : Nat} (hf : ∀ i, i < n → f (row' i) = i) (hon : ∀ k, k < n → ∃ i, i < n ∧ row' i = k) (hr : ∀ i j, i < n → j < n → row' i < row' j → key' i j) (hlt : ∀ i, i < n → row' i < n) :
    ((List.range n).map fun k => (f k).toNat).Perm (List.range n) ∧ ((List.range n).map fun k => (f k).toNat).Pairwise key' ∧ ∀ k, k < n → f k = (((f k).toNat : Nat) : Int) := by
  have h1 : ∀ k, k < n → ∃ i, i < n ∧ row' i = k ∧ f k = (i : Int) ∧ (f k).toNat = i := fun k hk => by
    obtain ⟨i, hi, e⟩ := hon k hk
    have := hf i hi
    rw [e] at this
    exact ⟨i, hi, e, this, by rw [this, Int.toNat_natCast]⟩
  refine ⟨?_, ?_, fun k hk => by obtain ⟨i, _, _, e, e2⟩ := h1 k hk; rw [e2]; exact e⟩
  · refine (List.perm_ext_iff_of_nodup ?_ List.nodup_range).mpr fun i => ?_
    · rw [List.nodup_iff_pairwise_ne, List.pairwise_map]
      refine List.Pairwise.imp_of_mem ?_ List.pairwise_lt_range
      intro a b ha hb hab e
      obtain ⟨i, _, e1, _, e2⟩ := h1 a (List.mem_range.mp ha)
      obtain ⟨j, _, e3, _, e4⟩ := h1 b (List.mem_range.mp hb)
      rw [e2, e4] at e
      subst e
      omega
    · rw [List.mem_map, List.mem_range]
      constructor
      · rintro ⟨k, hk, e⟩
        obtain ⟨j, hj, _, _, e2⟩ := h1 k (List.mem_range.mp hk)
        omega
      · intro hi
        exact ⟨row' i, List.mem_range.mpr (hlt i hi), by rw [hf i hi, Int.toNat_natCast]⟩
  · rw [List.pairwise_map]
    refine List.Pairwise.imp_of_mem ?_ List.pairwise_lt_range
    intro a b ha hb hab
    obtain ⟨i, hi, e1, _, e2⟩ := h1 a (List.mem_range.mp ha)
    obtain ⟨j, hj, e3, _, e4⟩ := h1 b (List.mem_range.mp hb)
    rw [e2, e4]
    exact hr i j hi hj (by omega)
/-- the first pass: the valleys among the rows are an order of the hills -/
theorem ord_of {os rs : List Nat} (hx : Inp xs) (hm : ∀ v, v ∈ os ↔ v ∈ vals xs) (hp : rs.Perm (List.range xs.length)) (hs : rs.Pairwise fun a b => key xs.length (nm xs) (lw xs) (rkOf os) a < key xs.length (nm xs) (lw xs) (rkOf os) b) :
    Ord xs (rs.filter fun i => decide (vly (lw xs) i)) := by
  refine ⟨(hp.nodup_iff.mpr List.nodup_range).filter _, fun v => ?_, ?_⟩
  · rw [List.mem_filter, hp.mem_iff, List.mem_range, decide_eq_true_iff, mem_vals]
  · refine List.Pairwise.filter _ (List.Pairwise.imp_of_mem ?_ hs)
    intro a b ha hb e
    exact hill_le hx.sx _ a b rfl (List.mem_range.mp (hp.mem_iff.mp ha)) (List.mem_range.mp (hp.mem_iff.mp hb)) e
/-- all hills differ: the order of the hills is that of the suffixes -/
theorem Ord.distinct {os : List Nat} (h : Ord xs os) (hx : Inp xs) (hd : na xs os (os.length - 1) + 1 = os.length) : os.Pairwise fun a b => xs.drop a < xs.drop b := by
  have step : ∀ i, i < os.length → na xs os i = i := by
    have back : ∀ d, d < os.length → na xs os (os.length - 1 - d) = os.length - 1 - d := by
      intro d
      induction d with
      | zero => intro _; rw [Nat.sub_zero]; omega
      | succ d ih =>
        intro hd2
        have ih := ih (by omega)
        have e : os.length - 1 - d = (os.length - 1 - (d + 1)) + 1 := by omega
        rw [e, na] at ih
        have := na_le (xs := xs) (os := os) (os.length - 1 - (d + 1))
        split at ih <;> omega
    intro i hi
    have := back (os.length - 1 - i) (by omega)
    rwa [show os.length - 1 - (os.length - 1 - i) = i by omega] at this
  rw [List.pairwise_iff_getElem]
  intro i j hi hj hij
  have := h.less hi hj (by rw [step i hi, step j hj]; exact hij)
  rw [List.getD_eq_getElem?_getD, List.getD_eq_getElem?_getD, List.getElem?_eq_getElem hi, List.getElem?_eq_getElem hj] at this
  have m1 := (mem_vals.mp ((h.mem _).mp (List.getElem_mem hi))).1
  have m2 := (mem_vals.mp ((h.mem _).mp (List.getElem_mem hj))).1
  exact hill_suf hx.sx _ _ _ rfl m1 m2 this
/-- the rows of the names order the valleys -/
theorem Ord.inner {os rs : List Nat} (h : Ord xs os) (hx : Inp xs) (h2 : 2 ≤ xs.length) (hr : Rows (red xs os) rs) : (∀ v, v ∈ rs.map (fun i => (vals xs).getD i 0) ↔ v ∈ vals xs) ∧ (rs.map fun i => (vals xs).getD i 0).Pairwise fun a b => xs.drop a < xs.drop b := by
  obtain ⟨hp, hs⟩ := hr
  rw [red_len] at hp
  have get : ∀ i, i ∈ rs → (vals xs)[i]? = some ((vals xs).getD i 0) := fun i hi => by
    have := List.mem_range.mp (hp.mem_iff.mp hi)
    rw [List.getD_eq_getElem?_getD, List.getElem?_eq_getElem this]
    rfl
  refine ⟨fun v => ?_, ?_⟩
  · rw [List.mem_map]
    constructor
    · rintro ⟨i, hi, rfl⟩
      exact List.mem_of_getElem? (get i hi)
    · intro hv
      obtain ⟨i, hi⟩ := List.mem_iff_getElem?.mp hv
      have hl := (List.getElem?_eq_some_iff.mp hi).1
      refine ⟨i, hp.mem_iff.mpr (List.mem_range.mpr hl), ?_⟩
      rw [List.getD_eq_getElem?_getD, hi]
      rfl
  · rw [List.pairwise_map]
    refine List.Pairwise.imp_of_mem ?_ hs
    intro a b ha hb e
    exact h.red_suf hx h2 _ a b _ _ rfl (get a ha) (get b hb) e
/-- an order by suffixes tells ranks by suffixes -/
theorem rk_suf {os : List Nat} (hm : ∀ v, v ∈ os ↔ v ∈ vals xs) (hs : os.Pairwise fun a b => xs.drop a < xs.drop b) (v w : Nat) (hv : v < xs.length) (hw : w < xs.length) (lv : vly (lw xs) v) (lw' : vly (lw xs) w) (e : rkOf os v < rkOf os w) : xs.drop v < xs.drop w := by
  have m1 := (hm v).mpr (mem_vals.mpr ⟨hv, lv⟩)
  have m2 := (hm w).mpr (mem_vals.mpr ⟨hw, lw'⟩)
  have l1 := List.idxOf_lt_length_of_mem m1
  have l2 := List.idxOf_lt_length_of_mem m2
  have := List.pairwise_iff_getElem.mp hs _ _ l1 l2 e
  simpa using this
end
end Sa

namespace Sa
/-! ### induced sorting: the depth, hills told apart, the order of integers -/
section
variable {xs : List Nat}
theorem vals_half : 2 * (vals xs).length ≤ xs.length := by
  have nd : (vals xs ++ (vals xs).map fun v => v - 1).Nodup := by
    rw [List.nodup_append]
    refine ⟨vals_nd, ?_, ?_⟩
    · rw [List.nodup_iff_pairwise_ne, List.pairwise_map]
      refine List.Pairwise.imp_of_mem ?_ vals_lt
      intro a b ha hb e
      have := (mem_vals.mp ha).2.1
      have := (mem_vals.mp hb).2.1
      omega
    · intro a ha b hb e
      obtain ⟨v, hv, rfl⟩ := List.mem_map.mp hb
      have h1 := (mem_vals.mp ha).2.2.1
      have h2 := (mem_vals.mp hv).2.2.2
      rw [e, h2] at h1
      cases h1
  have sb : (vals xs ++ (vals xs).map fun v => v - 1) ⊆ List.range xs.length := fun x hx => by
    rw [List.mem_range]
    rcases List.mem_append.mp hx with h | h
    · exact (mem_vals.mp h).1
    · obtain ⟨v, hv, rfl⟩ := List.mem_map.mp h
      have := (mem_vals.mp hv).1
      omega
  have := nd.length_le_of_subset sb
  rw [List.length_append, List.length_map, List.length_range] at this
  omega
/-- two hills, told apart step by step -/
structure Hp2 (xs : List Nat) (a b d e : Nat) : Prop where
  a0 : 0 < d
  a1 : a + d < xs.length
  a2 : vly (lw xs) (a + d)
  a3 : ∀ j, 0 < j → j < d → ¬ vly (lw xs) (a + j)
  a4 : hl xs a = (List.range (d + 1)).map fun j => code (nm xs) (lw xs) (a + j)
  b0 : 0 < e
  b1 : b + e < xs.length
  b2 : vly (lw xs) (b + e)
  b3 : ∀ j, 0 < j → j < e → ¬ vly (lw xs) (b + j)
  b4 : hl xs b = (List.range (e + 1)).map fun j => code (nm xs) (lw xs) (b + j)
theorem hp2 (hx : Inp xs) {a b : Nat} (ha : a + 1 < xs.length) (hb : b + 1 < xs.length) : ∃ d e, Hp2 xs a b d e := by
  obtain ⟨d, a0, a1, a2, a3, a4⟩ := hill_codes hx.sx _ a rfl ha
  obtain ⟨e, b0, b1, b2, b3, b4⟩ := hill_codes hx.sx _ b rfl hb
  exact ⟨d, e, a0, a1, a2, a3, a4, b0, b1, b2, b3, b4⟩
def Eqc (xs : List Nat) (a b : Nat) : Prop := nm xs a = nm xs b ∧ lw xs a = lw xs b
theorem eqc_vly {a b j : Nat} (h : ∀ i, i ≤ j → Eqc xs (a + i) (b + i)) (hj : 0 < j) : vly (lw xs) (a + j) ↔ vly (lw xs) (b + j) := by
  have h1 := (h j (Nat.le_refl _)).2
  have h2 := (h (j - 1) (by omega)).2
  unfold vly
  rw [show a + (j - 1) = a + j - 1 by omega, show b + (j - 1) = b + j - 1 by omega] at h2
  rw [h1, h2]
  exact ⟨fun z => ⟨by omega, z.2⟩, fun z => ⟨by omega, z.2⟩⟩
theorem Hp2.len {a b d e : Nat} (h : Hp2 xs a b d e) {t : Nat} (ht : t ≤ d) (hte : t ≤ e) (hq : ∀ i, i ≤ t → Eqc xs (a + i) (b + i)) : (t < d ∧ t < e ∧ ¬ (0 < t ∧ vly (lw xs) (a + t))) ∨ (t = d ∧ 0 < t ∧ vly (lw xs) (a + t) ∧ hl xs a = hl xs b) := by
  by_cases h0 : t = 0
  · left; exact ⟨by have := h.a0; omega, by have := h.b0; omega, fun z => by omega⟩
  have hv := eqc_vly hq (Nat.pos_of_ne_zero h0)
  by_cases e1 : t = d
  · right
    have h2 : vly (lw xs) (a + t) := e1 ▸ h.a2
    refine ⟨e1, by omega, h2, ?_⟩
    have e2 : t = e := by
      by_cases z : t = e
      · exact z
      · exact absurd (hv.mp h2) (h.b3 t (by omega) (by omega))
    rw [h.a4, h.b4, ← e1, ← e2]
    refine List.map_congr_left fun j hj => ?_
    have := List.mem_range.mp hj
    exact code_num.mpr (hq j (by omega))
  · left
    refine ⟨by omega, ?_, fun z => h.a3 t (by omega) (by omega) z.2⟩
    by_cases z : t = e
    · exact absurd (hv.mpr (z ▸ h.b2)) (h.a3 t (by omega) (by omega))
    · omega
theorem Hp2.ne {a b d e : Nat} (h : Hp2 xs a b d e) {t : Nat} (ht : t ≤ d) (hq : ¬ Eqc xs (a + t) (b + t)) : hl xs a ≠ hl xs b := fun z => by
  rw [h.a4, h.b4] at z
  have e1 : d = e := by
    have := congrArg List.length z
    rw [List.length_map, List.length_map, List.length_range, List.length_range] at this
    omega
  have := congrArg (fun l : List Nat => l[t]?) z
  simp only [List.getElem?_map, List.getElem?_range (show t < d + 1 by omega), List.getElem?_range (show t < e + 1 by omega), Option.map_some] at this
  exact hq (code_num.mp (Option.some.inj this))
/-- the last place's hill is like no other -/
theorem last_ne (hx : Inp xs) {a b : Nat} (ha : a < xs.length) (hb : b < xs.length) (hab : a ≠ b) (h : ¬ (a + 1 < xs.length ∧ b + 1 < xs.length)) : nm xs a ≠ nm xs b ∧ hl xs a ≠ hl xs b := by
  have s := hx.sx
  have h1 : nm xs a ≠ nm xs b := by
    by_cases z : a + 1 < xs.length
    · have e : b = xs.length - 1 := by omega
      have := hx.only a z
      rw [e, hx.last]
      omega
    · have e : a = xs.length - 1 := by omega
      have := hx.only b (by omega)
      rw [e, hx.last]
      omega
  refine ⟨h1, fun z => ?_⟩
  obtain ⟨t, e1⟩ := hill_head s ha
  obtain ⟨u, e2⟩ := hill_head s hb
  rw [show hl xs a = _ from e1, show hl xs b = _ from e2] at z
  exact h1 (code_num.mp (List.cons.inj z).1).1
end
/-! integers -/
/-- the starts of the suffixes in order -/
def SufRows (ns : List Int) (rs : List Nat) : Prop := rs.Perm (List.range ns.length) ∧ rs.Pairwise fun a b => ns.drop a < ns.drop b
theorem ilt_irr {l : List Int} : ¬ l < l := List.lt_irrefl l
theorem lift_lt {r : Int → Nat} {S : Int → Prop} (h0 : ∀ x, S x → 0 < r x) (h3 : ∀ x y, S x → S y → (r x < r y ↔ x < y)) : ∀ (l1 l2 : List Int), (∀ x ∈ l1, S x) → (∀ x ∈ l2, S x) → (l1.map r ++ [0] < l2.map r ++ [0] ↔ l1 < l2)
  | [], [], _, _ => ⟨fun h => absurd h ltirr, fun h => absurd h ilt_irr⟩
  | [], y :: l2, _, h2 => ⟨fun _ => List.nil_lt_cons .., fun _ => by
    rw [List.map_cons, List.cons_append, List.map_nil, List.nil_append, List.cons_lt_cons_iff]
    exact .inl (h0 y (h2 y List.mem_cons_self))⟩
  | x :: l1, [], h1, _ => ⟨fun h => by
    rw [List.map_cons, List.cons_append, List.map_nil, List.nil_append, List.cons_lt_cons_iff] at h
    have := h0 x (h1 x List.mem_cons_self)
    rcases h with h | h <;> omega, fun h => absurd h (List.not_lt_nil _)⟩
  | x :: l1, y :: l2, h1, h2 => by
    rw [List.map_cons, List.map_cons, List.cons_append, List.cons_append, List.cons_lt_cons_iff, List.cons_lt_cons_iff, lift_lt h0 h3 l1 l2 (fun z hz => h1 z (List.mem_cons_of_mem _ hz)) (fun z hz => h2 z (List.mem_cons_of_mem _ hz))]
    have sx := h1 x List.mem_cons_self
    have sy := h2 y List.mem_cons_self
    have e1 := h3 x y sx sy
    have e2 := h3 y x sy sx
    constructor
    · rintro (h | ⟨h, k⟩)
      · exact .inl (e1.mp h)
      · refine .inr ⟨?_, k⟩
        have a : ¬ x < y := fun z => by have := e1.mpr z; omega
        have b : ¬ y < x := fun z => by have := e2.mpr z; omega
        omega
    · rintro (h | ⟨h, k⟩)
      · exact .inl (e1.mpr h)
      · exact .inr ⟨by rw [h], k⟩
/-- rows of the ranks, without the first one, are the rows of the integers -/
theorem rows_of {ns : List Int} {r : Int → Nat} {S : Int → Prop} (hS : ∀ x ∈ ns, S x) (h0 : ∀ x, S x → 0 < r x) (h3 : ∀ x y, S x → S y → (r x < r y ↔ x < y)) {rs : List Nat} (h : Rows (ns.map r ++ [0]) rs) : ∃ t, rs = ns.length :: t ∧ SufRows ns t := by
  obtain ⟨hp, hs⟩ := h
  rw [List.length_append, List.length_map, List.length_singleton] at hp
  have dr : ∀ a, a ≤ ns.length → (ns.map r ++ [0]).drop a = (ns.drop a).map r ++ [0] := fun a ha => by
    rw [List.drop_append_of_le_length (by rw [List.length_map]; exact ha), List.map_drop]
  have lt' : ∀ a b, a ≤ ns.length → b ≤ ns.length → ((ns.map r ++ [0]).drop a < (ns.map r ++ [0]).drop b ↔ ns.drop a < ns.drop b) := fun a b ha hb => by
    rw [dr a ha, dr b hb]
    exact lift_lt h0 h3 _ _ (fun x hx => hS x (List.mem_of_mem_drop hx)) (fun x hx => hS x (List.mem_of_mem_drop hx))
  have mem : ∀ a, a ∈ rs ↔ a ≤ ns.length := fun a => by rw [hp.mem_iff, List.mem_range]; omega
  cases rs with
  | nil =>
    have := (mem 0).mpr (Nat.zero_le _)
    cases this
  | cons k t =>
    have hk := (mem k).mp List.mem_cons_self
    obtain ⟨hs1, hs2⟩ := List.pairwise_cons.mp hs
    have ek : k = ns.length := by
      rcases List.mem_cons.mp ((mem ns.length).mpr (Nat.le_refl _)) with e | e
      · exact e.symm
      · have := (lt' k ns.length hk (Nat.le_refl _)).mp (hs1 _ e)
        rw [List.drop_length] at this
        exact absurd this (List.not_lt_nil _)
    subst ek
    refine ⟨t, rfl, ?_, ?_⟩
    · have h1 : (ns.length :: t).Perm (ns.length :: List.range ns.length) := hp.trans (by rw [List.range_succ]; exact List.perm_append_singleton _ _)
      exact (List.perm_cons _).mp h1
    · refine List.Pairwise.imp_of_mem ?_ hs2
      intro a b ha hb e
      exact (lt' a b ((mem a).mp (List.mem_cons_of_mem _ ha)) ((mem b).mp (List.mem_cons_of_mem _ hb))).mp e
end Sa

namespace Mi
/-! ### tables told by functions -/
section
variable {α : Type}
def tab (n : Nat) (f : Nat → α) : List α := (List.range n).map f
theorem tab_len (n : Nat) (f : Nat → α) : (tab n f).length = n := by unfold tab; rw [List.length_map, List.length_range]
theorem tab_get {n i : Nat} {f : Nat → α} (h : i < n) : (tab n f)[i]? = some (f i) := by
  unfold tab
  rw [List.getElem?_map, List.getElem?_range h]
  rfl
theorem tab_pat {n i : Nat} {f : Nat → α} (h : i < n) : pat (tab n f) (i : Int) = some (f i) := pat_nat (tab_get h)
theorem tab_ext {n : Nat} {f : Nat → α} {l : List α} (hl : l.length = n) (h : ∀ i, i < n → l[i]? = some (f i)) : l = tab n f := by
  refine List.ext_getElem? fun i => ?_
  by_cases e : i < n
  · rw [h i e, tab_get e]
  · rw [List.getElem?_eq_none (by omega), List.getElem?_eq_none (by rw [tab_len]; omega)]
theorem tab_congr {n : Nat} {f g : Nat → α} (h : ∀ i, i < n → f i = g i) : tab n f = tab n g := List.map_congr_left fun i hi => h i (List.mem_range.mp hi)
theorem tab_set (n k : Nat) (f : Nat → α) (x : α) : (tab n f).set k x = tab n (Sa.up f k x) := by
  refine tab_ext (by rw [List.length_set, tab_len]) fun i hi => ?_
  by_cases e : i = k
  · subst e
    rw [List.getElem?_set_self (by rw [tab_len]; exact hi), Sa.up_at]
  · rw [List.getElem?_set_ne (fun z => e z.symm), Sa.up_ne e, tab_get hi]
theorem tab_pset {n k : Nat} {f : Nat → α} {x : α} (h : k < n) : pset (tab n f) (k : Int) x = some (tab n (Sa.up f k x)) := by rw [pset_nat (by rw [tab_len]; exact h), tab_set]
theorem tab_pget {n k : Nat} {f : Nat → α} (h : k < n) : pget (tab n f) (k : Int) = some (f k) := by
  unfold pget
  rw [if_pos (Int.natCast_nonneg k), Int.toNat_natCast, tab_get h]
theorem tab_const (n : Nat) (x : α) : prep [x] (n : Int) = tab n fun _ => x := by
  unfold prep
  rw [Int.toNat_natCast]
  refine tab_ext ?_ fun i hi => ?_
  · rw [List.length_flatten, List.map_replicate, List.length_singleton]
    simp
  · induction n generalizing i with
    | zero => omega
    | succ n ih =>
      rw [List.replicate_succ, List.flatten_cons]
      cases i with
      | zero => rfl
      | succ i => exact ih i (by omega)
theorem tab_cons (x : α) (n : Nat) (f : Nat → α) : x :: tab n f = tab (n + 1) fun i => match i with | 0 => x | j + 1 => f j := by
  refine tab_ext (by rw [List.length_cons, tab_len]) fun i hi => ?_
  cases i with
  | zero => rfl
  | succ j => rw [List.getElem?_cons_succ, tab_get (by omega)]
/-- whole numbers from 0 -/
def nls (xs : List Nat) : List Int := xs.map fun k : Nat => (k : Int)
theorem nls_len (xs : List Nat) : (nls xs).length = xs.length := List.length_map _
theorem nls_get {xs : List Nat} {i x : Nat} (h : xs[i]? = some x) : (nls xs)[i]? = some (x : Int) := by
  unfold nls
  rw [List.getElem?_map, h]
  rfl
theorem nls_pat {xs : List Nat} {i : Nat} (h : i < xs.length) : pat (nls xs) (i : Int) = some ((Sa.nm xs i : Nat) : Int) := by
  refine pat_nat (nls_get ?_)
  unfold Sa.nm
  rw [List.getD_eq_getElem?_getD, List.getElem?_eq_getElem h]
  rfl
theorem nls_at {xs : List Nat} {i : Nat} {y : Int} (h : (nls xs)[i]? = some y) : ∃ x, xs[i]? = some x ∧ y = (x : Int) := by
  unfold nls at h
  rw [List.getElem?_map] at h
  cases e : xs[i]? with
  | none => rw [e] at h; cases h
  | some x => rw [e] at h; exact ⟨x, rfl, (Option.some.inj h).symm⟩
theorem nls_eq {xs : List Int} (h : ∀ x ∈ xs, 0 ≤ x) : nls (xs.map Int.toNat) = xs := by
  unfold nls
  rw [List.map_map]
  have : ∀ x ∈ xs, ((fun k : Nat => (k : Int)) ∘ Int.toNat) x = x := fun x hx => by
    have := h x hx
    show ((x.toNat : Nat) : Int) = x
    omega
  rw [List.map_congr_left this, List.map_id']
end
end Mi

namespace Lw
open PySem PySem.Spec PyProof.Rows L2 Fw Mi Lb
section
variable {P : Program} {w : World} {K : PySem.W.Frag} {mg : Str → Option Value} {base : Heap}
noncomputable def m_lows_of (numbers : (List Int)) : Option (List Bool) := fin (κ := Unit) (ρ := Unit) (ob (ob ((ob (some true) fun x1 => pck (([x1] : List Bool).length ≤ sz) [x1])) fun x2 => (ob (some (numbers.length : Int)) fun y3 => (pck ((-9223372036854775808 ≤ y3 ∧ y3 < 9223372036854775808) ∧ x2.length * (y3).toNat ≤ sz) (prep x2 y3)))) fun lows => rb (ob (ob (some (((numbers.length : Int) - (2 : Int)), (-(1 : Int)), (-(1 : Int)), ())) fun z16 => (pck (z16.2.2.1 = -1 ∧ -4611686018427387904 ≤ z16.1 ∧ z16.1 < 4611686018427387904 ∧ -4611686018427387904 ≤ z16.2.1 ∧ z16.2.1 < 4611686018427387904) (prangeC z16.1 (-1) (z16.1 - z16.2.1).toNat))) fun xs17 => (forR (fun (x_ : Int) (γ : ((List Int) × (List Bool) × Unit)) => let at_ := x_; let numbers := γ.1; let lows := γ.2.1; rb ((ob (ob (pat numbers at_) fun x5 => (ob (pat numbers (at_ + (1 : Int))) fun y6 => some (decide (x5 = y6)))) fun b15 => if b15 = true then ((ob (pat lows (at_ + (1 : Int))) fun x8 => (ob (some at_) fun i9 => ob (pset lows i9 x8) fun w7 => some (.nxt (numbers, w7, at_, ()))))) else ((ob (ob (pat numbers at_) fun x10 => (ob (pat numbers (at_ + (1 : Int))) fun y11 => some (decide (x10 < y11)))) fun x13 => (ob (some at_) fun i14 => ob (pset lows i14 x13) fun w12 => some (.nxt (numbers, w12, at_, ()))))))) fun γ => let numbers := γ.1; let lows := γ.2.1; some (.nxt (numbers, lows, ()))) xs17 (numbers, lows, ()))) fun γ => let lows := γ.2.1; rb (some (.ret lows)) fun γ => some (.nxt γ))
abbrev sp_lows_of (K : PySem.W.Frag) : Sp := spM (aC (jL jI) aN) (sO jB) (fun γ => m_lows_of γ.1)
theorem ok_lows_of (T : Tx w K mg) : Dn P w K mg base 1 (He.ga K "lows_of") ["numbers"] (sp_lows_of K) := by
  refine dn_mk T.d_lows_of sc_lows_of (fun _ _ _ _ _ _ us hl => match us, hl with | [_], _ => rfl) (spM_len (an_C an_0)) fun cdv A outer s H vs Q E hr h => ?_
  refine ⟨_, (pss_cons (ps_set (i := 1) sc_lows_of.nd rfl (.inl rfl) (pe_op op_rep (pe_lst (pa_cons pe_bl pa_nil)) (pe_callB (lenQ_ (K := K)) (by rfl) T.z_len (by decide +kernel) (pa_cons (pv 0) pa_nil))))
      (pss_cons (ps_for PassesOwn.never rfl (pi_range3 (by rfl) T.z_range (pa_cons (pe_op op_sub (pe_callB (lenQ_ (K := K)) (by rfl) T.z_len (by decide +kernel) (pa_cons (pv 0) pa_nil)) pe_int) (pa_cons (pe_un un_neg pe_int) (pa_cons (pe_un un_neg pe_int) pa_nil)))) (pg_name (i := 2) sc_lows_of.nd rfl (.inl rfl))
      (pss_cons (ps_if (pt_cmpR op_eq (pe_ix (ixL_ (K := K)) (pv 0) (pv 2) (fun _ _ => rfl)) (pe_ix (ixL_ (K := K)) (pv 0) (pe_op op_add (pv 2) pe_int) (fun _ _ => rfl)) (nomark _))
      (pss_cons (ps_asg (pe_ix (ixL_ (K := K)) (pv 1) (pe_op op_add (pv 2) pe_int) (fun _ _ => rfl)) (pg_sub (pv 1) (pv 2) set_list))
      pss_nil)
      (pss_cons (ps_asg (pe_cmpR op_lt (pe_ix (ixL_ (K := K)) (pv 0) (pv 2) (fun _ _ => rfl)) (pe_ix (ixL_ (K := K)) (pv 0) (pe_op op_add (pv 2) pe_int) (fun _ _ => rfl)) (nomark _)) (pg_sub (pv 1) (pv 2) set_list))
      pss_nil))
      pss_nil))
      (pss_cons (ps_ret (pv 1))
      pss_nil))), ?_⟩
  refine fin_runX (E := (eC (sF (jL jI)) (eU (eU eN)))) (E' := eN) (ae_C (ae_U rfl (ae_U rfl ae_0))) (an_C an_0) rfl ?S h rfl
  exact ⟨_, (ss_asg (se_op (se_fz (se_lst (sl_cons se_bl sl_nil))) (se_cb (sa_cons (se_var g0) sa_nil) (sc_lenL (K := K))) s2_rep) (pS p0U) (ss_seq (ss_for (si_rm (sa_cons (se_op (se_cb (sa_cons (se_var g0) sa_nil) (sc_lenL (K := K))) se_int (s2_I0 (f := fun i j => i - j))) (sa_cons (se_un se_int (s1_U (f := fun i => -i))) (sa_cons (se_un se_int (s1_U (f := fun i => -i))) sa_nil)))) (sg_name (pS (pS p0U))) (ss_seq (ss_if (st_test (se_op (se_op (se_var g0) (se_var (gS (gS g0))) s2_ixL) (se_op (se_var g0) (se_op (se_var (gS (gS g0))) se_int (s2_I0 (f := fun i j => i + j))) s2_ixL) (s2_eqI))) (ss_setI (uS u0) (se_ixB (K := K) (sb_var (gS g0)) (se_op (se_var (gS (gS g0))) se_int (s2_I0 (f := fun i j => i + j)))) (se_var (gS (gS g0))) ss_nil) (ss_setI (uS u0) (se_op (se_op (se_var g0) (se_var (gS (gS g0))) s2_ixL) (se_op (se_var g0) (se_op (se_var (gS (gS g0))) se_int (s2_I0 (f := fun i j => i + j))) s2_ixL) (s2_C0 (f := fun i j => decide (i < j)))) (se_var (gS (gS g0))) ss_nil)) (ss_co (cK (cK (cF cId)))))) (ss_seq (ss_retO (gS g0)) ss_nil))), by exact rfl⟩
end
end Lw
namespace Lw
open PySem PySem.Spec PyProof.Rows L2 Fw Mi Lb
local macro_rules | `(tactic| walk_at "m") => `(tactic| simp only [pidx_one, pinS_one, pninS_one, W_some, W_none, W_ob, W_bind, W_pck, W_rb, W_fin, W_finN, W_T, W_F, W_Tr, W_Fa, Rw_nxt, Rw_ret, Rw_cnt, Rf_ret, Rf_nxt, RfN_ret, RfN_nxt, W_finU, RfU_nxt, W_finZ, W_finZN, RfZ_nxt, lcM_id, W_obx, Xf_ok, Xf_er, W_rbx, Xr_ok, Xr_er, W_okx, W_finNX, RfNX_ret, RfNX_nxt, W_finUX, RfUX_nxt, RfUX_er, W_trx, Xt_ok, Xt_er, decide_true, decide_false, Bool.not_true, Bool.not_false])
theorem w_lows {xs : List Nat} {Q : List Bool → Prop} (hl : xs.length ≤ 4000) (q : Q (tab xs.length (Sa.lw xs))) : W (m_lows_of (nls xs)) Q := by
  have hz : (4000 : Nat) ≤ sz := by unfold sz; omega
  unfold m_lows_of
  walk_at "m"
  rw [nls_len]
  refine ⟨by rw [List.length_singleton]; omega, ⟨⟨by omega, by omega⟩, by rw [List.length_singleton, Int.toNat_natCast]; omega⟩, ⟨trivial, by omega, by omega, by omega, by omega⟩, ?_⟩
  rw [tab_const]
  refine W_for (fun i γ => ∃ f : Nat → Bool, γ = (nls xs, tab xs.length f, ()) ∧ ∀ j, xs.length ≤ j + 1 + i → f j = Sa.lw xs j) ⟨_, rfl, fun j hj => (Sa.lw_end (by omega)).symm⟩ ?_ ?_
  · rintro i x γ hx ⟨f, rfl, hf⟩
    obtain ⟨rfl, hi⟩ := prangeC_get hx
    have hi2 : i + 1 < xs.length := by omega
    obtain ⟨k, hk⟩ : ∃ k : Nat, k + i + 2 = xs.length := ⟨xs.length - i - 2, by omega⟩
    rw [show (xs.length : Int) - 2 + (i : Int) * -1 = (k : Int) by omega]
    walk_at "m"
    rw [show ((k : Int) + 1) = ((k + 1 : Nat) : Int) by omega, nls_pat (by omega), nls_pat (by omega), tab_pat (by omega)]
    walk_at "m"
    have st := Sa.lw_step (xs := xs) (i := k) (by omega)
    have fin : ∀ b, b = Sa.lw xs k → ∃ f' : Nat → Bool, tab xs.length (Sa.up f k b) = tab xs.length f' ∧ ∀ j, xs.length ≤ j + 1 + (i + 1) → f' j = Sa.lw xs j := fun b hb => ⟨_, rfl, fun j hj => by
      by_cases e : j = k
      · rw [e, Sa.up_at, hb]
      · rw [Sa.up_ne e]; exact hf j (by omega)⟩
    refine W_ifD (fun h => ?_) (fun h => ?_)
    · walk_at "m"
      have e : pset (tab xs.length f) (k : Int) (f (k + 1)) = some (tab xs.length (Sa.up f k (f (k + 1)))) := tab_pset (by omega)
      rw [e]
      walk_at "m"
      obtain ⟨f', h1, h2⟩ := fin (f (k + 1)) (by rw [st, if_pos (by omega)]; exact hf _ (by omega))
      exact ⟨f', by rw [h1], h2⟩
    · walk_at "m"
      rw [tab_pset (by omega)]
      walk_at "m"
      obtain ⟨f', h1, h2⟩ := fin (decide ((Sa.nm xs k : Int) < (Sa.nm xs (k + 1) : Int))) (by rw [st, if_neg (by omega)]; exact decide_eq_decide.mpr (by omega))
      exact ⟨f', by rw [h1], h2⟩
  · rintro γ ⟨f, rfl, hf⟩
    walk_at "m"
    rw [prangeC_len] at hf
    rw [tab_congr (g := Sa.lw xs) fun j hj => hf j (by omega)]
    exact q

end Lw
namespace Lw
open PySem PySem.Spec PyProof.Rows L2 Fw Mi Lb
section
variable {P : Program} {w : World} {K : PySem.W.Frag} {mg : Str → Option Value} {base : Heap}
noncomputable def m_bucket_ends (numbers : (List Int)) (size : Int) : Option (List Int) := fin (κ := Unit) (ρ := Unit) (ob (ob ((ob (some (0 : Int)) fun x1 => pck (([x1] : List Int).length ≤ sz) [x1])) fun x2 => (ob (some size) fun y3 => (pck ((-9223372036854775808 ≤ y3 ∧ y3 < 9223372036854775808) ∧ x2.length * (y3).toNat ≤ sz) (prep x2 y3)))) fun ends => rb (ob (some numbers) fun xs13 => (forR (fun (x_ : Int) (γ : ((List Int) × Int × (List Int) × Unit)) => let number := x_; let numbers := γ.1; let size := γ.2.1; let ends := γ.2.2.1; (ob (some number) fun j6 => ob (pget ends j6) fun a5 => (ob (some (1 : Int)) fun y7 => let w4 := ends.set (j6).toNat (a5 + y7); some (.nxt (numbers, size, w4, ()))))) xs13 (numbers, size, ends, ()))) fun γ => let numbers := γ.1; let size := γ.2.1; let ends := γ.2.2.1; ob (some (0 : Int)) fun total => rb (ob (ob (some (size, ())) fun z => (pck (-4611686018427387904 ≤ z.1 ∧ z.1 < 4611686018427387904) (prange z.1))) fun xs12 => (forR (fun (x_ : Int) (γ : ((List Int) × Int × (List Int) × Int × Unit)) => let number := x_; let numbers := γ.1; let size := γ.2.1; let ends := γ.2.2.1; let total := γ.2.2.2.1; (ob (pat ends number) fun y11 => let total := total + y11; (ob (some total) fun x9 => (ob (some number) fun i10 => ob (pset ends i10 x9) fun w8 => some (.nxt (numbers, size, w8, total, ())))))) xs12 (numbers, size, ends, total, ()))) fun γ => let ends := γ.2.2.1; rb (some (.ret ends)) fun γ => some (.nxt γ))
abbrev sp_bucket_ends (K : PySem.W.Frag) : Sp := spM (aC (jL jI) (aC jI aN)) (sO jI) (fun γ => m_bucket_ends γ.1 γ.2.1)
theorem ok_bucket_ends (T : Tx w K mg) : Dn P w K mg base 1 (He.ga K "bucket_ends") ["numbers", "size"] (sp_bucket_ends K) := by
  refine dn_mk T.d_bucket_ends sc_bucket_ends (fun _ _ _ _ _ _ us hl => match us, hl with | [_, _], _ => rfl) (spM_len (an_C (an_C an_0))) fun cdv A outer s H vs Q E hr h => ?_
  refine ⟨_, (pss_cons (ps_set (i := 2) sc_bucket_ends.nd rfl (.inl rfl) (pe_op op_rep (pe_lst (pa_cons pe_int pa_nil)) (pv 1)))
      (pss_cons (ps_for PassesOwn.never rfl (iL_ (K := K) (pv 0)) (pg_name (i := 3) sc_bucket_ends.nd rfl (.inl rfl))
      (pss_cons (ps_augS (pv 2) (pv 3) (getL_ (K := K)) pe_int ip_add set_list)
      pss_nil))
      (pss_cons (ps_set (i := 4) sc_bucket_ends.nd rfl (.inl rfl) pe_int)
      (pss_cons (ps_for PassesOwn.never rfl (pi_range1 (by rfl) T.z_range (pa_cons (pv 1) pa_nil)) (pg_name (i := 3) sc_bucket_ends.nd rfl (.inl rfl))
      (pss_cons (ps_aug (i := 4) sc_bucket_ends.nd rfl (.inl rfl) (pe_ix (ixL_ (K := K)) (pv 2) (pv 3) (fun _ _ => rfl)) ip_add)
      (pss_cons (ps_asg (pv 4) (pg_sub (pv 2) (pv 3) set_list))
      pss_nil)))
      (pss_cons (ps_ret (pv 2))
      pss_nil))))), ?_⟩
  refine fin_runX (E := (eC (sF (jL jI)) (eC (sF jI) (eU (eU (eU eN)))))) (E' := eN) (ae_C (ae_C (ae_U rfl (ae_U rfl (ae_U rfl ae_0))))) (an_C (an_C an_0)) rfl ?S h rfl
  exact ⟨_, (ss_asg (se_op (se_fz (se_lst (sl_cons se_int sl_nil))) (se_var (gS g0)) s2_rep) (pS (pS p0U)) (ss_seq (ss_for (si_list (se_var g0)) (sg_name (pS (pS (pS p0U)))) (ss_augI (K := K) (f := fun i j => i + j) (uS (uS u0)) (se_var (gS (gS (gS g0)))) se_int (ss_co (cK (cK (cK (cF cId))))))) (ss_asg se_int (pS (pS (pS (pU p0U)))) (ss_seq (ss_for (si_r1 (sa_cons (se_var (gS g0)) sa_nil)) (sg_name (pS (pS (pS p0U)))) (ss_aug (f := fun i j => i + j) (gS (gS (gS (gS g0)))) (se_ixB (K := K) (sb_var (gS (gS g0))) (se_var (gS (gS (gS g0))))) (pS (pS (pS (pS p0)))) (ss_setI (uS (uS u0)) (se_var (gS (gS (gS (gS g0))))) (se_var (gS (gS (gS g0)))) (ss_co (cK (cK (cK (cF cId)))))))) (ss_seq (ss_retO (gS (gS g0))) ss_nil))))), by exact rfl⟩
end
end Lw
namespace Lw
open PySem PySem.Spec PyProof.Rows L2 Fw Mi Lb
local macro_rules | `(tactic| walk_at "m") => `(tactic| simp only [pidx_one, pinS_one, pninS_one, W_some, W_none, W_ob, W_bind, W_pck, W_rb, W_fin, W_finN, W_T, W_F, W_Tr, W_Fa, Rw_nxt, Rw_ret, Rw_cnt, Rf_ret, Rf_nxt, RfN_ret, RfN_nxt, W_finU, RfU_nxt, W_finZ, W_finZN, RfZ_nxt, lcM_id, W_obx, Xf_ok, Xf_er, W_rbx, Xr_ok, Xr_er, W_okx, W_finNX, RfNX_ret, RfNX_nxt, W_finUX, RfUX_nxt, RfUX_er, W_trx, Xt_ok, Xt_er, decide_true, decide_false, Bool.not_true, Bool.not_false])
theorem up_cast {f : Nat → Nat} {k x : Nat} : Sa.up (fun c => ((f c : Nat) : Int)) k (x : Int) = fun c => ((Sa.up f k x c : Nat) : Int) := by
  funext c
  unfold Sa.up
  split <;> rfl
theorem w_buckets {xs : List Nat} {s : Nat} {Q : List Int → Prop} (hl : xs.length ≤ 4000) (hs : s ≤ 4001) (hx : ∀ i, i < xs.length → Sa.nm xs i < s) (q : Q (tab s fun c => ((Sa.bE xs.length (Sa.nm xs) c : Nat) : Int))) : W (m_bucket_ends (nls xs) (s : Int)) Q := by
  have hz : (4001 : Nat) ≤ sz := by unfold sz; omega
  unfold m_bucket_ends
  walk_at "m"
  refine ⟨by rw [List.length_singleton]; omega, ⟨⟨by omega, by omega⟩, by rw [List.length_singleton, Int.toNat_natCast]; omega⟩, ?_⟩
  rw [tab_const]
  refine W_for (fun i γ => γ = (nls xs, (s : Int), tab s (fun c => ((Sa.cnt i (fun j => Sa.nm xs j = c) : Nat) : Int)), ())) rfl ?_ ?_
  · rintro i x γ hx' rfl
    obtain ⟨y, hy, rfl⟩ := nls_at hx'
    have hi := (List.getElem?_eq_some_iff.mp hy).1
    have ey : y = Sa.nm xs i := by unfold Sa.nm; rw [List.getD_eq_getElem?_getD, hy]; rfl
    have hys : y < s := by rw [ey]; exact hx i hi
    walk_at "m"
    rw [tab_pget hys]
    walk_at "m"
    rw [Int.toNat_natCast, tab_set, show ((Sa.cnt i (fun j => Sa.nm xs j = y) : Nat) : Int) + 1 = ((Sa.cnt i (fun j => Sa.nm xs j = y) + 1 : Nat) : Int) by omega, up_cast]
    refine congrArg (fun t => (nls xs, (s : Int), t, ())) (tab_congr fun c _ => ?_)
    by_cases e : c = y
    · subst e
      rw [Sa.up_at, Sa.cnt_yes (n := i) (P := fun j => Sa.nm xs j = c) ey.symm]
    · rw [Sa.up_ne e, Sa.cnt_not (n := i) (P := fun j => Sa.nm xs j = c) (by rw [← ey]; exact fun z => e z.symm)]
  · rintro γ rfl
    rw [nls_len]
    walk_at "m"
    refine ⟨⟨by omega, by omega⟩, ?_⟩
    refine W_for (fun i γ => γ = (nls xs, (s : Int), tab s (fun c => ((if c < i then Sa.bE xs.length (Sa.nm xs) c else Sa.cnt xs.length (fun j => Sa.nm xs j = c) : Nat) : Int)), ((Sa.bB xs.length (Sa.nm xs) i : Nat) : Int), ())) ?_ ?_ ?_
    · rw [Sa.bB_0]
      refine congrArg (fun t => (nls xs, (s : Int), t, ((0 : Nat) : Int), ())) (tab_congr fun c _ => ?_)
      rw [if_neg (Nat.not_lt_zero c)]
    · rintro i x γ hx' rfl
      obtain ⟨rfl, hi⟩ := prange_get hx'
      have his : i < s := by omega
      walk_at "m"
      rw [tab_pat his]
      walk_at "m"
      rw [if_neg (Nat.lt_irrefl i)]
      have e1 : Sa.bE xs.length (Sa.nm xs) i = Sa.bB xs.length (Sa.nm xs) i + Sa.cnt xs.length (fun j => Sa.nm xs j = i) := Sa.cnt_add (fun j _ => by omega) (fun j _ a b => by omega)
      have e2 := Sa.bE_B (n := xs.length) (num := Sa.nm xs) i
      rw [show ((Sa.bB xs.length (Sa.nm xs) i : Nat) : Int) + ((Sa.cnt xs.length (fun j => Sa.nm xs j = i) : Nat) : Int) = ((Sa.bE xs.length (Sa.nm xs) i : Nat) : Int) by omega]
      rw [tab_pset his, up_cast]
      walk_at "m"
      rw [← e2]
      refine congrArg (fun t => (nls xs, (s : Int), t, ((Sa.bE xs.length (Sa.nm xs) i : Nat) : Int), ())) (tab_congr fun c _ => ?_)
      by_cases e : c = i
      · subst e
        rw [Sa.up_at, if_pos (Nat.lt_succ_self c)]
      · rw [Sa.up_ne e]
        by_cases h2 : c < i
        · rw [if_pos h2, if_pos (by omega)]
        · rw [if_neg h2, if_neg (by omega)]
    · rintro γ rfl
      walk_at "m"
      rw [prange_len, Int.toNat_natCast]
      rw [tab_congr (g := fun c => ((Sa.bE xs.length (Sa.nm xs) c : Nat) : Int)) fun c hc => by rw [if_pos hc]]
      exact q

end Lw
namespace Lw
open PySem PySem.Spec PyProof.Rows L2 Fw Mi Lb
section
variable {P : Program} {w : World} {K : PySem.W.Frag} {mg : Str → Option Value} {base : Heap}
noncomputable def m_put_at_ends (numbers : (List Int)) (size : Int) (starts : (List Int)) : Option (List Int) := fin (κ := Unit) (ρ := Unit) (ob (ob ((ob (some (-(1 : Int))) fun x1 => pck (([x1] : List Int).length ≤ sz) [x1])) fun x2 => (ob (some (numbers.length : Int)) fun y3 => (pck ((-9223372036854775808 ≤ y3 ∧ y3 < 9223372036854775808) ∧ x2.length * (y3).toNat ≤ sz) (prep x2 y3)))) fun rows => ob (ob (some (numbers, size, ())) fun z4 => (m_bucket_ends z4.1 z4.2.1)) fun ends => rb (ob (some ((starts).reverse)) fun xs12 => (forR (fun (x_ : Int) (γ : ((List Int) × Int × (List Int) × (List Int) × (List Int) × Unit)) => let start := x_; let numbers := γ.1; let size := γ.2.1; let starts := γ.2.2.1; let rows := γ.2.2.2.1; let ends := γ.2.2.2.2.1; ob (pat numbers start) fun number => (ob (some number) fun j10 => ob (pget ends j10) fun a9 => (ob (some (1 : Int)) fun y11 => let w5 := ends.set (j10).toNat (a9 - y11); (ob (some start) fun x7 => (ob (pat w5 number) fun i8 => ob (pset rows i8 x7) fun w6 => some (.nxt (numbers, size, starts, w6, w5, ()))))))) xs12 (numbers, size, starts, rows, ends, ()))) fun γ => let rows := γ.2.2.2.1; rb (some (.ret rows)) fun γ => some (.nxt γ))
abbrev sp_put_at_ends (K : PySem.W.Frag) : Sp := spM (aC (jL jI) (aC jI (aC (jL jI) aN))) (sO jI) (fun γ => m_put_at_ends γ.1 γ.2.1 γ.2.2.1)
theorem ok_put_at_ends (T : Tx w K mg) : Dn P w K mg base 2 (He.ga K "put_at_ends") ["numbers", "size", "starts"] (sp_put_at_ends K) := by
  obtain ⟨fd_bucket_ends, G_bucket_ends, b_bucket_ends, kp_bucket_ends, _⟩ := ok_bucket_ends (P := P) (w := w) (base := base) T
  refine dn_mk T.d_put_at_ends sc_put_at_ends (fun _ _ _ _ _ _ us hl => match us, hl with | [_, _, _], _ => rfl) (spM_len (an_C (an_C (an_C an_0)))) fun cdv A outer s H vs Q E hr h => ?_
  refine ⟨_, (pss_cons (ps_set (i := 3) sc_put_at_ends.nd rfl (.inl rfl) (pe_op op_rep (pe_lst (pa_cons (pe_un un_neg pe_int) pa_nil)) (pe_callB (lenQ_ (K := K)) (by rfl) T.z_len (by decide +kernel) (pa_cons (pv 0) pa_nil))))
      (pss_cons (ps_set (i := 4) sc_put_at_ends.nd rfl (.inl rfl) (pe_call G_bucket_ends (hr.mono (by decide)) (by rfl) T.g_bucket_ends kp_bucket_ends b_bucket_ends .nil pass0 (pa_cons (pv 0) (pa_cons (pv 1) pa_nil))))
      (pss_cons (ps_for PassesOwn.never rfl (rev_ (K := K) (by rfl) T.z_reversed (pa_cons (pv 2) pa_nil)) (pg_name (i := 5) sc_put_at_ends.nd rfl (.inl rfl))
      (pss_cons (ps_set (i := 6) sc_put_at_ends.nd rfl (.inl rfl) (pe_ix (ixL_ (K := K)) (pv 0) (pv 5) (fun _ _ => rfl)))
      (pss_cons (ps_augS (pv 4) (pv 6) (getL_ (K := K)) pe_int ip_sub set_list)
      (pss_cons (ps_asg (pv 5) (pg_sub (pv 3) (pe_ix (ixL_ (K := K)) (pv 4) (pv 6) (fun _ _ => rfl)) set_list))
      pss_nil))))
      (pss_cons (ps_ret (pv 3))
      pss_nil)))), ?_⟩
  refine fin_runX (E := (eC (sF (jL jI)) (eC (sF jI) (eC (sF (jL jI)) (eU (eU (eU (eU eN)))))))) (E' := eN) (ae_C (ae_C (ae_C (ae_U rfl (ae_U rfl (ae_U rfl (ae_U rfl ae_0))))))) (an_C (an_C (an_C an_0))) rfl ?S h rfl
  exact ⟨_, (ss_asg (se_op (se_fz (se_lst (sl_cons (se_un se_int (s1_U (f := fun i => -i))) sl_nil))) (se_cb (sa_cons (se_var g0) sa_nil) (sc_lenL (K := K))) s2_rep) (pS (pS (pS p0U))) (ss_asg (se_call (sa_cons (se_var g0) (sa_cons (se_var (gS g0)) sa_nil))) (pS (pS (pS (pS p0U)))) (ss_seq (ss_for (si_rev (sa_cons (se_var (gS (gS g0))) sa_nil)) (sg_name (pS (pS (pS (pS (pS p0U)))))) (ss_asg (se_op (se_var g0) (se_var (gS (gS (gS (gS (gS g0)))))) s2_ixL) (pS (pS (pS (pS (pS (pS p0U)))))) (ss_augI (K := K) (f := fun i j => i - j) (uS (uS (uS (uS u0)))) (se_var (gS (gS (gS (gS (gS (gS g0))))))) se_int (ss_setI (uS (uS (uS u0))) (se_var (gS (gS (gS (gS (gS g0)))))) (se_ixB (K := K) (sb_var (gS (gS (gS (gS g0))))) (se_var (gS (gS (gS (gS (gS (gS g0)))))))) (ss_co (cK (cK (cK (cK (cK (cF (cF cId)))))))))))) (ss_seq (ss_retO (gS (gS (gS g0)))) ss_nil)))), by exact rfl⟩
end
end Lw
namespace Lw
open PySem PySem.Spec PyProof.Rows L2 Fw Mi Lb
local macro_rules | `(tactic| walk_at "m") => `(tactic| simp only [pidx_one, pinS_one, pninS_one, W_some, W_none, W_ob, W_bind, W_pck, W_rb, W_fin, W_finN, W_T, W_F, W_Tr, W_Fa, Rw_nxt, Rw_ret, Rw_cnt, Rf_ret, Rf_nxt, RfN_ret, RfN_nxt, W_finU, RfU_nxt, W_finZ, W_finZN, RfZ_nxt, lcM_id, W_obx, Xf_ok, Xf_er, W_rbx, Xr_ok, Xr_er, W_okx, W_finNX, RfNX_ret, RfNX_nxt, W_finUX, RfUX_nxt, RfUX_er, W_trx, Xt_ok, Xt_er, decide_true, decide_false, Bool.not_true, Bool.not_false])
theorem nls_rev (os : List Nat) : (nls os).reverse = nls os.reverse := by unfold nls; rw [List.map_reverse]
theorem w_putends {xs os : List Nat} {s : Nat} {Q : List Int → Prop} (hl : xs.length ≤ 4000) (hs : s ≤ 4001) (hx : ∀ i, i < xs.length → Sa.nm xs i < s) (hi : Sa.Inp xs) (nd : os.Nodup) (hm : ∀ v, v ∈ os ↔ v ∈ Sa.vals xs)
    (q : ∀ f en, Sa.PE xs.length (Sa.nm xs) (Sa.lw xs) (Sa.rkOf os) 0 f en → Q (tab xs.length f)) : W (m_put_at_ends (nls xs) (s : Int) (nls os)) Q := by
  have hz : (4001 : Nat) ≤ sz := by unfold sz; omega
  have sx := hi.sx
  have rk := Sa.rk_ok hm
  unfold m_put_at_ends
  walk_at "m"
  rw [nls_len]
  refine ⟨by rw [List.length_singleton]; omega, ⟨⟨by omega, by omega⟩, by rw [List.length_singleton, Int.toNat_natCast]; omega⟩, ?_⟩
  rw [tab_const, nls_rev]
  refine w_buckets hl hs hx ?_
  refine W_for (fun i γ => ∃ f en, γ = (nls xs, (s : Int), nls os, tab xs.length f, tab s (fun c => ((en c : Nat) : Int)), ()) ∧ Sa.PE xs.length (Sa.nm xs) (Sa.lw xs) (Sa.rkOf os) (os.length - i) f en) ⟨_, _, rfl, Sa.PE.start _ fun v hv l => List.idxOf_lt_length_of_mem ((hm v).mpr (Sa.mem_vals.mpr ⟨hv, l⟩))⟩ ?_ ?_
  · rintro i x γ hx' ⟨f, en, rfl, hp⟩
    obtain ⟨v, hv, rfl⟩ := nls_at hx'
    have hil := (List.getElem?_eq_some_iff.mp hv).1
    rw [List.length_reverse] at hil
    rw [List.getElem?_reverse hil] at hv
    obtain ⟨hg, ev⟩ := List.getElem?_eq_some_iff.mp hv
    have mv := Sa.mem_vals.mp ((hm v).mp (List.mem_of_getElem? hv))
    have rv : Sa.rkOf os v = os.length - (i + 1) := by
      unfold Sa.rkOf
      rw [← ev, nd.idxOf_getElem]
      omega
    obtain ⟨h1, h2, h3⟩ := Sa.PE.step sx rk (r := os.length - (i + 1)) (by rw [show os.length - (i + 1) + 1 = os.length - i by omega]; exact hp) mv.1 mv.2 rv
    have hns := hx v mv.1
    walk_at "m"
    rw [nls_pat mv.1]
    walk_at "m"
    rw [tab_pget hns]
    walk_at "m"
    rw [Int.toNat_natCast, tab_set, show ((en (Sa.nm xs v) : Nat) : Int) - 1 = ((en (Sa.nm xs v) - 1 : Nat) : Int) by omega, up_cast, tab_pat hns, Sa.up_at]
    walk_at "m"
    rw [tab_pset h1]
    walk_at "m"
    exact ⟨_, _, rfl, h3⟩
  · rintro γ ⟨f, en, rfl, hp⟩
    rw [nls_len, List.length_reverse, Nat.sub_self] at hp
    walk_at "m"
    exact q f en hp

end Lw
namespace Lw
open PySem PySem.Spec PyProof.Rows L2 Fw Mi Lb
section
variable {P : Program} {w : World} {K : PySem.W.Frag} {mg : Str → Option Value} {base : Heap}
noncomputable def m_put_high (numbers : (List Int)) (size : Int) (lows : (List Bool)) (rows : (List Int)) : Option (List Int) := finU (κ := Unit) (β := Unit) (ρ := ((List Int) × Int × (List Bool) × (List Int) × (List Int) × Unit)) (fun (γ : ((List Int) × Int × (List Bool) × (List Int) × (List Int) × Unit)) => γ.2.2.2.1) (ob (ob ((ob (some (0 : Int)) fun x1 => pck (([x1] : List Int).length ≤ sz) [x1])) fun x3 => (ob (ob (some (numbers, size, ())) fun z2 => (m_bucket_ends z2.1 z2.2.1)) fun y4 => (pck (x3.length + y4.length ≤ sz) (x3 ++ y4)))) fun heads => rb (ob (ob (some ((rows.length : Int), ())) fun z => (pck (-4611686018427387904 ≤ z.1 ∧ z.1 < 4611686018427387904) (prange z.1))) fun xs17 => (forR (fun (x_ : Int) (γ : ((List Int) × Int × (List Bool) × (List Int) × (List Int) × Unit)) => let row := x_; let numbers := γ.1; let size := γ.2.1; let lows := γ.2.2.1; let rows := γ.2.2.2.1; let heads := γ.2.2.2.2.1; ob (ob (pat rows row) fun x5 => (ob (some (1 : Int)) fun y6 => some (x5 - y6))) fun start => rb ((ob ((ob (some (decide ((0 : Int) ≤ start))) fun b8 => if b8 = true then (ob (pat lows start) fun x7 => some (!x7)) else some false)) fun b16 => if b16 = true then (ob (pat numbers start) fun number => (ob (some start) fun x14 => (ob (pat heads number) fun i15 => ob (pset rows i15 x14) fun w9 => (ob (some number) fun j12 => ob (pget heads j12) fun a11 => (ob (some (1 : Int)) fun y13 => let w10 := heads.set (j12).toNat (a11 + y13); some (.nxt (numbers, size, lows, w9, w10, row, start, ()))))))) else (some (.nxt (numbers, size, lows, rows, heads, row, start, ()))))) fun γ => let numbers := γ.1; let size := γ.2.1; let lows := γ.2.2.1; let rows := γ.2.2.2.1; let heads := γ.2.2.2.2.1; some (.nxt (numbers, size, lows, rows, heads, ()))) xs17 (numbers, size, lows, rows, heads, ()))) fun γ => let numbers := γ.1; let size := γ.2.1; let lows := γ.2.2.1; let rows := γ.2.2.2.1; let heads := γ.2.2.2.2.1; some (.nxt (numbers, size, lows, rows, heads, ())))
abbrev sp_put_high (K : PySem.W.Frag) : Sp := spU (uC (jL jI) (uC jI (uC (jL jB) (uH aN)))) jI (fun xs γ => m_put_high γ.1 γ.2.1 γ.2.2.1 xs)
theorem ok_put_high (T : Tx w K mg) : Dn P w K mg base 2 (He.ga K "put_high") ["numbers", "size", "lows", "rows"] (sp_put_high K) := by
  obtain ⟨fd_bucket_ends, G_bucket_ends, b_bucket_ends, kp_bucket_ends, _⟩ := ok_bucket_ends (P := P) (w := w) (base := base) T
  refine dn_mk T.d_put_high sc_put_high (fun _ _ _ _ _ _ us hl => match us, hl with | [_, _, _, _], _ => rfl) (spU_len (aun_C (aun_C (aun_C (aun_H an_0))))) fun cdv A outer s H vs Q E hr h => ?_
  refine ⟨_, (pss_cons (ps_set (i := 4) sc_put_high.nd rfl (.inl rfl) (pe_op op_cat (pe_lst (pa_cons pe_int pa_nil)) (pe_call G_bucket_ends (hr.mono (by decide)) (by rfl) T.g_bucket_ends kp_bucket_ends b_bucket_ends .nil pass0 (pa_cons (pv 0) (pa_cons (pv 1) pa_nil)))))
      (pss_cons (ps_for PassesOwn.never rfl (pi_range1 (by rfl) T.z_range (pa_cons (pe_callB (lenQ_ (K := K)) (by rfl) T.z_len (by decide +kernel) (pa_cons (pv 3) pa_nil)) pa_nil)) (pg_name (i := 5) sc_put_high.nd rfl (.inl rfl))
      (pss_cons (ps_set (i := 6) sc_put_high.nd rfl (.inl rfl) (pe_op op_sub (pe_ix (ixL_ (K := K)) (pv 3) (pv 5) (fun _ _ => rfl)) pe_int))
      (pss_cons (ps_if (PW.pt (pw_and (pt_cmpR op_ge (pv 6) pe_int (nomark _)) (pw_and1 (pt_not (pt_val (pe_ix (ixL_ (K := K)) (pv 2) (pv 6) (fun _ _ => rfl)))))))
      (pss_cons (ps_set (i := 7) sc_put_high.nd rfl (.inl rfl) (pe_ix (ixL_ (K := K)) (pv 0) (pv 6) (fun _ _ => rfl)))
      (pss_cons (ps_asg (pv 6) (pg_sub (pv 3) (pe_ix (ixL_ (K := K)) (pv 4) (pv 7) (fun _ _ => rfl)) set_list))
      (pss_cons (ps_augS (pv 4) (pv 7) (getL_ (K := K)) pe_int ip_add set_list)
      pss_nil)))
      pss_nil)
      pss_nil)))
      pss_nil)), ?_⟩
  refine finU_runX (E0 := fun pp => (eC (sF (jL jI)) (eC (sF jI) (eC (sF (jL jB)) (eC (sOA pp jI) (eU (eU (eU (eU eN))))))))) (E1 := fun pp => (eC (sF (jL jI)) (eC (sF jI) (eC (sF (jL jB)) (eC (sOA pp jI) (eC (sO jI) (eU (eU (eU eN))))))))) (g := fun (γ : ((List Int) × Int × (List Bool) × (List Int) × (List Int) × Unit)) => γ.2.2.2.1) (fun _ => (aue_C (aue_C (aue_C (aue_H (ae_U rfl (ae_U rfl (ae_U rfl (ae_U rfl ae_0))))))))) (aun_C (aun_C (aun_C (aun_H an_0)))) rfl (fun _ => (gS (gS (gS g0)))) ?S h rfl
  exact fun pp => ⟨_, (ss_asg (se_op (se_fz (se_lst (sl_cons se_int sl_nil))) (se_fz (se_call (sa_cons (se_var g0) (sa_cons (se_var (gS g0)) sa_nil)))) s2_cat) (pS (pS (pS (pS p0U)))) (ss_seq (ss_for (si_r1 (sa_cons (se_cbR (sra_cons (sr_var (gA (gS (gS (gS g0))))) sra_nil) (sc_lenL (K := K)) scI) sa_nil)) (sg_name (pS (pS (pS (pS (pS p0U)))))) (ss_asg (se_op (se_ixB (K := K) (sb_var (gA (gS (gS (gS g0))))) (se_var (gS (gS (gS (gS (gS g0))))))) se_int (s2_I0 (f := fun i j => i - j))) (pS (pS (pS (pS (pS (pS p0U)))))) (ss_seq (ss_if (st_and (st_test (se_op (se_var (gS (gS (gS (gS (gS (gS g0))))))) se_int (s2_C0 (f := fun i j => decide (j ≤ i))))) (st_not (st_B (se_op (se_var (gS (gS g0))) (se_var (gS (gS (gS (gS (gS (gS g0))))))) s2_ixL)))) (ss_asg (se_op (se_var g0) (se_var (gS (gS (gS (gS (gS (gS g0))))))) s2_ixL) (pS (pS (pS (pS (pS (pS (pS p0U))))))) (ss_setI (uS (uS (uS u0A))) (se_var (gS (gS (gS (gS (gS (gS g0))))))) (se_ixB (K := K) (sb_var (gS (gS (gS (gS g0))))) (se_var (gS (gS (gS (gS (gS (gS (gS g0))))))))) (ss_augI (K := K) (f := fun i j => i + j) (uS (uS (uS (uS u0)))) (se_var (gS (gS (gS (gS (gS (gS (gS g0)))))))) se_int (ss_co (cK (cK (cK (cK (cK (cK (cK (cF cId)))))))))))) ss_nil) (ss_co (cK (cK (cK (cK (cK (cF (cF cId))))))))))) ss_nil)), by exact rfl⟩
end
end Lw
namespace Lw
open PySem PySem.Spec PyProof.Rows L2 Fw Mi Lb
local macro_rules | `(tactic| walk_at "m") => `(tactic| simp only [pidx_one, pinS_one, pninS_one, W_some, W_none, W_ob, W_bind, W_pck, W_rb, W_fin, W_finN, W_T, W_F, W_Tr, W_Fa, Rw_nxt, Rw_ret, Rw_cnt, Rf_ret, Rf_nxt, RfN_ret, RfN_nxt, W_finU, RfU_nxt, W_finZ, W_finZN, RfZ_nxt, lcM_id, W_obx, Xf_ok, Xf_er, W_rbx, Xr_ok, Xr_er, W_okx, W_finNX, RfNX_ret, RfNX_nxt, W_finUX, RfUX_nxt, RfUX_er, W_trx, Xt_ok, Xt_er, decide_true, decide_false, Bool.not_true, Bool.not_false])
theorem w_puthigh {xs os : List Nat} {s : Nat} {f : Nat → Int} {en : Nat → Nat} {Q : List Int → Prop} (hl : xs.length ≤ 4000) (hs : s ≤ 4001) (hx : ∀ i, i < xs.length → Sa.nm xs i < s) (hi : Sa.Inp xs) (hm : ∀ v, v ∈ os ↔ v ∈ Sa.vals xs)
    (hp : Sa.PE xs.length (Sa.nm xs) (Sa.lw xs) (Sa.rkOf os) 0 f en)
    (q : ∀ f hd, Sa.HI xs.length (Sa.nm xs) (Sa.lw xs) (Sa.rkOf os) xs.length f hd → Q (tab xs.length f)) : W (m_put_high (nls xs) (s : Int) (tab xs.length (Sa.lw xs)) (tab xs.length f)) Q := by
  have hz : (4002 : Nat) ≤ sz := by unfold sz; omega
  have sx := hi.sx
  have rk := Sa.rk_ok hm
  unfold m_put_high
  walk_at "m"
  refine ⟨by rw [List.length_singleton]; omega, ?_⟩
  refine w_buckets hl hs hx ?_
  rw [tab_len, tab_len, List.length_singleton]
  refine ⟨by omega, ⟨by omega, by omega⟩, ?_⟩
  have e0 : (0 : Int) :: tab s (fun c => ((Sa.bE xs.length (Sa.nm xs) c : Nat) : Int)) = tab (s + 1) fun c => ((Sa.bB xs.length (Sa.nm xs) c : Nat) : Int) := by
    rw [tab_cons]
    refine tab_congr fun c _ => ?_
    cases c with
    | zero => rw [Sa.bB_0]; rfl
    | succ c => show ((Sa.bE xs.length (Sa.nm xs) c : Nat) : Int) = _; rw [Sa.bE_B]
  rw [List.singleton_append, e0]
  refine W_for (fun i γ => ∃ f hd, γ = (nls xs, (s : Int), tab xs.length (Sa.lw xs), tab xs.length f, tab (s + 1) (fun c => ((hd c : Nat) : Int)), ()) ∧ Sa.HI xs.length (Sa.nm xs) (Sa.lw xs) (Sa.rkOf os) i f hd) ⟨f, _, rfl, Sa.HI.start sx rk hp⟩ ?_ ?_
  · rintro i x γ hx' ⟨f, hd, rfl, hh⟩
    obtain ⟨rfl, hin⟩ := prange_get hx'
    have hil : i < xs.length := by omega
    walk_at "m"
    rw [tab_pat hil]
    walk_at "m"
    rcases Sa.HI.step sx rk hh with ⟨e, h1⟩ | ⟨x, hxl, e, ⟨h0, h1⟩ | ⟨h0, h1, h2, h3⟩⟩
    · rw [e]
      refine W_ifD (fun h => absurd h (by decide)) (fun h => ?_)
      walk_at "m"
      exact ⟨f, hd, rfl, h1⟩
    · rw [e]
      refine W_ifD (fun h => ?_) (fun h => ?_)
      · have hl0 := h0.resolve_left (by omega)
        rw [show (x : Int) - 1 = ((x - 1 : Nat) : Int) by omega, tab_pat (by omega), hl0]
        walk_at "m"
        exact ⟨f, hd, rfl, h1⟩
      · walk_at "m"
        exact ⟨f, hd, rfl, h1⟩
    · rw [e, show (x : Int) - 1 = ((x - 1 : Nat) : Int) by omega]
      refine W_ifD (fun h => ?_) (fun h => absurd (Int.natCast_nonneg _) h)
      have hns := hx (x - 1) (by omega)
      rw [tab_pat (by omega), h1]
      walk_at "m"
      rw [nls_pat (by omega)]
      walk_at "m"
      rw [tab_pat (by omega)]
      walk_at "m"
      rw [tab_pset h2]
      walk_at "m"
      rw [tab_pget (by omega)]
      walk_at "m"
      rw [Int.toNat_natCast, tab_set, show ((hd (Sa.nm xs (x - 1)) : Nat) : Int) + 1 = ((hd (Sa.nm xs (x - 1)) + 1 : Nat) : Int) by omega, up_cast]
      exact ⟨_, _, rfl, h3⟩
  · rintro γ ⟨f, hd, rfl, hh⟩
    rw [prange_len, Int.toNat_natCast] at hh
    walk_at "m"
    exact q f hd hh

end Lw
namespace Lw
open PySem PySem.Spec PyProof.Rows L2 Fw Mi Lb
section
variable {P : Program} {w : World} {K : PySem.W.Frag} {mg : Str → Option Value} {base : Heap}
noncomputable def m_put_low (numbers : (List Int)) (size : Int) (lows : (List Bool)) (rows : (List Int)) : Option (List Int) := finU (κ := Unit) (β := Unit) (ρ := ((List Int) × Int × (List Bool) × (List Int) × (List Int) × Unit)) (fun (γ : ((List Int) × Int × (List Bool) × (List Int) × (List Int) × Unit)) => γ.2.2.2.1) (ob (ob (some (numbers, size, ())) fun z1 => (m_bucket_ends z1.1 z1.2.1)) fun ends => rb (ob (ob (some (((rows.length : Int) - (1 : Int)), (-(1 : Int)), (-(1 : Int)), ())) fun z14 => (pck (z14.2.2.1 = -1 ∧ -4611686018427387904 ≤ z14.1 ∧ z14.1 < 4611686018427387904 ∧ -4611686018427387904 ≤ z14.2.1 ∧ z14.2.1 < 4611686018427387904) (prangeC z14.1 (-1) (z14.1 - z14.2.1).toNat))) fun xs15 => (forR (fun (x_ : Int) (γ : ((List Int) × Int × (List Bool) × (List Int) × (List Int) × Unit)) => let row := x_; let numbers := γ.1; let size := γ.2.1; let lows := γ.2.2.1; let rows := γ.2.2.2.1; let ends := γ.2.2.2.2.1; ob (ob (pat rows row) fun x3 => (ob (some (1 : Int)) fun y4 => some (x3 - y4))) fun start => rb ((ob ((ob (some (decide ((0 : Int) ≤ start))) fun b5 => if b5 = true then (pat lows start) else some false)) fun b13 => if b13 = true then (ob (pat numbers start) fun number => (ob (some number) fun j11 => ob (pget ends j11) fun a10 => (ob (some (1 : Int)) fun y12 => let w6 := ends.set (j11).toNat (a10 - y12); (ob (some start) fun x8 => (ob (pat w6 number) fun i9 => ob (pset rows i9 x8) fun w7 => some (.nxt (numbers, size, lows, w7, w6, row, start, ()))))))) else (some (.nxt (numbers, size, lows, rows, ends, row, start, ()))))) fun γ => let numbers := γ.1; let size := γ.2.1; let lows := γ.2.2.1; let rows := γ.2.2.2.1; let ends := γ.2.2.2.2.1; some (.nxt (numbers, size, lows, rows, ends, ()))) xs15 (numbers, size, lows, rows, ends, ()))) fun γ => let numbers := γ.1; let size := γ.2.1; let lows := γ.2.2.1; let rows := γ.2.2.2.1; let ends := γ.2.2.2.2.1; some (.nxt (numbers, size, lows, rows, ends, ())))
abbrev sp_put_low (K : PySem.W.Frag) : Sp := spU (uC (jL jI) (uC jI (uC (jL jB) (uH aN)))) jI (fun xs γ => m_put_low γ.1 γ.2.1 γ.2.2.1 xs)
theorem ok_put_low (T : Tx w K mg) : Dn P w K mg base 2 (He.ga K "put_low") ["numbers", "size", "lows", "rows"] (sp_put_low K) := by
  obtain ⟨fd_bucket_ends, G_bucket_ends, b_bucket_ends, kp_bucket_ends, _⟩ := ok_bucket_ends (P := P) (w := w) (base := base) T
  refine dn_mk T.d_put_low sc_put_low (fun _ _ _ _ _ _ us hl => match us, hl with | [_, _, _, _], _ => rfl) (spU_len (aun_C (aun_C (aun_C (aun_H an_0))))) fun cdv A outer s H vs Q E hr h => ?_
  refine ⟨_, (pss_cons (ps_set (i := 4) sc_put_low.nd rfl (.inl rfl) (pe_call G_bucket_ends (hr.mono (by decide)) (by rfl) T.g_bucket_ends kp_bucket_ends b_bucket_ends .nil pass0 (pa_cons (pv 0) (pa_cons (pv 1) pa_nil))))
      (pss_cons (ps_for PassesOwn.never rfl (pi_range3 (by rfl) T.z_range (pa_cons (pe_op op_sub (pe_callB (lenQ_ (K := K)) (by rfl) T.z_len (by decide +kernel) (pa_cons (pv 3) pa_nil)) pe_int) (pa_cons (pe_un un_neg pe_int) (pa_cons (pe_un un_neg pe_int) pa_nil)))) (pg_name (i := 5) sc_put_low.nd rfl (.inl rfl))
      (pss_cons (ps_set (i := 6) sc_put_low.nd rfl (.inl rfl) (pe_op op_sub (pe_ix (ixL_ (K := K)) (pv 3) (pv 5) (fun _ _ => rfl)) pe_int))
      (pss_cons (ps_if (PW.pt (pw_and (pt_cmpR op_ge (pv 6) pe_int (nomark _)) (pw_and1 (pt_val (pe_ix (ixL_ (K := K)) (pv 2) (pv 6) (fun _ _ => rfl))))))
      (pss_cons (ps_set (i := 7) sc_put_low.nd rfl (.inl rfl) (pe_ix (ixL_ (K := K)) (pv 0) (pv 6) (fun _ _ => rfl)))
      (pss_cons (ps_augS (pv 4) (pv 7) (getL_ (K := K)) pe_int ip_sub set_list)
      (pss_cons (ps_asg (pv 6) (pg_sub (pv 3) (pe_ix (ixL_ (K := K)) (pv 4) (pv 7) (fun _ _ => rfl)) set_list))
      pss_nil)))
      pss_nil)
      pss_nil)))
      pss_nil)), ?_⟩
  refine finU_runX (E0 := fun pp => (eC (sF (jL jI)) (eC (sF jI) (eC (sF (jL jB)) (eC (sOA pp jI) (eU (eU (eU (eU eN))))))))) (E1 := fun pp => (eC (sF (jL jI)) (eC (sF jI) (eC (sF (jL jB)) (eC (sOA pp jI) (eC (sO jI) (eU (eU (eU eN))))))))) (g := fun (γ : ((List Int) × Int × (List Bool) × (List Int) × (List Int) × Unit)) => γ.2.2.2.1) (fun _ => (aue_C (aue_C (aue_C (aue_H (ae_U rfl (ae_U rfl (ae_U rfl (ae_U rfl ae_0))))))))) (aun_C (aun_C (aun_C (aun_H an_0)))) rfl (fun _ => (gS (gS (gS g0)))) ?S h rfl
  exact fun pp => ⟨_, (ss_asg (se_call (sa_cons (se_var g0) (sa_cons (se_var (gS g0)) sa_nil))) (pS (pS (pS (pS p0U)))) (ss_seq (ss_for (si_rm (sa_cons (se_op (se_cbR (sra_cons (sr_var (gA (gS (gS (gS g0))))) sra_nil) (sc_lenL (K := K)) scI) se_int (s2_I0 (f := fun i j => i - j))) (sa_cons (se_un se_int (s1_U (f := fun i => -i))) (sa_cons (se_un se_int (s1_U (f := fun i => -i))) sa_nil)))) (sg_name (pS (pS (pS (pS (pS p0U)))))) (ss_asg (se_op (se_ixB (K := K) (sb_var (gA (gS (gS (gS g0))))) (se_var (gS (gS (gS (gS (gS g0))))))) se_int (s2_I0 (f := fun i j => i - j))) (pS (pS (pS (pS (pS (pS p0U)))))) (ss_seq (ss_if (st_and (st_test (se_op (se_var (gS (gS (gS (gS (gS (gS g0))))))) se_int (s2_C0 (f := fun i j => decide (j ≤ i))))) (st_B (se_op (se_var (gS (gS g0))) (se_var (gS (gS (gS (gS (gS (gS g0))))))) s2_ixL))) (ss_asg (se_op (se_var g0) (se_var (gS (gS (gS (gS (gS (gS g0))))))) s2_ixL) (pS (pS (pS (pS (pS (pS (pS p0U))))))) (ss_augI (K := K) (f := fun i j => i - j) (uS (uS (uS (uS u0)))) (se_var (gS (gS (gS (gS (gS (gS (gS g0)))))))) se_int (ss_setI (uS (uS (uS u0A))) (se_var (gS (gS (gS (gS (gS (gS g0))))))) (se_ixB (K := K) (sb_var (gS (gS (gS (gS g0))))) (se_var (gS (gS (gS (gS (gS (gS (gS g0))))))))) (ss_co (cK (cK (cK (cK (cK (cK (cK (cF cId)))))))))))) ss_nil) (ss_co (cK (cK (cK (cK (cK (cF (cF cId))))))))))) ss_nil)), by exact rfl⟩
end
end Lw
namespace Lw
open PySem PySem.Spec PyProof.Rows L2 Fw Mi Lb
local macro_rules | `(tactic| walk_at "m") => `(tactic| simp only [pidx_one, pinS_one, pninS_one, W_some, W_none, W_ob, W_bind, W_pck, W_rb, W_fin, W_finN, W_T, W_F, W_Tr, W_Fa, Rw_nxt, Rw_ret, Rw_cnt, Rf_ret, Rf_nxt, RfN_ret, RfN_nxt, W_finU, RfU_nxt, W_finZ, W_finZN, RfZ_nxt, lcM_id, W_obx, Xf_ok, Xf_er, W_rbx, Xr_ok, Xr_er, W_okx, W_finNX, RfNX_ret, RfNX_nxt, W_finUX, RfUX_nxt, RfUX_er, W_trx, Xt_ok, Xt_er, decide_true, decide_false, Bool.not_true, Bool.not_false])
theorem w_putlow {xs os : List Nat} {s : Nat} {f : Nat → Int} {hd : Nat → Nat} {Q : List Int → Prop} (hl : xs.length ≤ 4000) (h2 : 2 ≤ xs.length) (hs : s ≤ 4001) (hx : ∀ i, i < xs.length → Sa.nm xs i < s) (hi : Sa.Inp xs) (hm : ∀ v, v ∈ os ↔ v ∈ Sa.vals xs)
    (hp : Sa.HI xs.length (Sa.nm xs) (Sa.lw xs) (Sa.rkOf os) xs.length f hd)
    (q : ∀ f en, Sa.LO xs.length (Sa.nm xs) (Sa.lw xs) (Sa.rkOf os) 0 f en → Q (tab xs.length f)) : W (m_put_low (nls xs) (s : Int) (tab xs.length (Sa.lw xs)) (tab xs.length f)) Q := by
  have sx := hi.sx
  have rk := Sa.rk_ok hm
  unfold m_put_low
  walk_at "m"
  refine w_buckets hl hs hx ?_
  rw [tab_len]
  refine ⟨⟨trivial, by omega, by omega, by omega, by omega⟩, ?_⟩
  refine W_for (fun i γ => ∃ f en, γ = (nls xs, (s : Int), tab xs.length (Sa.lw xs), tab xs.length f, tab s (fun c => ((en c : Nat) : Int)), ()) ∧ Sa.LO xs.length (Sa.nm xs) (Sa.lw xs) (Sa.rkOf os) (xs.length - i) f en) ⟨f, _, rfl, Sa.HI.done sx h2 hp⟩ ?_ ?_
  · rintro i x γ hx' ⟨f, en, rfl, hh⟩
    obtain ⟨rfl, hin⟩ := prangeC_get hx'
    obtain ⟨r, hr⟩ : ∃ r : Nat, r + i + 1 = xs.length := ⟨xs.length - i - 1, by omega⟩
    rw [show (xs.length : Int) - 1 + (i : Int) * -1 = (r : Int) by omega]
    rw [show xs.length - i = r + 1 by omega] at hh
    rw [show xs.length - (i + 1) = r by omega]
    walk_at "m"
    rw [tab_pat (by omega)]
    walk_at "m"
    obtain ⟨x, hxl, e, ⟨h0, h1⟩ | ⟨h0, h1, h2, h3, h4⟩⟩ := Sa.LO.step sx rk hh (by omega)
    · rw [e]
      refine W_ifD (fun h => ?_) (fun h => ?_)
      · have hl0 := h0.resolve_left (by omega)
        rw [show (x : Int) - 1 = ((x - 1 : Nat) : Int) by omega, tab_pat (by omega), hl0]
        walk_at "m"
        exact ⟨f, en, rfl, h1⟩
      · walk_at "m"
        exact ⟨f, en, rfl, h1⟩
    · rw [e, show (x : Int) - 1 = ((x - 1 : Nat) : Int) by omega]
      refine W_ifD (fun h => ?_) (fun h => absurd (Int.natCast_nonneg _) h)
      have hns := hx (x - 1) (by omega)
      rw [tab_pat (by omega), h1]
      walk_at "m"
      rw [nls_pat (by omega)]
      walk_at "m"
      rw [tab_pget (by omega)]
      walk_at "m"
      rw [Int.toNat_natCast, tab_set, show ((en (Sa.nm xs (x - 1)) : Nat) : Int) - 1 = ((en (Sa.nm xs (x - 1)) - 1 : Nat) : Int) by omega, up_cast, tab_pat hns, Sa.up_at]
      walk_at "m"
      rw [tab_pset h3]
      walk_at "m"
      exact ⟨_, _, rfl, h4⟩
  · rintro γ ⟨f, en, rfl, hh⟩
    rw [prangeC_len, show xs.length - ((xs.length : Int) - 1 - -1).toNat = 0 by omega] at hh
    walk_at "m"
    exact q f en hh

end Lw
namespace Lw
open PySem PySem.Spec PyProof.Rows L2 Fw Mi Lb
section
variable {P : Program} {w : World} {K : PySem.W.Frag} {mg : Str → Option Value} {base : Heap}
noncomputable def m_induced (numbers : (List Int)) (size : Int) (lows : (List Bool)) (valleys : (List Int)) : Option (List Int) := fin (κ := Unit) (ρ := Unit) (ob (ob (some (numbers, size, valleys, ())) fun z1 => (m_put_at_ends z1.1 z1.2.1 z1.2.2.1)) fun rows => (ob (some (numbers, size, lows, ())) fun z5 => ob (m_put_high z5.1 z5.2.1 z5.2.2.1 rows) fun w2 => (ob (some (numbers, size, lows, ())) fun z4 => ob (m_put_low z4.1 z4.2.1 z4.2.2.1 w2) fun w3 => rb (some (.ret w3)) fun γ => some (.nxt γ))))
abbrev sp_induced (K : PySem.W.Frag) : Sp := spM (aC (jL jI) (aC jI (aC (jL jB) (aC (jL jI) aN)))) (sO jI) (fun γ => m_induced γ.1 γ.2.1 γ.2.2.1 γ.2.2.2.1)
theorem ok_induced (T : Tx w K mg) : Dn P w K mg base 3 (He.ga K "induced") ["numbers", "size", "lows", "valleys"] (sp_induced K) := by
  obtain ⟨fd_put_at_ends, G_put_at_ends, b_put_at_ends, kp_put_at_ends, _⟩ := ok_put_at_ends (P := P) (w := w) (base := base) T
  obtain ⟨fd_put_high, G_put_high, b_put_high, kp_put_high, _⟩ := ok_put_high (P := P) (w := w) (base := base) T
  obtain ⟨fd_put_low, G_put_low, b_put_low, kp_put_low, _⟩ := ok_put_low (P := P) (w := w) (base := base) T
  refine dn_mk T.d_induced sc_induced (fun _ _ _ _ _ _ us hl => match us, hl with | [_, _, _, _], _ => rfl) (spM_len (an_C (an_C (an_C (an_C an_0))))) fun cdv A outer s H vs Q E hr h => ?_
  refine ⟨_, (pss_cons (ps_set (i := 4) sc_induced.nd rfl (.inl rfl) (pe_call G_put_at_ends (hr.mono (by decide)) (by rfl) T.g_put_at_ends kp_put_at_ends b_put_at_ends .nil pass0 (pa_cons (pv 0) (pa_cons (pv 1) (pa_cons (pv 3) pa_nil)))))
      (pss_cons (ps_expr (pe_call G_put_high (hr.mono (by decide)) (by rfl) T.g_put_high kp_put_high b_put_high .nil pass0 (pa_cons (pv 0) (pa_cons (pv 1) (pa_cons (pv 2) (pa_cons (pv 4) pa_nil))))))
      (pss_cons (ps_expr (pe_call G_put_low (hr.mono (by decide)) (by rfl) T.g_put_low kp_put_low b_put_low .nil pass0 (pa_cons (pv 0) (pa_cons (pv 1) (pa_cons (pv 2) (pa_cons (pv 4) pa_nil))))))
      (pss_cons (ps_ret (pv 4))
      pss_nil)))), ?_⟩
  refine fin_runX (E := (eC (sF (jL jI)) (eC (sF jI) (eC (sF (jL jB)) (eC (sF (jL jI)) (eU eN)))))) (E' := eN) (ae_C (ae_C (ae_C (ae_C (ae_U rfl ae_0))))) (an_C (an_C (an_C (an_C an_0)))) rfl ?S h rfl
  exact ⟨_, (ss_asg (se_call (sa_cons (se_var g0) (sa_cons (se_var (gS g0)) (sa_cons (se_var (gS (gS (gS g0)))) sa_nil)))) (pS (pS (pS (pS p0U)))) (ss_callU (uS (uS (uS (uS u0)))) (sau_cons (se_var g0) (sau_cons (se_var (gS g0)) (sau_cons (se_var (gS (gS g0))) (sau_hole sa_nil)))) (ss_callU (uS (uS (uS (uS u0)))) (sau_cons (se_var g0) (sau_cons (se_var (gS g0)) (sau_cons (se_var (gS (gS g0))) (sau_hole sa_nil)))) (ss_seq (ss_retO (gS (gS (gS (gS g0))))) ss_nil)))), by exact rfl⟩
end
end Lw
namespace Lw
open PySem PySem.Spec PyProof.Rows L2 Fw Mi Lb
local macro_rules | `(tactic| walk_at "m") => `(tactic| simp only [pidx_one, pinS_one, pninS_one, W_some, W_none, W_ob, W_bind, W_pck, W_rb, W_fin, W_finN, W_T, W_F, W_Tr, W_Fa, Rw_nxt, Rw_ret, Rw_cnt, Rf_ret, Rf_nxt, RfN_ret, RfN_nxt, W_finU, RfU_nxt, W_finZ, W_finZN, RfZ_nxt, lcM_id, W_obx, Xf_ok, Xf_er, W_rbx, Xr_ok, Xr_er, W_okx, W_finNX, RfNX_ret, RfNX_nxt, W_finUX, RfUX_nxt, RfUX_er, W_trx, Xt_ok, Xt_er, decide_true, decide_false, Bool.not_true, Bool.not_false])
theorem LO_all {n : Nat} {num : Nat → Nat} {low : Nat → Bool} {rk : Nat → Nat} {f : Nat → Int} {en : Nat → Nat} (h : Sa.LO n num low rk 0 f en) {i : Nat} (hi : i < n) : f (Sa.row n num low rk i) = i := by
  cases e : low i with
  | false => exact h.hi i hi e
  | true =>
    by_cases z : i + 1 < n
    · exact h.put i z e (Nat.zero_le _)
    · rw [show i = n - 1 by omega]; exact h.last
theorem w_induced {xs os : List Nat} {s : Nat} {Q : List Int → Prop} (hl : xs.length ≤ 4000) (h2 : 2 ≤ xs.length) (hs : s ≤ 4001) (hx : ∀ i, i < xs.length → Sa.nm xs i < s) (hi : Sa.Inp xs) (nd : os.Nodup) (hm : ∀ v, v ∈ os ↔ v ∈ Sa.vals xs)
    (q : ∀ rs : List Nat, rs.Perm (List.range xs.length) → (rs.Pairwise fun a b => Sa.key xs.length (Sa.nm xs) (Sa.lw xs) (Sa.rkOf os) a < Sa.key xs.length (Sa.nm xs) (Sa.lw xs) (Sa.rkOf os) b) → Q (nls rs)) : W (m_induced (nls xs) (s : Int) (tab xs.length (Sa.lw xs)) (nls os)) Q := by
  have sx := hi.sx
  have rk := Sa.rk_ok hm
  unfold m_induced
  walk_at "m"
  refine w_putends hl hs hx hi nd hm fun f en hp => ?_
  refine w_puthigh hl hs hx hi hm hp fun f hd hh => ?_
  refine w_putlow hl h2 hs hx hi hm hh fun f en ho => ?_
  obtain ⟨h3, h4, h5⟩ := Sa.rows_tab (n := xs.length) (f := f) (row' := Sa.row xs.length (Sa.nm xs) (Sa.lw xs) (Sa.rkOf os)) (key' := fun a b => Sa.key xs.length (Sa.nm xs) (Sa.lw xs) (Sa.rkOf os) a < Sa.key xs.length (Sa.nm xs) (Sa.lw xs) (Sa.rkOf os) b) (fun i hin => LO_all ho hin) (fun k hk => Sa.row_onto sx rk hk) (fun i j h1 h2 h3 => (Sa.row_iff sx rk h1 h2).mp h3) (fun i hin => Sa.row_n sx hin)
  have e : tab xs.length f = nls ((List.range xs.length).map fun k => (f k).toNat) := by
    unfold tab nls
    rw [List.map_map]
    exact List.map_congr_left fun k hk => h5 k (List.mem_range.mp hk)
  rw [e]
  exact q _ h3 h4

end Lw
namespace Lw
open PySem PySem.Spec PyProof.Rows L2 Fw Mi Lb
section
variable {P : Program} {w : World} {K : PySem.W.Frag} {mg : Str → Option Value} {base : Heap}
noncomputable def m_is_valley (lows : (List Bool)) (at_ : Int) : Option Bool := fin (κ := Unit) (ρ := Unit) (rb (ob (if (decide ((0 : Int) < at_)) = true then ((ob (pat lows at_) fun b5 => if b5 = true then (ob (pat lows (at_ - (1 : Int))) fun x4 => some (!x4)) else some false)) else some false) fun r6 => some (.ret r6)) fun γ => some (.nxt γ))
abbrev sp_is_valley (K : PySem.W.Frag) : Sp := spM (aC (jL jB) (aC jI aN)) (sF jB) (fun γ => m_is_valley γ.1 γ.2.1)
theorem ok_is_valley (T : Tx w K mg) : Dn P w K mg base 1 (He.ga K "is_valley") ["lows", "at"] (sp_is_valley K) := by
  refine dn_mk T.d_is_valley sc_is_valley (fun _ _ _ _ _ _ us hl => match us, hl with | [_, _], _ => rfl) (spM_len (an_C (an_C an_0))) fun cdv A outer s H vs Q E hr h => ?_
  refine ⟨_, (pss_cons (ps_ret (pe_and (pe_cmpR op_gt (pv 1) pe_int (nomark _)) (pe_and (pe_ix (ixL_ (K := K)) (pv 0) (pv 1) (fun _ _ => rfl)) (pe_one (pe_not (pe_ix (ixL_ (K := K)) (pv 0) (pe_op op_sub (pv 1) pe_int) (fun _ _ => rfl)))))))
      pss_nil), ?_⟩
  refine fin_runX (E := (eC (sF (jL jB)) (eC (sF jI) eN))) (E' := eN) (ae_C (ae_C ae_0)) (an_C (an_C an_0)) rfl ?S h rfl
  exact ⟨_, (ss_seq (ss_ret (se_andV (se_op (se_var (gS g0)) se_int (s2_C0 (f := fun i j => decide (j < i)))) (se_andV (se_op (se_var g0) (se_var (gS g0)) s2_ixL) (se_notV (se_op (se_var g0) (se_op (se_var (gS g0)) se_int (s2_I0 (f := fun i j => i - j))) s2_ixL))))) ss_nil), by exact rfl⟩
end
end Lw
namespace Lw
open PySem PySem.Spec PyProof.Rows L2 Fw Mi Lb
local macro_rules | `(tactic| walk_at "m") => `(tactic| simp only [pidx_one, pinS_one, pninS_one, W_some, W_none, W_ob, W_bind, W_pck, W_rb, W_fin, W_finN, W_T, W_F, W_Tr, W_Fa, Rw_nxt, Rw_ret, Rw_cnt, Rf_ret, Rf_nxt, RfN_ret, RfN_nxt, W_finU, RfU_nxt, W_finZ, W_finZN, RfZ_nxt, lcM_id, W_obx, Xf_ok, Xf_er, W_rbx, Xr_ok, Xr_er, W_okx, W_finNX, RfNX_ret, RfNX_nxt, W_finUX, RfUX_nxt, RfUX_er, W_trx, Xt_ok, Xt_er, decide_true, decide_false, Bool.not_true, Bool.not_false])
theorem w_valley {n : Nat} {low : Nat → Bool} {k : Nat} (hk : k < n) : m_is_valley (tab n low) (k : Int) = some (decide (Sa.vly low k)) := by
  refine W.eq ?_
  unfold m_is_valley
  walk_at "m"
  refine W_ifD (fun h => ?_) (fun h => ?_)
  · rw [tab_pat hk]
    walk_at "m"
    refine W_ifB (fun h2 => ?_) (fun h2 => ?_)
    · rw [show (k : Int) - 1 = ((k - 1 : Nat) : Int) by omega, tab_pat (by omega)]
      walk_at "m"
      refine Bool.eq_iff_iff.mpr ?_
      rw [decide_eq_true_iff, Bool.not_eq_true']
      exact ⟨fun z => ⟨by omega, h2, z⟩, fun z => z.2.2⟩
    · walk_at "m"
      refine Bool.eq_iff_iff.mpr ?_
      rw [decide_eq_true_iff]
      exact ⟨fun z => (nomatch z), fun z => by rw [z.2.1] at h2; cases h2⟩
  · walk_at "m"
    refine Bool.eq_iff_iff.mpr ?_
    rw [decide_eq_true_iff]
    exact ⟨fun z => (nomatch z), fun z => absurd z.1 (by omega)⟩

end Lw
namespace Lw
open PySem PySem.Spec PyProof.Rows L2 Fw Mi Lb
section
variable {P : Program} {w : World} {K : PySem.W.Frag} {mg : Str → Option Value} {base : Heap}
noncomputable def m_same_hill (numbers : (List Int)) (lows : (List Bool)) (one : Int) (two : Int) : Option Bool := fin (κ := Unit) (ρ := Unit) (ob (some (0 : Int)) fun at_ => rb (whileR (fun (γ : ((List Int) × (List Bool) × Int × Int × Int × Unit)) => let numbers := γ.1; let lows := γ.2.1; let one := γ.2.2.1; let two := γ.2.2.2.1; let at_ := γ.2.2.2.2.1; ((ob (ob (pat numbers (one + at_)) fun x6 => (ob (pat numbers (two + at_)) fun y7 => some (decide (x6 = y7)))) fun b10 => if b10 = true then (ob (pat lows (one + at_)) fun x8 => (ob (pat lows (two + at_)) fun y9 => some (decide (x8 = y9)))) else some false))) (fun (γ : ((List Int) × (List Bool) × Int × Int × Int × Unit)) => let numbers := γ.1; let lows := γ.2.1; let one := γ.2.2.1; let two := γ.2.2.2.1; let at_ := γ.2.2.2.2.1; rb ((ob ((ob (some (decide ((0 : Int) < at_))) fun b12 => if b12 = true then (ob (some (lows, (one + at_), ())) fun z11 => (m_is_valley z11.1 z11.2.1)) else some false)) fun b15 => if b15 = true then (rb (ob (some true) fun r14 => some (.ret r14)) fun γ => some (.nxt γ)) else (some (.nxt (numbers, lows, one, two, at_, ()))))) fun γ => let numbers := γ.1; let lows := γ.2.1; let one := γ.2.2.1; let two := γ.2.2.2.1; let at_ := γ.2.2.2.2.1; (ob (some (1 : Int)) fun y16 => let at_ := at_ + y16; some (.nxt (numbers, lows, one, two, at_, ())))) (numbers, lows, one, two, at_, ())) fun γ => rb (ob (some false) fun r18 => some (.ret r18)) fun γ => some (.nxt γ))
abbrev sp_same_hill (K : PySem.W.Frag) : Sp := spM (aC (jL jI) (aC (jL jB) (aC jI (aC jI aN)))) (sF jB) (fun γ => m_same_hill γ.1 γ.2.1 γ.2.2.1 γ.2.2.2.1)
theorem ok_same_hill (T : Tx w K mg) : Dn P w K mg base 2 (He.ga K "same_hill") ["numbers", "lows", "one", "two"] (sp_same_hill K) := by
  obtain ⟨fd_is_valley, G_is_valley, b_is_valley, kp_is_valley, _⟩ := ok_is_valley (P := P) (w := w) (base := base) T
  refine dn_mk T.d_same_hill sc_same_hill (fun _ _ _ _ _ _ us hl => match us, hl with | [_, _, _, _], _ => rfl) (spM_len (an_C (an_C (an_C (an_C an_0))))) fun cdv A outer s H vs Q E hr h => ?_
  refine ⟨_, (pss_cons (ps_set (i := 4) sc_same_hill.nd rfl (.inl rfl) pe_int)
      (pss_cons (ps_while PassesOwn.never (PW.pt (pw_and (pt_cmpR op_eq (pe_ix (ixL_ (K := K)) (pv 0) (pe_op op_add (pv 2) (pv 4)) (fun _ _ => rfl)) (pe_ix (ixL_ (K := K)) (pv 0) (pe_op op_add (pv 3) (pv 4)) (fun _ _ => rfl)) (nomark _)) (pw_and1 (pt_cmpR op_eq (pe_ix (ixL_ (K := K)) (pv 1) (pe_op op_add (pv 2) (pv 4)) (fun _ _ => rfl)) (pe_ix (ixL_ (K := K)) (pv 1) (pe_op op_add (pv 3) (pv 4)) (fun _ _ => rfl)) (nomark _)))))
      (pss_cons (ps_if (PW.pt (pw_and (pt_cmpR op_gt (pv 4) pe_int (nomark _)) (pw_and1 (pt_val (pe_call G_is_valley (hr.mono (by decide)) (by rfl) T.g_is_valley kp_is_valley b_is_valley .nil pass0 (pa_cons (pv 1) (pa_cons (pe_op op_add (pv 2) (pv 4)) pa_nil)))))))
      (pss_cons (ps_ret pe_bl)
      pss_nil)
      pss_nil)
      (pss_cons (ps_aug (i := 4) sc_same_hill.nd rfl (.inl rfl) pe_int ip_add)
      pss_nil)))
      (pss_cons (ps_ret pe_bl)
      pss_nil))), ?_⟩
  refine fin_runX (E := (eC (sF (jL jI)) (eC (sF (jL jB)) (eC (sF jI) (eC (sF jI) (eU eN)))))) (E' := eN) (ae_C (ae_C (ae_C (ae_C (ae_U rfl ae_0))))) (an_C (an_C (an_C (an_C an_0)))) rfl ?S h rfl
  exact ⟨_, (ss_asg se_int (pS (pS (pS (pS p0U)))) (ss_seq (ss_while (st_and (st_test (se_op (se_op (se_var g0) (se_op (se_var (gS (gS g0))) (se_var (gS (gS (gS (gS g0))))) (s2_I0 (f := fun i j => i + j))) s2_ixL) (se_op (se_var g0) (se_op (se_var (gS (gS (gS g0)))) (se_var (gS (gS (gS (gS g0))))) (s2_I0 (f := fun i j => i + j))) s2_ixL) (s2_eqI))) (st_test (se_op (se_op (se_var (gS g0)) (se_op (se_var (gS (gS g0))) (se_var (gS (gS (gS (gS g0))))) (s2_I0 (f := fun i j => i + j))) s2_ixL) (se_op (se_var (gS g0)) (se_op (se_var (gS (gS (gS g0)))) (se_var (gS (gS (gS (gS g0))))) (s2_I0 (f := fun i j => i + j))) s2_ixL) (s2_eqB)))) (ss_seq (ss_if (st_and (st_test (se_op (se_var (gS (gS (gS (gS g0))))) se_int (s2_C0 (f := fun i j => decide (j < i))))) (st_B (se_call (sa_cons (se_var (gS g0)) (sa_cons (se_op (se_var (gS (gS g0))) (se_var (gS (gS (gS (gS g0))))) (s2_I0 (f := fun i j => i + j))) sa_nil))))) (ss_seq (ss_ret se_bl) ss_nil) ss_nil) (ss_aug (f := fun i j => i + j) (gS (gS (gS (gS g0)))) se_int (pS (pS (pS (pS p0)))) ss_nil))) (ss_seq (ss_ret se_bl) ss_nil))), by exact rfl⟩
end
end Lw
namespace Lw
open PySem PySem.Spec PyProof.Rows L2 Fw Mi Lb
local macro_rules | `(tactic| walk_at "m") => `(tactic| simp only [pidx_one, pinS_one, pninS_one, W_some, W_none, W_ob, W_bind, W_pck, W_rb, W_fin, W_finN, W_T, W_F, W_Tr, W_Fa, Rw_nxt, Rw_ret, Rw_cnt, Rf_ret, Rf_nxt, RfN_ret, RfN_nxt, W_finU, RfU_nxt, W_finZ, W_finZN, RfZ_nxt, lcM_id, W_obx, Xf_ok, Xf_er, W_rbx, Xr_ok, Xr_er, W_okx, W_finNX, RfNX_ret, RfNX_nxt, W_finUX, RfUX_nxt, RfUX_er, W_trx, Xt_ok, Xt_er, decide_true, decide_false, Bool.not_true, Bool.not_false])
theorem w_samehill {xs : List Nat} {a b : Nat} (hi : Sa.Inp xs) (ha : a < xs.length) (hb : b < xs.length) (hab : a ≠ b) : m_same_hill (nls xs) (tab xs.length (Sa.lw xs)) (a : Int) (b : Int) = some (decide (Sa.hl xs a = Sa.hl xs b)) := by
  refine W.eq ?_
  unfold m_same_hill
  walk_at "m"
  by_cases hc : a + 1 < xs.length ∧ b + 1 < xs.length
  · obtain ⟨d, e, hp⟩ := Sa.hp2 hi hc.1 hc.2
    refine W_while (fun m γ => ∃ t : Nat, γ = (nls xs, tab xs.length (Sa.lw xs), (a : Int), (b : Int), (t : Int), ()) ∧ t + m = d ∧ t ≤ e ∧ ∀ i, i < t → Sa.Eqc xs (a + i) (b + i)) d ⟨0, rfl, by omega, by omega, fun i h => absurd h (Nat.not_lt_zero i)⟩ ?_
    rintro m γ ⟨t, rfl, h1, h2, h3⟩
    have h4 := hp.a1
    have h5 := hp.b1
    have no : ¬ Sa.Eqc xs (a + t) (b + t) → false = decide (Sa.hl xs a = Sa.hl xs b) := fun z => (decide_eq_false (hp.ne (by omega) z)).symm
    walk_at "m"
    rw [show (a : Int) + (t : Int) = ((a + t : Nat) : Int) by omega, show (b : Int) + (t : Int) = ((b + t : Nat) : Int) by omega, nls_pat (by omega), nls_pat (by omega), tab_pat (by omega), tab_pat (by omega)]
    walk_at "m"
    refine W_ifD (fun h => ?_) (fun h => ?_)
    · walk_at "m"
      by_cases h6 : Sa.lw xs (a + t) = Sa.lw xs (b + t)
      · rw [decide_eq_true h6, if_pos rfl]
        have hq : ∀ i, i ≤ t → Sa.Eqc xs (a + i) (b + i) := fun i hit => by
          by_cases z : i = t
          · rw [z]; exact ⟨by omega, h6⟩
          · exact h3 i (by omega)
        have hlen := hp.len (show t ≤ d by omega) h2 hq
        have go : (t < d ∧ t < e ∧ ¬ (0 < t ∧ Sa.vly (Sa.lw xs) (a + t))) → ∃ m', m' < m ∧ ∃ t' : Nat, (nls xs, tab xs.length (Sa.lw xs), (a : Int), (b : Int), (t : Int) + 1, ()) = (nls xs, tab xs.length (Sa.lw xs), (a : Int), (b : Int), (t' : Int), ()) ∧ t' + m' = d ∧ t' ≤ e ∧ ∀ i, i < t' → Sa.Eqc xs (a + i) (b + i) := fun z => ⟨m - 1, by omega, t + 1, by rw [show ((t + 1 : Nat) : Int) = (t : Int) + 1 by omega], by omega, by omega, fun i hit => hq i (by omega)⟩
        refine W_ifD (fun h7 => ?_) (fun h7 => ?_)
        · walk_at "m"
          rw [w_valley (by omega)]
          walk_at "m"
          refine W_ifD (fun h8 => ?_) (fun h8 => ?_)
          · walk_at "m"
            rcases hlen with z | z
            · exact absurd ⟨by omega, h8⟩ z.2.2
            · exact (decide_eq_true z.2.2.2).symm
          · walk_at "m"
            rcases hlen with z | z
            · exact go z
            · exact absurd z.2.2.1 h8
        · walk_at "m"
          rcases hlen with z | z
          · exact go z
          · exact absurd z.2.1 (by omega)
      · rw [decide_eq_false h6, if_neg Bool.false_ne_true]
        exact no fun z => h6 z.2
    · walk_at "m"
      exact no fun z => h (by rw [z.1])
  · obtain ⟨h1, h2⟩ := Sa.last_ne hi ha hb hab hc
    refine W_while (fun m γ => γ = (nls xs, tab xs.length (Sa.lw xs), (a : Int), (b : Int), (0 : Int), ())) 0 rfl ?_
    rintro m γ rfl
    walk_at "m"
    rw [show (a : Int) + 0 = (a : Int) by omega, show (b : Int) + 0 = (b : Int) by omega, nls_pat (by omega), nls_pat (by omega)]
    walk_at "m"
    refine W_ifD (fun h => absurd h (by omega)) (fun h => ?_)
    walk_at "m"
    exact (decide_eq_false h2).symm

end Lw
namespace Lw
open PySem PySem.Spec PyProof.Rows L2 Fw Mi Lb
section
variable {P : Program} {w : World} {K : PySem.W.Frag} {mg : Str → Option Value} {base : Heap}
noncomputable def m_hill_names (numbers : (List Int)) (lows : (List Bool)) (ordered : (List Int)) : Option ((List (Int × Int)) × Int) := fin (κ := Unit) (ρ := Unit) (ob (some ([] : List (Int × Int))) fun names => ob (some (-(1 : Int))) fun name => ob (some (-(1 : Int))) fun before => rb (ob (some ordered) fun xs11 => (forR (fun (x_ : Int) (γ : ((List Int) × (List Bool) × (List Int) × (List (Int × Int)) × Int × Int × Unit)) => let start := x_; let numbers := γ.1; let lows := γ.2.1; let ordered := γ.2.2.1; let names := γ.2.2.2.1; let name := γ.2.2.2.2.1; let before := γ.2.2.2.2.2.1; rb ((ob ((ob (some (decide (before < (0 : Int)))) fun b3 => if b3 = true then some true else (ob (ob (some (numbers, lows, before, start, ())) fun z1 => (m_same_hill z1.1 z1.2.1 z1.2.2.1 z1.2.2.2.1)) fun x2 => some (!x2)))) fun b5 => if b5 = true then ((ob (some (1 : Int)) fun y4 => let name := name + y4; some (.nxt (numbers, lows, ordered, names, name, before, start, ())))) else (some (.nxt (numbers, lows, ordered, names, name, before, start, ()))))) fun γ => let numbers := γ.1; let lows := γ.2.1; let ordered := γ.2.2.1; let names := γ.2.2.2.1; let name := γ.2.2.2.2.1; let before := γ.2.2.2.2.2.1; let start := γ.2.2.2.2.2.2.1; (ob (some name) fun x7 => (ob (some start) fun k8 => ob (pck (names.length < sz) (mput names k8 x7)) fun w6 => ob (some start) fun before => some (.nxt (numbers, lows, ordered, w6, name, before, ()))))) xs11 (numbers, lows, ordered, names, name, before, ()))) fun γ => let names := γ.2.2.2.1; let name := γ.2.2.2.2.1; rb (ob (some (names, (name + (1 : Int)))) fun r10 => some (.ret r10)) fun γ => some (.nxt γ))
abbrev sp_hill_names (K : PySem.W.Frag) : Sp := spM (aC (jL jI) (aC (jL jB) (aC (jL jI) aN))) (sF (jT (yC (jM kyI jI) (y1 jI)))) (fun γ => m_hill_names γ.1 γ.2.1 γ.2.2.1)
theorem ok_hill_names (T : Tx w K mg) : Dn P w K mg base 3 (He.ga K "hill_names") ["numbers", "lows", "ordered"] (sp_hill_names K) := by
  obtain ⟨fd_same_hill, G_same_hill, b_same_hill, kp_same_hill, _⟩ := ok_same_hill (P := P) (w := w) (base := base) T
  refine dn_mk T.d_hill_names sc_hill_names (fun _ _ _ _ _ _ us hl => match us, hl with | [_, _, _], _ => rfl) (spM_len (an_C (an_C (an_C an_0)))) fun cdv A outer s H vs Q E hr h => ?_
  refine ⟨_, (pss_cons (ps_set (i := 3) sc_hill_names.nd rfl (.inl rfl) pe_dnewK)
      (pss_cons (ps_set (i := 4) sc_hill_names.nd rfl (.inl rfl) (pe_un un_neg pe_int))
      (pss_cons (ps_set (i := 5) sc_hill_names.nd rfl (.inl rfl) (pe_un un_neg pe_int))
      (pss_cons (ps_for PassesOwn.never rfl (iL_ (K := K) (pv 2)) (pg_name (i := 6) sc_hill_names.nd rfl (.inl rfl))
      (pss_cons (ps_if (PW.pt (pw_or (pt_cmpR op_lt (pv 5) pe_int (nomark _)) (pw_or1 (pt_not (pt_val (pe_call G_same_hill (hr.mono (by decide)) (by rfl) T.g_same_hill kp_same_hill b_same_hill .nil pass0 (pa_cons (pv 0) (pa_cons (pv 1) (pa_cons (pv 5) (pa_cons (pv 6) pa_nil))))))))))
      (pss_cons (ps_aug (i := 4) sc_hill_names.nd rfl (.inl rfl) pe_int ip_add)
      pss_nil)
      pss_nil)
      (pss_cons (ps_dput (hu_of hr) (pv 3) (pv 6) (pv 4) rfl)
      (pss_cons (ps_set (i := 5) sc_hill_names.nd rfl (.inl rfl) (pv 6))
      pss_nil))))
      (pss_cons (ps_ret (pe_tup (pa_cons (pv 3) (pa_cons (pe_op op_add (pv 4) pe_int) pa_nil))))
      pss_nil))))), ?_⟩
  refine fin_runX (E := (eC (sF (jL jI)) (eC (sF (jL jB)) (eC (sF (jL jI)) (eU (eU (eU (eU eN)))))))) (E' := eN) (ae_C (ae_C (ae_C (ae_U rfl (ae_U rfl (ae_U rfl (ae_U rfl ae_0))))))) (an_C (an_C (an_C an_0))) rfl ?S h rfl
  exact ⟨_, (ss_asg se_dnew (pS (pS (pS p0U))) (ss_asg (se_un se_int (s1_U (f := fun i => -i))) (pS (pS (pS (pS p0U)))) (ss_asg (se_un se_int (s1_U (f := fun i => -i))) (pS (pS (pS (pS (pS p0U))))) (ss_seq (ss_for (si_list (se_var (gS (gS g0)))) (sg_name (pS (pS (pS (pS (pS (pS p0U))))))) (ss_seq (ss_if (st_or (st_test (se_op (se_var (gS (gS (gS (gS (gS g0)))))) se_int (s2_C0 (f := fun i j => decide (i < j))))) (st_not (st_B (se_call (sa_cons (se_var g0) (sa_cons (se_var (gS g0)) (sa_cons (se_var (gS (gS (gS (gS (gS g0)))))) (sa_cons (se_var (gS (gS (gS (gS (gS (gS g0))))))) sa_nil)))))))) (ss_aug (f := fun i j => i + j) (gS (gS (gS (gS g0)))) se_int (pS (pS (pS (pS p0)))) ss_nil) ss_nil) (ss_dput (kS (kS (kS k0))) (se_var (gS (gS (gS (gS (gS (gS g0))))))) (se_var (gS (gS (gS (gS g0))))) (ss_asg (se_var (gS (gS (gS (gS (gS (gS g0))))))) (pS (pS (pS (pS (pS p0))))) (ss_co (cK (cK (cK (cK (cK (cK (cF cId)))))))))))) (ss_pre (cK (cK (cK (cD fzM cId)))) (ss_seq (ss_ret (se_tup (stC (se_var (gS (gS (gS g0)))) (st1 (se_op (se_var (gS (gS (gS (gS g0))))) se_int (s2_I0 (f := fun i j => i + j))))) (tz tz1))) ss_nil)))))), by exact rfl⟩
end
end Lw
namespace Lw
open PySem PySem.Spec PyProof.Rows L2 Fw Mi Lb
local macro_rules | `(tactic| walk_at "m") => `(tactic| simp only [pidx_one, pinS_one, pninS_one, W_some, W_none, W_ob, W_bind, W_pck, W_rb, W_fin, W_finN, W_T, W_F, W_Tr, W_Fa, Rw_nxt, Rw_ret, Rw_cnt, Rf_ret, Rf_nxt, RfN_ret, RfN_nxt, W_finU, RfU_nxt, W_finZ, W_finZN, RfZ_nxt, lcM_id, W_obx, Xf_ok, Xf_er, W_rbx, Xr_ok, Xr_er, W_okx, W_finNX, RfNX_ret, RfNX_nxt, W_finUX, RfUX_nxt, RfUX_er, W_trx, Xt_ok, Xt_er, decide_true, decide_false, Bool.not_true, Bool.not_false])
theorem nd_inj {l : List Nat} (h : l.Nodup) {i j x : Nat} (h1 : l[i]? = some x) (h2 : l[j]? = some x) : i = j := by
  obtain ⟨a, e1⟩ := List.getElem?_eq_some_iff.mp h1
  obtain ⟨b, e2⟩ := List.getElem?_eq_some_iff.mp h2
  have k1 := h.idxOf_getElem i a
  have k2 := h.idxOf_getElem j b
  rw [e1] at k1
  rw [e2] at k2
  omega
theorem getD_get {l : List Nat} {i : Nat} (h : i < l.length) : l[i]? = some (l.getD i 0) := by
  rw [List.getD_eq_getElem?_getD, List.getElem?_eq_getElem h]
  rfl
theorem w_names {xs os : List Nat} {Q : List (Int × Int) × Int → Prop} (hl : xs.length ≤ 4000) (hi : Sa.Inp xs) (nd : os.Nodup) (hm : ∀ v, v ∈ os → v < xs.length) (hz : os.length ≤ 4000)
    (q : ∀ d, (∀ v ∈ os, mget d (v : Int) = some ((Sa.name xs os v : Nat) : Int)) → Q (d, if os.length = 0 then 0 else ((Sa.na xs os (os.length - 1) + 1 : Nat) : Int))) : W (m_hill_names (nls xs) (tab xs.length (Sa.lw xs)) (nls os)) Q := by
  have hs : (4000 : Nat) < sz := by unfold sz; omega
  unfold m_hill_names
  walk_at "m"
  refine W_for (fun i γ => ∃ (d : List (Int × Int)) (nx : Nat) (bf : Int), γ = (nls xs, tab xs.length (Sa.lw xs), nls os, d, (nx : Int) - 1, bf, ()) ∧ d.length ≤ i ∧ (i = 0 → nx = 0 ∧ bf = -1) ∧ (∀ j, j + 1 = i → nx = Sa.na xs os j + 1 ∧ bf = ((os.getD j 0 : Nat) : Int)) ∧ ∀ j, j < i → mget d ((os.getD j 0 : Nat) : Int) = some ((Sa.na xs os j : Nat) : Int)) ⟨[], 0, -1, rfl, Nat.le_refl _, fun _ => ⟨rfl, rfl⟩, fun j h => by omega, fun j h => absurd h (Nat.not_lt_zero j)⟩ ?_ ?_
  · rintro i x γ hx ⟨d, nx, bf, rfl, hd, h0, h1, h2⟩
    obtain ⟨v, hv, rfl⟩ := nls_at hx
    have hil := (List.getElem?_eq_some_iff.mp hv).1
    have ev : os.getD i 0 = v := by rw [List.getD_eq_getElem?_getD, hv]; rfl
    have mv := hm v (List.mem_of_getElem? hv)
    walk_at "m"
    have fin : ∀ k : Int, k = ((Sa.na xs os i : Nat) : Int) → ∃ (d' : List (Int × Int)) (nx' : Nat) (bf' : Int), (nls xs, tab xs.length (Sa.lw xs), nls os, mput d (v : Int) k, k, (v : Int), ()) = (nls xs, tab xs.length (Sa.lw xs), nls os, d', (nx' : Int) - 1, bf', ()) ∧ d'.length ≤ i + 1 ∧ (i + 1 = 0 → nx' = 0 ∧ bf' = -1) ∧ (∀ j, j + 1 = i + 1 → nx' = Sa.na xs os j + 1 ∧ bf' = ((os.getD j 0 : Nat) : Int)) ∧ ∀ j, j < i + 1 → mget d' ((os.getD j 0 : Nat) : Int) = some ((Sa.na xs os j : Nat) : Int) := fun k hk => by
      refine ⟨mput d (v : Int) k, Sa.na xs os i + 1, (v : Int), ?_, Nat.le_trans (mput_len _ _ _) (by omega), fun z => by omega, fun j hj => ?_, fun j hj => ?_⟩
      · rw [show ((Sa.na xs os i + 1 : Nat) : Int) - 1 = k by omega]
      · rw [show j = i by omega, ev]
        exact ⟨rfl, rfl⟩
      · rw [mget_mput]
        by_cases e : j = i
        · rw [e, ev, if_pos rfl, hk]
        · rw [if_neg, h2 j (by omega)]
          intro z
          exact e (nd_inj nd (getD_get (show j < os.length by omega)) (by rw [hv]; congr 1; omega))
    refine W_ifD (fun h => ?_) (fun h => ?_)
    · have i0 : i = 0 := by
        by_cases z : i = 0
        · exact z
        · have := (h1 (i - 1) (by omega)).2
          omega
      walk_at "m"
      refine ⟨by omega, fin _ ?_⟩
      have := (h0 i0).1
      rw [i0, this]
      rfl
    · have i0 : 0 < i := by
        by_cases z : i = 0
        · have := (h0 z).2
          omega
        · omega
      obtain ⟨e1, e2⟩ := h1 (i - 1) (by omega)
      have hi1 : i - 1 < os.length := by omega
      have eu : os.getD (i - 1) 0 = os[i - 1] := by rw [List.getD_eq_getElem?_getD, List.getElem?_eq_getElem hi1]; rfl
      have mu := hm _ (List.getElem_mem hi1)
      rw [← eu] at mu
      have ne : os.getD (i - 1) 0 ≠ v := fun z => by
        have := nd_inj nd (getD_get hi1) (by rw [hv, z])
        omega
      have en : Sa.na xs os i = Sa.na xs os (i - 1) + if Sa.hl xs (os.getD (i - 1) 0) = Sa.hl xs (os.getD i 0) then 0 else 1 := by
        obtain ⟨k, rfl⟩ : ∃ k, i = k + 1 := ⟨i - 1, by omega⟩
        rw [Nat.add_sub_cancel, Sa.na]
      rw [ev] at en
      rw [e2]
      walk_at "m"
      rw [w_samehill hi mu mv ne]
      walk_at "m"
      refine W_ifN (fun h => ?_) (fun h => ?_)
      · walk_at "m"
        refine ⟨by omega, fin _ ?_⟩
        rw [if_neg h] at en
        omega
      · walk_at "m"
        refine ⟨by omega, fin _ ?_⟩
        rw [if_pos h] at en
        omega
  · rintro γ ⟨d, nx, bf, rfl, hd, h0, h1, h2⟩
    rw [nls_len] at h0 h1 h2
    walk_at "m"
    have e : (nx : Int) - 1 + 1 = if os.length = 0 then 0 else ((Sa.na xs os (os.length - 1) + 1 : Nat) : Int) := by
      by_cases z : os.length = 0
      · rw [if_pos z, (h0 z).1]; rfl
      · rw [if_neg z, (h1 (os.length - 1) (by omega)).1]; omega
    rw [e]
    refine q d fun v hv => ?_
    have := h2 (os.idxOf v) (List.idxOf_lt_length_of_mem hv)
    rw [Sa.getD_idx hv] at this
    exact this

end Lw
namespace Lw
open PySem PySem.Spec PyProof.Rows L2 Fw Mi Lb
section
variable {P : Program} {w : World} {K : PySem.W.Frag} {mg : Str → Option Value} {base : Heap}
noncomputable def m_sorted_rows_s (rec_ : (List Int) → Int → Option (List Int)) (numbers : (List Int)) (size : Int) : Option (List Int) := fin (κ := Unit) (ρ := Unit) (ob (ob (some (numbers, ())) fun z1 => (m_lows_of z1.1)) fun lows => ob (ob (ob (some ((numbers.length : Int), ())) fun z => (pck (-4611686018427387904 ≤ z.1 ∧ z.1 < 4611686018427387904) (prange z.1))) fun xs4 => (ob (lcF (fun c2 => (ob (some (lows, c2, ())) fun z3 => (m_is_valley z3.1 z3.2.1))) (fun c2 => (some c2)) xs4) fun r => pck (r.length ≤ sz) r)) fun valleys => rb ((ob (some (!(!(valleys).isEmpty))) fun b9 => if b9 = true then (rb (ob ((ob (some (0 : Int)) fun x7 => pck (([x7] : List Int).length ≤ sz) [x7])) fun r8 => some (.ret r8)) fun γ => some (.nxt γ)) else (some (.nxt (numbers, size, lows, valleys, ()))))) fun γ => let numbers := γ.1; let size := γ.2.1; let lows := γ.2.2.1; let valleys := γ.2.2.2.1; ob (ob (some (numbers, size, lows, valleys, ())) fun z10 => (m_induced z10.1 z10.2.1 z10.2.2.1 z10.2.2.2.1)) fun rows => ob (ob (some rows) fun xs13 => (ob (lcF (fun c11 => (ob (some (lows, c11, ())) fun z12 => (m_is_valley z12.1 z12.2.1))) (fun c11 => (some c11)) xs13) fun r => pck (r.length ≤ sz) r)) fun ordered => ob (ob (some (numbers, lows, ordered, ())) fun z14 => (m_hill_names z14.1 z14.2.1 z14.2.2.1)) fun q15 => rb ((ob (some (decide (q15.2 < (valleys.length : Int)))) fun b23 => if b23 = true then (ob (ob (ob (ob (some valleys) fun xs17 => (ob (lcM (fun c16 => (mget q15.1 c16)) xs17) fun r => pck (r.length ≤ sz) r)) fun x18 => (ob (some (q15.2, ())) fun r19 => some (x18, r19))) fun z20 => (rec_ z20.1 z20.2.1)) fun inner => ob (ob (some inner) fun xs22 => (ob (lcM (fun c21 => (pat valleys c21)) xs22) fun r => pck (r.length ≤ sz) r)) fun ordered => some (.nxt (numbers, size, lows, valleys, rows, ordered, q15.1, q15.2, ()))) else (some (.nxt (numbers, size, lows, valleys, rows, ordered, q15.1, q15.2, ()))))) fun γ => let numbers := γ.1; let size := γ.2.1; let lows := γ.2.2.1; let ordered := γ.2.2.2.2.2.1; rb (ob (ob (some (numbers, size, lows, ordered, ())) fun z26 => (m_induced z26.1 z26.2.1 z26.2.2.1 z26.2.2.2.1)) fun r27 => some (.ret r27)) fun γ => some (.nxt γ))
noncomputable def m_sorted_rows : Nat → (List Int) → Int → Option (List Int)
  | 0, _, _ => none
  | k_ + 1, numbers, size => m_sorted_rows_s (m_sorted_rows k_) numbers size
abbrev sp_sorted_rows (k_ : Nat) (K : PySem.W.Frag) : Sp := spM (aC (jL jI) (aC jI aN)) (sO jI) (fun γ => m_sorted_rows k_ γ.1 γ.2.1)
theorem ok_sorted_rows (T : Tx w K mg) : ∀ k_ : Nat, Dn P w K mg base (4 + k_) (He.ga K "sorted_rows") ["numbers", "size"] (sp_sorted_rows k_ K) := by
  obtain ⟨fd_lows_of, G_lows_of, b_lows_of, kp_lows_of, _⟩ := ok_lows_of (P := P) (w := w) (base := base) T
  obtain ⟨fd_induced, G_induced, b_induced, kp_induced, _⟩ := ok_induced (P := P) (w := w) (base := base) T
  obtain ⟨fd_hill_names, G_hill_names, b_hill_names, kp_hill_names, _⟩ := ok_hill_names (P := P) (w := w) (base := base) T
  obtain ⟨fd_is_valley, G_is_valley, b_is_valley, kp_is_valley, _⟩ := ok_is_valley (P := P) (w := w) (base := base) T
  intro k_
  induction k_ with
  | zero =>
    refine dn_mk (k := 3) T.d_sorted_rows sc_sorted_rows (fun _ _ _ _ _ _ us hl => match us, hl with | [_, _], _ => rfl) (spM_len (an_C (an_C an_0))) fun cdv A outer s H vs Q E hr h => ?_
    obtain ⟨_, _, _, _, _, e, _⟩ := h
    cases e
  | succ k_ ih =>
    obtain ⟨fd_sorted_rows, G_sorted_rows, b_sorted_rows, kp_sorted_rows, _⟩ := ih
    refine dn_mk (k := 4 + k_) T.d_sorted_rows sc_sorted_rows (fun _ _ _ _ _ _ us hl => match us, hl with | [_, _], _ => rfl) (spM_len (an_C (an_C an_0))) fun cdv A outer s H vs Q E hr h => ?_
    refine ⟨_, (pss_cons (ps_set (i := 2) sc_sorted_rows.nd rfl (.inr rfl) (pe_call G_lows_of (hr.mono (by omega)) (by rfl) T.g_lows_of kp_lows_of b_lows_of .nil pass0 (pa_cons (pv 0) pa_nil)))
      (pss_cons (ps_set (i := 3) sc_sorted_rows.nd rfl (.inr rfl) (pe_lc (own := [("at", 4)]) rfl sc_sorted_rows.nd (pi_range1 (by rfl) T.z_range (pa_cons (pe_callB (lenQ_ (K := K)) (by rfl) T.z_len (by decide +kernel) (pa_cons (pv 0) pa_nil)) pa_nil)) (blkOk_by (own := [("at", 4)]) (N := ["numbers", "size", "lows", "valleys", "at", "rows", "ordered", "start", "names", "count", "inner"]) (sc := defScope s_sorted_rows) (by decide +kernel)) (fun _ _ _ _ _ => (pg_name (i := 4) sc_sorted_rows.nd rfl (.inl rfl))) (fun _ _ _ _ _ => (pts_one (pt_val (pe_call G_is_valley (hr.mono (by omega)) (by rfl) T.g_is_valley kp_is_valley b_is_valley .nil pass0 (pa_cons (pv 2) (pa_cons (pv 4) pa_nil)))))) (fun _ _ _ _ _ => (pv 4))))
      (pss_cons (ps_if (pt_not (pt_truth (pv 3) (by intro _; rfl)))
      (pss_cons (ps_ret (pe_lst (pa_cons pe_int pa_nil)))
      pss_nil)
      pss_nil)
      (pss_cons (ps_set (i := 5) sc_sorted_rows.nd rfl (.inl rfl) (pe_call G_induced (hr.mono (by omega)) (by rfl) T.g_induced kp_induced b_induced .nil pass0 (pa_cons (pv 0) (pa_cons (pv 1) (pa_cons (pv 2) (pa_cons (pv 3) pa_nil))))))
      (pss_cons (ps_setLc (i := 6) (own := [("start", 7)]) rfl sc_sorted_rows.nd rfl rfl (sw_true rfl rfl rfl (by decide +kernel)) (iL_ (K := K) (pv 5)) (blkOk_by (own := [("start", 7)]) (N := ["numbers", "size", "lows", "valleys", "at", "rows", "ordered", "start", "names", "count", "inner"]) (sc := defScope s_sorted_rows) (by decide +kernel)) (fun _ _ _ _ _ => (pg_name (i := 7) sc_sorted_rows.nd rfl (.inl rfl))) (fun _ _ _ _ _ => (pts_one (pt_val (pe_call G_is_valley (hr.mono (by omega)) (by rfl) T.g_is_valley kp_is_valley b_is_valley .nil pass0 (pa_cons (pv 2) (pa_cons (pv 7) pa_nil)))))) (fun _ _ _ _ _ => (pv 7)))
      (pss_cons (ps_asg (pe_call G_hill_names (hr.mono (by omega)) (by rfl) T.g_hill_names kp_hill_names b_hill_names .nil pass0 (pa_cons (pv 0) (pa_cons (pv 2) (pa_cons (pv 6) pa_nil)))) (gt_ (K := K) (n := 2) (by rfl) (pgs_cons (pg_name (i := 8) sc_sorted_rows.nd rfl (.inr rfl)) (pgs_cons (pg_name (i := 9) sc_sorted_rows.nd rfl (.inl rfl)) pgs_nil))))
      (pss_cons (ps_if (pt_cmpR op_lt (pv 9) (pe_callB (lenQ_ (K := K)) (by rfl) T.z_len (by decide +kernel) (pa_cons (pv 3) pa_nil)) (nomark _))
      (pss_cons (ps_set (i := 10) sc_sorted_rows.nd rfl (.inl rfl) (pe_call G_sorted_rows (hr.mono (by omega)) (by rfl) T.g_sorted_rows kp_sorted_rows b_sorted_rows .nil pass0 (pa_cons (pe_lc (own := [("start", 7)]) rfl sc_sorted_rows.nd (iL_ (K := K) (pv 3)) (blkOk_by (own := [("start", 7)]) (N := ["numbers", "size", "lows", "valleys", "at", "rows", "ordered", "start", "names", "count", "inner"]) (sc := defScope s_sorted_rows) (by decide +kernel)) (fun _ _ _ _ _ => (pg_name (i := 7) sc_sorted_rows.nd rfl (.inl rfl))) (fun _ _ _ _ _ => pts_nil) (fun _ _ _ _ _ => (pe_dget (hu_of hr) (pv 8) (pv 7) (fun _ _ => rfl)))) (pa_cons (pv 9) pa_nil))))
      (pss_cons (ps_setLc (i := 6) (own := [("at", 4)]) rfl sc_sorted_rows.nd rfl rfl (sw_true rfl rfl rfl (by decide +kernel)) (iL_ (K := K) (pv 10)) (blkOk_by (own := [("at", 4)]) (N := ["numbers", "size", "lows", "valleys", "at", "rows", "ordered", "start", "names", "count", "inner"]) (sc := defScope s_sorted_rows) (by decide +kernel)) (fun _ _ _ _ _ => (pg_name (i := 4) sc_sorted_rows.nd rfl (.inl rfl))) (fun _ _ _ _ _ => pts_nil) (fun _ _ _ _ _ => (pe_ix (ixL_ (K := K)) (pv 3) (pv 4) (fun _ _ => rfl))))
      pss_nil))
      pss_nil)
      (pss_cons (ps_ret (pe_call G_induced (hr.mono (by omega)) (by rfl) T.g_induced kp_induced b_induced .nil pass0 (pa_cons (pv 0) (pa_cons (pv 1) (pa_cons (pv 2) (pa_cons (pv 6) pa_nil))))))
      pss_nil)))))))), ?_⟩
    refine fin_runX (E := (eC (sF (jL jI)) (eC (sF jI) (eU (eU (eU (eU (eU (eU (eU (eU (eU eN)))))))))))) (E' := eN) (ae_C (ae_C (ae_U rfl (ae_U rfl (ae_U rfl (ae_U rfl (ae_U rfl (ae_U rfl (ae_U rfl (ae_U rfl (ae_U rfl ae_0))))))))))) (an_C (an_C an_0)) rfl ?S (show spM (aC (jL jI) (aC jI aN)) (sO jI) (fun γ => m_sorted_rows_s (m_sorted_rows k_) γ.1 γ.2.1) vs H Q E from h) rfl
    exact ⟨_, (ss_asg (se_call (sa_cons (se_var g0) sa_nil)) (pS (pS p0U)) (ss_asg (se_lcF (si_r1 (sa_cons (se_cb (sa_cons (se_var g0) sa_nil) (sc_lenL (K := K))) sa_nil)) (wp_cons (nS (nS (nS (nU n0)))) wp_nil) (sg_name (pS (pS (pS (pU p0U))))) (st_B (se_callR (sra_cons (sr_var (gS (gS g0))) (sra_cons (sr_of (se_var (gS (gS (gS (gU g0)))))) sra_nil)) scB)) (se_var (gS (gS (gS (gU g0)))))) (pS (pS (pS p0U))) (ss_seq (ss_if (st_not (st_truR (K := K) (sr_var (gS (gS (gS g0)))))) (ss_seq (ss_ret (se_lst (sl_cons se_int sl_nil))) ss_nil) ss_nil) (ss_asg (se_callRS (sra_cons (sr_of (se_var g0)) (sra_cons (sr_of (se_var (gS g0))) (sra_cons (sr_var (gS (gS g0))) (sra_cons (sr_var (gS (gS (gS g0)))) sra_nil)))) (scsO scI)) (pS (pS (pS (pS (pU p0U))))) (ss_pre (cK (cK (cK (cK (cU (cI cId)))))) (ss_asg (se_lcF (si_list (se_var (gS (gS (gS (gS (gU g0))))))) (wp_cons (nS (nS (nS (nS (nU (nS (nU n0))))))) wp_nil) (sg_name (pS (pS (pS (pS (pU (pS (pU p0U)))))))) (st_B (se_callR (sra_cons (sr_var (gS (gS g0))) (sra_cons (sr_of (se_var (gS (gS (gS (gS (gU (gS (gU g0))))))))) sra_nil)) scB)) (se_var (gS (gS (gS (gS (gU (gS (gU g0))))))))) (pS (pS (pS (pS (pU (pS p0U)))))) (ss_pre (cK (cK (cI cId))) (ss_pre (cK (cK (cK (cK (cU (cK (cI cId))))))) (ss_asgG (se_call (sa_cons (se_var g0) (sa_cons (se_var (gS (gS g0))) (sa_cons (se_var (gS (gS (gS (gS (gU (gS g0))))))) sa_nil)))) (sg_tup (K := K) (sgs_C (sg_name (pS (pS (pS (pS (pU (pS (pS (pU p0U))))))))) (sgs_1 (sg_name (pS (pS (pS (pS (pU (pS (pS (pU (pS p0U)))))))))))) (tz tz1)) (ss_seq (ss_if (st_test (se_op (se_var (gS (gS (gS (gS (gU (gS (gS (gU (gS g0)))))))))) (se_cbR (sra_cons (sr_var (gS (gS (gS g0)))) sra_nil) (sc_lenL (K := K)) scI) (s2_C0 (f := fun i j => decide (i < j))))) (ss_pre (cK (cK (cK (cI cId)))) (ss_asg (se_call (sa_cons (se_fz (se_lc (si_list (se_var (gS (gS (gS g0))))) (wp_cons (nS (nS (nS (nS (nU (nS (nS n0))))))) wp_nil) (sg_name (pS (pS (pS (pS (pU (pS (pS p0U)))))))) (se_dget (sr_of (se_var (gS (gS (gS (gS (gU (gS (gS (gS g0)))))))))) (se_var (gS (gS (gS (gS (gU (gS (gS g0)))))))) scI))) (sa_cons (se_var (gS (gS (gS (gS (gU (gS (gS (gU (gS g0)))))))))) sa_nil))) (pS (pS (pS (pS (pU (pS (pS (pU (pS (pS p0U)))))))))) (ss_pre (cK (cK (cK (cK (cU (cK (cK (cU (cK (cK (cI cId))))))))))) (ss_asg (se_lc (si_list (se_var (gS (gS (gS (gS (gU (gS (gS (gU (gS (gS g0)))))))))))) (wp_cons (nS (nS (nS (nS n0)))) wp_nil) (sg_name (pS (pS (pS (pS p0U))))) (se_op (se_var (gS (gS (gS g0)))) (se_var (gS (gS (gS (gS g0))))) s2_ixL)) (pS (pS (pS (pS (pU (pS p0)))))) (ss_co (cK (cK (cK (cK (cU (cK (cI (cU (cK (cK (cF cId)))))))))))))))) (ss_co (cK (cK (cK (cI cId)))))) (ss_seq (ss_ret (se_call (sa_cons (se_var g0) (sa_cons (se_var (gS g0)) (sa_cons (se_var (gS (gS g0))) (sa_cons (se_var (gS (gS (gS (gS (gU (gS g0))))))) sa_nil)))))) ss_nil))))))))))), by exact rfl⟩
end
end Lw
namespace Lw
open PySem PySem.Spec PyProof.Rows L2 Fw Mi Lb
local macro_rules | `(tactic| walk_at "m") => `(tactic| simp only [pidx_one, pinS_one, pninS_one, W_some, W_none, W_ob, W_bind, W_pck, W_rb, W_fin, W_finN, W_T, W_F, W_Tr, W_Fa, Rw_nxt, Rw_ret, Rw_cnt, Rf_ret, Rf_nxt, RfN_ret, RfN_nxt, W_finU, RfU_nxt, W_finZ, W_finZN, RfZ_nxt, lcM_id, W_obx, Xf_ok, Xf_er, W_rbx, Xr_ok, Xr_er, W_okx, W_finNX, RfNX_ret, RfNX_nxt, W_finUX, RfUX_nxt, RfUX_er, W_trx, Xt_ok, Xt_er, decide_true, decide_false, Bool.not_true, Bool.not_false])
theorem nls_filter {xs : List Nat} {p : Nat → Bool} {q : Int → Bool} (h : ∀ k : Nat, q (k : Int) = p k) : (nls xs).filter q = nls (xs.filter p) := by
  unfold nls
  rw [List.filter_map]
  congr 1
  exact List.filter_congr fun k _ => h k
theorem prange_nls (n : Nat) : prange (n : Int) = nls (List.range n) := by unfold prange nls; rw [Int.toNat_natCast]
theorem nls_mem {xs : List Nat} {x : Int} (h : x ∈ nls xs) : ∃ k, k ∈ xs ∧ x = (k : Int) := by
  unfold nls at h
  obtain ⟨k, h1, h2⟩ := List.mem_map.mp h
  exact ⟨k, h1, h2.symm⟩
theorem lcF_nls {low : Nat → Bool} {n : Nat} {ks : List Nat} (h : ∀ k ∈ ks, k < n) : lcF (fun c => ob (some (tab n low, c, ())) fun z => m_is_valley z.1 z.2.1) (fun c => some c) (nls ks) = some (nls (ks.filter fun k => decide (Sa.vly low k))) := by
  have e := lcF_map (p := fun c => ob (some (tab n low, c, ())) fun z => m_is_valley z.1 z.2.1) (q := fun c => decide (Sa.vly low c.toNat)) (f := fun c => some c) (g := fun c => c) (xs := nls ks) (fun x hx => by
    obtain ⟨k, hk, rfl⟩ := nls_mem hx
    show m_is_valley (tab n low) (k : Int) = _
    rw [w_valley (h k hk), Int.toNat_natCast]) (fun _ _ _ => rfl)
  rw [e, List.map_id', nls_filter (p := fun k => decide (Sa.vly low k)) fun k => by rw [Int.toNat_natCast]]
theorem w_sorted : ∀ (k : Nat) {xs : List Nat} {s : Nat} {Q : List Int → Prop}, xs.length < 2 ^ k → k ≤ 11 → Sa.Inp xs → s ≤ 4001 → (∀ i, i < xs.length → Sa.nm xs i < s) → (∀ rs : List Nat, Sa.Rows xs rs → Q (nls rs)) → W (m_sorted_rows k (nls xs) (s : Int)) Q := by
  intro k
  induction k with
  | zero => intro xs s Q h _ hi _ _ _; have := hi.pos; omega
  | succ k ih =>
    intro xs s Q hk hk2 hi hs hx q
    have hz : (4001 : Nat) < sz := by unfold sz; omega
    have h11 : 2 ^ (k + 1) ≤ 2 ^ 11 := Nat.pow_le_pow_right (by decide) hk2
    have hl : xs.length ≤ 4000 := by omega
    have vl : (Sa.vals xs).length ≤ xs.length := by have := Sa.vals_half (xs := xs); omega
    have two := Nat.pow_succ 2 k
    rw [m_sorted_rows]
    unfold m_sorted_rows_s
    walk_at "m"
    refine w_lows hl ?_
    rw [nls_len]
    refine ⟨⟨by omega, by omega⟩, ?_⟩
    rw [prange_nls, lcF_nls fun k hk => List.mem_range.mp hk]
    walk_at "m"
    rw [show ((List.range xs.length).filter fun k => decide (Sa.vly (Sa.lw xs) k)) = Sa.vals xs from rfl]
    refine ⟨by rw [nls_len]; omega, ?_⟩
    by_cases hv : Sa.vals xs = []
    · have h1 := (Sa.vals_nil hi).mp hv
      rw [hv]
      refine W_ifB (fun h => ?_) (fun h => by cases h)
      walk_at "m"
      refine ⟨by rw [List.length_singleton]; omega, ?_⟩
      refine q [0] ⟨?_, List.pairwise_singleton _ _⟩
      rw [h1]
      exact List.Perm.refl _
    have h2 : 2 ≤ xs.length := by
      have h1 : ¬ xs.length = 1 := fun z => hv ((Sa.vals_nil hi).mpr z)
      have := hi.pos
      omega
    refine W_ifB (fun h => ?_) (fun h => ?_)
    · exfalso
      cases e : Sa.vals xs with
      | nil => exact hv e
      | cons a t => rw [e] at h; cases h
    walk_at "m"
    refine w_induced hl h2 hs hx hi Sa.vals_nd (fun v => Iff.rfl) fun rs hp hsrt => ?_
    have ho := Sa.ord_of hi (fun v => Iff.rfl) hp hsrt
    have rsl : ∀ k ∈ rs, k < xs.length := fun k hk => List.mem_range.mp (hp.mem_iff.mp hk)
    rw [lcF_nls rsl]
    walk_at "m"
    generalize hos : (rs.filter fun k => decide (Sa.vly (Sa.lw xs) k)) = os at ho ⊢
    have osl : os.length = (Sa.vals xs).length := ((List.perm_ext_iff_of_nodup ho.nd Sa.vals_nd).mpr ho.mem).length_eq
    have pos : 0 < os.length := by
      rw [osl]
      exact List.length_pos_iff.mpr hv
    refine ⟨by rw [nls_len]; omega, ?_⟩
    refine w_names hl hi ho.nd (fun v hv => (Sa.mem_vals.mp ((ho.mem v).mp hv)).1) (by omega) fun d hd => ?_
    rw [if_neg (show ¬ os.length = 0 by omega), nls_len]
    have last : ∀ os' : List Nat, (∀ v, v ∈ os' ↔ v ∈ Sa.vals xs) → (os'.Pairwise fun a b => xs.drop a < xs.drop b) → W (m_induced (nls xs) (s : Int) (tab xs.length (Sa.lw xs)) (nls os')) Q := fun os' hm' hs' => by
      have nd' : os'.Nodup := by
        rw [List.nodup_iff_pairwise_ne]
        refine hs'.imp ?_
        intro a b h e
        rw [e] at h
        exact Sa.ltirr h
      refine w_induced hl h2 hs hx hi nd' hm' fun rs' hp' hsrt' => q rs' ⟨hp', ?_⟩
      refine List.Pairwise.imp_of_mem ?_ hsrt'
      intro a b ha hb e
      exact Sa.key_suf hi.sx (Sa.rk_suf hm' hs') _ a b rfl (List.mem_range.mp (hp'.mem_iff.mp ha)) (List.mem_range.mp (hp'.mem_iff.mp hb)) e
    have nle := Sa.na_le (xs := xs) (os := os) (os.length - 1)
    refine W_ifD (fun h => ?_) (fun h => ?_)
    · have ninp := ho.inp hi h2
      have e1 : lcM (fun c => mget d c) (nls (Sa.vals xs)) = some (nls (Sa.red xs os)) := by
        rw [lcM_map (g := fun c => ((Sa.name xs os c.toNat : Nat) : Int)) fun x hx => by
          obtain ⟨v, hv, rfl⟩ := nls_mem hx
          rw [hd v ((ho.mem v).mpr hv), Int.toNat_natCast]]
        unfold nls Sa.red
        rw [List.map_map, List.map_map]
        rfl
      walk_at "m"
      rw [e1]
      walk_at "m"
      refine ⟨by rw [nls_len, Sa.red_len]; omega, ?_⟩
      refine ih (by rw [Sa.red_len]; have := Sa.vals_half (xs := xs); omega) (by omega) ninp (by omega) (fun i hi' => ?_) fun rs' hr => ?_
      · rw [Sa.red_len] at hi'
        have hg : (Sa.vals xs)[i]? = some (Sa.vals xs)[i] := List.getElem?_eq_getElem hi'
        rw [Sa.red_nm hg]
        have m := (ho.mem _).mpr (List.mem_of_getElem? hg)
        have := Sa.na_mono (xs := xs) (os := os) (show os.idxOf (Sa.vals xs)[i] ≤ os.length - 1 by have := List.idxOf_lt_length_of_mem m; omega)
        unfold Sa.name
        omega
      obtain ⟨i1, i2⟩ := ho.inner hi h2 hr
      have e2 : lcM (fun c => pat (nls (Sa.vals xs)) c) (nls rs') = some (nls (rs'.map fun i => (Sa.vals xs).getD i 0)) := by
        rw [lcM_map (g := fun c => (((Sa.vals xs).getD c.toNat 0 : Nat) : Int)) fun x hx => by
          obtain ⟨j, hj, rfl⟩ := nls_mem hx
          have := List.mem_range.mp (hr.1.mem_iff.mp hj)
          rw [Sa.red_len] at this
          rw [nls_pat this, Int.toNat_natCast]
          rfl]
        unfold nls
        rw [List.map_map, List.map_map]
        rfl
      rw [e2]
      walk_at "m"
      refine ⟨by rw [nls_len, List.length_map, hr.1.length_eq, List.length_range, Sa.red_len]; omega, ?_⟩
      exact last _ i1 i2
    · walk_at "m"
      exact last os ho.mem (ho.distinct hi (by omega))

end Lw
namespace Lw
open PySem PySem.Spec PyProof.Rows L2 Fw Mi Lb
section
variable {P : Program} {w : World} {K : PySem.W.Frag} {mg : Str → Option Value} {base : Heap}
noncomputable def m_suffix_rows (numbers : (List Int)) : Option (List Int) := fin (κ := Unit) (ρ := Unit) (ob (some ([] : List (Int × Int))) fun ranks => rb (ob (pck (numbers.length ≤ 4000) (psset numbers)) fun xs28 => (forR (fun (x_ : Int) (γ : ((List Int) × (List (Int × Int)) × Unit)) => let number := x_; let numbers := γ.1; let ranks := γ.2.1; (ob (some ((ranks.length : Int) + (1 : Int))) fun x2 => (ob (some number) fun k3 => ob (pck (ranks.length < sz) (mput ranks k3 x2)) fun w1 => some (.nxt (numbers, w1, ()))))) xs28 (numbers, ranks, ()))) fun γ => let numbers := γ.1; let ranks := γ.2.1; rb (ob (ob (ob (ob (ob (ob (some numbers) fun xs17 => (ob (lcM (fun c16 => (mget ranks c16)) xs17) fun r => pck (r.length ≤ sz) r)) fun x19 => (ob ((ob (some (0 : Int)) fun x18 => pck (([x18] : List Int).length ≤ sz) [x18])) fun y20 => (pck (x19.length + y20.length ≤ sz) (x19 ++ y20)))) fun x21 => (ob (some (((ranks.length : Int) + (1 : Int)), ())) fun r22 => some (x21, r22))) fun z23 => (m_sorted_rows 10 z23.1 z23.2.1)) fun x24 => (ob (some (some (1 : Int))) fun l25 => (ob (some none) fun h26 => some (pcut x24 l25 h26)))) fun r27 => some (.ret r27)) fun γ => some (.nxt γ))
abbrev sp_suffix_rows (K : PySem.W.Frag) : Sp := spM (aC (jL jI) aN) (sO jI) (fun γ => m_suffix_rows γ.1)
theorem ok_suffix_rows (T : Tx w K mg) : Dn P w K mg base 15 (He.ga K "suffix_rows") ["numbers"] (sp_suffix_rows K) := by
  obtain ⟨fd_sorted_rows, G_sorted_rows, b_sorted_rows, kp_sorted_rows, _⟩ := ok_sorted_rows (P := P) (w := w) (base := base) T 10
  refine dn_mk T.d_suffix_rows sc_suffix_rows (fun _ _ _ _ _ _ us hl => match us, hl with | [_], _ => rfl) (spM_len (an_C an_0)) fun cdv A outer s H vs Q E hr h => ?_
  refine ⟨_, (pss_cons (ps_set (i := 1) sc_suffix_rows.nd rfl (.inr rfl) pe_dnewK)
      (pss_cons (ps_for PassesOwn.never rfl (iL_ (K := K) (pe_callB (cr_sortSet rfl) (by rfl) T.z_sorted (by decide +kernel) (pa_cons (pe_callTy (cr_setL (K := K) rfl) (by rfl) T.z_set (by decide +kernel) (pa_cons (pv 0) pa_nil)) pa_nil))) (pg_name (i := 2) sc_suffix_rows.nd rfl (.inl rfl))
      (pss_cons (ps_dput (hu_of hr) (pv 1) (pv 2) (pe_op op_add (pe_callB call_lenD (by rfl) T.z_len (by decide +kernel) (pa_cons (pv 1) pa_nil)) pe_int) rfl)
      pss_nil))
      (pss_cons (ps_ret (pe_slice (slL_ (K := K)) (pe_call G_sorted_rows (hr.mono (by decide)) (by rfl) T.g_sorted_rows kp_sorted_rows b_sorted_rows .nil pass0 (pa_cons (pe_op op_cat (pe_lc (own := [("number", 2)]) rfl sc_suffix_rows.nd (iL_ (K := K) (pv 0)) (blkOk_by (own := [("number", 2)]) (N := ["numbers", "ranks", "number"]) (sc := defScope s_suffix_rows) (by decide +kernel)) (fun _ _ _ _ _ => (pg_name (i := 2) sc_suffix_rows.nd rfl (.inl rfl))) (fun _ _ _ _ _ => pts_nil) (fun _ _ _ _ _ => (pe_dget (hu_of hr) (pv 1) (pv 2) (fun _ _ => rfl)))) (pe_lst (pa_cons pe_int pa_nil))) (pa_cons (pe_op op_add (pe_callB call_lenD (by rfl) T.z_len (by decide +kernel) (pa_cons (pv 1) pa_nil)) pe_int) pa_nil))) (po_some pe_int) po_none))
      pss_nil))), ?_⟩
  refine fin_runX (E := (eC (sF (jL jI)) (eU (eU eN)))) (E' := eN) (ae_C (ae_U rfl (ae_U rfl ae_0))) (an_C an_0) rfl ?S h rfl
  exact ⟨_, (ss_asg se_dnew (pS p0U) (ss_seq (ss_for (si_list (se_fz (se_sortset (K := K) psset_ok (se_var g0)))) (sg_name (pS (pS p0U))) (ss_dput (kS k0) (se_var (gS (gS g0))) (se_op (se_cbR (sra_cons (sr_dvar (gS g0)) sra_nil) (sc_lenD (Y := kyI)) scI) se_int (s2_I0 (f := fun i j => i + j))) (ss_co (cK (cK (cF cId)))))) (ss_seq (ss_ret (se_sl (se_fz (se_call (sa_cons (se_fz (se_op (se_fz (se_lc (si_list (se_var g0)) (wp_cons (nS (nS n0)) wp_nil) (sg_name (pS (pS p0U))) (se_dget (sr_dvar (gS g0)) (se_var (gS (gS g0))) scI))) (se_fz (se_lst (sl_cons se_int sl_nil))) s2_cat)) (sa_cons (se_op (se_cbR (sra_cons (sr_dvar (gS g0)) sra_nil) (sc_lenD (Y := kyI)) scI) se_int (s2_I0 (f := fun i j => i + j))) sa_nil)))) (sp_so se_int) sp_no s3_L)) ss_nil))), by exact rfl⟩
end
end Lw
namespace Lw
open PySem PySem.Spec PyProof.Rows L2 Fw Mi Lb
local macro_rules | `(tactic| walk_at "m") => `(tactic| simp only [pidx_one, pinS_one, pninS_one, W_some, W_none, W_ob, W_bind, W_pck, W_rb, W_fin, W_finN, W_T, W_F, W_Tr, W_Fa, Rw_nxt, Rw_ret, Rw_cnt, Rf_ret, Rf_nxt, RfN_ret, RfN_nxt, W_finU, RfU_nxt, W_finZ, W_finZN, RfZ_nxt, lcM_id, W_obx, Xf_ok, Xf_er, W_rbx, Xr_ok, Xr_er, W_okx, W_finNX, RfNX_ret, RfNX_nxt, W_finUX, RfUX_nxt, RfUX_er, W_trx, Xt_ok, Xt_er, decide_true, decide_false, Bool.not_true, Bool.not_false])
/-- the rank of a member, from 1 -/
def rkn (l : List Int) (x : Int) : Nat := l.idxOf x + 1
theorem ps_idx {l : List Int} (h : l.Pairwise (· < ·)) {x y : Int} (hx : x ∈ l) (hy : y ∈ l) : rkn l x < rkn l y ↔ x < y := by
  have h1 := List.idxOf_lt_length_of_mem hx
  have h2 := List.idxOf_lt_length_of_mem hy
  have g1 : l[l.idxOf x] = x := by simp
  have g2 : l[l.idxOf y] = y := by simp
  have mono := List.pairwise_iff_getElem.mp h
  unfold rkn
  constructor
  · intro z
    have := mono _ _ h1 h2 (by omega)
    rwa [g1, g2] at this
  · intro z
    rcases Nat.lt_trichotomy (l.idxOf x) (l.idxOf y) with c | c | c
    · omega
    · have : x = y := by rw [← g1, ← g2]; simp only [c]
      omega
    · have := mono _ _ h2 h1 c
      rw [g1, g2] at this
      omega
theorem psset_len : ∀ xs : List Int, (psset xs).length ≤ xs.length
  | [] => Nat.le_refl _
  | x :: xs => by
    have ins : ∀ ys : List Int, (insU x ys).length ≤ ys.length + 1 := fun ys => by
      induction ys with
      | nil => exact Nat.le_refl _
      | cons y ys ih =>
        rw [insU]
        split
        · exact Nat.le_refl _
        · split
          · rw [List.length_cons]; omega
          · rw [List.length_cons, List.length_cons]; omega
    have := ins (psset xs)
    have := psset_len xs
    rw [psset, List.length_cons]
    omega
theorem w_sufrows {ns : List Int} {Q : List Int → Prop} (hl : ns.length < 1023) (q : ∀ rs : List Nat, Sa.SufRows ns rs → Q (nls rs)) : W (m_suffix_rows ns) Q := by
  have hz : (4001 : Nat) < sz := by unfold sz; omega
  obtain ⟨h1, h2⟩ := psset_ok ns
  have h3 := psset_len ns
  have nd : (psset ns).Nodup := by
    rw [List.nodup_iff_pairwise_ne]
    refine h1.imp ?_
    intro a b h e
    omega
  unfold m_suffix_rows
  walk_at "m"
  refine ⟨by omega, ?_⟩
  refine W_for (fun i γ => ∃ d : List (Int × Int), γ = (ns, d, ()) ∧ d.length = i ∧ (∀ k, (k ∈ (psset ns).take i → mget d k = some ((rkn (psset ns) k : Nat) : Int)) ∧ (k ∉ (psset ns).take i → mget d k = none))) ⟨[], rfl, rfl, fun k => ⟨fun h => (nomatch h), fun _ => rfl⟩⟩ ?_ ?_
  · rintro i x γ hx ⟨d, rfl, hd, hI⟩
    have hil := (List.getElem?_eq_some_iff.mp hx).1
    obtain ⟨hg, ex⟩ := List.getElem?_eq_some_iff.mp hx
    have nx : x ∉ (psset ns).take i := fun z => by
      obtain ⟨j, hj⟩ := List.mem_iff_getElem?.mp z
      rw [List.getElem?_take] at hj
      split at hj
      · next hji =>
        obtain ⟨hg2, e2⟩ := List.getElem?_eq_some_iff.mp hj
        have := List.pairwise_iff_getElem.mp h1 j i hg2 hg hji
        omega
      · cases hj
    have ri : rkn (psset ns) x = i + 1 := by
      unfold rkn
      rw [← ex, nd.idxOf_getElem]
    walk_at "m"
    refine ⟨by omega, _, rfl, ?_, fun k => ⟨fun hk => ?_, fun hk => ?_⟩⟩
    · have e := mget_any d x
      rw [(hI x).2 nx] at e
      unfold mput
      rw [e, if_neg (by decide), List.length_append, hd]
      rfl
    · rw [mget_mput]
      by_cases e : k = x
      · rw [if_pos e, e, ri]
        congr 1
        omega
      · rw [if_neg e]
        refine (hI k).1 ?_
        rw [List.take_succ, hx] at hk
        rcases List.mem_append.mp hk with z | z
        · exact z
        · simp at z
          exact absurd z e
    · have sub : ∀ y, y ∈ (psset ns).take i → y ∈ (psset ns).take (i + 1) := fun y hy => by
        rw [List.take_succ]
        exact List.mem_append_left _ hy
      rw [mget_mput, if_neg fun e => hk (by rw [e, List.take_succ, hx]; simp)]
      exact (hI k).2 fun z => hk (sub k z)
  · rintro γ ⟨d, rfl, hd, hI⟩
    rw [List.take_length] at hI
    walk_at "m"
    have e1 : lcM (fun c => mget d c) ns = some (nls (ns.map (rkn (psset ns)))) := by
      rw [lcM_map (g := fun c => ((rkn (psset ns) c : Nat) : Int)) fun x hx => (hI x).1 ((h2 x).mpr hx)]
      unfold nls
      rw [List.map_map]
      rfl
    rw [e1]
    walk_at "m"
    rw [nls_len, List.length_map, List.length_singleton]
    refine ⟨by omega, by omega, by omega, ?_⟩
    rw [show nls (ns.map (rkn (psset ns))) ++ [(0 : Int)] = nls (ns.map (rkn (psset ns)) ++ [0]) by unfold nls; rw [List.map_append]; rfl, hd, show ((psset ns).length : Int) + 1 = (((psset ns).length + 1 : Nat) : Int) by omega]
    have len : (ns.map (rkn (psset ns)) ++ [0]).length = ns.length + 1 := by rw [List.length_append, List.length_map]; rfl
    have nmi : ∀ i (h : i < ns.length), Sa.nm (ns.map (rkn (psset ns)) ++ [0]) i = rkn (psset ns) ns[i] := fun i h => by
      unfold Sa.nm
      rw [List.getD_eq_getElem?_getD, List.getElem?_append_left (by rw [List.length_map]; exact h), List.getElem?_map, List.getElem?_eq_getElem h]
      rfl
    have nml : Sa.nm (ns.map (rkn (psset ns)) ++ [0]) ns.length = 0 := by
      unfold Sa.nm
      rw [List.getD_eq_getElem?_getD, List.getElem?_append_right (by rw [List.length_map]; exact Nat.le_refl _), List.length_map, Nat.sub_self]
      rfl
    refine w_sorted 10 (by rw [len]; omega) (by decide) ⟨by rw [len]; omega, by rw [len, Nat.add_sub_cancel]; exact nml, fun i hi => ?_⟩ (by omega) (fun i hi => ?_) fun rs hr => ?_
    · rw [len] at hi
      rw [nmi i (by omega)]
      exact Nat.succ_pos _
    · rw [len] at hi
      by_cases e : i = ns.length
      · rw [e, nml]; omega
      · rw [nmi i (by omega)]
        have := List.idxOf_lt_length_of_mem ((h2 _).mpr (List.getElem_mem (show i < ns.length by omega)))
        unfold rkn
        omega
    · obtain ⟨t, rfl, ht⟩ := Sa.rows_of (S := fun x => x ∈ psset ns) (fun x hx => (h2 x).mpr hx) (fun x _ => Nat.succ_pos _) (fun x y hx hy => ps_idx h1 hx hy) hr
      rw [show (1 : Int) = ((1 : Nat) : Int) from rfl, pcut_from]
      exact q t ht

end Lw
namespace Lw
open PySem PySem.Spec PyProof.Rows L2 Fw Mi Lb
section
variable {P : Program} {w : World} {K : PySem.W.Frag} {mg : Str → Option Value} {base : Heap}
noncomputable def m_law_row (cell : Int) (count : Int) (bound : Int) : Option (List Int) := fin (κ := Unit) (ρ := Unit) (ob (ob (pck (PMod cell (1000003 : Int)) (cell % (1000003 : Int))) fun x1 => some (x1 + (1 : Int))) fun mixed => ob (pck (([] : List Int).length ≤ sz) []) fun row => rb (ob (pck (-4611686018427387904 ≤ count ∧ count < 4611686018427387904) (prange count)) fun xs16 => (forR (fun (x_ : Int) (γ : (Int × Int × Int × Int × Int × (List Int) × Unit)) => let k := x_; let cell := γ.1; let count := γ.2.1; let bound := γ.2.2.1; let rest := γ.2.2.2.1; let mixed := γ.2.2.2.2.1; let row := γ.2.2.2.2.2.1; rb (if (decide (bound ≤ rest)) = true then ((ob (pck (PMod rest bound) (rest % bound)) fun x3 => ob (pck (row.length < sz) (row ++ [x3])) fun w2 => ob (pck (PDiv rest bound) (rest / bound)) fun rest => some (.nxt (cell, count, bound, rest, mixed, w2, k, ())))) else (ob (ob (ob (ob (ob (ob (pck (PMul mixed (48271 : Int)) (mixed * (48271 : Int))) fun x4 => (ob (pck (PMul (11 : Int) k) ((11 : Int) * k)) fun y5 => some (x4 + y5))) fun x6 => some (x6 + (7 : Int))) fun x7 => some (x7, ())) fun z8 => some z8.1) fun x9 => (pck (PMod x9 (2147483647 : Int)) (x9 % (2147483647 : Int)))) fun mixed => (ob (ob (ob (ob (ob (pck (PMul mixed (2862933555777941757 : Int)) (mixed * (2862933555777941757 : Int))) fun x10 => (pck (PDiv x10 (1024 : Int)) (x10 / (1024 : Int)))) fun x11 => some (x11, ())) fun z12 => some z12.1) fun x13 => (pck (PMod x13 bound) (x13 % bound))) fun x15 => ob (pck (row.length < sz) (row ++ [x15])) fun w14 => some (.nxt (cell, count, bound, rest, mixed, w14, k, ()))))) fun γ => let cell := γ.1; let count := γ.2.1; let bound := γ.2.2.1; let rest := γ.2.2.2.1; let mixed := γ.2.2.2.2.1; let row := γ.2.2.2.2.2.1; some (.nxt (cell, count, bound, rest, mixed, row, ()))) xs16 (cell, count, bound, (cell.natAbs : Int), mixed, row, ()))) fun γ => let row := γ.2.2.2.2.2.1; rb (some (.ret row)) fun γ => some (.nxt γ))
abbrev sp_law_row (K : PySem.W.Frag) : Sp := spM (aC jI (aC jI (aC jI aN))) (sO jI) (fun γ => m_law_row γ.1 γ.2.1 γ.2.2.1)
theorem ok_law_row (T : Tx w K mg) : Dn P w K mg base 1 (He.ga K "_law_row") ["_law_cell_here", "_law_count", "_law_bound"] (sp_law_row K) := by
  refine dn_mk T.d_law_row sc_law_row (fun _ _ _ _ _ _ us hl => match us, hl with | [_, _, _], _ => rfl) (spM_len (an_C (an_C (an_C an_0)))) fun cdv A outer s H vs Q E hr h => ?_
  refine ⟨_, (pss_cons (ps_set (i := 3) sc_law_row.nd rfl (.inl rfl) (pe_callB k_abs (by rfl) T.z_abs (by decide +kernel) (pa_cons (pe_callTy k_int (by rfl) T.z_int (by decide +kernel) (pa_cons (pv 0) pa_nil)) pa_nil)))
      (pss_cons (ps_set (i := 4) sc_law_row.nd rfl (.inl rfl) (pe_op op_add (pe_op op_mod (pe_callTy k_int (by rfl) T.z_int (by decide +kernel) (pa_cons (pv 0) pa_nil)) pe_int) pe_int))
      (pss_cons (ps_set (i := 5) sc_law_row.nd rfl (.inl rfl) (pe_lst pa_nil))
      (pss_cons (ps_for PassesOwn.never rfl (pi_range1 (by rfl) T.z_range (pa_cons (pv 1) pa_nil)) (pg_name (i := 6) sc_law_row.nd rfl (.inl rfl))
      (pss_cons (ps_if (pt_cmpR op_ge (pv 3) (pv 2) (nomark _))
      (pss_cons (ps_expr (bm_ (K := K) PySem.F.plainAttrs_list PySem.F.slot_list_append PySem.F.type_list_append mt_append (pv 5) (pa_cons (pe_op op_mod (pe_callTy k_int (by rfl) T.z_int (by decide +kernel) (pa_cons (pv 3) pa_nil)) (pv 2)) pa_nil)))
      (pss_cons (ps_set (i := 3) sc_law_row.nd rfl (.inl rfl) (pe_op op_fdiv (pv 3) (pv 2)))
      pss_nil))
      (pss_cons (ps_set (i := 4) sc_law_row.nd rfl (.inl rfl) (pe_op op_mod (pe_callTy k_int (by rfl) T.z_int (by decide +kernel) (pa_cons (pe_op op_add (pe_op op_add (pe_op op_mul (pv 4) pe_int) (pe_op op_mul pe_int (pv 6))) pe_int) pa_nil)) pe_int))
      (pss_cons (ps_expr (bm_ (K := K) PySem.F.plainAttrs_list PySem.F.slot_list_append PySem.F.type_list_append mt_append (pv 5) (pa_cons (pe_op op_mod (pe_callTy k_int (by rfl) T.z_int (by decide +kernel) (pa_cons (pe_op op_fdiv (pe_op op_mul (pv 4) pe_int) pe_int) pa_nil)) (pv 2)) pa_nil)))
      pss_nil)))
      pss_nil))
      (pss_cons (ps_ret (pv 5))
      pss_nil))))), ?_⟩
  refine fin_runX (E := (eC (sF jI) (eC (sF jI) (eC (sF jI) (eU (eU (eU (eU eN)))))))) (E' := eN) (ae_C (ae_C (ae_C (ae_U rfl (ae_U rfl (ae_U rfl (ae_U rfl ae_0))))))) (an_C (an_C (an_C an_0))) rfl ?S h rfl
  exact ⟨_, (ss_asg (se_cb (sa_cons (se_cb (sa_cons (se_var g0) sa_nil) sc_int) sa_nil) sc_abs) (pS (pS (pS p0U))) (ss_asg (se_op (se_op (se_cb (sa_cons (se_var g0) sa_nil) sc_int) se_int s2_mod) se_int (s2_I0 (f := fun i j => i + j))) (pS (pS (pS (pS p0U)))) (ss_asg (se_lst (A := jI) sl_nil) (pS (pS (pS (pS (pS p0U))))) (ss_seq (ss_for (si_r1 (sa_cons (se_var (gS g0)) sa_nil)) (sg_name (pS (pS (pS (pS (pS (pS p0U))))))) (ss_seq (ss_if (st_test (se_op (se_var (gS (gS (gS g0)))) (se_var (gS (gS g0))) (s2_C0 (f := fun i j => decide (j ≤ i))))) (ss_app (K := K) (uS (uS (uS (uS (uS u0))))) (se_op (se_cb (sa_cons (se_var (gS (gS (gS g0)))) sa_nil) sc_int) (se_var (gS (gS g0))) s2_mod) (ss_asg (se_op (se_var (gS (gS (gS g0)))) (se_var (gS (gS g0))) s2_div) (pS (pS (pS p0))) ss_nil)) (ss_asg (se_op (se_cb (sa_cons (se_op (se_op (se_op (se_var (gS (gS (gS (gS g0))))) se_int s2_mul) (se_op se_int (se_var (gS (gS (gS (gS (gS (gS g0))))))) s2_mul) (s2_I0 (f := fun i j => i + j))) se_int (s2_I0 (f := fun i j => i + j))) sa_nil) sc_int) se_int s2_mod) (pS (pS (pS (pS p0)))) (ss_app (K := K) (uS (uS (uS (uS (uS u0))))) (se_op (se_cb (sa_cons (se_op (se_op (se_var (gS (gS (gS (gS g0))))) se_int s2_mul) se_int s2_div) sa_nil) sc_int) (se_var (gS (gS g0))) s2_mod) ss_nil))) (ss_co (cK (cK (cK (cK (cK (cK (cF cId)))))))))) (ss_seq (ss_retO (gS (gS (gS (gS (gS g0)))))) ss_nil))))), by exact rfl⟩
end
end Lw
namespace Lw
open PySem PySem.Spec PyProof.Rows L2 Fw Mi Lb
local macro_rules | `(tactic| walk_at "m") => `(tactic| simp only [pidx_one, pinS_one, pninS_one, W_some, W_none, W_ob, W_bind, W_pck, W_rb, W_fin, W_finN, W_T, W_F, W_Tr, W_Fa, Rw_nxt, Rw_ret, Rw_cnt, Rf_ret, Rf_nxt, RfN_ret, RfN_nxt, W_finU, RfU_nxt, W_finZ, W_finZN, RfZ_nxt, lcM_id, W_obx, Xf_ok, Xf_er, W_rbx, Xr_ok, Xr_er, W_okx, W_finNX, RfNX_ret, RfNX_nxt, W_finUX, RfUX_nxt, RfUX_er, W_trx, Xt_ok, Xt_er, decide_true, decide_false, Bool.not_true, Bool.not_false])
theorem w_row {c n b : Int} {Q : List Int → Prop} (hn : 0 ≤ n ∧ n < 1000000) (hb : 0 < b ∧ b < 1073741824) (q : ∀ ns : List Int, ns.length = n.toNat → (∀ x ∈ ns, 0 ≤ x ∧ x < b) → Q ns) : W (m_law_row c n b) Q := by
  unfold m_law_row
  walk_at "m"
  refine ⟨by omega, by simp, by omega, ?_⟩
  refine W_for (fun i γ => ∃ rest mixed row, γ = (c, n, b, rest, mixed, row, ()) ∧ 0 ≤ rest ∧ (0 ≤ mixed ∧ mixed < 2147483648) ∧ row.length = i ∧ ∀ x ∈ row, 0 ≤ x ∧ x < b) ⟨_, _, [], rfl, by omega, by omega, rfl, by simp⟩ ?_ ?_
  · rintro i k γ hk ⟨rest, mixed, row, rfl, h1, h2, h3, h4⟩
    obtain ⟨rfl, hi⟩ := prange_get hk
    walk_at "m"
    have hm : ∀ y : Int, 0 ≤ y % b ∧ y % b < b := fun y => ⟨Int.emod_nonneg _ (by omega), Int.emod_lt_of_pos _ hb.1⟩
    have hap : ∀ y, (0 ≤ y ∧ y < b) → ∀ x ∈ row ++ [y], 0 ≤ x ∧ x < b := fun y hy x hx => by
      rcases List.mem_append.mp hx with hx | hx
      · exact h4 x hx
      · rw [List.mem_singleton.mp hx]; exact hy
    refine W_ifD (fun h => ?_) (fun h => ?_)
    · walk_at "m"
      refine ⟨hb.1, by unfold sz; omega, ⟨hb.1, hb.2⟩, _, _, _, rfl, Int.ediv_nonneg h1 (by omega), h2, by simp [h3], hap _ (hm _)⟩
    · walk_at "m"
      refine ⟨by omega, by omega, by omega, by omega, by omega, hb.1, by unfold sz; omega, _, _, _, rfl, h1, by omega, by simp [h3], hap _ (hm _)⟩
  · rintro γ ⟨rest, mixed, row, rfl, h1, h2, h3, h4⟩
    walk_at "m"
    exact q _ (by rw [h3, prange_len]) h4

end Lw
namespace Lw
open PySem PySem.Spec PyProof.Rows L2 Fw Mi Lb
section
variable {P : Program} {w : World} {K : PySem.W.Frag} {mg : Str → Option Value} {base : Heap}
noncomputable def m_law_numbers (shape : Int) (cell : Int) (size : Int) : Option (List Int) := fin (κ := Unit) (ρ := Unit) (ob (pck (PMod shape (8 : Int)) (shape % (8 : Int))) fun kind => rb ((ob (some (decide (kind = (0 : Int)))) fun b5 => if b5 = true then (rb (ob (ob (some (cell, size, (1000000001 : Int), ())) fun z3 => (m_law_row z3.1 z3.2.1 z3.2.2.1)) fun r4 => some (.ret r4)) fun γ => some (.nxt γ)) else (some (.nxt (shape, cell, size, kind, ()))))) fun γ => let shape := γ.1; let cell := γ.2.1; let size := γ.2.2.1; let kind := γ.2.2.2.1; rb ((ob (some (decide (kind < (3 : Int)))) fun b10 => if b10 = true then (rb (ob (ob (some (cell, size, (kind + (1 : Int)), ())) fun z8 => (m_law_row z8.1 z8.2.1 z8.2.2.1)) fun r9 => some (.ret r9)) fun γ => some (.nxt γ)) else (some (.nxt (shape, cell, size, kind, ()))))) fun γ => let shape := γ.1; let cell := γ.2.1; let size := γ.2.2.1; let kind := γ.2.2.2.1; rb ((ob (some (decide (kind = (3 : Int)))) fun b47 => if b47 = true then (rb (ob (ob (ob (ob (ob (ob (some cell) fun x35 => (ob (ob (ob (some (1 : Int)) fun x31 => (ob (ob (pck (PDiv shape (8 : Int)) (shape / (8 : Int))) fun x29 => (ob (some (7 : Int)) fun y30 => (pck (PMod x29 y30) (x29 % y30)))) fun y32 => some (x31 + y32))) fun x33 => (ob (some ((3 : Int), ())) fun r34 => some (x33, r34))) fun r36 => some (x35, r36))) fun z37 => (m_law_row z37.1 z37.2.1 z37.2.2.1)) fun x38 => (ob (some size) fun y39 => (pck ((-9223372036854775808 ≤ y39 ∧ y39 < 9223372036854775808) ∧ x38.length * (y39).toNat ≤ sz) (prep x38 y39)))) fun x40 => (ob (some none) fun l41 => (ob (some (some size)) fun h42 => some (pcut x40 l41 h42)))) fun x44 => (ob ((ob (some (0 : Int)) fun x43 => pck (([x43] : List Int).length ≤ sz) [x43])) fun y45 => (pck (x44.length + y45.length ≤ sz) (x44 ++ y45)))) fun r46 => some (.ret r46)) fun γ => some (.nxt γ)) else (some (.nxt (shape, cell, size, kind, ()))))) fun γ => let shape := γ.1; let cell := γ.2.1; let size := γ.2.2.1; let kind := γ.2.2.2.1; rb ((ob (some (decide (kind = (4 : Int)))) fun b58 => if b58 = true then (rb (ob (ob (ob (some (size, ())) fun z => (pck (-4611686018427387904 ≤ z.1 ∧ z.1 < 4611686018427387904) (prange z.1))) fun xs56 => (ob (lcM (fun c53 => (ob (pck (PDiv shape (8 : Int)) (shape / (8 : Int))) fun x54 => (ob (some (9 : Int)) fun y55 => (pck (PMod x54 y55) (x54 % y55))))) xs56) fun r => pck (r.length ≤ sz) r)) fun r57 => some (.ret r57)) fun γ => some (.nxt γ)) else (some (.nxt (shape, cell, size, kind, ()))))) fun γ => let shape := γ.1; let cell := γ.2.1; let size := γ.2.2.1; let kind := γ.2.2.2.1; rb ((ob (some (decide (kind = (5 : Int)))) fun b81 => if b81 = true then (rb (ob (ob (ob (some (size, ())) fun z => (pck (-4611686018427387904 ≤ z.1 ∧ z.1 < 4611686018427387904) (prange z.1))) fun xs79 => (ob (lcM (fun c70 => (ob (ob (some (size - c70)) fun x75 => (ob (ob (some (1 : Int)) fun x73 => (ob (ob (pck (PDiv shape (8 : Int)) (shape / (8 : Int))) fun x71 => (ob (some (3 : Int)) fun y72 => (pck (PMod x71 y72) (x71 % y72)))) fun y74 => some (x73 + y74))) fun y76 => (pck (PMul x75 y76) (x75 * y76)))) fun x77 => (ob (some (3 : Int)) fun y78 => (pck (PDiv x77 y78) (x77 / y78))))) xs79) fun r => pck (r.length ≤ sz) r)) fun r80 => some (.ret r80)) fun γ => some (.nxt γ)) else (some (.nxt (shape, cell, size, kind, ()))))) fun γ => let shape := γ.1; let cell := γ.2.1; let size := γ.2.2.1; let kind := γ.2.2.2.1; rb ((ob (some (decide (kind = (6 : Int)))) fun b106 => if b106 = true then (rb (ob (ob (ob (ob (some (size, ())) fun z => (pck (-4611686018427387904 ≤ z.1 ∧ z.1 < 4611686018427387904) (prange z.1))) fun xs101 => (ob (lcM (fun c94 => (ob (some c94) fun x99 => (ob (ob (some (1 : Int)) fun x97 => (ob (ob (pck (PDiv shape (8 : Int)) (shape / (8 : Int))) fun x95 => (ob (some (5 : Int)) fun y96 => (pck (PMod x95 y96) (x95 % y96)))) fun y98 => some (x97 + y98))) fun y100 => (pck (PDiv x99 y100) (x99 / y100))))) xs101) fun r => pck (r.length ≤ sz) r)) fun x103 => (ob (ob (some (cell, (4 : Int), (9 : Int), ())) fun z102 => (m_law_row z102.1 z102.2.1 z102.2.2.1)) fun y104 => (pck (x103.length + y104.length ≤ sz) (x103 ++ y104)))) fun r105 => some (.ret r105)) fun γ => some (.nxt γ)) else (some (.nxt (shape, cell, size, kind, ()))))) fun γ => let cell := γ.2.1; let size := γ.2.2.1; rb (ob (ob (ob (ob (some (cell, size, (4 : Int), ())) fun z114 => (m_law_row z114.1 z114.2.1 z114.2.2.1)) fun xs116 => (ob (lcM (fun c115 => (some ((2 : Int) + c115))) xs116) fun r => pck (r.length ≤ sz) r)) fun x118 => (ob ((ob (some (0 : Int)) fun x117 => pck (([x117] : List Int).length ≤ sz) [x117])) fun y119 => (pck (x118.length + y119.length ≤ sz) (x118 ++ y119)))) fun r120 => some (.ret r120)) fun γ => some (.nxt γ))
abbrev sp_law_numbers (K : PySem.W.Frag) : Sp := spM (aC jI (aC jI (aC jI aN))) (sO jI) (fun γ => m_law_numbers γ.1 γ.2.1 γ.2.2.1)
theorem ok_law_numbers (T : Tx w K mg) : Dn P w K mg base 2 (He.ga K "_law_numbers") ["_law_shape", "_law_cell_here", "_law_size"] (sp_law_numbers K) := by
  obtain ⟨fd_law_row, G_law_row, b_law_row, kp_law_row, _⟩ := ok_law_row (P := P) (w := w) (base := base) T
  refine dn_mk T.d_law_numbers sc_law_numbers (fun _ _ _ _ _ _ us hl => match us, hl with | [_, _, _], _ => rfl) (spM_len (an_C (an_C (an_C an_0)))) fun cdv A outer s H vs Q E hr h => ?_
  refine ⟨_, (pss_cons (ps_set (i := 3) sc_law_numbers.nd rfl (.inl rfl) (pe_op op_mod (pv 0) pe_int))
      (pss_cons (ps_if (pt_cmpR op_eq (pv 3) pe_int (nomark _))
      (pss_cons (ps_ret (pe_call G_law_row (hr.mono (by decide)) (by rfl) T.g_law_row kp_law_row b_law_row .nil pass0 (pa_cons (pv 1) (pa_cons (pv 2) (pa_cons pe_int pa_nil)))))
      pss_nil)
      pss_nil)
      (pss_cons (ps_if (pt_cmpR op_lt (pv 3) pe_int (nomark _))
      (pss_cons (ps_ret (pe_call G_law_row (hr.mono (by decide)) (by rfl) T.g_law_row kp_law_row b_law_row .nil pass0 (pa_cons (pv 1) (pa_cons (pv 2) (pa_cons (pe_op op_add (pv 3) pe_int) pa_nil)))))
      pss_nil)
      pss_nil)
      (pss_cons (ps_if (pt_cmpR op_eq (pv 3) pe_int (nomark _))
      (pss_cons (ps_ret (pe_op op_cat (pe_slice (slL_ (K := K)) (pe_op op_rep (pe_call G_law_row (hr.mono (by decide)) (by rfl) T.g_law_row kp_law_row b_law_row .nil pass0 (pa_cons (pv 1) (pa_cons (pe_op op_add pe_int (pe_op op_mod (pe_op op_fdiv (pv 0) pe_int) pe_int)) (pa_cons pe_int pa_nil)))) (pv 2)) po_none (po_some (pv 2))) (pe_lst (pa_cons pe_int pa_nil))))
      pss_nil)
      pss_nil)
      (pss_cons (ps_if (pt_cmpR op_eq (pv 3) pe_int (nomark _))
      (pss_cons (ps_ret (pe_lc (own := [("_law_k", 4)]) rfl sc_law_numbers.nd (pi_range1 (by rfl) T.z_range (pa_cons (pv 2) pa_nil)) (blkOk_by (own := [("_law_k", 4)]) (N := ["_law_shape", "_law_cell_here", "_law_size", "_law_kind", "_law_k", "_law_x"]) (sc := defScope s_law_numbers) (by decide +kernel)) (fun _ _ _ _ _ => (pg_name (i := 4) sc_law_numbers.nd rfl (.inl rfl))) (fun _ _ _ _ _ => pts_nil) (fun _ _ _ _ _ => (pe_op op_mod (pe_op op_fdiv (pv 0) pe_int) pe_int))))
      pss_nil)
      pss_nil)
      (pss_cons (ps_if (pt_cmpR op_eq (pv 3) pe_int (nomark _))
      (pss_cons (ps_ret (pe_lc (own := [("_law_k", 4)]) rfl sc_law_numbers.nd (pi_range1 (by rfl) T.z_range (pa_cons (pv 2) pa_nil)) (blkOk_by (own := [("_law_k", 4)]) (N := ["_law_shape", "_law_cell_here", "_law_size", "_law_kind", "_law_k", "_law_x"]) (sc := defScope s_law_numbers) (by decide +kernel)) (fun _ _ _ _ _ => (pg_name (i := 4) sc_law_numbers.nd rfl (.inl rfl))) (fun _ _ _ _ _ => pts_nil) (fun _ _ _ _ _ => (pe_op op_fdiv (pe_op op_mul (pe_op op_sub (pv 2) (pv 4)) (pe_op op_add pe_int (pe_op op_mod (pe_op op_fdiv (pv 0) pe_int) pe_int))) pe_int))))
      pss_nil)
      pss_nil)
      (pss_cons (ps_if (pt_cmpR op_eq (pv 3) pe_int (nomark _))
      (pss_cons (ps_ret (pe_op op_cat (pe_lc (own := [("_law_k", 4)]) rfl sc_law_numbers.nd (pi_range1 (by rfl) T.z_range (pa_cons (pv 2) pa_nil)) (blkOk_by (own := [("_law_k", 4)]) (N := ["_law_shape", "_law_cell_here", "_law_size", "_law_kind", "_law_k", "_law_x"]) (sc := defScope s_law_numbers) (by decide +kernel)) (fun _ _ _ _ _ => (pg_name (i := 4) sc_law_numbers.nd rfl (.inl rfl))) (fun _ _ _ _ _ => pts_nil) (fun _ _ _ _ _ => (pe_op op_fdiv (pv 4) (pe_op op_add pe_int (pe_op op_mod (pe_op op_fdiv (pv 0) pe_int) pe_int))))) (pe_call G_law_row (hr.mono (by decide)) (by rfl) T.g_law_row kp_law_row b_law_row .nil pass0 (pa_cons (pv 1) (pa_cons pe_int (pa_cons pe_int pa_nil))))))
      pss_nil)
      pss_nil)
      (pss_cons (ps_ret (pe_op op_cat (pe_lc (own := [("_law_x", 5)]) rfl sc_law_numbers.nd (iL_ (K := K) (pe_call G_law_row (hr.mono (by decide)) (by rfl) T.g_law_row kp_law_row b_law_row .nil pass0 (pa_cons (pv 1) (pa_cons (pv 2) (pa_cons pe_int pa_nil))))) (blkOk_by (own := [("_law_x", 5)]) (N := ["_law_shape", "_law_cell_here", "_law_size", "_law_kind", "_law_k", "_law_x"]) (sc := defScope s_law_numbers) (by decide +kernel)) (fun _ _ _ _ _ => (pg_name (i := 5) sc_law_numbers.nd rfl (.inl rfl))) (fun _ _ _ _ _ => pts_nil) (fun _ _ _ _ _ => (pe_op op_add pe_int (pv 5)))) (pe_lst (pa_cons pe_int pa_nil))))
      pss_nil)))))))), ?_⟩
  refine fin_runX (E := (eC (sF jI) (eC (sF jI) (eC (sF jI) (eU (eU (eU eN))))))) (E' := eN) (ae_C (ae_C (ae_C (ae_U rfl (ae_U rfl (ae_U rfl ae_0)))))) (an_C (an_C (an_C an_0))) rfl ?S h rfl
  exact ⟨_, (ss_asg (se_op (se_var g0) se_int s2_mod) (pS (pS (pS p0U))) (ss_seq (ss_if (st_test (se_op (se_var (gS (gS (gS g0)))) se_int (s2_eqI))) (ss_seq (ss_ret (se_call (sa_cons (se_var (gS g0)) (sa_cons (se_var (gS (gS g0))) (sa_cons se_int sa_nil))))) ss_nil) ss_nil) (ss_seq (ss_if (st_test (se_op (se_var (gS (gS (gS g0)))) se_int (s2_C0 (f := fun i j => decide (i < j))))) (ss_seq (ss_ret (se_call (sa_cons (se_var (gS g0)) (sa_cons (se_var (gS (gS g0))) (sa_cons (se_op (se_var (gS (gS (gS g0)))) se_int (s2_I0 (f := fun i j => i + j))) sa_nil))))) ss_nil) ss_nil) (ss_seq (ss_if (st_test (se_op (se_var (gS (gS (gS g0)))) se_int (s2_eqI))) (ss_seq (ss_ret (se_op (se_fz (se_sl (se_fz (se_op (se_fz (se_call (sa_cons (se_var (gS g0)) (sa_cons (se_op se_int (se_op (se_op (se_var g0) se_int s2_div) se_int s2_mod) (s2_I0 (f := fun i j => i + j))) (sa_cons se_int sa_nil))))) (se_var (gS (gS g0))) s2_rep)) sp_no (sp_so (se_var (gS (gS g0)))) s3_L)) (se_fz (se_lst (sl_cons se_int sl_nil))) s2_cat)) ss_nil) ss_nil) (ss_seq (ss_if (st_test (se_op (se_var (gS (gS (gS g0)))) se_int (s2_eqI))) (ss_seq (ss_ret (se_lc (si_r1 (sa_cons (se_var (gS (gS g0))) sa_nil)) (wp_cons (nS (nS (nS (nS n0)))) wp_nil) (sg_name (pS (pS (pS (pS p0U))))) (se_op (se_op (se_var g0) se_int s2_div) se_int s2_mod))) ss_nil) ss_nil) (ss_seq (ss_if (st_test (se_op (se_var (gS (gS (gS g0)))) se_int (s2_eqI))) (ss_seq (ss_ret (se_lc (si_r1 (sa_cons (se_var (gS (gS g0))) sa_nil)) (wp_cons (nS (nS (nS (nS n0)))) wp_nil) (sg_name (pS (pS (pS (pS p0U))))) (se_op (se_op (se_op (se_var (gS (gS g0))) (se_var (gS (gS (gS (gS g0))))) (s2_I0 (f := fun i j => i - j))) (se_op se_int (se_op (se_op (se_var g0) se_int s2_div) se_int s2_mod) (s2_I0 (f := fun i j => i + j))) s2_mul) se_int s2_div))) ss_nil) ss_nil) (ss_seq (ss_if (st_test (se_op (se_var (gS (gS (gS g0)))) se_int (s2_eqI))) (ss_seq (ss_ret (se_op (se_fz (se_lc (si_r1 (sa_cons (se_var (gS (gS g0))) sa_nil)) (wp_cons (nS (nS (nS (nS n0)))) wp_nil) (sg_name (pS (pS (pS (pS p0U))))) (se_op (se_var (gS (gS (gS (gS g0))))) (se_op se_int (se_op (se_op (se_var g0) se_int s2_div) se_int s2_mod) (s2_I0 (f := fun i j => i + j))) s2_div))) (se_fz (se_call (sa_cons (se_var (gS g0)) (sa_cons se_int (sa_cons se_int sa_nil))))) s2_cat)) ss_nil) ss_nil) (ss_seq (ss_ret (se_op (se_fz (se_lc (si_list (se_fz (se_call (sa_cons (se_var (gS g0)) (sa_cons (se_var (gS (gS g0))) (sa_cons se_int sa_nil)))))) (wp_cons (nS (nS (nS (nS (nU n0))))) wp_nil) (sg_name (pS (pS (pS (pS (pU p0U)))))) (se_op se_int (se_var (gS (gS (gS (gS (gU g0)))))) (s2_I0 (f := fun i j => i + j))))) (se_fz (se_lst (sl_cons se_int sl_nil))) s2_cat)) ss_nil)))))))), by exact rfl⟩
end
end Lw
namespace Lw
open PySem PySem.Spec PyProof.Rows L2 Fw Mi Lb
local macro_rules | `(tactic| walk_at "m") => `(tactic| simp only [pidx_one, pinS_one, pninS_one, W_some, W_none, W_ob, W_bind, W_pck, W_rb, W_fin, W_finN, W_T, W_F, W_Tr, W_Fa, Rw_nxt, Rw_ret, Rw_cnt, Rf_ret, Rf_nxt, RfN_ret, RfN_nxt, W_finU, RfU_nxt, W_finZ, W_finZN, RfZ_nxt, lcM_id, W_obx, Xf_ok, Xf_er, W_rbx, Xr_ok, Xr_er, W_okx, W_finNX, RfNX_ret, RfNX_nxt, W_finUX, RfUX_nxt, RfUX_er, W_trx, Xt_ok, Xt_er, decide_true, decide_false, Bool.not_true, Bool.not_false])
theorem w_numbers {sh ce s : Int} {Q : List Int → Prop} (hs : 0 ≤ s ∧ s ≤ 400) (q : ∀ l : List Int, l.length ≤ 404 → Q l) : W (m_law_numbers sh ce s) Q := by
  have hz : (16000000 : Nat) ≤ sz := by unfold sz; omega
  unfold m_law_numbers
  walk_at "m"
  refine ⟨by omega, ?_⟩
  refine W_ifD (fun _ => ?_) (fun _ => ?_)
  · walk_at "m"
    exact w_row (by omega) (by omega) fun l h1 _ => q l (by omega)
  walk_at "m"
  refine W_ifD (fun _ => ?_) (fun _ => ?_)
  · walk_at "m"
    exact w_row (by omega) (by omega) fun l h1 _ => q l (by omega)
  walk_at "m"
  refine W_ifD (fun _ => ?_) (fun _ => ?_)
  · walk_at "m"
    refine ⟨by omega, by omega, ?_⟩
    refine w_row (by omega) (by omega) fun l h1 _ => ?_
    have hl : l.length ≤ 8 := by omega
    have hm : l.length * s.toNat ≤ 8 * 400 := Nat.mul_le_mul hl (by omega)
    refine ⟨⟨by omega, by omega⟩, ?_⟩
    obtain ⟨k, rfl⟩ : ∃ k : Nat, s = (k : Int) := ⟨s.toNat, by omega⟩
    rw [pcut_to]
    refine ⟨by show 1 ≤ sz; omega, ?_, q _ ?_⟩
    · rw [List.length_take]
      show _ + 1 ≤ sz
      omega
    · rw [List.length_append, List.length_take]
      show _ + 1 ≤ _
      omega
  walk_at "m"
  refine W_ifD (fun _ => ?_) (fun _ => ?_)
  · walk_at "m"
    refine ⟨⟨by omega, by omega⟩, ?_⟩
    refine W_lcM (fun _ _ => True) (fun x _ => ?_) fun ys hy => ?_
    · walk_at "m"
      exact ⟨by omega, by omega, trivial⟩
    · have hl := Paired.len hy
      rw [prange_len] at hl
      exact ⟨by omega, q _ (by omega)⟩
  walk_at "m"
  refine W_ifD (fun _ => ?_) (fun _ => ?_)
  · walk_at "m"
    refine ⟨⟨by omega, by omega⟩, ?_⟩
    refine W_lcM (fun _ _ => True) (fun x hx => ?_) fun ys hy => ?_
    · have hx2 : 0 ≤ x ∧ x < s := by
        obtain ⟨i, hi⟩ := List.mem_iff_getElem?.mp hx
        obtain ⟨rfl, h2⟩ := prange_get hi
        omega
      walk_at "m"
      refine ⟨by omega, by omega, ?_, by omega, trivial⟩
      have b1 : 1 + sh / 8 % 3 = 1 ∨ 1 + sh / 8 % 3 = 2 ∨ 1 + sh / 8 % 3 = 3 := by omega
      unfold PMul
      rcases b1 with e | e | e <;> rw [e] <;> omega
    · have hl := Paired.len hy
      rw [prange_len] at hl
      exact ⟨by omega, q _ (by omega)⟩
  walk_at "m"
  refine W_ifD (fun _ => ?_) (fun _ => ?_)
  · walk_at "m"
    refine ⟨⟨by omega, by omega⟩, ?_⟩
    refine W_lcM (fun _ _ => True) (fun x hx => ?_) fun ys hy => ?_
    · walk_at "m"
      exact ⟨by omega, by omega, by omega, trivial⟩
    · have hl := Paired.len hy
      rw [prange_len] at hl
      refine ⟨by omega, ?_⟩
      refine w_row (by omega) (by omega) fun l h1 _ => ⟨by omega, q _ ?_⟩
      rw [List.length_append]
      omega
  walk_at "m"
  refine w_row (by omega) (by omega) fun l h1 _ => ?_
  refine W_lcM (fun _ _ => True) (fun x hx => ⟨_, rfl, trivial⟩) fun ys hy => ?_
  have hl := Paired.len hy
  refine ⟨by omega, by show 1 ≤ sz; omega, by show _ + 1 ≤ sz; omega, q _ ?_⟩
  rw [List.length_append]
  show _ + 1 ≤ _
  omega

end Lw
namespace Lw
open PySem PySem.Spec PyProof.Rows L2 Fw Mi Lb
section
variable {P : Program} {w : World} {K : PySem.W.Frag} {mg : Str → Option Value} {base : Heap}
noncomputable def m_law_integer (value : Int) : Option Bool := fin (κ := Unit) (ρ := Unit) (rb (ob (if true = true then (some (!false)) else some false) fun r2 => some (.ret r2)) fun γ => some (.nxt γ))
abbrev sp_law_integer (K : PySem.W.Frag) : Sp := spM (aC jI aN) (sF jB) (fun γ => m_law_integer γ.1)
theorem ok_law_integer (T : Tx w K mg) : Dn P w K mg base 1 (He.ga K "_law_integer") ["_law_value"] (sp_law_integer K) := by
  refine dn_mk T.d_law_integer sc_law_integer (fun _ _ _ _ _ _ us hl => match us, hl with | [_], _ => rfl) (spM_len (an_C an_0)) fun cdv A outer s H vs Q E hr h => ?_
  refine ⟨_, (pss_cons (ps_ret (pe_and (pe_callB (isi_ (K := K)) (by rfl) T.z_isinstance (by decide +kernel) (pa_cons (pv 0) (pa_cons (pe_bltn (v := .ty "int") (by rfl) T.z_int (by decide +kernel) rfl) pa_nil))) (pe_one (pe_not (pe_callB (isi_ (K := K)) (by rfl) T.z_isinstance (by decide +kernel) (pa_cons (pv 0) (pa_cons (pe_bltn (v := .ty "bool") (by rfl) T.z_bool (by decide +kernel) rfl) pa_nil)))))))
      pss_nil), ?_⟩
  refine fin_runX (E := (eC (sF jI) eN)) (E' := eN) (ae_C ae_0) (an_C an_0) rfl ?S h rfl
  exact ⟨_, (ss_seq (ss_ret (se_andV (se_cb (sa_cons (se_var g0) (sa_cons se_v sa_nil)) (is_II (K := K))) (se_notV (se_cb (sa_cons (se_var g0) (sa_cons se_v sa_nil)) (is_IB (K := K)))))) ss_nil), by exact rfl⟩
end
end Lw
namespace Lw
open PySem PySem.Spec PyProof.Rows L2 Fw Mi Lb
local macro_rules | `(tactic| walk_at "m") => `(tactic| simp only [pidx_one, pinS_one, pninS_one, W_some, W_none, W_ob, W_bind, W_pck, W_rb, W_fin, W_finN, W_T, W_F, W_Tr, W_Fa, Rw_nxt, Rw_ret, Rw_cnt, Rf_ret, Rf_nxt, RfN_ret, RfN_nxt, W_finU, RfU_nxt, W_finZ, W_finZN, RfZ_nxt, lcM_id, W_obx, Xf_ok, Xf_er, W_rbx, Xr_ok, Xr_er, W_okx, W_finNX, RfNX_ret, RfNX_nxt, W_finUX, RfUX_nxt, RfUX_er, W_trx, Xt_ok, Xt_er, decide_true, decide_false, Bool.not_true, Bool.not_false])
theorem m_integer_eq (i : Int) : m_law_integer i = some true := rfl

end Lw
namespace Pk
open Mi
/-! ### bytes -/
/-- k bytes of a number, the most significant first -/
def be : Nat → Nat → List Int
  | 0, _ => []
  | k + 1, n => be k (n / 256) ++ [((n % 256 : Nat) : Int)]
theorem be_len : ∀ k n, (be k n).length = k
  | 0, _ => rfl
  | k + 1, n => by rw [be, List.length_append, be_len k]; rfl
def num (l : List Int) : Int := l.foldl (fun a b => a * 256 + b) 0
theorem num_snoc (l : List Int) (b : Int) : num (l ++ [b]) = num l * 256 + b := by unfold num; rw [List.foldl_append]; rfl
theorem num_be : ∀ k n, n < 256 ^ k → num (be k n) = (n : Int)
  | 0, n, h => by
    have : n = 0 := by simpa using h
    subst this
    rfl
  | k + 1, n, h => by
    rw [be, num_snoc, num_be k (n / 256) (by rw [Nat.div_lt_iff_lt_mul (by decide), ← Nat.pow_succ]; exact h)]
    omega
theorem be_byte : ∀ k n, ∀ x ∈ be k n, 0 ≤ x ∧ x < 256
  | 0, _, x, h => nomatch h
  | k + 1, n, x, h => by
    rcases List.mem_append.mp h with h | h
    · exact be_byte k _ x h
    · rw [List.mem_singleton.mp h]; omega
theorem snoc_ind {τ : Type} {p : List τ → Prop} (h0 : p []) (h1 : ∀ l b, p l → p (l ++ [b])) (l : List τ) : p l := by
  rw [← List.reverse_reverse l]
  induction l.reverse with
  | nil => exact h0
  | cons a l ih => rw [List.reverse_cons]; exact h1 _ _ ih
/-- bytes -/
def Byt (l : List Int) : Prop := ∀ x ∈ l, 0 ≤ x ∧ x < 256
theorem num_nn {l : List Int} (h : Byt l) : 0 ≤ num l ∧ num l < 256 ^ l.length := by
  revert h
  refine snoc_ind (p := fun l => Byt l → 0 ≤ num l ∧ num l < 256 ^ l.length) (fun _ => ⟨by decide, by decide⟩) (fun l b ih h => ?_) l
  · rw [num_snoc, List.length_append]
    have h1 := ih fun x hx => h x (List.mem_append_left _ hx)
    have h2 := h b (List.mem_append_right _ (List.mem_singleton.mpr rfl))
    refine ⟨by omega, ?_⟩
    rw [show [b].length = 1 from rfl, Int.pow_succ]
    omega
theorem be_num {l : List Int} (h : Byt l) : be l.length (num l).toNat = l := by
  revert h
  refine snoc_ind (p := fun l => Byt l → be l.length (num l).toNat = l) (fun _ => rfl) (fun l b ih h => ?_) l
  · have h1 := num_nn fun x hx => h x (List.mem_append_left _ hx)
    have h2 := h b (List.mem_append_right _ (List.mem_singleton.mpr rfl))
    rw [num_snoc, List.length_append, show [b].length = 1 from rfl, be, show (num l * 256 + b).toNat / 256 = (num l).toNat by omega, ih fun x hx => h x (List.mem_append_left _ hx)]
    congr 1
    rw [show (((num l * 256 + b).toNat % 256 : Nat) : Int) = b by omega]
/-! ### runs of N -/
/-- the runs of N among the first k letters: first position, length -/
def rn (t : List Nat) : Nat → List (Nat × Nat)
  | 0 => []
  | k + 1 => if t.getD k 0 = 78 then (match (rn t k).getLast? with
      | some q => if q.1 + q.2 = k then (rn t k).dropLast ++ [(q.1, q.2 + 1)] else rn t k ++ [(k, 1)]
      | none => rn t k ++ [(k, 1)]) else rn t k
structure RI (t : List Nat) (k : Nat) (r : List (Nat × Nat)) : Prop where
  sorted : r.Pairwise fun a b => a.1 + a.2 < b.1
  inside : ∀ q ∈ r, 1 ≤ q.2 ∧ q.1 + q.2 ≤ k
  cover : ∀ p, p < k → (t.getD p 0 = 78 ↔ ∃ q ∈ r, q.1 ≤ p ∧ p < q.1 + q.2)
theorem RI.last {t : List Nat} {k : Nat} {r : List (Nat × Nat)} (h : RI t k r) {q : Nat × Nat} (hq : q ∈ r) (e : q.1 + q.2 = k) : r.getLast? = some q := by
  obtain ⟨a, b, rfl⟩ := List.append_of_mem hq
  cases b with
  | nil => simp
  | cons c b =>
    have h1 := h.sorted
    rw [List.pairwise_append, List.pairwise_cons] at h1
    have h2 := h1.2.1.1 c List.mem_cons_self
    have h3 := h.inside c (by simp)
    omega
theorem rn_ok (t : List Nat) : ∀ k, RI t k (rn t k)
  | 0 => ⟨.nil, fun _ h => (nomatch h), fun _ h => by omega⟩
  | k + 1 => by
    have ih := rn_ok t k
    rw [rn]
    have new : t.getD k 0 = 78 → (∀ q ∈ rn t k, q.1 + q.2 ≠ k) → RI t (k + 1) (rn t k ++ [(k, 1)]) := fun hN hne => by
      refine ⟨?_, fun q hq => ?_, fun p hp => ?_⟩
      · rw [List.pairwise_append]
        refine ⟨ih.sorted, List.pairwise_singleton _ _, fun a ha b hb => ?_⟩
        rw [List.mem_singleton.mp hb]
        have h1 := (ih.inside a ha).2
        have h2 := hne a ha
        show a.1 + a.2 < k
        omega
      · rcases List.mem_append.mp hq with hq | hq
        · have := ih.inside q hq; omega
        · rw [List.mem_singleton.mp hq]; exact ⟨Nat.le_refl _, Nat.le_refl _⟩
      · by_cases e : p = k
        · subst e
          exact ⟨fun _ => ⟨(p, 1), by simp, Nat.le_refl _, Nat.lt_succ_self _⟩, fun _ => hN⟩
        · rw [ih.cover p (by omega)]
          refine ⟨fun ⟨q, h1, h2⟩ => ⟨q, List.mem_append_left _ h1, h2⟩, fun ⟨q, h1, h2⟩ => ?_⟩
          rcases List.mem_append.mp h1 with h1 | h1
          · exact ⟨q, h1, h2⟩
          · rw [List.mem_singleton.mp h1] at h2
            have h3 : k ≤ p := h2.1
            omega
    split
    · next hN =>
      cases hl : (rn t k).getLast? with
      | none =>
        refine new hN fun q hq => ?_
        have := List.getLast?_eq_none_iff.mp hl
        rw [this] at hq
        cases hq
      | some q =>
        have hm : q ∈ rn t k := List.mem_of_getLast? hl
        show RI t (k + 1) (if q.1 + q.2 = k then _ else _)
        split
        · next e =>
          have he : rn t k = (rn t k).dropLast ++ [q] := by
            obtain ⟨ys, hy⟩ := List.getLast?_eq_some_iff.mp hl
            rw [hy, List.dropLast_concat]
          generalize (rn t k).dropLast = r0 at he
          rw [he] at ih
          refine ⟨?_, fun x hx => ?_, fun p hp => ?_⟩
          · have h1 := ih.sorted
            rw [List.pairwise_append] at h1 ⊢
            exact ⟨h1.1, List.pairwise_singleton _ _, fun a ha b hb => by
              rw [List.mem_singleton.mp hb]
              exact h1.2.2 a ha q (List.mem_singleton.mpr rfl)⟩
          · rcases List.mem_append.mp hx with hx | hx
            · have := ih.inside x (List.mem_append_left _ hx); omega
            · rw [List.mem_singleton.mp hx]
              have := ih.inside q (by simp)
              exact ⟨by show 1 ≤ q.2 + 1; omega, by show q.1 + (q.2 + 1) ≤ k + 1; omega⟩
          · by_cases ep : p = k
            · subst ep
              exact ⟨fun _ => ⟨(q.1, q.2 + 1), by simp, by show q.1 ≤ p; omega, by show p < q.1 + (q.2 + 1); omega⟩, fun _ => hN⟩
            · rw [ih.cover p (by omega)]
              refine ⟨fun ⟨x, h1, h2, h3⟩ => ?_, fun ⟨x, h1, h2, h3⟩ => ?_⟩
              · rcases List.mem_append.mp h1 with h1 | h1
                · exact ⟨x, List.mem_append_left _ h1, h2, h3⟩
                · rw [List.mem_singleton.mp h1] at h2 h3
                  exact ⟨(q.1, q.2 + 1), by simp, h2, by show p < q.1 + (q.2 + 1); omega⟩
              · rcases List.mem_append.mp h1 with h1 | h1
                · exact ⟨x, List.mem_append_left _ h1, h2, h3⟩
                · rw [List.mem_singleton.mp h1] at h2 h3
                  have h4 : p < q.1 + (q.2 + 1) := h3
                  exact ⟨q, by simp, h2, by omega⟩
        · next e =>
          refine new hN fun x hx ex => ?_
          rw [ih.last hx ex] at hl
          cases hl
          exact e ex
    · next hN =>
      refine ⟨ih.sorted, fun q hq => by have := ih.inside q hq; omega, fun p hp => ?_⟩
      by_cases e : p = k
      · subst e
        refine ⟨fun h => absurd h hN, fun ⟨q, h1, h2, h3⟩ => ?_⟩
        have := ih.inside q h1
        omega
      · exact ih.cover p (by omega)
theorem rn_len (t : List Nat) : ∀ k, (rn t k).length ≤ k
  | 0 => Nat.le_refl _
  | k + 1 => by
    have := rn_len t k
    rw [rn]
    split
    · cases hl : (rn t k).getLast? with
      | none =>
        show (rn t k ++ [(k, 1)]).length ≤ _
        rw [List.length_append]; simp; exact this
      | some q =>
        have hp : 0 < (rn t k).length := List.length_pos_of_mem (List.mem_of_getLast? hl)
        show (if q.1 + q.2 = k then _ else _ : List (Nat × Nat)).length ≤ _
        split
        · rw [List.length_append, List.length_dropLast]; simp; omega
        · rw [List.length_append]; simp; exact this
    · omega
/-- with N at k, the run before goes on just if N stands at k - 1 -/
theorem rn_go {t : List Nat} {k : Nat} : (∃ q, (rn t k).getLast? = some q ∧ q.1 + q.2 = k) ↔ (k ≠ 0 ∧ t.getD (k - 1) 0 = 78) := by
  have ih := rn_ok t k
  refine ⟨fun ⟨q, h1, h2⟩ => ?_, fun ⟨h1, h2⟩ => ?_⟩
  · have hm := List.mem_of_getLast? h1
    have := ih.inside q hm
    exact ⟨by omega, (ih.cover (k - 1) (by omega)).mpr ⟨q, hm, by omega, by omega⟩⟩
  · obtain ⟨q, hm, h3, h4⟩ := (ih.cover (k - 1) (by omega)).mp h2
    have := ih.inside q hm
    exact ⟨q, ih.last hm (by omega), by omega⟩
/-! ### the packed form -/
def code (c : Nat) : Nat := match c with | 67 => 1 | 71 => 2 | 84 => 3 | _ => 0
/-- the code at a position (0 behind the end) -/
def cd (t : List Nat) (p : Nat) : Int := if p < t.length then (code (t.getD p 0) : Int) else 0
def quad (t : List Nat) (b : Nat) : Int := cd t (4 * b) * 64 + cd t (4 * b + 1) * 16 + cd t (4 * b + 2) * 4 + cd t (4 * b + 3)
def pl (t : List Nat) : List Int := (List.range ((t.length + 3) / 4)).map (quad t)
def flat (r : List (Nat × Nat)) : List Int := r.flatMap fun q => be 4 q.1 ++ be 4 q.2
/-- the runs of a text -/
def runs (t : List Nat) : List (Nat × Nat) := rn t t.length
def P (t : List Nat) : List Int := be 4 t.length ++ be 4 (runs t).length ++ flat (runs t) ++ pl t
theorem flat_len (r : List (Nat × Nat)) : (flat r).length = 8 * r.length := by
  unfold flat
  induction r with
  | nil => rfl
  | cons q r ih => rw [List.flatMap_cons, List.length_append, ih, List.length_append, be_len, be_len, List.length_cons]; omega
theorem pl_len (t : List Nat) : (pl t).length = (t.length + 3) / 4 := by unfold pl; rw [List.length_map, List.length_range]
theorem P_len (t : List Nat) : (P t).length = 8 + 8 * (runs t).length + (t.length + 3) / 4 := by
  unfold P
  rw [List.length_append, List.length_append, List.length_append, be_len, be_len, flat_len, pl_len]
theorem code_lt (c : Nat) : code c < 4 := by
  unfold code
  split <;> omega
theorem cd_lt (t : List Nat) (p : Nat) : 0 ≤ cd t p ∧ cd t p < 4 := by
  unfold cd
  split
  · have := code_lt (t.getD p 0); omega
  · omega
end Pk
namespace Pk
open Mi
theorem be_rev : ∀ k n, be k n = ((List.range k).map fun j => ((n / 256 ^ j % 256 : Nat) : Int)).reverse
  | 0, _ => rfl
  | k + 1, n => by
    rw [be, be_rev k, List.range_succ_eq_map, List.map_cons, List.reverse_cons, List.map_map, Nat.pow_zero, Nat.div_one]
    congr 2
    refine List.map_congr_left fun j _ => ?_
    show ((n / 256 / 256 ^ j % 256 : Nat) : Int) = ((n / 256 ^ (j + 1) % 256 : Nat) : Int)
    rw [Nat.div_div_eq_div_mul, Nat.pow_succ, Nat.mul_comm]
end Pk
namespace Pk
open Mi
theorem flat_take {r : List (Nat × Nat)} {i : Nat} {q : Nat × Nat} (h : r[i]? = some q) : flat (r.take (i + 1)) = flat (r.take i) ++ (be 4 q.1 ++ be 4 q.2) := by
  rw [List.take_succ, h]
  unfold flat
  rw [List.flatMap_append]
  show _ ++ List.flatMap _ [q] = _
  rw [List.flatMap_cons, List.flatMap_nil, List.append_nil]
theorem flat_bd {r : List (Nat × Nat)} (i : Nat) : (flat (r.take i)).length ≤ 8 * r.length := by
  rw [flat_len, List.length_take]
  omega
end Pk
namespace Pk
open Mi
theorem rn_half (t : List Nat) : ∀ k, 2 * (rn t k).length ≤ k + 1 ∧ (¬ (k ≠ 0 ∧ t.getD (k - 1) 0 = 78) → 2 * (rn t k).length ≤ k)
  | 0 => ⟨Nat.zero_le _, fun _ => Nat.le_refl _⟩
  | k + 1 => by
    obtain ⟨h1, h2⟩ := rn_half t k
    have hg := rn_go (t := t) (k := k)
    rw [rn]
    by_cases hN : t.getD k 0 = 78
    · rw [if_pos hN]
      refine ⟨?_, fun z => absurd ⟨Nat.succ_ne_zero k, hN⟩ z⟩
      cases hl : (rn t k).getLast? with
      | none =>
        have : rn t k = [] := List.getLast?_eq_none_iff.mp hl
        show 2 * (rn t k ++ [(k, 1)]).length ≤ _
        rw [this]
        show 2 * 1 ≤ _
        omega
      | some q =>
        show 2 * (if q.1 + q.2 = k then _ else _ : List (Nat × Nat)).length ≤ _
        have hp : 0 < (rn t k).length := List.length_pos_of_mem (List.mem_of_getLast? hl)
        split
        · rw [List.length_append, List.length_dropLast]
          show 2 * (_ - 1 + 1) ≤ _
          omega
        · next h =>
          have := h2 fun z => by
            obtain ⟨q', e1, e2⟩ := hg.mpr z
            rw [hl] at e1
            cases e1
            exact h e2
          rw [List.length_append]
          show 2 * (_ + 1) ≤ _
          omega
    · rw [if_neg hN]
      exact ⟨by omega, fun _ => by omega⟩
theorem P_le {t : List Nat} (h : t.length ≤ 66000) : (P t).length ≤ 400000 := by
  have := (rn_half t t.length).1
  rw [P_len]
  have h2 : 2 * (runs t).length ≤ t.length + 1 := this
  omega
theorem flat_byt (r : List (Nat × Nat)) : Byt (flat r) := fun x hx => by
  unfold flat at hx
  obtain ⟨q, _, h⟩ := List.mem_flatMap.mp hx
  rcases List.mem_append.mp h with h | h
  · exact be_byte _ _ x h
  · exact be_byte _ _ x h
theorem pl_byt (t : List Nat) : Byt (pl t) := fun x hx => by
  unfold pl at hx
  obtain ⟨b, _, rfl⟩ := List.mem_map.mp hx
  have h0 := cd_lt t (4 * b)
  have h1 := cd_lt t (4 * b + 1)
  have h2 := cd_lt t (4 * b + 2)
  have h3 := cd_lt t (4 * b + 3)
  unfold quad
  omega
theorem P_byt (t : List Nat) : Byt (P t) := fun x hx => by
  unfold P at hx
  rcases List.mem_append.mp hx with hx | hx
  · rcases List.mem_append.mp hx with hx | hx
    · rcases List.mem_append.mp hx with hx | hx
      · exact be_byte _ _ x hx
      · exact be_byte _ _ x hx
    · exact flat_byt _ x hx
  · exact pl_byt _ x hx
end Pk

namespace Lw
open PySem PySem.Spec PyProof.Rows L2 Fw Mi Lb
section
variable {P : Program} {w : World} {K : PySem.W.Frag} {mg : Str → Option Value} {base : Heap}
noncomputable def m_law_integers (values : (List Int)) : Option Bool := fin (κ := Unit) (ρ := Unit) (rb (ob (if true = true then (ob (ob (ob (lcM (fun c5 => (m_law_integer c5)) values) fun r => pck (r.length ≤ sz) r) fun x6 => some (x6, ())) fun z7 => some (z7.1.all id)) else some false) fun r8 => some (.ret r8)) fun γ => some (.nxt γ))
abbrev sp_law_integers (K : PySem.W.Frag) : Sp := spM (aC (jL jI) aN) (sF jB) (fun γ => m_law_integers γ.1)
theorem ok_law_integers (T : Tx w K mg) : Dn P w K mg base 2 (He.ga K "_law_integers") ["_law_values"] (sp_law_integers K) := by
  obtain ⟨fd_law_integer, G_law_integer, b_law_integer, kp_law_integer, _⟩ := ok_law_integer (P := P) (w := w) (base := base) T
  refine dn_mk T.d_law_integers sc_law_integers (fun _ _ _ _ _ _ us hl => match us, hl with | [_], _ => rfl) (spM_len (an_C an_0)) fun cdv A outer s H vs Q E hr h => ?_
  refine ⟨_, (pss_cons (ps_ret (pe_and (pe_callB (isi_ (K := K)) (by rfl) T.z_isinstance (by decide +kernel) (pa_cons (pv 0) (pa_cons (pe_bltn (v := .ty "list") (by rfl) T.z_list (by decide +kernel) rfl) pa_nil))) (pe_one (pe_callB (all_ (K := K) rfl) (by rfl) T.z_all (by decide +kernel) (pa_cons (pe_lc (own := [("_law_value", 1)]) rfl sc_law_integers.nd (iL_ (K := K) (pv 0)) (blkOk_by (own := [("_law_value", 1)]) (N := ["_law_values", "_law_value"]) (sc := defScope s_law_integers) (by decide +kernel)) (fun _ _ _ _ _ => (pg_name (i := 1) sc_law_integers.nd rfl (.inl rfl))) (fun _ _ _ _ _ => pts_nil) (fun _ _ _ _ _ => (pe_call G_law_integer (hr.mono (by decide)) (by rfl) T.g_law_integer kp_law_integer b_law_integer .nil pass0 (pa_cons (pv 1) pa_nil)))) pa_nil)))))
      pss_nil), ?_⟩
  refine fin_runX (E := (eC (sF (jL jI)) (eU eN))) (E' := eN) (ae_C (ae_U rfl ae_0)) (an_C an_0) rfl ?S h rfl
  exact ⟨_, (ss_seq (ss_ret (se_andV (se_cb (sa_cons (se_var g0) (sa_cons se_v sa_nil)) (is_LL (K := K))) (se_cb (sa_cons (se_fz (se_lc (si_list (se_var g0)) (wp_cons (nS n0) wp_nil) (sg_name (pS p0U)) (se_call (sa_cons (se_var (gS g0)) sa_nil)))) sa_nil) (sc_all (K := K))))) ss_nil), by exact rfl⟩
end
end Lw
namespace Lw
open PySem PySem.Spec PyProof.Rows L2 Fw Mi Lb
local macro_rules | `(tactic| walk_at "m") => `(tactic| simp only [pidx_one, pinS_one, pninS_one, W_some, W_none, W_ob, W_bind, W_pck, W_rb, W_fin, W_finN, W_T, W_F, W_Tr, W_Fa, Rw_nxt, Rw_ret, Rw_cnt, Rf_ret, Rf_nxt, RfN_ret, RfN_nxt, W_finU, RfU_nxt, W_finZ, W_finZN, RfZ_nxt, lcM_id, W_obx, Xf_ok, Xf_er, W_rbx, Xr_ok, Xr_er, W_okx, W_finNX, RfNX_ret, RfNX_nxt, W_finUX, RfUX_nxt, RfUX_er, W_trx, Xt_ok, Xt_er, decide_true, decide_false, Bool.not_true, Bool.not_false])
theorem m_integers_eq {l : List Int} (h : l.length ≤ sz) : m_law_integers l = some true := by
  refine W.eq ?_
  unfold m_law_integers
  walk_at "m"
  refine W_of (lcM_map (g := fun _ => true) fun v _ => m_integer_eq v) ⟨by rw [List.length_map]; exact h, ?_⟩
  rw [List.all_eq_true]
  intro b hb
  obtain ⟨_, _, rfl⟩ := List.mem_map.mp hb
  rfl

end Lw
namespace Mi
open PySem PySem.Spec PyProof.Rows L2 Fw Lb
/-! ### the plain sort of all suffixes -/
theorem psufs_perm (ns ms : List Int) : (psufs ns ms).Perm ms := List.mergeSort_perm _ _
theorem psufs_srt (ns ms : List Int) : (psufs ns ms).Pairwise fun x y => ns.drop x.toNat ≤ ns.drop y.toNat := by
  have := List.pairwise_mergeSort (le := fun x y : Int => decide (ns.drop x.toNat ≤ ns.drop y.toNat)) (fun a b c h1 h2 => ?_) (fun a b => ?_) ms
  · exact this.imp fun h => by simpa using h
  · rw [decide_eq_true_iff] at *
    exact List.le_trans h1 h2
  · rw [Bool.or_eq_true, decide_eq_true_iff, decide_eq_true_iff]
    exact List.le_total _ _
theorem prange_nls (n : Nat) : prange (n : Int) = nls (List.range n) := by
  unfold prange nls
  rw [Int.toNat_natCast]
theorem psufs_rows {ns : List Int} {rs : List Nat} (h : Sa.SufRows ns rs) : psufs ns (prange (ns.length : Int)) = nls rs := by
  rw [prange_nls]
  have p1 : (nls rs).Perm (nls (List.range ns.length)) := h.1.map _
  refine List.Perm.eq_of_pairwise (le := fun x y : Int => ns.drop x.toNat ≤ ns.drop y.toNat) (fun a b ha hb h1 h2 => ?_) (psufs_srt ns _) ?_ ((psufs_perm ns _).trans p1.symm)
  · have mem : ∀ x : Int, x ∈ nls (List.range ns.length) → ∃ k : Nat, x = (k : Int) ∧ k < ns.length := fun x hx => by
      obtain ⟨k, hk, rfl⟩ := List.mem_map.mp hx
      exact ⟨k, rfl, List.mem_range.mp hk⟩
    obtain ⟨i, rfl, hi⟩ := mem a ((psufs_perm ns _).mem_iff.mp ha)
    obtain ⟨j, rfl, hj⟩ := mem b (p1.mem_iff.mp hb)
    have e := List.le_antisymm h1 h2
    have e2 := congrArg List.length e
    rw [List.length_drop, List.length_drop, Int.toNat_natCast, Int.toNat_natCast] at e2
    omega
  · unfold nls
    rw [List.pairwise_map]
    refine h.2.imp fun {a b} z => ?_
    rw [Int.toNat_natCast, Int.toNat_natCast]
    exact List.le_of_lt z
theorem prange_pos (n : Int) : ∀ m ∈ prange n, 0 ≤ m := fun m hm => by
  unfold prange at hm
  obtain ⟨k, _, rfl⟩ := List.mem_map.mp hm
  omega
end Mi

namespace Lw
open PySem PySem.Spec PyProof.Rows L2 Fw Mi Lb
section
variable {P : Program} {w : World} {K : PySem.W.Frag} {mg : Str → Option Value} {base : Heap}
noncomputable def m_law_b1 (x_ : Int) (γ : ((List Int) × (List (List Int)) × Unit)) : Option (Res ((List Int) × (List (List Int)) × Unit) ((List Int) × (List (List Int)) × Unit) Bool) := let k := x_; let script := γ.1; let lists := γ.2.1; ob (ob (ob (some script) fun x3 => (ob (ob (pck (PMul (2 : Int) k) ((2 : Int) * k)) fun x1 => (ob (some ()) fun r2 => some (x1, r2))) fun r4 => some (x3, r4))) fun z5 => (m_law_cell z5.1 z5.2.1)) fun shape => (ob (ob (ob (pck (PDiv shape (71 : Int)) (shape / (71 : Int))) fun x17 => (ob (ob (ob (ob (some script) fun x10 => (ob (ob (ob (pck (PMul (2 : Int) k) ((2 : Int) * k)) fun x6 => (ob (some (1 : Int)) fun y7 => some (x6 + y7))) fun x8 => (ob (some ()) fun r9 => some (x8, r9))) fun r11 => some (x10, r11))) fun z12 => (m_law_cell z12.1 z12.2.1)) fun x15 => (ob (ob (pck (PMod shape (71 : Int)) (shape % (71 : Int))) fun x13 => (ob (some ()) fun r14 => some (x13, r14))) fun r16 => some (x15, r16))) fun r18 => some (x17, r18))) fun z19 => (m_law_numbers z19.1 z19.2.1 z19.2.2.1)) fun x21 => ob (pck (lists.length < sz) (lists ++ [x21])) fun w20 => some (.nxt (script, w20, ())))
noncomputable def m_law_r2 (γ : ((List Int) × (List (List Int)) × Int × (List Int) × (List Int) × (List Int) × (List Int) × Unit)) : Option (Res ((List Int) × (List (List Int)) × Int × Unit) ((List Int) × (List (List Int)) × Int × Unit) Bool) := let script := γ.1; let lists := γ.2.1; let shape := γ.2.2.1; some (.nxt (script, lists, shape, ()))
noncomputable def m_law_r3 (γ : ((List Int) × (List (List Int)) × Int × (List Int) × (List Int) × (List Int) × (List Int) × Unit)) : Option (Res ((List Int) × (List (List Int)) × Int × Unit) ((List Int) × (List (List Int)) × Int × Unit) Bool) := let script := γ.1; let lists := γ.2.1; let shape := γ.2.2.1; let numbers := γ.2.2.2.1; let expected := γ.2.2.2.2.1; let handed := γ.2.2.2.2.2.1; let actual := γ.2.2.2.2.2.2.1; (ob (some (0 : Int)) fun x58 => ob (pck (actual.length < sz) (actual ++ [x58])) fun w51 => rb ((ob (ob (ob (some (handed, ())) fun z52 => (m_suffix_rows z52.1)) fun x53 => (ob (some expected) fun y54 => some (!decide (x53 = y54)))) fun b57 => if b57 = true then (rb (ob (some false) fun r56 => some (.ret r56)) fun γ => some (.nxt γ)) else (some (.nxt (script, lists, shape, numbers, expected, handed, w51, ()))))) m_law_r2)
noncomputable def m_law_b4 (x_ : (List Int)) (γ : ((List Int) × (List (List Int)) × Int × Unit)) : Option (Res ((List Int) × (List (List Int)) × Int × Unit) ((List Int) × (List (List Int)) × Int × Unit) Bool) := let numbers := x_; let script := γ.1; let lists := γ.2.1; let shape := γ.2.2.1; (ob (ob (ob (some ((numbers.length : Int), ())) fun z => (pck (-4611686018427387904 ≤ z.1 ∧ z.1 < 4611686018427387904) (prange z.1))) fun xs41 => (ob (lcM (fun c40 => (some c40)) xs41) fun r => pck (r.length ≤ sz) r)) fun ms59 => ob (pck (∀ m ∈ ms59, 0 ≤ m) (psufs numbers ms59)) fun expected42 => ob (pck (numbers.length ≤ sz) numbers) fun handed => ob (ob (some (handed, ())) fun z43 => (m_suffix_rows z43.1)) fun actual => rb ((ob ((ob (ob (ob (some (actual, ())) fun z44 => (m_law_integers z44.1)) fun x45 => some (!x45)) fun b47 => if b47 = true then some true else ((ob (some (!decide (actual = expected42))) fun b46 => if b46 = true then some true else (some (!decide (handed = numbers))))))) fun b50 => if b50 = true then (rb (ob (some false) fun r49 => some (.ret r49)) fun γ => some (.nxt γ)) else (some (.nxt (script, lists, shape, numbers, expected42, handed, actual, ()))))) m_law_r3)
noncomputable def m_law_r5 (γ : ((List Int) × (List (List Int)) × Int × Unit)) : Option (Res Unit Unit Bool) := rb (ob (some true) fun r61 => some (.ret r61)) fun γ => some (.nxt γ)
noncomputable def m_law_r6 (γ : ((List Int) × (List (List Int)) × Int × Unit)) : Option (Res Unit Unit Bool) := let script := γ.1; let lists := γ.2.1; let shape := γ.2.2.1; rb (ob (some lists) fun xs62 => (forR m_law_b4 xs62 (script, lists, shape, ()))) m_law_r5
noncomputable def m_law_r7 (γ : ((List Int) × (List (List Int)) × Unit)) : Option (Res Unit Unit Bool) := let script := γ.1; let lists := γ.2.1; ob (ob (some (script, (12 : Int), ())) fun z22 => (m_law_cell z22.1 z22.2.1)) fun shape => rb ((ob (ob (pck (PMod shape (8 : Int)) (shape % (8 : Int))) fun x23 => (ob (some (7 : Int)) fun y24 => some (decide (x23 = y24)))) fun b39 => if b39 = true then ((ob (ob (ob (pck (PDiv shape (8 : Int)) (shape / (8 : Int))) fun x34 => (ob (ob (ob (some (script, (13 : Int), ())) fun z25 => (m_law_cell z25.1 z25.2.1)) fun x32 => (ob (ob (ob (some (200 : Int)) fun x28 => (ob (ob (pck (PDiv shape (64 : Int)) (shape / (64 : Int))) fun x26 => (ob (some (197 : Int)) fun y27 => (pck (PMod x26 y27) (x26 % y27)))) fun y29 => some (x28 + y29))) fun x30 => (ob (some ()) fun r31 => some (x30, r31))) fun r33 => some (x32, r33))) fun r35 => some (x34, r35))) fun z36 => (m_law_numbers z36.1 z36.2.1 z36.2.2.1)) fun x38 => ob (pck (lists.length < sz) (lists ++ [x38])) fun w37 => some (.nxt (script, w37, shape, ())))) else (some (.nxt (script, lists, shape, ()))))) m_law_r6
noncomputable def m_law (script : (List Int)) : Option Bool := fin (κ := Unit) (ρ := Unit) (ob (pck (([] : List (List Int)).length ≤ sz) []) fun lists => rb (ob (ob (some ((6 : Int), ())) fun z => (pck (-4611686018427387904 ≤ z.1 ∧ z.1 < 4611686018427387904) (prange z.1))) fun xs63 => (forR m_law_b1 xs63 (script, lists, ()))) m_law_r7)
abbrev sp_law (K : PySem.W.Frag) : Sp := spTL (tP K) tQ (aC (jQ K jI) aN) (sF jB) (fun γ => m_law γ.1)
theorem ok_law (T : Tx w K mg) (TB : LamX.TabB base mg (tC K) (tP K)) : Dn P w K mg base 16 (He.ga K "law") ["_law_script"] (sp_law K) := by
  obtain ⟨fd_law_cell, G_law_cell, b_law_cell, kp_law_cell, _⟩ := ok_law_cell (P := P) (w := w) (base := base) T
  obtain ⟨fd_suffix_rows, G_suffix_rows, b_suffix_rows, kp_suffix_rows, _⟩ := ok_suffix_rows (P := P) (w := w) (base := base) T
  obtain ⟨fd_law_numbers, G_law_numbers, b_law_numbers, kp_law_numbers, _⟩ := ok_law_numbers (P := P) (w := w) (base := base) T
  obtain ⟨fd_law_integers, G_law_integers, b_law_integers, kp_law_integers, _⟩ := ok_law_integers (P := P) (w := w) (base := base) T
  refine dnT_mk (d := ("law", none)) T.d_law sc_law (fun _ _ _ _ _ _ us hl => match us, hl with | [_], _ => rfl) (spTL_len (an_C an_0)) fun cdv A outer s H vs Q E hcd hr h => ?_
  refine ⟨_, (pss_cons (ps_set (i := 1) sc_law.nd rfl (.inl rfl) (pe_lst pa_nil))
      (pss_cons (ps_for PassesOwn.never rfl (pi_range1 (by rfl) T.z_range (pa_cons pe_int pa_nil)) (pg_name (i := 2) sc_law.nd rfl (.inl rfl))
      (pss_cons (ps_set (i := 3) sc_law.nd rfl (.inl rfl) (pe_call G_law_cell (hr.mono (by decide)) (by rfl) T.g_law_cell kp_law_cell b_law_cell .nil pass0 (pa_cons (pv 0) (pa_cons (pe_op op_mul pe_int (pv 2)) pa_nil))))
      (pss_cons (ps_expr (bm_ (K := K) PySem.F.plainAttrs_list PySem.F.slot_list_append PySem.F.type_list_append mt_append (pv 1) (pa_cons (pe_call G_law_numbers (hr.mono (by decide)) (by rfl) T.g_law_numbers kp_law_numbers b_law_numbers .nil pass0 (pa_cons (pe_op op_fdiv (pv 3) pe_int) (pa_cons (pe_call G_law_cell (hr.mono (by decide)) (by rfl) T.g_law_cell kp_law_cell b_law_cell .nil pass0 (pa_cons (pv 0) (pa_cons (pe_op op_add (pe_op op_mul pe_int (pv 2)) pe_int) pa_nil))) (pa_cons (pe_op op_mod (pv 3) pe_int) pa_nil)))) pa_nil)))
      pss_nil)))
      (pss_cons (ps_set (i := 3) sc_law.nd rfl (.inl rfl) (pe_call G_law_cell (hr.mono (by decide)) (by rfl) T.g_law_cell kp_law_cell b_law_cell .nil pass0 (pa_cons (pv 0) (pa_cons pe_int pa_nil))))
      (pss_cons (ps_if (pt_cmpR op_eq (pe_op op_mod (pv 3) pe_int) pe_int (nomark _))
      (pss_cons (ps_expr (bm_ (K := K) PySem.F.plainAttrs_list PySem.F.slot_list_append PySem.F.type_list_append mt_append (pv 1) (pa_cons (pe_call G_law_numbers (hr.mono (by decide)) (by rfl) T.g_law_numbers kp_law_numbers b_law_numbers .nil pass0 (pa_cons (pe_op op_fdiv (pv 3) pe_int) (pa_cons (pe_call G_law_cell (hr.mono (by decide)) (by rfl) T.g_law_cell kp_law_cell b_law_cell .nil pass0 (pa_cons (pv 0) (pa_cons pe_int pa_nil))) (pa_cons (pe_op op_add pe_int (pe_op op_mod (pe_op op_fdiv (pv 3) pe_int) pe_int)) pa_nil)))) pa_nil)))
      pss_nil)
      pss_nil)
      (pss_cons (ps_for PassesOwn.never rfl (iL_ (K := K) (pv 1)) (pg_name (i := 4) sc_law.nd rfl (.inr rfl))
      (pss_cons (ps_set (i := 5) sc_law.nd rfl (.inl rfl) (pe_sortLam (k := 0) (i := 4) (pe_lc (own := [("_law_at", 6)]) rfl sc_law.nd (pi_range1 (by rfl) T.z_range (pa_cons (pe_callB (lenQ_ (K := K)) (by rfl) T.z_len (by decide +kernel) (pa_cons (pv 4) pa_nil)) pa_nil)) (blkOk_by (own := [("_law_at", 6)]) (N := ["_law_script", "_law_lists", "_law_k", "_law_shape", "_law_numbers_here", "_law_expected", "_law_at", "_law_handed", "_law_actual"]) (sc := defScope s_law) (by decide +kernel)) (fun _ _ _ _ _ => (pg_name (i := 6) sc_law.nd rfl (.inl rfl))) (fun _ _ _ _ _ => pts_nil) (fun _ _ _ _ _ => (pv 6))) TB hcd (hr.mono (by decide)) (by rfl) T.z_sorted (by rfl) (by rfl) rfl rfl rfl rfl (by rfl) (fun _ _ _ _ _ _ => rfl)))
      (pss_cons (ps_set (i := 7) sc_law.nd rfl (.inl rfl) (pe_callTy (listQ_ (K := K)) (by rfl) T.z_list (by decide +kernel) (pa_cons (pv 4) pa_nil)))
      (pss_cons (ps_set (i := 8) sc_law.nd rfl (.inl rfl) (pe_call G_suffix_rows (hr.mono (by decide)) (by rfl) T.g_suffix_rows kp_suffix_rows b_suffix_rows .nil pass0 (pa_cons (pv 7) pa_nil)))
      (pss_cons (ps_if (PW.pt (pw_or (pt_not (pt_val (pe_call G_law_integers (hr.mono (by decide)) (by rfl) T.g_law_integers kp_law_integers b_law_integers .nil pass0 (pa_cons (pv 8) pa_nil)))) (pw_or (pt_cmpR (neD_ (K := K) hr.units) (pv 8) (pv 5) (nomark _)) (pw_or1 (pt_cmpR (neD_ (K := K) hr.units) (pv 7) (pv 4) (nomark _))))))
      (pss_cons (ps_ret pe_bl)
      pss_nil)
      pss_nil)
      (pss_cons (ps_expr (bm_ (K := K) PySem.F.plainAttrs_list PySem.F.slot_list_append PySem.F.type_list_append mt_append (pv 8) (pa_cons pe_int pa_nil)))
      (pss_cons (ps_if (pt_cmpR (neD_ (K := K) hr.units) (pe_call G_suffix_rows (hr.mono (by decide)) (by rfl) T.g_suffix_rows kp_suffix_rows b_suffix_rows .nil pass0 (pa_cons (pv 7) pa_nil)) (pv 5) (nomark _))
      (pss_cons (ps_ret pe_bl)
      pss_nil)
      pss_nil)
      pss_nil)))))))
      (pss_cons (ps_ret pe_bl)
      pss_nil)))))), ?_⟩
  refine finTL_runX (E := (eC (sF (jQ K jI)) (eU (eU (eU (eU (eU (eU (eU (eU (eT (tP K) tQ))))))))))) (E' := eN) (aet_C (aet_U rfl (aet_U rfl (aet_U rfl (aet_U rfl (aet_U rfl (aet_U rfl (aet_U rfl (aet_U rfl aet_0))))))))) (an_C an_0) rfl ?S h rfl
  exact ⟨_, (ss_asg (se_lst (A := (jL jI)) sl_nil) (pS p0U) (ss_seq (ss_forN (f := m_law_b1) (si_r1 (sa_cons se_int sa_nil)) (sg_name (pS (pS p0U))) (ss_asg (se_call (sa_cons (se_var g0) (sa_cons (se_op se_int (se_var (gS (gS g0))) s2_mul) sa_nil))) (pS (pS (pS p0U))) (ss_app (K := K) (uS u0) (se_fz (se_call (sa_cons (se_op (se_var (gS (gS (gS g0)))) se_int s2_div) (sa_cons (se_call (sa_cons (se_var g0) (sa_cons (se_op (se_op se_int (se_var (gS (gS g0))) s2_mul) se_int (s2_I0 (f := fun i j => i + j))) sa_nil))) (sa_cons (se_op (se_var (gS (gS (gS g0)))) se_int s2_mod) sa_nil))))) (ss_co (cK (cK (cF (cF cId))))))) (by intro x γ; exact rfl)) (ss_conv (m' := m_law_r7) (ss_asg (se_call (sa_cons (se_var g0) (sa_cons se_int sa_nil))) (pS (pS (pU p0U))) (ss_seq (ss_if (st_test (se_op (se_op (se_var (gS (gS (gU g0)))) se_int s2_mod) se_int (s2_eqI))) (ss_app (K := K) (uS u0) (se_fz (se_call (sa_cons (se_op (se_var (gS (gS (gU g0)))) se_int s2_div) (sa_cons (se_call (sa_cons (se_var g0) (sa_cons se_int sa_nil))) (sa_cons (se_op se_int (se_op (se_op (se_var (gS (gS (gU g0)))) se_int s2_div) se_int s2_mod) (s2_I0 (f := fun i j => i + j))) sa_nil))))) ss_nil) ss_nil) (ss_conv (m' := m_law_r6) (ss_pre (cK (cI cId)) (ss_seq (ss_forN (f := m_law_b4) (si_list (se_var (gS g0))) (sg_name (pS (pS (pU (pS p0U))))) (ss_asgLam (tlS (tlS (tlU (tlS (tlS (tlU (tlU (tlU (tlU tl0))))))))) (gS (gS (gU (gS g0)))) (se_lc (si_r1 (sa_cons (se_cb (sa_cons (se_var (gS (gS (gU (gS g0))))) sa_nil) (sc_lenL (K := K))) sa_nil)) (wp_cons (nS (nS (nU (nS (nS (nU n0)))))) wp_nil) (sg_name (pS (pS (pU (pS (pS (pU p0U))))))) (se_var (gS (gS (gU (gS (gS (gU g0)))))))) (pS (pS (pU (pS (pS p0U))))) (ss_asg (se_cb (sa_cons (se_var (gS (gS (gU (gS g0))))) sa_nil) (sc_listL (K := K))) (pS (pS (pU (pS (pS (pS (pU p0U))))))) (ss_asg (se_callRS (sra_cons (sr_var (gS (gS (gU (gS (gS (gS (gU g0)))))))) sra_nil) (scsO scI)) (pS (pS (pU (pS (pS (pS (pU (pS p0U)))))))) (ss_seq (ss_if (st_or (st_not (st_B (se_callR (sra_cons (sr_var (gS (gS (gU (gS (gS (gS (gU (gS g0))))))))) sra_nil) scB))) (st_or (st_test (se_opR (sr_var (gS (gS (gU (gS (gS (gS (gU (gS g0))))))))) (sr_var (gS (gS (gU (gS (gS g0)))))) ((s2_neD (K := K) (qL qI))) scB)) (st_test (se_opR (sr_var (gS (gS (gU (gS (gS (gS (gU g0)))))))) (sr_of (se_var (gS (gS (gU (gS g0)))))) ((s2_neD (K := K) (qL qI))) scB)))) (ss_seq (ss_ret se_bl) ss_nil) ss_nil) (ss_conv (m' := m_law_r3) (ss_app (K := K) (uS (uS (uU (uS (uS (uS (uU (uS u0)))))))) se_int (ss_seq (ss_if (st_test (se_opR (sr_of (se_fz (se_callRS (sra_cons (sr_var (gS (gS (gU (gS (gS (gS (gU g0)))))))) sra_nil) (scsO scI)))) (sr_var (gS (gS (gU (gS (gS g0)))))) ((s2_neD (K := K) (qL qI))) scB)) (ss_seq (ss_ret se_bl) ss_nil) ss_nil) (ss_conv (m' := m_law_r2) (ss_co (cK (cK (cU (cK (cF (cF (cU (cF (cF cId)))))))))) (by exact rfl)))) (by exact rfl)))))) (by intro x γ; exact rfl)) (ss_conv (m' := m_law_r5) (ss_seq (ss_ret se_bl) ss_nil) (by exact rfl)))) (by exact rfl)))) (by exact rfl)))), by exact rfl⟩
end
end Lw
namespace Lw
open PySem PySem.Spec PyProof.Rows L2 Fw Mi Lb
local macro_rules | `(tactic| walk_at "m") => `(tactic| simp only [pidx_one, pinS_one, pninS_one, W_some, W_none, W_ob, W_bind, W_pck, W_rb, W_fin, W_finN, W_T, W_F, W_Tr, W_Fa, Rw_nxt, Rw_ret, Rw_cnt, Rf_ret, Rf_nxt, RfN_ret, RfN_nxt, W_finU, RfU_nxt, W_finZ, W_finZN, RfZ_nxt, lcM_id, W_obx, Xf_ok, Xf_er, W_rbx, Xr_ok, Xr_er, W_okx, W_finNX, RfNX_ret, RfNX_nxt, W_finUX, RfUX_nxt, RfUX_er, W_trx, Xt_ok, Xt_er, decide_true, decide_false, Bool.not_true, Bool.not_false])
theorem law_true (ns : List Int) (h : ns.length ≤ 63) : m_law ns = some true := by
  have hz : (16000000 : Nat) ≤ sz := by unfold sz; omega
  refine W.eq ?_
  unfold m_law
  walk_at "m"
  refine ⟨Nat.zero_le _, by omega, ?_⟩
  refine W_for (fun i γ => ∃ f : List (List Int), γ = (ns, f, ()) ∧ f.length = i ∧ ∀ l ∈ f, l.length ≤ 404) ⟨[], rfl, rfl, fun _ h => nomatch h⟩ ?_ ?_
  · rintro i x γ hx ⟨f, rfl, hf, hl⟩
    obtain ⟨rfl, hi⟩ := prange_get hx
    unfold m_law_b1
    walk_at "m"
    refine ⟨by unfold PMul; omega, ?_⟩
    refine w_cell (by omega) fun ce => ?_
    refine ⟨by omega, by unfold PMul; omega, ?_⟩
    refine w_cell (by omega) fun ct => ⟨by omega, ?_⟩
    refine w_numbers (by omega) fun l h1 => ⟨by omega, _, rfl, by rw [List.length_append, hf]; rfl, fun l hm => ?_⟩
    rcases List.mem_append.mp hm with z | z
    · exact hl l z
    · rw [List.mem_singleton.mp z]; exact h1
  · rintro γ ⟨f, rfl, hf, hl⟩
    rw [prange_len] at hf
    walk_at "m"
    unfold m_law_r7
    walk_at "m"
    refine w_cell (by decide) fun c12 => ⟨by omega, ?_⟩
    refine W.mono (Q := fun r => ∃ f : List (List Int), r = Res.nxt (ns, f, c12, ()) ∧ ∀ l ∈ f, l.length ≤ 404) ?_ ?_
    · refine W_ifD (fun _ => ?_) (fun _ => ?_)
      · walk_at "m"
        refine ⟨by omega, ?_⟩
        refine w_cell (by decide) fun c13 => ⟨by omega, by omega, ?_⟩
        refine w_numbers (by omega) fun l h1 => ⟨by omega, _, rfl, fun l hm => ?_⟩
        rcases List.mem_append.mp hm with z | z
        · exact hl l z
        · rw [List.mem_singleton.mp z]; exact h1
      · walk_at "m"
        exact ⟨f, rfl, hl⟩
    rintro _ ⟨f, rfl, hl⟩
    rw [Rw_nxt]
    unfold m_law_r6
    walk_at "m"
    refine W_for (fun i γ => γ = (ns, f, c12, ())) rfl ?_ ?_
    · rintro i l γ hx rfl
      have h1 := hl l (List.mem_of_getElem? hx)
      unfold m_law_b4
      walk_at "m"
      refine ⟨⟨by omega, by omega⟩, ?_⟩
      refine ⟨by rw [prange_len]; omega, prange_pos _, by omega, ?_⟩
      refine w_sufrows (by omega) fun rs hrs => ?_
      have rl := hrs.1.length_eq
      rw [List.length_range] at rl
      rw [m_integers_eq (by rw [nls_len]; omega), psufs_rows hrs]
      walk_at "m"
      unfold m_law_r3
      walk_at "m"
      refine ⟨by rw [nls_len]; omega, ?_⟩
      refine w_sufrows (by omega) fun rs2 hrs2 => ?_
      rw [show nls rs2 = nls rs by rw [← psufs_rows hrs2, psufs_rows hrs]]
      walk_at "m"
      unfold m_law_r2
      walk_at "m"
    · rintro γ rfl
      walk_at "m"
      unfold m_law_r5
      walk_at "m"

end Lw
namespace Lw
open PySem PySem.Spec PyProof.Rows L2 Fw Mi Lb

theorem law_start {K : PySem.W.Frag} {H : Hp} {a : Addr} {ns : List Int} (hS : SqL K H a (ns.map V.int)) (hl : ns.length ≤ 63) (hT : H (tP K) = some (.tbl #[])) : sp_law K [.ref a] H (fun v _ => v = .bl true) fun _ _ _ => False := by
  have hS2 : SqL K (cutH H (tP K)) a (ns.map V.int) := by
    have ne : ∀ o : HO, (∀ ps, o ≠ .tbl ps) → H a = some o → a ≠ tP K := fun o h e z => by
      rw [z, hT] at e
      exact h _ (Option.some.inj e).symm
    rcases hS with (h | ⟨o, h⟩) | h
    · exact .inl (.inl (by rw [cutH_ne (ne _ (fun _ z => by cases z) h)]; exact h))
    · exact .inl (.inr ⟨o, by rw [cutH_ne (ne _ (fun _ z => by cases z) h)]; exact h⟩)
    · exact .inr h
  exact ⟨cutH H (tP K), #[], (ns, ()), true, cutH_sub, cutH_same, hT, TabOk.nil _ _, ⟨_, _, rfl, ⟨a, _, rfl, hS2, Paired.mk (A := jI.r _) (f := V.int) (fun _ => rfl) ns⟩, rfl⟩, law_true ns hl, fun _ _ _ _ _ r => r.2⟩
section
variable {P : Program} {w : World} {K : PySem.W.Frag} {mg : Str → Option Value} {base : Heap}
end
/-! ### the head -/
def dd_lows_of : He.DefD := ⟨("lows_of", none), "lows_of", "lows_of", defArgs s_lows_of, defBody s_lows_of, defScope s_lows_of, [], []⟩
def dd_is_valley : He.DefD := ⟨("is_valley", none), "is_valley", "is_valley", defArgs s_is_valley, defBody s_is_valley, defScope s_is_valley, [], []⟩
def dd_bucket_ends : He.DefD := ⟨("bucket_ends", none), "bucket_ends", "bucket_ends", defArgs s_bucket_ends, defBody s_bucket_ends, defScope s_bucket_ends, [], []⟩
def dd_put_at_ends : He.DefD := ⟨("put_at_ends", none), "put_at_ends", "put_at_ends", defArgs s_put_at_ends, defBody s_put_at_ends, defScope s_put_at_ends, [], []⟩
def dd_put_high : He.DefD := ⟨("put_high", none), "put_high", "put_high", defArgs s_put_high, defBody s_put_high, defScope s_put_high, [], []⟩
def dd_put_low : He.DefD := ⟨("put_low", none), "put_low", "put_low", defArgs s_put_low, defBody s_put_low, defScope s_put_low, [], []⟩
def dd_induced : He.DefD := ⟨("induced", none), "induced", "induced", defArgs s_induced, defBody s_induced, defScope s_induced, [], []⟩
def dd_same_hill : He.DefD := ⟨("same_hill", none), "same_hill", "same_hill", defArgs s_same_hill, defBody s_same_hill, defScope s_same_hill, [], []⟩
def dd_hill_names : He.DefD := ⟨("hill_names", none), "hill_names", "hill_names", defArgs s_hill_names, defBody s_hill_names, defScope s_hill_names, [], []⟩
def dd_sorted_rows : He.DefD := ⟨("sorted_rows", none), "sorted_rows", "sorted_rows", defArgs s_sorted_rows, defBody s_sorted_rows, defScope s_sorted_rows, [], []⟩
def dd_suffix_rows : He.DefD := ⟨("suffix_rows", none), "suffix_rows", "suffix_rows", defArgs s_suffix_rows, defBody s_suffix_rows, defScope s_suffix_rows, [], []⟩
def dd_law_cell : He.DefD := ⟨("_law_cell", none), "_law_cell", "_law_cell", defArgs s_law_cell, defBody s_law_cell, defScope s_law_cell, [], []⟩
def dd_law_row : He.DefD := ⟨("_law_row", none), "_law_row", "_law_row", defArgs s_law_row, defBody s_law_row, defScope s_law_row, [], []⟩
def dd_law_integer : He.DefD := ⟨("_law_integer", none), "_law_integer", "_law_integer", defArgs s_law_integer, defBody s_law_integer, defScope s_law_integer, [], []⟩
def dd_law_integers : He.DefD := ⟨("_law_integers", none), "_law_integers", "_law_integers", defArgs s_law_integers, defBody s_law_integers, defScope s_law_integers, [], []⟩
def dd_law_numbers : He.DefD := ⟨("_law_numbers", none), "_law_numbers", "_law_numbers", defArgs s_law_numbers, defBody s_law_numbers, defScope s_law_numbers, [], []⟩
def dd_law : He.DefD := ⟨("law", none), "law", "law", defArgs s_law, defBody s_law, defScope s_law, [], []⟩
def tf : List He.Defn := [("law", none)]
def fn : List He.DefD := [dd_lows_of, dd_is_valley, dd_bucket_ends, dd_put_at_ends, dd_put_high, dd_put_low, dd_induced, dd_same_hill, dd_hill_names, dd_sorted_rows, dd_suffix_rows, dd_law_cell, dd_law_row, dd_law_integer, dd_law_integers, dd_law_numbers, dd_law]
def fa : List He.Fa := [.glo "lows_of", .glo "is_valley", .glo "bucket_ends", .glo "put_at_ends", .glo "put_high", .glo "put_low", .glo "induced", .glo "same_hill", .glo "hill_names", .glo "sorted_rows", .glo "suffix_rows", .glo "_law_cell", .glo "_law_row", .glo "_law_integer", .glo "_law_integers", .glo "_law_numbers", .glo "law", .free "range", .free "len", .free "reversed", .free "sorted", .free "set", .free "int", .free "abs", .free "isinstance", .free "bool", .free "list", .free "all"]
abbrev R : PySem.W.OpenRow := PySem.W.OpenLaw.row PySem.Challenge.rw_homereads_k12_suffix_rows
def tabs : List He.Tab := []
def ex (K : PySem.W.Frag) : Bool := true
abbrev hk : PySem.W.Hook := He.hookX 4 fa fn tabs tf ex
def ob (s : PySem.W.SharedT) : He.AlX := He.obsX 4 fa fn tabs tf ex (HandSHeadRun.getT s)
theorem ob_eq (s : PySem.W.SharedT) : ob s = hk.obs s.abs := He.obsX_eq (HandSHeadRun.getT_eq s)
def names : List PySem.Str := (["lows_of", "is_valley", "bucket_ends", "put_at_ends", "put_high", "put_low", "induced", "same_hill", "hill_names", "sorted_rows", "suffix_rows", "_law_cell", "_law_row", "_law_integer", "_law_integers", "_law_numbers"] : List PySem.Str)
theorem run (w : World) : HandSHeadRun.RunEq R (PySem.W.view R.prog [18]) hk ob 4000 names w := by
  intro os
  kernel_rfl
theorem tx {w : World} {K : PySem.W.Frag} {h : Heap} {mg : Str → Option Value} (X : K.In h) (G : h.Ns mainGlobals mg) (c : He.SaysX fa fn tabs tf ex w h K) : Tx w K mg where
  g_lows_of := He.glo_ok X G (c.t.d.fact 0 (f := .glo "lows_of") rfl)
  g_is_valley := He.glo_ok X G (c.t.d.fact 1 (f := .glo "is_valley") rfl)
  g_bucket_ends := He.glo_ok X G (c.t.d.fact 2 (f := .glo "bucket_ends") rfl)
  g_put_at_ends := He.glo_ok X G (c.t.d.fact 3 (f := .glo "put_at_ends") rfl)
  g_put_high := He.glo_ok X G (c.t.d.fact 4 (f := .glo "put_high") rfl)
  g_put_low := He.glo_ok X G (c.t.d.fact 5 (f := .glo "put_low") rfl)
  g_induced := He.glo_ok X G (c.t.d.fact 6 (f := .glo "induced") rfl)
  g_same_hill := He.glo_ok X G (c.t.d.fact 7 (f := .glo "same_hill") rfl)
  g_hill_names := He.glo_ok X G (c.t.d.fact 8 (f := .glo "hill_names") rfl)
  g_sorted_rows := He.glo_ok X G (c.t.d.fact 9 (f := .glo "sorted_rows") rfl)
  g_suffix_rows := He.glo_ok X G (c.t.d.fact 10 (f := .glo "suffix_rows") rfl)
  g_law_cell := He.glo_ok X G (c.t.d.fact 11 (f := .glo "_law_cell") rfl)
  g_law_row := He.glo_ok X G (c.t.d.fact 12 (f := .glo "_law_row") rfl)
  g_law_integer := He.glo_ok X G (c.t.d.fact 13 (f := .glo "_law_integer") rfl)
  g_law_integers := He.glo_ok X G (c.t.d.fact 14 (f := .glo "_law_integers") rfl)
  g_law_numbers := He.glo_ok X G (c.t.d.fact 15 (f := .glo "_law_numbers") rfl)
  g_law := He.glo_ok X G (c.t.d.fact 16 (f := .glo "law") rfl)
  z_range := He.free_ok X G (c.t.d.fact 17 (f := .free "range") rfl)
  z_len := He.free_ok X G (c.t.d.fact 18 (f := .free "len") rfl)
  z_reversed := He.free_ok X G (c.t.d.fact 19 (f := .free "reversed") rfl)
  z_sorted := He.free_ok X G (c.t.d.fact 20 (f := .free "sorted") rfl)
  z_set := He.free_ok X G (c.t.d.fact 21 (f := .free "set") rfl)
  z_int := He.free_ok X G (c.t.d.fact 22 (f := .free "int") rfl)
  z_abs := He.free_ok X G (c.t.d.fact 23 (f := .free "abs") rfl)
  z_isinstance := He.free_ok X G (c.t.d.fact 24 (f := .free "isinstance") rfl)
  z_bool := He.free_ok X G (c.t.d.fact 25 (f := .free "bool") rfl)
  z_list := He.free_ok X G (c.t.d.fact 26 (f := .free "list") rfl)
  z_all := He.free_ok X G (c.t.d.fact 27 (f := .free "all") rfl)
  d_lows_of := c.t.d.def_ 0 (d := dd_lows_of) rfl
  d_is_valley := c.t.d.def_ 1 (d := dd_is_valley) rfl
  d_bucket_ends := c.t.d.def_ 2 (d := dd_bucket_ends) rfl
  d_put_at_ends := c.t.d.def_ 3 (d := dd_put_at_ends) rfl
  d_put_high := c.t.d.def_ 4 (d := dd_put_high) rfl
  d_put_low := c.t.d.def_ 5 (d := dd_put_low) rfl
  d_induced := c.t.d.def_ 6 (d := dd_induced) rfl
  d_same_hill := c.t.d.def_ 7 (d := dd_same_hill) rfl
  d_hill_names := c.t.d.def_ 8 (d := dd_hill_names) rfl
  d_sorted_rows := c.t.d.def_ 9 (d := dd_sorted_rows) rfl
  d_suffix_rows := c.t.d.def_ 10 (d := dd_suffix_rows) rfl
  d_law_cell := c.t.d.def_ 11 (d := dd_law_cell) rfl
  d_law_row := c.t.d.def_ 12 (d := dd_law_row) rfl
  d_law_integer := c.t.d.def_ 13 (d := dd_law_integer) rfl
  d_law_integers := c.t.d.def_ 14 (d := dd_law_integers) rfl
  d_law_numbers := c.t.d.def_ 15 (d := dd_law_numbers) rfl
  d_law := c.t.d.def_ 16 (d := dd_law) rfl
theorem facts {P : Program} {w : World} {K : PySem.W.Frag} {h : Heap} {mg : Str → Option Value} {f : Addr} (X : K.In h) (G : h.Ns mainGlobals mg) (hfa : mg ("law" : Str) = some (.ref f)) (c : He.SaysX fa fn tabs tf ex w h K) :
    ∃ fd : FuncData, (∀ (s : Shared) (v : Value), BindsTo s fd ⟨[v], []⟩ [("_law_script", v)]) ∧ ∀ base : Heap, K.In base → base.Ns mainGlobals mg → LamX.TabB base mg (tC K) (tP K) → FnOk P w K mg base CX0 16 f fd ["_law_script"] (sp_law K) := by
  have T := tx (w := w) X G c
  have e := hfa.symm.trans T.g_law
  cases e
  obtain ⟨fd, F⟩ := T.d_law
  have lF := lk_of F
  have b := FunD.bindsA (ps := ["_law_script"]) F fun _ _ _ _ _ _ us hl => match us, hl with | [_], _ => rfl
  refine ⟨fd, fun s v => b s [v] rfl, fun base _ _ TB => ?_⟩
  obtain ⟨fd2, G2, _, _, l2⟩ := ok_law (P := P) (w := w) (base := base) T TB
  rw [lk_same lF l2]
  exact G2
end Lw
open PySem PySem.W PySem.Calls PyProof.Rows
set_option maxHeartbeats 0 in
theorem PySem.Challenge.cw_homereads_k12_suffix_rows_holds : PySem.Challenge.rw_homereads_k12_suffix_rows.Holds := by
  w_on; o_law
  refine HandSHeadRun.head_any (r := OpenLaw.row PySem.Challenge.rw_homereads_k12_suffix_rows) (q := view (OpenLaw.row PySem.Challenge.rw_homereads_k12_suffix_rows).prog [18]) (H := Lw.hk) (ob := Lw.ob) (M := 4000) (loose := Lw.names) (d := HandSHeadRun.topDef (OpenLaw.row PySem.Challenge.rw_homereads_k12_suffix_rows).prog 18) (kwd := []) Lw.ob_eq
    (by kernel_rfl) (fun s => by kernel_rfl) Lw.run (by kernel_rfl) (by kernel_rfl) (by kernel_rfl) (by rfl) (by first | assumption | decide +kernel) (by decide +kernel) ⟨rfl, rfl, rfl, rfl, rfl, by decide +kernel⟩ ?hw ?hc
  case hw => w_witness2
  case hc =>
    refine LamX.walk_ofTsE (l := PySem.Challenge.rw_homereads_k12_suffix_rows) (n := 63) (k := 16) (x := "_law_script") (CX := fun _ => L2.CX0) rfl (by decide) (by kernel_rfl) ⟨rfl, by decide, by decide⟩ ?F (fun _ _ _ _ _ z => z)
    intro w mg fa h Y G hmg0
    obtain ⟨K, KX, c⟩ := Y
    have hmg : mg ("law" : PySem.Str) = some (.ref fa) := by
      have e : (HandSHeadRun.topDef (OpenLaw.row PySem.Challenge.rw_homereads_k12_suffix_rows).prog 18).name = ("law" : PySem.Str) := by kernel_rfl
      rw [← e]
      exact hmg0
    obtain ⟨fd, hb, hF⟩ := Lw.facts (P := (PySem.Challenge.rw_homereads_k12_suffix_rows).prog) (w := w) KX G hmg c
    exact ⟨K, KX, fd, [He.cT K ("law", none)], Lw.sp_law K, fun p hp => by rw [List.mem_singleton.mp hp]; exact c.empty _ (List.mem_singleton.mpr rfl), fun p hp => by rw [List.mem_singleton.mp hp]; exact c.out _ (List.mem_singleton.mpr rfl), fun p hp => by rw [List.mem_singleton.mp hp]; exact PySem.W.codeHd_of_K KX (c.hd _ (List.mem_singleton.mpr rfl)), hb,
      fun H a ns hl _ hT hS => Lw.law_start hS hl (hT _ (List.mem_singleton.mpr rfl)), fun base h1 h2 TB => hF base h1 h2 (TB _ (List.mem_singleton.mpr rfl))⟩
