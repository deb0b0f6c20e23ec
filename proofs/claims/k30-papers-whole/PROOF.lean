import PyProof.Rows.All
import Wide.All
import OpenK.AllK
import Wide.FinOn
import KE.KStateDown
import Lean
import HandS.ForMost
import HandS.Defaults
import HandS.Head0
import HandS.Head1
import HandS.Head2
import HandS.HeadEnd
import HandS.HeadHook1
import HandS.HeadHook2
import HandS.HeadHook3
import HandS.HeadHook4
import HandS.More
import HandS.IsInst
import HandS.SortKw
import HandS.SortInts
import HandS.Evl
import HandS.Wide
import HandS.WideBits
import HandS.Replace
import HandS.RaiseMore
import HandS.Flt
import HandS.Deep
import HandS.SetFor
import HandS.Steps
import PySem.Challenge.RW_homereads_k30_whole_papers_never_show_to
set_option Elab.async false
set_option linter.all false
set_option maxRecDepth 100000
set_option maxHeartbeats 4000000
namespace Fw
open PySem PySem.Spec PyProof.Rows L2

/-! ### facts that stay while the heap grows -/
structure Ck where
  p : Hp → Prop
  mono : ∀ {F F' : Hp}, Same F F' → p F → p F'
def AllC : List Ck → Hp → Prop
  | [], _ => True
  | c :: r, F => c.p F ∧ AllC r F
theorem AllC.mono : ∀ {Cs : List Ck} {F F' : Hp}, Same F F' → AllC Cs F → AllC Cs F'
  | [], _, _, _, _ => trivial
  | c :: r, _, _, s, h => ⟨c.mono s h.1, AllC.mono s h.2⟩
theorem AllC.get : ∀ {Cs : List Ck} {F : Hp} {i : Nat} {c : Ck}, AllC Cs F → Cs[i]? = some c → c.p F
  | [], _, _, _, _, e => by simp at e
  | c :: r, _, 0, _, h, e => by
    have e1 : c = _ := Option.some.inj e
    rw [← e1]
    exact h.1
  | c :: r, _, i + 1, d, h, e => AllC.get (Cs := r) (i := i) (c := d) h.2 e
def cL (a : Addr) (xs : List V) : Ck := ⟨fun F => F a = some (.lst xs), fun s h => s _ _ h⟩
def cT (a : Addr) (xs : List V) : Ck := ⟨fun F => F a = some (.tup xs), fun s h => s _ _ h⟩
def cO (a : Addr) (o : HO) : Ck := ⟨fun F => F a = some o, fun s h => s _ _ h⟩
theorem Same.sqt {K : PySem.W.Frag} {H H' : Hp} {a : Addr} {xs : List V} (e : Same H H') (h : SqT K H a xs) : SqT K H' a xs := by
  rcases h with (h | ⟨o, h⟩) | h
  · exact .inl (.inl (e _ _ h))
  · exact .inl (.inr ⟨o, e _ _ h⟩)
  · exact .inr h
mutual
theorem Dp.mono {K : PySem.W.Frag} {H H' : Hp} (e : Same H H') : ∀ (d : PyData) (v : V), Dp K H v d → Dp K H' v d
  | .none, _, h => by cases h; exact .non
  | .bool b, _, h => by cases h; exact .bl b
  | .int i, _, h => by cases h; exact .int i
  | .str x, _, h => by cases h; exact .str x
  | .list ds, _, h => by
    cases h with
    | lst hs ha => exact .lst (e.seq hs) (DpAll.mono e ds _ ha)
  | .tuple ds, _, h => by
    cases h with
    | tup hs ha => exact .tup (Same.sqt e hs) (DpAll.mono e ds _ ha)
  | .dict _, _, h => by cases h
theorem DpAll.mono {K : PySem.W.Frag} {H H' : Hp} (e : Same H H') : ∀ (ds : List PyData) (vs : List V), DpAll K H vs ds → DpAll K H' vs ds
  | [], _, h => by cases h; exact .nil
  | d :: ds, _, h => by
    cases h with
    | cons h1 h2 => exact .cons (Dp.mono e d _ h1) (DpAll.mono e ds _ h2)
end
def cS (K : PySem.W.Frag) (a : Addr) (xs : List V) : Ck := ⟨fun F => SqL K F a xs, fun s h => s.seq h⟩
def cU (K : PySem.W.Frag) (a : Addr) (xs : List V) : Ck := ⟨fun F => SqT K F a xs, fun s h => Same.sqt s h⟩
def cD (K : PySem.W.Frag) (v : V) (d : PyData) : Ck := ⟨fun F => Dp K F v d, fun s h => Dp.mono s _ _ h⟩
def cDs (K : PySem.W.Frag) (vs : List V) (ds : List PyData) : Ck := ⟨fun F => DpAll K F vs ds, fun s h => DpAll.mono s _ _ h⟩

/-! ### the heap's parts -/
/-- F0, H0: frozen part and heap at the entry; F: the frozen part now, H: the heap now; L: the def's own objects, each may still change -/
structure Own (F0 H0 F H : Hp) (L : List (Addr × HO)) (C : List Ck) : Prop where
  f0 : Same F0 F
  fh : Same F H
  hh : Same H0 H
  new : ∀ a o, F a = some o → F0 a = some o ∨ H0 a = none
  own : ∀ q ∈ L, F q.1 = none ∧ H0 q.1 = none ∧ H q.1 = some q.2
  nd : (L.map Prod.fst).Nodup
  cs : AllC C F
/-- what a call may do: F' F grown by new objects, all kept -/
structure Ext (F H F' H' : Hp) : Prop where
  ff : Same F F'
  fh : Same F' H'
  hh : Same H H'
  new : ∀ a o, F' a = some o → F a = some o ∨ H a = none
structure OwnNew (H F' H' : Hp) (L : List (Addr × HO)) : Prop where
  at_ : ∀ q ∈ L, F' q.1 = none ∧ H q.1 = none ∧ H' q.1 = some q.2
  nd : (L.map Prod.fst).Nodup
section
variable {F0 H0 F H F' H' : Hp} {L L' : List (Addr × HO)} {C C' : List Ck} {p a : Addr} {o o' : HO} {K : PySem.W.Frag} {xs : List V} {i : Nat}
theorem Own.start (s : Same F H) (cs : AllC C F) : Own F H F H [] C := ⟨Same.refl _, s, Same.refl _, fun _ _ h => .inl h, fun _ h => (nomatch h), List.nodup_nil, cs⟩
theorem Own.ck (O : Own F0 H0 F H L C) (i : Nat) {c : Ck} (h : C[i]? = some c := by rfl) : c.p F := O.cs.get h
theorem Own.push (O : Own F0 H0 F H L C) (c : Ck) (h : c.p F) : Own F0 H0 F H L (c :: C) := { O with cs := ⟨h, O.cs⟩ }
theorem Own.chunks (O : Own F0 H0 F H L C) (h : AllC C' F) : Own F0 H0 F H L C' := { O with cs := h }
theorem Own.at_ (O : Own F0 H0 F H L C) (i : Nat) {a : Addr} {o : HO} (h : L[i]? = some (a, o) := by rfl) : H a = some o := (O.own (a, o) (List.mem_of_getElem? h)).2.2
theorem Own.none0 (O : Own F0 H0 F H L C) (np : H p = none) : F p = none ∧ H0 p = none := ⟨O.fh.free np, O.hh.free np⟩
theorem Own.alloc (O : Own F0 H0 F H L C) (np : H p = none) (o : HO) : Own F0 H0 F (upd H p o) ((p, o) :: L) C := by
  have s : Same H (upd H p o) := fun b u e => by rw [upd_ne (ne_of_none e np)]; exact e
  refine ⟨O.f0, O.fh.trans s, O.hh.trans s, O.new, fun q hq => ?_, ?_, O.cs⟩
  · rcases List.mem_cons.mp hq with e | hq
    · subst e
      exact ⟨(O.none0 np).1, (O.none0 np).2, upd_same⟩
    · obtain ⟨h1, h2, h3⟩ := O.own q hq
      exact ⟨h1, h2, s _ _ h3⟩
  · rw [List.map_cons]
    refine List.nodup_cons.mpr ⟨fun hm => ?_, O.nd⟩
    obtain ⟨q, hq, e⟩ := List.mem_map.mp hm
    have h3 := (O.own q hq).2.2
    rw [e, np] at h3
    cases h3
/-- a new object that is frozen at once -/
theorem Own.ice (O : Own F0 H0 F H L C) (np : H p = none) (o : HO) : Own F0 H0 (upd F p o) (upd H p o) L (cO p o :: C) := by
  have s : Same H (upd H p o) := fun b u e => by rw [upd_ne (ne_of_none e np)]; exact e
  have sF : Same F (upd F p o) := fun b u e => by rw [upd_ne (ne_of_none e (O.none0 np).1)]; exact e
  refine ⟨O.f0.trans sF, fun b u e => ?_, O.hh.trans s, fun b u e => ?_, fun q hq => ?_, O.nd, ⟨upd_same, O.cs.mono sF⟩⟩
  · by_cases hb : b = p
    · subst hb
      rw [upd_same] at e ⊢
      exact e
    · rw [upd_ne hb] at e ⊢
      exact O.fh b u e
  · by_cases hb : b = p
    · subst hb
      exact .inr (O.none0 np).2
    · rw [upd_ne hb] at e
      exact O.new b u e
  · obtain ⟨h1, h2, h3⟩ := O.own q hq
    refine ⟨?_, h2, s _ _ h3⟩
    rw [upd_ne (ne_of_none h3 np)]
    exact h1
theorem nodup_map_get {L : List (Addr × HO)} (nd : (L.map Prod.fst).Nodup) {i j : Nat} {q r : Addr × HO} (h1 : L[i]? = some q) (h2 : L[j]? = some r) (e : q.1 = r.1) : i = j := by
  have a1 : (L.map Prod.fst)[i]? = some q.1 := by rw [List.getElem?_map, h1]; rfl
  have a2 : (L.map Prod.fst)[j]? = some q.1 := by rw [List.getElem?_map, h2, e]; rfl
  obtain ⟨l1, e1⟩ := List.getElem?_eq_some_iff.mp a1
  obtain ⟨l2, e2⟩ := List.getElem?_eq_some_iff.mp a2
  exact (List.getElem_inj nd).mp (e1.trans e2.symm)
theorem Own.set (O : Own F0 H0 F H L C) (i : Nat) {a : Addr} {o : HO} (hi : L[i]? = some (a, o)) (o' : HO) : Own F0 H0 F (upd H a o') (L.set i (a, o')) C := by
  obtain ⟨hF, hH0, hH⟩ := O.own (a, o) (List.mem_of_getElem? hi)
  have keep : ∀ b u, b ≠ a → H b = some u → upd H a o' b = some u := fun b u n e => by rw [upd_ne n]; exact e
  refine ⟨O.f0, fun b u e => keep b u (ne_of_none e hF) (O.fh b u e), fun b u e => keep b u (ne_of_none e hH0) (O.hh b u e), O.new, fun q hq => ?_, ?_, O.cs⟩
  · obtain ⟨j, hj⟩ := List.mem_iff_getElem?.mp hq
    by_cases e : i = j
    · subst e
      have hlt : i < L.length := (List.getElem?_eq_some_iff.mp hi).1
      rw [List.getElem?_set_self hlt] at hj
      cases hj
      exact ⟨hF, hH0, upd_same⟩
    · rw [List.getElem?_set_ne e] at hj
      obtain ⟨h1, h2, h3⟩ := O.own q (List.mem_of_getElem? hj)
      exact ⟨h1, h2, keep _ _ (fun z => e (nodup_map_get O.nd hi hj z.symm)) h3⟩
  · have e : (L.set i (a, o')).map Prod.fst = L.map Prod.fst := by
      rw [List.map_set]
      refine List.ext_getElem? fun j => ?_
      by_cases h : i = j
      · subst h
        have hlt : i < (L.map Prod.fst).length := by rw [List.length_map]; exact (List.getElem?_eq_some_iff.mp hi).1
        rw [List.getElem?_set_self hlt, List.getElem?_map, hi]
        rfl
      · rw [List.getElem?_set_ne h]
    rw [e]
    exact O.nd
theorem Own.sub (O : Own F0 H0 F H L C) (h : L'.Sublist L) : Own F0 H0 F H L' C := ⟨O.f0, O.fh, O.hh, O.new, fun q hq => O.own q (h.subset hq), O.nd.sublist (h.map _), O.cs⟩
/-- the last made own object is frozen -/
theorem Own.freeze (O : Own F0 H0 F H ((p, o) :: L) C) : Own F0 H0 (upd F p o) H L (cO p o :: C) := by
  obtain ⟨hF, hH0, hH⟩ := O.own (p, o) List.mem_cons_self
  have sF : Same F (upd F p o) := fun b u e => by rw [upd_ne (ne_of_none e hF)]; exact e
  have nd := O.nd
  rw [List.map_cons] at nd
  obtain ⟨n1, n2⟩ := List.nodup_cons.mp nd
  refine ⟨O.f0.trans sF, fun b u e => ?_, O.hh, fun b u e => ?_, fun q hq => ?_, n2, ⟨upd_same, O.cs.mono sF⟩⟩
  · by_cases hb : b = p
    · subst hb
      rw [upd_same] at e
      cases e
      exact hH
    · rw [upd_ne hb] at e
      exact O.fh b u e
  · by_cases hb : b = p
    · subst hb
      exact .inr hH0
    · rw [upd_ne hb] at e
      exact O.new b u e
  · obtain ⟨h1, h2, h3⟩ := O.own q (List.mem_cons_of_mem _ hq)
    refine ⟨?_, h2, h3⟩
    rw [upd_ne (fun z => n1 (by
      have m := List.mem_map_of_mem (f := Prod.fst) hq
      rw [z] at m
      exact m))]
    exact h1
theorem Own.grow (O : Own F0 H0 F H L C) (e : Ext F H F' H') (n : OwnNew H F' H' L') : Own F0 H0 F' H' (L' ++ L) C := by
  refine ⟨O.f0.trans e.ff, e.fh, O.hh.trans e.hh, fun b u h => ?_, fun q hq => ?_, ?_, O.cs.mono e.ff⟩
  · rcases e.new b u h with h | h
    · exact O.new b u h
    · exact .inr (O.hh.free h)
  · rcases List.mem_append.mp hq with hq | hq
    · obtain ⟨h1, h2, h3⟩ := n.at_ q hq
      exact ⟨h1, O.hh.free h2, h3⟩
    · obtain ⟨h1, h2, h3⟩ := O.own q hq
      refine ⟨?_, h2, e.hh _ _ h3⟩
      cases z : F' q.1 with
      | none => rfl
      | some u =>
        rcases e.new _ _ z with h | h
        · rw [h1] at h; cases h
        · rw [h3] at h; cases h
  · rw [List.map_append]
    refine List.nodup_append.mpr ⟨n.nd, O.nd, fun x hx y hy e2 => ?_⟩
    obtain ⟨q, hq, rfl⟩ := List.mem_map.mp hx
    obtain ⟨r, hr, rfl⟩ := List.mem_map.mp hy
    have h3 := (O.own r hr).2.2
    rw [← e2, (n.at_ q hq).2.1] at h3
    cases h3
/-- the heap alone grew -/
theorem Own.more (O : Own F0 H0 F H L C) (e : Same H H') : Own F0 H0 F H' L C := by
  have g := O.grow (F' := F) (H' := H') (L' := []) ⟨Same.refl _, O.fh.trans e, e, fun _ _ h => .inl h⟩ ⟨fun _ h => (nomatch h), List.nodup_nil⟩
  exact g
theorem Own.ext (O : Own F H F' H' L C) : Ext F H F' H' := ⟨O.f0, O.fh, O.hh, O.new⟩
theorem Own.news (O : Own F H F' H' L C) : OwnNew H F' H' L := ⟨fun q hq => let ⟨h1, h2, h3⟩ := O.own q hq; ⟨h1, h2, h3⟩, O.nd⟩
/-! what stands where -/
theorem Own.lst (O : Own F0 H0 F H L C) (i : Nat) {a : Addr} {xs : List V} (h : L[i]? = some (a, .lst xs) := by rfl) : SqL K H a xs := .inl (.inl (O.at_ i h))
theorem Own.tL (O : Own F0 H0 F H L C) (i : Nat) {a : Addr} {xs : List V} (h : C[i]? = some (cL a xs) := by rfl) : H a = some (.lst xs) := O.fh _ _ (O.cs.get h)
theorem Own.tT (O : Own F0 H0 F H L C) (i : Nat) {a : Addr} {xs : List V} (h : C[i]? = some (cT a xs) := by rfl) : H a = some (.tup xs) := O.fh _ _ (O.cs.get h)
theorem Own.tO (O : Own F0 H0 F H L C) (i : Nat) {a : Addr} {o : HO} (h : C[i]? = some (cO a o) := by rfl) : H a = some o := O.fh _ _ (O.cs.get h)
theorem Own.tS (O : Own F0 H0 F H L C) (i : Nat) {a : Addr} {xs : List V} (h : C[i]? = some (cS K a xs) := by rfl) : SqL K H a xs := O.fh.seq (O.cs.get h)
theorem Own.tU (O : Own F0 H0 F H L C) (i : Nat) {a : Addr} {xs : List V} (h : C[i]? = some (cU K a xs) := by rfl) : SqT K H a xs := Same.sqt O.fh (O.cs.get h)
theorem Own.tD (O : Own F0 H0 F H L C) (i : Nat) {v : V} {d : PyData} (h : C[i]? = some (cD K v d) := by rfl) : Dp K H v d := Dp.mono O.fh _ _ (O.cs.get h)
end

/-! ### promises -/
/-- a def whose result is told by R: the value, its new own objects, the frozen part behind it -/
def Spec (A : Hp → Prop) (R : V → List (Addr × HO) → Hp → Prop) (H : Hp) (Q : VK) : Prop :=
  ∃ F, Same F H ∧ A F ∧ ∀ F' H' v L, Ext F H F' H' → OwnNew H F' H' L → R v L F' → Q v H'
section
variable {F0 H0 F H F' H' : Hp} {L L' : List (Addr × HO)} {C C' : List Ck} {A : Hp → Prop} {R : V → List (Addr × HO) → Hp → Prop} {Q : VK}
theorem Own.call (O : Own F0 H0 F H L C) (hA : A F) (k : ∀ v L' F' H', R v L' F' → Own F0 H0 F' H' (L' ++ L) C → Q v H') : Spec A R H Q :=
  ⟨F, O.fh, hA, fun _ _ _ _ e n r => k _ _ _ _ r (O.grow e n)⟩
theorem Own.ret (O : Own F H F' H' L C) {v : V} (q : ∀ F' H' v L, Ext F H F' H' → OwnNew H F' H' L → R v L F' → Q v H') (r : R v L F') : Q v H' := q _ _ _ _ O.ext O.news r
end
/-- a fresh list of flat things -/
def RL (P : List V → Prop) : V → List (Addr × HO) → Hp → Prop := fun v L _ => ∃ p xs, v = .ref p ∧ L = [(p, .lst xs)] ∧ P xs
/-- a plain value -/
def RV (P : V → Prop) : V → List (Addr × HO) → Hp → Prop := fun v L _ => L = [] ∧ P v
/-- frozen data -/
def RD (K : PySem.W.Frag) (P : PyData → Prop) : V → List (Addr × HO) → Hp → Prop := fun v L F => ∃ d, L = [] ∧ Dp K F v d ∧ P d

def Lk (K : PySem.W.Frag) (f : Addr) (fd : FuncData) : Prop := ∃ oc od osl, K.lookup f = some ⟨oc, od, .func fd, osl⟩
/-- a def that keeps its promise, with what a caller needs -/
def Dn (P : Program) (w : World) (K : PySem.W.Frag) (mg : Str → Option Value) (base : Heap) (k : Nat) (f : Addr) (ps : List Str) (sp : Sp) : Prop :=
  ∃ fd, FnOk P w K mg base CX0 k f fd ps sp ∧ Binds K fd ps [] ∧ PySem.W.keepIn K (.ref f) = true ∧ Lk K f fd
abbrev FnP (K : PySem.W.Frag) (x q : Str) (st : Stmt) (f : Addr) (fd : FuncData) : Prop := FunD K x q (defArgs st) (defBody st) (defScope st) [] [] f fd

/-! ### steps -/
section
variable {nx bk ct : L2.St → Hp → Prop} {rt : VK} {t u : TS} {σ : L2.St} {H : Hp} {te ta tb : TE} {tt tt' : TT} {Q : VK} {i : Nat} {v x y : V} {g : TG}
theorem w_seq (h : t ⟨u ⟨nx, rt, bk, ct⟩, rt, bk, ct⟩ σ H) : tSeq t u ⟨nx, rt, bk, ct⟩ σ H := h
theorem w_next (h : nx σ H) : tNext ⟨nx, rt, bk, ct⟩ σ H := h
theorem w_brk (h : bk σ H) : tBreak ⟨nx, rt, bk, ct⟩ σ H := h
theorem w_cont (h : ct σ H) : tCont ⟨nx, rt, bk, ct⟩ σ H := h
theorem w_asg (h : te σ H fun x H1 => nx (σ.set i (some x)) H1) : tAsg te (gName i) ⟨nx, rt, bk, ct⟩ σ H := h
theorem w_asgG (h : te σ H fun x H1 => g x σ H1 nx) : tAsg te g ⟨nx, rt, bk, ct⟩ σ H := h
theorem w_aug {f : Int → Int → Int} {a : Int} (hx : σ[i]? = some (some (.int a))) (h : te σ H fun y H1 => ∃ b, y = .int b ∧ nx (σ.set i (some (.int (f a b)))) H1) : tAug i te (ipI f) ⟨nx, rt, bk, ct⟩ σ H := by
  refine ⟨_, hx, ?_⟩
  have e : (fun y H1 => ∃ b, y = V.int b ∧ nx (σ.set i (some (.int (f a b)))) H1) = (fun y H1 => ipI f (.int a) y H1 fun z H2 => nx (σ.set i (some z)) H2) := by
    funext y H1
    apply propext
    constructor
    · rintro ⟨b, rfl, q⟩
      exact ⟨a, b, rfl, rfl, q⟩
    · rintro ⟨a', b, e1, rfl, q⟩
      cases e1
      exact ⟨b, rfl, q⟩
  rw [e] at h
  exact h
theorem w_ret (h : te σ H rt) : tRet te ⟨nx, rt, bk, ct⟩ σ H := h
theorem w_retN (h : rt .non H) : tRetN ⟨nx, rt, bk, ct⟩ σ H := h
theorem w_drop (h : te σ H fun _ H1 => nx σ H1) : tDrop te ⟨nx, rt, bk, ct⟩ σ H := h
theorem w_if (h : tt σ H fun b H1 => if b = true then t ⟨nx, rt, bk, ct⟩ σ H1 else u ⟨nx, rt, bk, ct⟩ σ H1) : tIfS tt t u ⟨nx, rt, bk, ct⟩ σ H := h
theorem w_var (h : σ[i]? = some (some v)) (q : Q v H) : tVar i σ H Q := ⟨v, h, q⟩
theorem w_c (q : Q v H) : tC v σ H Q := q
theorem w_op {r : R2} (h : ta σ H fun x H1 => tb σ H1 fun y H2 => r x y H2 Q) : tOp r ta tb σ H Q := h
theorem w_un {r : V → Hp → VK → Prop} (h : ta σ H fun x H1 => r x H1 Q) : tUn r ta σ H Q := h
theorem w_cb {r : List V → Hp → VK → Prop} {tA : TA} (h : tA σ H fun vs H1 => r vs H1 Q) : tCB r tA σ H Q := h
theorem w_nil {Q : List V → Hp → Prop} (h : Q [] H) : tNil σ H Q := h
theorem w_cons {tA : TA} {Q : List V → Hp → Prop} (h : ta σ H fun x H1 => tA σ H1 fun xs H2 => Q (x :: xs) H2) : tCons ta tA σ H Q := h
theorem w_call {sp : Sp} {dvs : List V} {E : XK} {tA : TA} (h : tA σ H fun vs H1 => sp (vs ++ dvs) H1 Q E) : tCall sp dvs E tA σ H Q := h
theorem w_test {Q : Bool → Hp → Prop} (h : te σ H fun x H1 => ∃ k, x = .bl k ∧ Q k H1) : tTest te σ H Q := h
theorem w_tB {Q : Bool → Hp → Prop} (h : te σ H fun x H1 => ∃ k, x = .bl k ∧ Q k H1) : tB te σ H Q := h
theorem w_bl {Q : Bool → Prop} {b : Bool} (h : Q b) : ∃ k, V.bl b = .bl k ∧ Q k := ⟨b, rfl, h⟩
theorem w_intP {Q : Int → Prop} {b : Int} (h : Q b) : ∃ k, V.int b = .int k ∧ Q k := ⟨b, rfl, h⟩
theorem w_and {Q : Bool → Hp → Prop} (h : tt σ H fun c H1 => if c = true then tt' σ H1 Q else Q false H1) : tAnd tt tt' σ H Q := h
theorem w_or {Q : Bool → Hp → Prop} (h : tt σ H fun c H1 => if c = true then Q true H1 else tt' σ H1 Q) : tOr tt tt' σ H Q := h
theorem w_not {Q : Bool → Hp → Prop} (h : tt σ H fun c H1 => Q (!c) H1) : tNot tt σ H Q := h
theorem w_andV (h : ta σ H fun x H1 => ∃ c, x = .bl c ∧ if c = true then tb σ H1 Q else Q (.bl false) H1) : tAndV ta tb σ H Q := h
theorem w_orV (h : ta σ H fun x H1 => ∃ c, x = .bl c ∧ if c = true then Q (.bl true) H1 else tb σ H1 Q) : tOrV ta tb σ H Q := h
theorem w_notV (h : ta σ H fun x H1 => ∃ c, x = .bl c ∧ Q (.bl (!c)) H1) : tNotV ta σ H Q := h
theorem w_ifE (h : tt σ H fun c H1 => if c = true then ta σ H1 Q else tb σ H1 Q) : tIf tt ta tb σ H Q := h
theorem w_iteD {c : Prop} [Decidable c] {A B : Prop} (h1 : c → A) (h2 : ¬ c → B) : if decide c = true then A else B := by
  by_cases h : c
  · rw [if_pos (decide_eq_true h)]; exact h1 h
  · rw [if_neg (by rw [decide_eq_false h]; decide)]; exact h2 h
theorem w_iteN {c : Prop} [Decidable c] {A B : Prop} (h1 : ¬ c → A) (h2 : c → B) : if (!decide c) = true then A else B := by
  by_cases h : c
  · rw [if_neg (by rw [decide_eq_true h]; decide)]; exact h2 h
  · rw [if_pos (by rw [decide_eq_false h]; rfl)]; exact h1 h
theorem w_iteB {b : Bool} {A B : Prop} (h1 : b = true → A) (h2 : b = false → B) : if b = true then A else B := by
  cases b with
  | true => rw [if_pos rfl]; exact h1 rfl
  | false => rw [if_neg Bool.false_ne_true]; exact h2 rfl
theorem w_I0 {g : Int → Int → V} {i j : Int} (q : Q (g i j) H) : rI0 g (.int i) (.int j) H Q := ⟨i, j, rfl, rfl, q⟩
theorem w_I {P : Int → Int → Prop} {g : Int → Int → V} {i j : Int} (q : Q (g i j) H) (hc : P i j) : rI P g (.int i) (.int j) H Q := ⟨i, j, rfl, rfl, hc, q⟩
theorem w_U {g : Int → V} {i : Int} (q : Q (g i) H) : rU g (.int i) H Q := ⟨i, rfl, q⟩
theorem w_eqI {i j : Int} (q : Q (.bl (decide (i = j))) H) : rEq (.int i) (.int j) H Q := ⟨rfl, by
  rw [show decide (V.int i = V.int j) = decide (i = j) from decide_eq_decide.mpr ⟨fun h => V.int.inj h, fun h => by rw [h]⟩]
  exact q⟩
theorem w_neI {i j : Int} (q : Q (.bl (!decide (i = j))) H) : rNe (.int i) (.int j) H Q := ⟨rfl, by
  rw [show decide (V.int i = V.int j) = decide (i = j) from decide_eq_decide.mpr ⟨fun h => V.int.inj h, fun h => by rw [h]⟩]
  exact q⟩
theorem w_eqS {i j : Str} (q : Q (.bl (decide (i = j))) H) : rEq (.str i) (.str j) H Q := ⟨rfl, by
  rw [show decide (V.str i = V.str j) = decide (i = j) from decide_eq_decide.mpr ⟨fun h => V.str.inj h, fun h => by rw [h]⟩]
  exact q⟩
theorem w_neS {i j : Str} (q : Q (.bl (!decide (i = j))) H) : rNe (.str i) (.str j) H Q := ⟨rfl, by
  rw [show decide (V.str i = V.str j) = decide (i = j) from decide_eq_decide.mpr ⟨fun h => V.str.inj h, fun h => by rw [h]⟩]
  exact q⟩
theorem w_eqB {i j : Bool} (q : Q (.bl (decide (i = j))) H) : rEq (.bl i) (.bl j) H Q := ⟨rfl, by
  rw [show decide (V.bl i = V.bl j) = decide (i = j) from decide_eq_decide.mpr ⟨fun h => V.bl.inj h, fun h => by rw [h]⟩]
  exact q⟩
theorem w_neB {i j : Bool} (q : Q (.bl (!decide (i = j))) H) : rNe (.bl i) (.bl j) H Q := ⟨rfl, by
  rw [show decide (V.bl i = V.bl j) = decide (i = j) from decide_eq_decide.mpr ⟨fun h => V.bl.inj h, fun h => by rw [h]⟩]
  exact q⟩
end
end Fw

namespace Fw
open PySem PySem.Spec PyProof.Rows L2

/-! ### texts by their signs -/
def S (l : List Nat) : Str := ⟨l.toArray⟩
theorem S_inj {l m : List Nat} : S l = S m ↔ l = m := ⟨fun h => by
  have e := congrArg (fun z : Str => z.cps.toList) h
  simpa [S] using e, fun h => by rw [h]⟩
theorem S_len (l : List Nat) : (S l).length = l.length := by simp [S, Str.length]
theorem S_app (l m : List Nat) : S l ++ S m = S (l ++ m) := by
  show Str.append (S l) (S m) = S (l ++ m)
  unfold Str.append S
  simp
theorem S_of (z : Str) : z = S z.cps.toList := by
  obtain ⟨a⟩ := z
  simp [S]
theorem S_list (l : List Nat) : (S l).cps.toList = l := by simp [S]
/-- l[lo:hi] -/
def cutN (l : List Nat) (lo hi : Option Int) : List Nat := (l.drop (HT.sIx l.length 0 lo)).take (HT.sIx l.length l.length hi - HT.sIx l.length 0 lo)
theorem S_cut (l : List Nat) (lo hi : Option Int) : cutS (S l) lo hi = S (cutN l lo hi) := by
  unfold cutS cutN
  rw [S_len, S_list]
  rfl
abbrev vS (l : List Nat) : V := .str (S l)

/-! ### rules with named readings -/
section
variable {X : Cx}
theorem pe_strL {x : Str} {l : List Nat} {j : Nat} {pos : Pos} (h : x = S l) : PE X (.Constant (.str x) j pos) (tC (vS l)) := by
  rw [h]
  exact pe_str
theorem pe_globS {x : Str} {l : List Nat} {pos : Pos} (hg : Gl X x) (hm : ∃ t, X.mg x = some (.str (S l) t)) (hd : (x == ("__debug__" : Str)) = false := by decide) : PE X (.Name x pos) (tC (vS l)) := by
  obtain ⟨t, hm⟩ := hm
  exact pe_glob hg hm ⟨_, rfl⟩ hd
theorem pe_globI {x : Str} {i : Int} {pos : Pos} (hg : Gl X x) (hm : ∃ t, X.mg x = some (.int i t)) (hd : (x == ("__debug__" : Str)) = false := by decide) : PE X (.Name x pos) (tC (.int i)) := by
  obtain ⟨t, hm⟩ := hm
  exact pe_glob hg hm ⟨_, rfl⟩ hd
theorem pe_globR {x : Str} {a : Addr} {pos : Pos} (hg : Gl X x) (hm : X.mg x = some (.ref a)) (hd : (x == ("__debug__" : Str)) = false := by decide) : PE X (.Name x pos) (tC (.ref a)) := pe_glob hg hm rfl hd
def rAbs : List V → Hp → VK → Prop := fun xs H Q => ∃ i : Int, xs = [.int i] ∧ Q (.int (i.natAbs : Nat)) H
theorem k_abs : CallR X (.builtin "abs") rAbs := by
  intro pins s σ H vs us Q I r h
  obtain ⟨i, e, q⟩ := h
  refine call_abs pins s σ H vs us Q I r ⟨i, e, ?_⟩
  have e2 : (if i < 0 then -i else i) = ((i.natAbs : Nat) : Int) := by split <;> omega
  rw [e2]
  exact q
def rInt : List V → Hp → VK → Prop := fun xs H Q => ∃ i : Int, xs = [.int i] ∧ Q (.int i) H
theorem k_int : CallR X (.type "int") rInt := fun pins s σ H vs us Q I r ⟨i, e, q⟩ => call_int1 pins s σ H vs us Q I r (.inl ⟨i, e, q⟩)
def rIntB : List V → Hp → VK → Prop := fun xs H Q => ∃ b : Bool, xs = [.bl b] ∧ Q (.int (if b then 1 else 0)) H
theorem k_intB : CallR X (.type "int") rIntB := fun pins s σ H vs us Q I r ⟨i, e, q⟩ => call_int1 pins s σ H vs us Q I r (.inr ⟨i, e, q⟩)
def rLenS : List V → Hp → VK → Prop := fun xs H Q => ∃ l, xs = [vS l] ∧ l.length ≤ sizeLine ∧ Q (.int (l.length : Nat)) H
theorem k_lenS : CallR X (.builtin "len") rLenS := fun pins s σ H vs us Q I r ⟨l, e, hz, q⟩ => call_len_str pins s σ H vs us Q I r ⟨S l, e, by rw [S_len]; exact hz, by rw [S_len]; exact q⟩
def rAddS : R2 := fun x y H Q => ∃ l m, x = vS l ∧ y = vS m ∧ l.length + m.length ≤ sizeLine ∧ Q (vS (l ++ m)) H
theorem k_addS : OpR X (binaryOp .Add) rAddS := fun pins s σ H x y u v Q I rx ry ⟨l, m, e1, e2, hz, q⟩ => op_add_str pins s σ H x y u v Q I rx ry ⟨S l, S m, e1, e2, by rw [S_len, S_len]; exact hz, by rw [S_app]; exact q⟩
def rIxSg : R2 := fun x y H Q => ∃ l i c, x = vS l ∧ y = .int i ∧ l.length ≤ sizeLine ∧ atI l i = some c ∧ Q (vS [c]) H
theorem k_ixS : IxR X rIxSg := by
  intro value slice pins s σ H x y u v Q I rx ry h
  obtain ⟨l, i, c, e1, e2, hz, ha, q⟩ := h
  exact ix_str value slice pins s σ H x y u v Q I rx ry ⟨S l, i, c, e1, e2, by rw [S_len]; exact hz, by rw [S_list]; exact ha, q⟩
def rSlSg : V → Option Int → Option Int → Hp → VK → Prop := fun x lo hi H Q => ∃ l, x = vS l ∧ l.length ≤ sizeLine ∧ Q (vS (cutN l lo hi)) H
theorem SlR.weak {r r' : V → Option Int → Option Int → Hp → VK → Prop} (h : SlR X r) (w : ∀ x lo hi H Q, r' x lo hi H Q → r x lo hi H Q) : SlR X r' := by
  unfold SlR at *
  intros
  rename_i a b
  first
    | exact h _ _ _ _ _ _ _ _ _ _ _ _ (by assumption) (by assumption) (by assumption) (by assumption) (by assumption) (w _ _ _ _ _ (by assumption))
theorem k_slS : SlR X rSlSg := SlR.weak sl_str fun x lo hi H Q ⟨l, e, hz, q⟩ => ⟨S l, e, by rw [S_len]; exact hz, by rw [S_cut]; exact q⟩
def rIsi (K : PySem.W.Frag) : List V → Hp → VK → Prop := L2.rIsi K
theorem k_isi : CallR X (.builtin "isinstance") (rIsi X.K) := call_isi
def rLenQ (K : PySem.W.Frag) : List V → Hp → VK → Prop := fun vs H Q => ∃ a xs, vs = [.ref a] ∧ (SqL K H a xs ∨ SqT K H a xs) ∧ Q (.int (xs.length : Nat)) H
theorem k_lenQ : CallR X (.builtin "len") (rLenQ X.K) := fun pins s σ H vs us Q I r ⟨a, xs, e, h, q⟩ => call_len_seq pins s σ H vs us Q I r ⟨a, xs, e, h, q⟩
/-! the written part by its own letter -/
theorem ixL_ {K : PySem.W.Frag} (e : X.K = K := by rfl) : IxR X (rIxL K) := e ▸ ix_list
theorem ixT_ {K : PySem.W.Frag} (e : X.K = K := by rfl) : IxR X (rIxT K) := e ▸ ix_tup
theorem lenQ_ {K : PySem.W.Frag} (e : X.K = K := by rfl) : CallR X (.builtin "len") (rLenQ K) := e ▸ k_lenQ
theorem isi_ {K : PySem.W.Frag} (e : X.K = K := by rfl) : CallR X (.builtin "isinstance") (rIsi K) := e ▸ k_isi
theorem eqD_ {K : PySem.W.Frag} (hu : X.A.units + 64 < cLine) (e : X.K = K := by rfl) : OpR X (compareOp .Eq) (rEqD K) := e ▸ op_eqD hu
theorem neD_ {K : PySem.W.Frag} (hu : X.A.units + 64 < cLine) (e : X.K = K := by rfl) : OpR X (compareOp .NotEq) (rNeD K) := e ▸ op_neD hu
theorem inQ_ {K : PySem.W.Frag} (e : X.K = K := by rfl) : OpR X (compareOp .In) (rIn K false) := e ▸ op_in_seq
theorem notInQ_ {K : PySem.W.Frag} (e : X.K = K := by rfl) : OpR X (compareOp .NotIn) (rIn K true) := e ▸ op_notIn_seq
theorem max_ {K : PySem.W.Frag} (hc : X.calm = true) (e : X.K = K := by rfl) : CallR X (.builtin "max") (rMax K) := e ▸ cr_max hc
theorem min_ {K : PySem.W.Frag} (hc : X.calm = true) (e : X.K = K := by rfl) : CallR X (.builtin "min") (rMin K) := e ▸ cr_min hc
theorem sum_ {K : PySem.W.Frag} (hc : X.calm = true) (e : X.K = K := by rfl) : CallR X (.builtin "sum") (rSum K) := e ▸ cr_sum hc
theorem all_ {K : PySem.W.Frag} (hc : X.calm = true) (e : X.K = K := by rfl) : CallR X (.builtin "all") (rAll K) := e ▸ cr_all hc
theorem any_ {K : PySem.W.Frag} (hc : X.calm = true) (e : X.K = K := by rfl) : CallR X (.builtin "any") (rAny K) := e ▸ cr_any hc
theorem slL_ {K : PySem.W.Frag} (e : X.K = K := by rfl) : SlR X (rSlL K) := e ▸ sl_list
theorem slT_ {K : PySem.W.Frag} (e : X.K = K := by rfl) : SlR X (rSlT K) := e ▸ sl_tup
theorem iL_ {K : PySem.W.Frag} {tg l : Expr} {tl : TE} (h : PE X l tl) (e : X.K = K := by rfl) : PI X tg l (iList K tl) := e ▸ pi_list h
theorem iT_ {K : PySem.W.Frag} {tg l : Expr} {tl : TE} (h : PE X l tl) (e : X.K = K := by rfl) : PI X tg l (iTup K tl) := e ▸ pi_tup h
section
variable {K : PySem.W.Frag} {T : String} {name : Str} {id : String} {o e : Expr} {es : List Expr} {apos cpos p pos tpos : Pos} {r : V → List V → Hp → VK → Prop} {to : TE} {t ta : TA} {tg : Expr}
theorem bm0_ (pa : PlainAttrs T) (slot : Slot T name id) (hty : typeOf (.builtin id) = pure (.type "method_descriptor")) (hm : MtR X id r) (ho : PE X o to) (eK : X.K = K := by rfl)
    (hbase : attributeBase o name X.env (eval o X.env) = eval o X.env := by rfl) (hline : (apos.endLine == cpos.line) = true := by rfl) : PE X (.Call (.Attribute o name apos) [] [] cpos) (tBM0 K T r to) := by
  subst eK
  exact pe_bm0 pa slot hty hm ho hbase hline
theorem bm_ (pa : PlainAttrs T) (slot : Slot T name id) (hty : typeOf (.builtin id) = pure (.type "method_descriptor")) (hm : MtR X id r) (ho : PE X o to) (ha : PA X (e :: es) t) (eK : X.K = K := by rfl)
    (hbase : attributeBase o name X.env (eval o X.env) = eval o X.env := by rfl)
    (hfew : ((backTo cpos (starEach (e :: es) X.env)).all (fun x => !x.1) && (backToKw cpos (keywordEach [] X.env)).all (fun x => x.1.isSome)
      && decide ((e :: es).length + ([] : List Keyword).length + (if ([] : List Keyword).isEmpty then 0 else 1) < 30)) = true := by rfl)
    (hline : (apos.endLine == cpos.line) = true := by rfl) (hs : starEach (e :: es) X.env = (false, eval e X.env) :: starEach es X.env := by rfl) (hplain : (backTo cpos (starEach es X.env)).any (·.1) = false := by rfl) :
    PE X (.Call (.Attribute o name apos) (e :: es) [] cpos) (tBM K T r to t) := by
  subst eK
  exact pe_bm pa slot hty hm ho ha hbase hfew hline hs hplain
theorem gt_ {es : List Expr} {k : Nat} {t : TGs} {n : Nat} (hc : X.calm = true) (h : PGs X es t) (eK : X.K = K := by rfl)
    (hn : (assignEach es X.env).length = n := by rfl) (hst : (assignEach es X.env).findIdx? (·.1) = none := by rfl) : PG X (.Tuple es k pos) (gTup K n t) := by
  subst eK
  exact pg_tup hc h hn hst
theorem rev_ (hg : Gl X "reversed") (hm : X.mg "reversed" = none) (ha : PA X [e] ta) (eK : X.K = K := by rfl) (hs : starEach [e] X.env = [(false, eval e X.env)] := by rfl) : PI X tg (.Call (.Name "reversed" p) [e] [] pos) (iRev K ta) := by
  subst eK
  exact pi_reversed hg hm ha hs
theorem enum_ {elts : List Expr} {kk : Nat} (hg : Gl X "enumerate") (hm : X.mg "enumerate" = none) (ha : PA X [e] ta) (eK : X.K = K := by rfl) (hs : starEach [e] X.env = [(false, eval e X.env)] := by rfl) : PI X (.Tuple elts kk tpos) (.Call (.Name "enumerate" p) [e] [] pos) (iEnum K ta) := by
  subst eK
  exact pi_enum hg hm ha hs
theorem sortRev_ {b : Bool} (eK : X.K = K := by rfl) : CallRK X (.builtin "sorted") [Str.ofString "reverse"] (rSortedKw K b [.bl b]) := eK ▸ cr_sortedRev
end
/-- text * n -/
def rMulS : R2 := fun x y H Q => ∃ l, ∃ k : Int, x = vS l ∧ y = .int k ∧ 0 ≤ k ∧ k < 2 ^ 30 ∧ l.length * k.toNat ≤ sizeLine ∧ Q (vS (List.replicate k.toNat l).flatten) H
theorem mul_flat (l : List Nat) : ∀ n acc, ((List.replicate n l.toArray).foldl (fun (a b : Array Nat) => a ++ b) acc) = acc ++ (List.replicate n l).flatten.toArray
  | 0, acc => by simp
  | n + 1, acc => by
    rw [List.replicate_succ, List.foldl_cons, mul_flat l n, List.replicate_succ, List.flatten_cons]
    simp
theorem txt_mul {l : List Nat} {k : Int} (hk : 0 ≤ k) : Txt.mul (S l) k = S (List.replicate k.toNat l).flatten := by
  unfold Txt.mul
  by_cases h1 : k < 1
  · have e : k = 0 := by omega
    subst e
    rw [if_pos h1]
    rfl
  · rw [if_neg h1]
    by_cases h2 : (k == 1 || (S l).length == 0) = true
    · rw [if_pos h2]
      rcases (Bool.or_eq_true _ _).mp h2 with e | e
      · have e1 : k = 1 := eq_of_beq e
        subst e1
        show S l = S (List.replicate 1 l).flatten
        simp
      · have e1 : (S l).length = 0 := eq_of_beq e
        rw [S_len] at e1
        have e2 : l = [] := List.eq_nil_of_length_eq_zero e1
        subst e2
        show S [] = _
        rw [S_inj]
        induction k.toNat with
        | zero => rfl
        | succ n ih => rw [List.replicate_succ, List.flatten_cons, ← ih]; rfl
    · rw [if_neg h2]
      show (⟨(List.replicate k.toNat l.toArray).foldl (fun (a b : Array Nat) => a ++ b) #[]⟩ : Str) = _
      rw [mul_flat]
      simp [S]
theorem k_mulS : OpR X (binaryOp .Mult) rMulS := by
  intro pins s σ H x y u v Q I rx ry h
  obtain ⟨l, k, rfl, rfl, h0, h1, hz, q⟩ := h
  obtain ⟨t, rfl⟩ := rx
  obtain ⟨t2, rfl⟩ := ry
  rw [sizeLine_eq] at hz
  refine SB.mul (x := S l) ⟨?_, fun a b => ?_, fun a b => ?_⟩ fun t' tk => ⟨vS (List.replicate k.toNat l).flatten, H, I.tok tk, ⟨t', by rw [txt_mul h0]⟩, q⟩
  · rw [decide_eq_false (by omega), decide_eq_false (by omega)] <;> rfl
  · rw [S_len]
    have h3 : (l.length : Int) * k ≤ 16777216 := by
      have e : ((l.length * k.toNat : Nat) : Int) = (l.length : Int) * k := by
        rw [Int.natCast_mul, Int.toNat_of_nonneg h0]
      omega
    have h4 : (l.length : Int) ≤ (2 ^ 63 - 1) / k := by
      refine Int.le_ediv_of_mul_le (by omega) ?_
      omega
    omega
  · rw [S_len]
    exact decide_eq_false (by rw [sizeLine_eq]; omega)
end
end Fw

namespace Fw
open PySem PySem.Spec PyProof.Rows L2
section
variable {nx bk ct : L2.St → Hp → Prop} {rt : VK} {t u tb : TS} {H : Hp} {te ta tb' : TE} {Q : VK} {v x y : V} {g : TG}

theorem w_var0 {σ : L2.St} (q : Q v H) : tVar 0 (some v :: σ) H Q := ⟨v, rfl, q⟩
theorem w_asg0 {o : Option V} {σ : L2.St} (h : te (o :: σ) H fun x H1 => nx (some x :: σ) H1) : tAsg te (gName 0) ⟨nx, rt, bk, ct⟩ (o :: σ) H := h
theorem w_gn0 {o : Option V} {σ : L2.St} {R : L2.St → Hp → Prop} (h : R (some v :: σ) H) : gName 0 v (o :: σ) H R := h
theorem w_aug0 {f : Int → Int → Int} {a : Int} {σ : L2.St} (h : te (some (.int a) :: σ) H fun y H1 => ∃ b, y = .int b ∧ nx (some (.int (f a b)) :: σ) H1) : tAug 0 te (ipI f) ⟨nx, rt, bk, ct⟩ (some (.int a) :: σ) H := w_aug (i := 0) rfl h
theorem w_var1 {x0 : Option V} {σ : L2.St} (q : Q v H) : tVar 1 (x0 :: some v :: σ) H Q := ⟨v, rfl, q⟩
theorem w_asg1 {x0 : Option V} {o : Option V} {σ : L2.St} (h : te (x0 :: o :: σ) H fun x H1 => nx (x0 :: some x :: σ) H1) : tAsg te (gName 1) ⟨nx, rt, bk, ct⟩ (x0 :: o :: σ) H := h
theorem w_gn1 {x0 : Option V} {o : Option V} {σ : L2.St} {R : L2.St → Hp → Prop} (h : R (x0 :: some v :: σ) H) : gName 1 v (x0 :: o :: σ) H R := h
theorem w_aug1 {x0 : Option V} {f : Int → Int → Int} {a : Int} {σ : L2.St} (h : te (x0 :: some (.int a) :: σ) H fun y H1 => ∃ b, y = .int b ∧ nx (x0 :: some (.int (f a b)) :: σ) H1) : tAug 1 te (ipI f) ⟨nx, rt, bk, ct⟩ (x0 :: some (.int a) :: σ) H := w_aug (i := 1) rfl h
theorem w_var2 {x0 x1 : Option V} {σ : L2.St} (q : Q v H) : tVar 2 (x0 :: x1 :: some v :: σ) H Q := ⟨v, rfl, q⟩
theorem w_asg2 {x0 x1 : Option V} {o : Option V} {σ : L2.St} (h : te (x0 :: x1 :: o :: σ) H fun x H1 => nx (x0 :: x1 :: some x :: σ) H1) : tAsg te (gName 2) ⟨nx, rt, bk, ct⟩ (x0 :: x1 :: o :: σ) H := h
theorem w_gn2 {x0 x1 : Option V} {o : Option V} {σ : L2.St} {R : L2.St → Hp → Prop} (h : R (x0 :: x1 :: some v :: σ) H) : gName 2 v (x0 :: x1 :: o :: σ) H R := h
theorem w_aug2 {x0 x1 : Option V} {f : Int → Int → Int} {a : Int} {σ : L2.St} (h : te (x0 :: x1 :: some (.int a) :: σ) H fun y H1 => ∃ b, y = .int b ∧ nx (x0 :: x1 :: some (.int (f a b)) :: σ) H1) : tAug 2 te (ipI f) ⟨nx, rt, bk, ct⟩ (x0 :: x1 :: some (.int a) :: σ) H := w_aug (i := 2) rfl h
theorem w_var3 {x0 x1 x2 : Option V} {σ : L2.St} (q : Q v H) : tVar 3 (x0 :: x1 :: x2 :: some v :: σ) H Q := ⟨v, rfl, q⟩
theorem w_asg3 {x0 x1 x2 : Option V} {o : Option V} {σ : L2.St} (h : te (x0 :: x1 :: x2 :: o :: σ) H fun x H1 => nx (x0 :: x1 :: x2 :: some x :: σ) H1) : tAsg te (gName 3) ⟨nx, rt, bk, ct⟩ (x0 :: x1 :: x2 :: o :: σ) H := h
theorem w_gn3 {x0 x1 x2 : Option V} {o : Option V} {σ : L2.St} {R : L2.St → Hp → Prop} (h : R (x0 :: x1 :: x2 :: some v :: σ) H) : gName 3 v (x0 :: x1 :: x2 :: o :: σ) H R := h
theorem w_aug3 {x0 x1 x2 : Option V} {f : Int → Int → Int} {a : Int} {σ : L2.St} (h : te (x0 :: x1 :: x2 :: some (.int a) :: σ) H fun y H1 => ∃ b, y = .int b ∧ nx (x0 :: x1 :: x2 :: some (.int (f a b)) :: σ) H1) : tAug 3 te (ipI f) ⟨nx, rt, bk, ct⟩ (x0 :: x1 :: x2 :: some (.int a) :: σ) H := w_aug (i := 3) rfl h
theorem w_var4 {x0 x1 x2 x3 : Option V} {σ : L2.St} (q : Q v H) : tVar 4 (x0 :: x1 :: x2 :: x3 :: some v :: σ) H Q := ⟨v, rfl, q⟩
theorem w_asg4 {x0 x1 x2 x3 : Option V} {o : Option V} {σ : L2.St} (h : te (x0 :: x1 :: x2 :: x3 :: o :: σ) H fun x H1 => nx (x0 :: x1 :: x2 :: x3 :: some x :: σ) H1) : tAsg te (gName 4) ⟨nx, rt, bk, ct⟩ (x0 :: x1 :: x2 :: x3 :: o :: σ) H := h
theorem w_gn4 {x0 x1 x2 x3 : Option V} {o : Option V} {σ : L2.St} {R : L2.St → Hp → Prop} (h : R (x0 :: x1 :: x2 :: x3 :: some v :: σ) H) : gName 4 v (x0 :: x1 :: x2 :: x3 :: o :: σ) H R := h
theorem w_aug4 {x0 x1 x2 x3 : Option V} {f : Int → Int → Int} {a : Int} {σ : L2.St} (h : te (x0 :: x1 :: x2 :: x3 :: some (.int a) :: σ) H fun y H1 => ∃ b, y = .int b ∧ nx (x0 :: x1 :: x2 :: x3 :: some (.int (f a b)) :: σ) H1) : tAug 4 te (ipI f) ⟨nx, rt, bk, ct⟩ (x0 :: x1 :: x2 :: x3 :: some (.int a) :: σ) H := w_aug (i := 4) rfl h
theorem w_var5 {x0 x1 x2 x3 x4 : Option V} {σ : L2.St} (q : Q v H) : tVar 5 (x0 :: x1 :: x2 :: x3 :: x4 :: some v :: σ) H Q := ⟨v, rfl, q⟩
theorem w_asg5 {x0 x1 x2 x3 x4 : Option V} {o : Option V} {σ : L2.St} (h : te (x0 :: x1 :: x2 :: x3 :: x4 :: o :: σ) H fun x H1 => nx (x0 :: x1 :: x2 :: x3 :: x4 :: some x :: σ) H1) : tAsg te (gName 5) ⟨nx, rt, bk, ct⟩ (x0 :: x1 :: x2 :: x3 :: x4 :: o :: σ) H := h
theorem w_gn5 {x0 x1 x2 x3 x4 : Option V} {o : Option V} {σ : L2.St} {R : L2.St → Hp → Prop} (h : R (x0 :: x1 :: x2 :: x3 :: x4 :: some v :: σ) H) : gName 5 v (x0 :: x1 :: x2 :: x3 :: x4 :: o :: σ) H R := h
theorem w_aug5 {x0 x1 x2 x3 x4 : Option V} {f : Int → Int → Int} {a : Int} {σ : L2.St} (h : te (x0 :: x1 :: x2 :: x3 :: x4 :: some (.int a) :: σ) H fun y H1 => ∃ b, y = .int b ∧ nx (x0 :: x1 :: x2 :: x3 :: x4 :: some (.int (f a b)) :: σ) H1) : tAug 5 te (ipI f) ⟨nx, rt, bk, ct⟩ (x0 :: x1 :: x2 :: x3 :: x4 :: some (.int a) :: σ) H := w_aug (i := 5) rfl h
theorem w_var6 {x0 x1 x2 x3 x4 x5 : Option V} {σ : L2.St} (q : Q v H) : tVar 6 (x0 :: x1 :: x2 :: x3 :: x4 :: x5 :: some v :: σ) H Q := ⟨v, rfl, q⟩
theorem w_asg6 {x0 x1 x2 x3 x4 x5 : Option V} {o : Option V} {σ : L2.St} (h : te (x0 :: x1 :: x2 :: x3 :: x4 :: x5 :: o :: σ) H fun x H1 => nx (x0 :: x1 :: x2 :: x3 :: x4 :: x5 :: some x :: σ) H1) : tAsg te (gName 6) ⟨nx, rt, bk, ct⟩ (x0 :: x1 :: x2 :: x3 :: x4 :: x5 :: o :: σ) H := h
theorem w_gn6 {x0 x1 x2 x3 x4 x5 : Option V} {o : Option V} {σ : L2.St} {R : L2.St → Hp → Prop} (h : R (x0 :: x1 :: x2 :: x3 :: x4 :: x5 :: some v :: σ) H) : gName 6 v (x0 :: x1 :: x2 :: x3 :: x4 :: x5 :: o :: σ) H R := h
theorem w_aug6 {x0 x1 x2 x3 x4 x5 : Option V} {f : Int → Int → Int} {a : Int} {σ : L2.St} (h : te (x0 :: x1 :: x2 :: x3 :: x4 :: x5 :: some (.int a) :: σ) H fun y H1 => ∃ b, y = .int b ∧ nx (x0 :: x1 :: x2 :: x3 :: x4 :: x5 :: some (.int (f a b)) :: σ) H1) : tAug 6 te (ipI f) ⟨nx, rt, bk, ct⟩ (x0 :: x1 :: x2 :: x3 :: x4 :: x5 :: some (.int a) :: σ) H := w_aug (i := 6) rfl h
theorem w_var7 {x0 x1 x2 x3 x4 x5 x6 : Option V} {σ : L2.St} (q : Q v H) : tVar 7 (x0 :: x1 :: x2 :: x3 :: x4 :: x5 :: x6 :: some v :: σ) H Q := ⟨v, rfl, q⟩
theorem w_asg7 {x0 x1 x2 x3 x4 x5 x6 : Option V} {o : Option V} {σ : L2.St} (h : te (x0 :: x1 :: x2 :: x3 :: x4 :: x5 :: x6 :: o :: σ) H fun x H1 => nx (x0 :: x1 :: x2 :: x3 :: x4 :: x5 :: x6 :: some x :: σ) H1) : tAsg te (gName 7) ⟨nx, rt, bk, ct⟩ (x0 :: x1 :: x2 :: x3 :: x4 :: x5 :: x6 :: o :: σ) H := h
theorem w_gn7 {x0 x1 x2 x3 x4 x5 x6 : Option V} {o : Option V} {σ : L2.St} {R : L2.St → Hp → Prop} (h : R (x0 :: x1 :: x2 :: x3 :: x4 :: x5 :: x6 :: some v :: σ) H) : gName 7 v (x0 :: x1 :: x2 :: x3 :: x4 :: x5 :: x6 :: o :: σ) H R := h
theorem w_aug7 {x0 x1 x2 x3 x4 x5 x6 : Option V} {f : Int → Int → Int} {a : Int} {σ : L2.St} (h : te (x0 :: x1 :: x2 :: x3 :: x4 :: x5 :: x6 :: some (.int a) :: σ) H fun y H1 => ∃ b, y = .int b ∧ nx (x0 :: x1 :: x2 :: x3 :: x4 :: x5 :: x6 :: some (.int (f a b)) :: σ) H1) : tAug 7 te (ipI f) ⟨nx, rt, bk, ct⟩ (x0 :: x1 :: x2 :: x3 :: x4 :: x5 :: x6 :: some (.int a) :: σ) H := w_aug (i := 7) rfl h
theorem w_var8 {x0 x1 x2 x3 x4 x5 x6 x7 : Option V} {σ : L2.St} (q : Q v H) : tVar 8 (x0 :: x1 :: x2 :: x3 :: x4 :: x5 :: x6 :: x7 :: some v :: σ) H Q := ⟨v, rfl, q⟩
theorem w_asg8 {x0 x1 x2 x3 x4 x5 x6 x7 : Option V} {o : Option V} {σ : L2.St} (h : te (x0 :: x1 :: x2 :: x3 :: x4 :: x5 :: x6 :: x7 :: o :: σ) H fun x H1 => nx (x0 :: x1 :: x2 :: x3 :: x4 :: x5 :: x6 :: x7 :: some x :: σ) H1) : tAsg te (gName 8) ⟨nx, rt, bk, ct⟩ (x0 :: x1 :: x2 :: x3 :: x4 :: x5 :: x6 :: x7 :: o :: σ) H := h
theorem w_gn8 {x0 x1 x2 x3 x4 x5 x6 x7 : Option V} {o : Option V} {σ : L2.St} {R : L2.St → Hp → Prop} (h : R (x0 :: x1 :: x2 :: x3 :: x4 :: x5 :: x6 :: x7 :: some v :: σ) H) : gName 8 v (x0 :: x1 :: x2 :: x3 :: x4 :: x5 :: x6 :: x7 :: o :: σ) H R := h
theorem w_aug8 {x0 x1 x2 x3 x4 x5 x6 x7 : Option V} {f : Int → Int → Int} {a : Int} {σ : L2.St} (h : te (x0 :: x1 :: x2 :: x3 :: x4 :: x5 :: x6 :: x7 :: some (.int a) :: σ) H fun y H1 => ∃ b, y = .int b ∧ nx (x0 :: x1 :: x2 :: x3 :: x4 :: x5 :: x6 :: x7 :: some (.int (f a b)) :: σ) H1) : tAug 8 te (ipI f) ⟨nx, rt, bk, ct⟩ (x0 :: x1 :: x2 :: x3 :: x4 :: x5 :: x6 :: x7 :: some (.int a) :: σ) H := w_aug (i := 8) rfl h
theorem w_var9 {x0 x1 x2 x3 x4 x5 x6 x7 x8 : Option V} {σ : L2.St} (q : Q v H) : tVar 9 (x0 :: x1 :: x2 :: x3 :: x4 :: x5 :: x6 :: x7 :: x8 :: some v :: σ) H Q := ⟨v, rfl, q⟩
theorem w_asg9 {x0 x1 x2 x3 x4 x5 x6 x7 x8 : Option V} {o : Option V} {σ : L2.St} (h : te (x0 :: x1 :: x2 :: x3 :: x4 :: x5 :: x6 :: x7 :: x8 :: o :: σ) H fun x H1 => nx (x0 :: x1 :: x2 :: x3 :: x4 :: x5 :: x6 :: x7 :: x8 :: some x :: σ) H1) : tAsg te (gName 9) ⟨nx, rt, bk, ct⟩ (x0 :: x1 :: x2 :: x3 :: x4 :: x5 :: x6 :: x7 :: x8 :: o :: σ) H := h
theorem w_gn9 {x0 x1 x2 x3 x4 x5 x6 x7 x8 : Option V} {o : Option V} {σ : L2.St} {R : L2.St → Hp → Prop} (h : R (x0 :: x1 :: x2 :: x3 :: x4 :: x5 :: x6 :: x7 :: x8 :: some v :: σ) H) : gName 9 v (x0 :: x1 :: x2 :: x3 :: x4 :: x5 :: x6 :: x7 :: x8 :: o :: σ) H R := h
theorem w_aug9 {x0 x1 x2 x3 x4 x5 x6 x7 x8 : Option V} {f : Int → Int → Int} {a : Int} {σ : L2.St} (h : te (x0 :: x1 :: x2 :: x3 :: x4 :: x5 :: x6 :: x7 :: x8 :: some (.int a) :: σ) H fun y H1 => ∃ b, y = .int b ∧ nx (x0 :: x1 :: x2 :: x3 :: x4 :: x5 :: x6 :: x7 :: x8 :: some (.int (f a b)) :: σ) H1) : tAug 9 te (ipI f) ⟨nx, rt, bk, ct⟩ (x0 :: x1 :: x2 :: x3 :: x4 :: x5 :: x6 :: x7 :: x8 :: some (.int a) :: σ) H := w_aug (i := 9) rfl h
theorem w_var10 {x0 x1 x2 x3 x4 x5 x6 x7 x8 x9 : Option V} {σ : L2.St} (q : Q v H) : tVar 10 (x0 :: x1 :: x2 :: x3 :: x4 :: x5 :: x6 :: x7 :: x8 :: x9 :: some v :: σ) H Q := ⟨v, rfl, q⟩
theorem w_asg10 {x0 x1 x2 x3 x4 x5 x6 x7 x8 x9 : Option V} {o : Option V} {σ : L2.St} (h : te (x0 :: x1 :: x2 :: x3 :: x4 :: x5 :: x6 :: x7 :: x8 :: x9 :: o :: σ) H fun x H1 => nx (x0 :: x1 :: x2 :: x3 :: x4 :: x5 :: x6 :: x7 :: x8 :: x9 :: some x :: σ) H1) : tAsg te (gName 10) ⟨nx, rt, bk, ct⟩ (x0 :: x1 :: x2 :: x3 :: x4 :: x5 :: x6 :: x7 :: x8 :: x9 :: o :: σ) H := h
theorem w_gn10 {x0 x1 x2 x3 x4 x5 x6 x7 x8 x9 : Option V} {o : Option V} {σ : L2.St} {R : L2.St → Hp → Prop} (h : R (x0 :: x1 :: x2 :: x3 :: x4 :: x5 :: x6 :: x7 :: x8 :: x9 :: some v :: σ) H) : gName 10 v (x0 :: x1 :: x2 :: x3 :: x4 :: x5 :: x6 :: x7 :: x8 :: x9 :: o :: σ) H R := h
theorem w_aug10 {x0 x1 x2 x3 x4 x5 x6 x7 x8 x9 : Option V} {f : Int → Int → Int} {a : Int} {σ : L2.St} (h : te (x0 :: x1 :: x2 :: x3 :: x4 :: x5 :: x6 :: x7 :: x8 :: x9 :: some (.int a) :: σ) H fun y H1 => ∃ b, y = .int b ∧ nx (x0 :: x1 :: x2 :: x3 :: x4 :: x5 :: x6 :: x7 :: x8 :: x9 :: some (.int (f a b)) :: σ) H1) : tAug 10 te (ipI f) ⟨nx, rt, bk, ct⟩ (x0 :: x1 :: x2 :: x3 :: x4 :: x5 :: x6 :: x7 :: x8 :: x9 :: some (.int a) :: σ) H := w_aug (i := 10) rfl h
theorem w_var11 {x0 x1 x2 x3 x4 x5 x6 x7 x8 x9 x10 : Option V} {σ : L2.St} (q : Q v H) : tVar 11 (x0 :: x1 :: x2 :: x3 :: x4 :: x5 :: x6 :: x7 :: x8 :: x9 :: x10 :: some v :: σ) H Q := ⟨v, rfl, q⟩
theorem w_asg11 {x0 x1 x2 x3 x4 x5 x6 x7 x8 x9 x10 : Option V} {o : Option V} {σ : L2.St} (h : te (x0 :: x1 :: x2 :: x3 :: x4 :: x5 :: x6 :: x7 :: x8 :: x9 :: x10 :: o :: σ) H fun x H1 => nx (x0 :: x1 :: x2 :: x3 :: x4 :: x5 :: x6 :: x7 :: x8 :: x9 :: x10 :: some x :: σ) H1) : tAsg te (gName 11) ⟨nx, rt, bk, ct⟩ (x0 :: x1 :: x2 :: x3 :: x4 :: x5 :: x6 :: x7 :: x8 :: x9 :: x10 :: o :: σ) H := h
theorem w_gn11 {x0 x1 x2 x3 x4 x5 x6 x7 x8 x9 x10 : Option V} {o : Option V} {σ : L2.St} {R : L2.St → Hp → Prop} (h : R (x0 :: x1 :: x2 :: x3 :: x4 :: x5 :: x6 :: x7 :: x8 :: x9 :: x10 :: some v :: σ) H) : gName 11 v (x0 :: x1 :: x2 :: x3 :: x4 :: x5 :: x6 :: x7 :: x8 :: x9 :: x10 :: o :: σ) H R := h
theorem w_aug11 {x0 x1 x2 x3 x4 x5 x6 x7 x8 x9 x10 : Option V} {f : Int → Int → Int} {a : Int} {σ : L2.St} (h : te (x0 :: x1 :: x2 :: x3 :: x4 :: x5 :: x6 :: x7 :: x8 :: x9 :: x10 :: some (.int a) :: σ) H fun y H1 => ∃ b, y = .int b ∧ nx (x0 :: x1 :: x2 :: x3 :: x4 :: x5 :: x6 :: x7 :: x8 :: x9 :: x10 :: some (.int (f a b)) :: σ) H1) : tAug 11 te (ipI f) ⟨nx, rt, bk, ct⟩ (x0 :: x1 :: x2 :: x3 :: x4 :: x5 :: x6 :: x7 :: x8 :: x9 :: x10 :: some (.int a) :: σ) H := w_aug (i := 11) rfl h
theorem w_var12 {x0 x1 x2 x3 x4 x5 x6 x7 x8 x9 x10 x11 : Option V} {σ : L2.St} (q : Q v H) : tVar 12 (x0 :: x1 :: x2 :: x3 :: x4 :: x5 :: x6 :: x7 :: x8 :: x9 :: x10 :: x11 :: some v :: σ) H Q := ⟨v, rfl, q⟩
theorem w_asg12 {x0 x1 x2 x3 x4 x5 x6 x7 x8 x9 x10 x11 : Option V} {o : Option V} {σ : L2.St} (h : te (x0 :: x1 :: x2 :: x3 :: x4 :: x5 :: x6 :: x7 :: x8 :: x9 :: x10 :: x11 :: o :: σ) H fun x H1 => nx (x0 :: x1 :: x2 :: x3 :: x4 :: x5 :: x6 :: x7 :: x8 :: x9 :: x10 :: x11 :: some x :: σ) H1) : tAsg te (gName 12) ⟨nx, rt, bk, ct⟩ (x0 :: x1 :: x2 :: x3 :: x4 :: x5 :: x6 :: x7 :: x8 :: x9 :: x10 :: x11 :: o :: σ) H := h
theorem w_gn12 {x0 x1 x2 x3 x4 x5 x6 x7 x8 x9 x10 x11 : Option V} {o : Option V} {σ : L2.St} {R : L2.St → Hp → Prop} (h : R (x0 :: x1 :: x2 :: x3 :: x4 :: x5 :: x6 :: x7 :: x8 :: x9 :: x10 :: x11 :: some v :: σ) H) : gName 12 v (x0 :: x1 :: x2 :: x3 :: x4 :: x5 :: x6 :: x7 :: x8 :: x9 :: x10 :: x11 :: o :: σ) H R := h
theorem w_aug12 {x0 x1 x2 x3 x4 x5 x6 x7 x8 x9 x10 x11 : Option V} {f : Int → Int → Int} {a : Int} {σ : L2.St} (h : te (x0 :: x1 :: x2 :: x3 :: x4 :: x5 :: x6 :: x7 :: x8 :: x9 :: x10 :: x11 :: some (.int a) :: σ) H fun y H1 => ∃ b, y = .int b ∧ nx (x0 :: x1 :: x2 :: x3 :: x4 :: x5 :: x6 :: x7 :: x8 :: x9 :: x10 :: x11 :: some (.int (f a b)) :: σ) H1) : tAug 12 te (ipI f) ⟨nx, rt, bk, ct⟩ (x0 :: x1 :: x2 :: x3 :: x4 :: x5 :: x6 :: x7 :: x8 :: x9 :: x10 :: x11 :: some (.int a) :: σ) H := w_aug (i := 12) rfl h
theorem w_var13 {x0 x1 x2 x3 x4 x5 x6 x7 x8 x9 x10 x11 x12 : Option V} {σ : L2.St} (q : Q v H) : tVar 13 (x0 :: x1 :: x2 :: x3 :: x4 :: x5 :: x6 :: x7 :: x8 :: x9 :: x10 :: x11 :: x12 :: some v :: σ) H Q := ⟨v, rfl, q⟩
theorem w_asg13 {x0 x1 x2 x3 x4 x5 x6 x7 x8 x9 x10 x11 x12 : Option V} {o : Option V} {σ : L2.St} (h : te (x0 :: x1 :: x2 :: x3 :: x4 :: x5 :: x6 :: x7 :: x8 :: x9 :: x10 :: x11 :: x12 :: o :: σ) H fun x H1 => nx (x0 :: x1 :: x2 :: x3 :: x4 :: x5 :: x6 :: x7 :: x8 :: x9 :: x10 :: x11 :: x12 :: some x :: σ) H1) : tAsg te (gName 13) ⟨nx, rt, bk, ct⟩ (x0 :: x1 :: x2 :: x3 :: x4 :: x5 :: x6 :: x7 :: x8 :: x9 :: x10 :: x11 :: x12 :: o :: σ) H := h
theorem w_gn13 {x0 x1 x2 x3 x4 x5 x6 x7 x8 x9 x10 x11 x12 : Option V} {o : Option V} {σ : L2.St} {R : L2.St → Hp → Prop} (h : R (x0 :: x1 :: x2 :: x3 :: x4 :: x5 :: x6 :: x7 :: x8 :: x9 :: x10 :: x11 :: x12 :: some v :: σ) H) : gName 13 v (x0 :: x1 :: x2 :: x3 :: x4 :: x5 :: x6 :: x7 :: x8 :: x9 :: x10 :: x11 :: x12 :: o :: σ) H R := h
theorem w_aug13 {x0 x1 x2 x3 x4 x5 x6 x7 x8 x9 x10 x11 x12 : Option V} {f : Int → Int → Int} {a : Int} {σ : L2.St} (h : te (x0 :: x1 :: x2 :: x3 :: x4 :: x5 :: x6 :: x7 :: x8 :: x9 :: x10 :: x11 :: x12 :: some (.int a) :: σ) H fun y H1 => ∃ b, y = .int b ∧ nx (x0 :: x1 :: x2 :: x3 :: x4 :: x5 :: x6 :: x7 :: x8 :: x9 :: x10 :: x11 :: x12 :: some (.int (f a b)) :: σ) H1) : tAug 13 te (ipI f) ⟨nx, rt, bk, ct⟩ (x0 :: x1 :: x2 :: x3 :: x4 :: x5 :: x6 :: x7 :: x8 :: x9 :: x10 :: x11 :: x12 :: some (.int a) :: σ) H := w_aug (i := 13) rfl h
theorem w_var14 {x0 x1 x2 x3 x4 x5 x6 x7 x8 x9 x10 x11 x12 x13 : Option V} {σ : L2.St} (q : Q v H) : tVar 14 (x0 :: x1 :: x2 :: x3 :: x4 :: x5 :: x6 :: x7 :: x8 :: x9 :: x10 :: x11 :: x12 :: x13 :: some v :: σ) H Q := ⟨v, rfl, q⟩
theorem w_asg14 {x0 x1 x2 x3 x4 x5 x6 x7 x8 x9 x10 x11 x12 x13 : Option V} {o : Option V} {σ : L2.St} (h : te (x0 :: x1 :: x2 :: x3 :: x4 :: x5 :: x6 :: x7 :: x8 :: x9 :: x10 :: x11 :: x12 :: x13 :: o :: σ) H fun x H1 => nx (x0 :: x1 :: x2 :: x3 :: x4 :: x5 :: x6 :: x7 :: x8 :: x9 :: x10 :: x11 :: x12 :: x13 :: some x :: σ) H1) : tAsg te (gName 14) ⟨nx, rt, bk, ct⟩ (x0 :: x1 :: x2 :: x3 :: x4 :: x5 :: x6 :: x7 :: x8 :: x9 :: x10 :: x11 :: x12 :: x13 :: o :: σ) H := h
theorem w_gn14 {x0 x1 x2 x3 x4 x5 x6 x7 x8 x9 x10 x11 x12 x13 : Option V} {o : Option V} {σ : L2.St} {R : L2.St → Hp → Prop} (h : R (x0 :: x1 :: x2 :: x3 :: x4 :: x5 :: x6 :: x7 :: x8 :: x9 :: x10 :: x11 :: x12 :: x13 :: some v :: σ) H) : gName 14 v (x0 :: x1 :: x2 :: x3 :: x4 :: x5 :: x6 :: x7 :: x8 :: x9 :: x10 :: x11 :: x12 :: x13 :: o :: σ) H R := h
theorem w_aug14 {x0 x1 x2 x3 x4 x5 x6 x7 x8 x9 x10 x11 x12 x13 : Option V} {f : Int → Int → Int} {a : Int} {σ : L2.St} (h : te (x0 :: x1 :: x2 :: x3 :: x4 :: x5 :: x6 :: x7 :: x8 :: x9 :: x10 :: x11 :: x12 :: x13 :: some (.int a) :: σ) H fun y H1 => ∃ b, y = .int b ∧ nx (x0 :: x1 :: x2 :: x3 :: x4 :: x5 :: x6 :: x7 :: x8 :: x9 :: x10 :: x11 :: x12 :: x13 :: some (.int (f a b)) :: σ) H1) : tAug 14 te (ipI f) ⟨nx, rt, bk, ct⟩ (x0 :: x1 :: x2 :: x3 :: x4 :: x5 :: x6 :: x7 :: x8 :: x9 :: x10 :: x11 :: x12 :: x13 :: some (.int a) :: σ) H := w_aug (i := 14) rfl h
theorem w_var15 {x0 x1 x2 x3 x4 x5 x6 x7 x8 x9 x10 x11 x12 x13 x14 : Option V} {σ : L2.St} (q : Q v H) : tVar 15 (x0 :: x1 :: x2 :: x3 :: x4 :: x5 :: x6 :: x7 :: x8 :: x9 :: x10 :: x11 :: x12 :: x13 :: x14 :: some v :: σ) H Q := ⟨v, rfl, q⟩
theorem w_asg15 {x0 x1 x2 x3 x4 x5 x6 x7 x8 x9 x10 x11 x12 x13 x14 : Option V} {o : Option V} {σ : L2.St} (h : te (x0 :: x1 :: x2 :: x3 :: x4 :: x5 :: x6 :: x7 :: x8 :: x9 :: x10 :: x11 :: x12 :: x13 :: x14 :: o :: σ) H fun x H1 => nx (x0 :: x1 :: x2 :: x3 :: x4 :: x5 :: x6 :: x7 :: x8 :: x9 :: x10 :: x11 :: x12 :: x13 :: x14 :: some x :: σ) H1) : tAsg te (gName 15) ⟨nx, rt, bk, ct⟩ (x0 :: x1 :: x2 :: x3 :: x4 :: x5 :: x6 :: x7 :: x8 :: x9 :: x10 :: x11 :: x12 :: x13 :: x14 :: o :: σ) H := h
theorem w_gn15 {x0 x1 x2 x3 x4 x5 x6 x7 x8 x9 x10 x11 x12 x13 x14 : Option V} {o : Option V} {σ : L2.St} {R : L2.St → Hp → Prop} (h : R (x0 :: x1 :: x2 :: x3 :: x4 :: x5 :: x6 :: x7 :: x8 :: x9 :: x10 :: x11 :: x12 :: x13 :: x14 :: some v :: σ) H) : gName 15 v (x0 :: x1 :: x2 :: x3 :: x4 :: x5 :: x6 :: x7 :: x8 :: x9 :: x10 :: x11 :: x12 :: x13 :: x14 :: o :: σ) H R := h
theorem w_aug15 {x0 x1 x2 x3 x4 x5 x6 x7 x8 x9 x10 x11 x12 x13 x14 : Option V} {f : Int → Int → Int} {a : Int} {σ : L2.St} (h : te (x0 :: x1 :: x2 :: x3 :: x4 :: x5 :: x6 :: x7 :: x8 :: x9 :: x10 :: x11 :: x12 :: x13 :: x14 :: some (.int a) :: σ) H fun y H1 => ∃ b, y = .int b ∧ nx (x0 :: x1 :: x2 :: x3 :: x4 :: x5 :: x6 :: x7 :: x8 :: x9 :: x10 :: x11 :: x12 :: x13 :: x14 :: some (.int (f a b)) :: σ) H1) : tAug 15 te (ipI f) ⟨nx, rt, bk, ct⟩ (x0 :: x1 :: x2 :: x3 :: x4 :: x5 :: x6 :: x7 :: x8 :: x9 :: x10 :: x11 :: x12 :: x13 :: x14 :: some (.int a) :: σ) H := w_aug (i := 15) rfl h
theorem w_var16 {x0 x1 x2 x3 x4 x5 x6 x7 x8 x9 x10 x11 x12 x13 x14 x15 : Option V} {σ : L2.St} (q : Q v H) : tVar 16 (x0 :: x1 :: x2 :: x3 :: x4 :: x5 :: x6 :: x7 :: x8 :: x9 :: x10 :: x11 :: x12 :: x13 :: x14 :: x15 :: some v :: σ) H Q := ⟨v, rfl, q⟩
theorem w_asg16 {x0 x1 x2 x3 x4 x5 x6 x7 x8 x9 x10 x11 x12 x13 x14 x15 : Option V} {o : Option V} {σ : L2.St} (h : te (x0 :: x1 :: x2 :: x3 :: x4 :: x5 :: x6 :: x7 :: x8 :: x9 :: x10 :: x11 :: x12 :: x13 :: x14 :: x15 :: o :: σ) H fun x H1 => nx (x0 :: x1 :: x2 :: x3 :: x4 :: x5 :: x6 :: x7 :: x8 :: x9 :: x10 :: x11 :: x12 :: x13 :: x14 :: x15 :: some x :: σ) H1) : tAsg te (gName 16) ⟨nx, rt, bk, ct⟩ (x0 :: x1 :: x2 :: x3 :: x4 :: x5 :: x6 :: x7 :: x8 :: x9 :: x10 :: x11 :: x12 :: x13 :: x14 :: x15 :: o :: σ) H := h
theorem w_gn16 {x0 x1 x2 x3 x4 x5 x6 x7 x8 x9 x10 x11 x12 x13 x14 x15 : Option V} {o : Option V} {σ : L2.St} {R : L2.St → Hp → Prop} (h : R (x0 :: x1 :: x2 :: x3 :: x4 :: x5 :: x6 :: x7 :: x8 :: x9 :: x10 :: x11 :: x12 :: x13 :: x14 :: x15 :: some v :: σ) H) : gName 16 v (x0 :: x1 :: x2 :: x3 :: x4 :: x5 :: x6 :: x7 :: x8 :: x9 :: x10 :: x11 :: x12 :: x13 :: x14 :: x15 :: o :: σ) H R := h
theorem w_aug16 {x0 x1 x2 x3 x4 x5 x6 x7 x8 x9 x10 x11 x12 x13 x14 x15 : Option V} {f : Int → Int → Int} {a : Int} {σ : L2.St} (h : te (x0 :: x1 :: x2 :: x3 :: x4 :: x5 :: x6 :: x7 :: x8 :: x9 :: x10 :: x11 :: x12 :: x13 :: x14 :: x15 :: some (.int a) :: σ) H fun y H1 => ∃ b, y = .int b ∧ nx (x0 :: x1 :: x2 :: x3 :: x4 :: x5 :: x6 :: x7 :: x8 :: x9 :: x10 :: x11 :: x12 :: x13 :: x14 :: x15 :: some (.int (f a b)) :: σ) H1) : tAug 16 te (ipI f) ⟨nx, rt, bk, ct⟩ (x0 :: x1 :: x2 :: x3 :: x4 :: x5 :: x6 :: x7 :: x8 :: x9 :: x10 :: x11 :: x12 :: x13 :: x14 :: x15 :: some (.int a) :: σ) H := w_aug (i := 16) rfl h
theorem w_var17 {x0 x1 x2 x3 x4 x5 x6 x7 x8 x9 x10 x11 x12 x13 x14 x15 x16 : Option V} {σ : L2.St} (q : Q v H) : tVar 17 (x0 :: x1 :: x2 :: x3 :: x4 :: x5 :: x6 :: x7 :: x8 :: x9 :: x10 :: x11 :: x12 :: x13 :: x14 :: x15 :: x16 :: some v :: σ) H Q := ⟨v, rfl, q⟩
theorem w_asg17 {x0 x1 x2 x3 x4 x5 x6 x7 x8 x9 x10 x11 x12 x13 x14 x15 x16 : Option V} {o : Option V} {σ : L2.St} (h : te (x0 :: x1 :: x2 :: x3 :: x4 :: x5 :: x6 :: x7 :: x8 :: x9 :: x10 :: x11 :: x12 :: x13 :: x14 :: x15 :: x16 :: o :: σ) H fun x H1 => nx (x0 :: x1 :: x2 :: x3 :: x4 :: x5 :: x6 :: x7 :: x8 :: x9 :: x10 :: x11 :: x12 :: x13 :: x14 :: x15 :: x16 :: some x :: σ) H1) : tAsg te (gName 17) ⟨nx, rt, bk, ct⟩ (x0 :: x1 :: x2 :: x3 :: x4 :: x5 :: x6 :: x7 :: x8 :: x9 :: x10 :: x11 :: x12 :: x13 :: x14 :: x15 :: x16 :: o :: σ) H := h
theorem w_gn17 {x0 x1 x2 x3 x4 x5 x6 x7 x8 x9 x10 x11 x12 x13 x14 x15 x16 : Option V} {o : Option V} {σ : L2.St} {R : L2.St → Hp → Prop} (h : R (x0 :: x1 :: x2 :: x3 :: x4 :: x5 :: x6 :: x7 :: x8 :: x9 :: x10 :: x11 :: x12 :: x13 :: x14 :: x15 :: x16 :: some v :: σ) H) : gName 17 v (x0 :: x1 :: x2 :: x3 :: x4 :: x5 :: x6 :: x7 :: x8 :: x9 :: x10 :: x11 :: x12 :: x13 :: x14 :: x15 :: x16 :: o :: σ) H R := h
theorem w_aug17 {x0 x1 x2 x3 x4 x5 x6 x7 x8 x9 x10 x11 x12 x13 x14 x15 x16 : Option V} {f : Int → Int → Int} {a : Int} {σ : L2.St} (h : te (x0 :: x1 :: x2 :: x3 :: x4 :: x5 :: x6 :: x7 :: x8 :: x9 :: x10 :: x11 :: x12 :: x13 :: x14 :: x15 :: x16 :: some (.int a) :: σ) H fun y H1 => ∃ b, y = .int b ∧ nx (x0 :: x1 :: x2 :: x3 :: x4 :: x5 :: x6 :: x7 :: x8 :: x9 :: x10 :: x11 :: x12 :: x13 :: x14 :: x15 :: x16 :: some (.int (f a b)) :: σ) H1) : tAug 17 te (ipI f) ⟨nx, rt, bk, ct⟩ (x0 :: x1 :: x2 :: x3 :: x4 :: x5 :: x6 :: x7 :: x8 :: x9 :: x10 :: x11 :: x12 :: x13 :: x14 :: x15 :: x16 :: some (.int a) :: σ) H := w_aug (i := 17) rfl h
theorem w_var18 {x0 x1 x2 x3 x4 x5 x6 x7 x8 x9 x10 x11 x12 x13 x14 x15 x16 x17 : Option V} {σ : L2.St} (q : Q v H) : tVar 18 (x0 :: x1 :: x2 :: x3 :: x4 :: x5 :: x6 :: x7 :: x8 :: x9 :: x10 :: x11 :: x12 :: x13 :: x14 :: x15 :: x16 :: x17 :: some v :: σ) H Q := ⟨v, rfl, q⟩
theorem w_asg18 {x0 x1 x2 x3 x4 x5 x6 x7 x8 x9 x10 x11 x12 x13 x14 x15 x16 x17 : Option V} {o : Option V} {σ : L2.St} (h : te (x0 :: x1 :: x2 :: x3 :: x4 :: x5 :: x6 :: x7 :: x8 :: x9 :: x10 :: x11 :: x12 :: x13 :: x14 :: x15 :: x16 :: x17 :: o :: σ) H fun x H1 => nx (x0 :: x1 :: x2 :: x3 :: x4 :: x5 :: x6 :: x7 :: x8 :: x9 :: x10 :: x11 :: x12 :: x13 :: x14 :: x15 :: x16 :: x17 :: some x :: σ) H1) : tAsg te (gName 18) ⟨nx, rt, bk, ct⟩ (x0 :: x1 :: x2 :: x3 :: x4 :: x5 :: x6 :: x7 :: x8 :: x9 :: x10 :: x11 :: x12 :: x13 :: x14 :: x15 :: x16 :: x17 :: o :: σ) H := h
theorem w_gn18 {x0 x1 x2 x3 x4 x5 x6 x7 x8 x9 x10 x11 x12 x13 x14 x15 x16 x17 : Option V} {o : Option V} {σ : L2.St} {R : L2.St → Hp → Prop} (h : R (x0 :: x1 :: x2 :: x3 :: x4 :: x5 :: x6 :: x7 :: x8 :: x9 :: x10 :: x11 :: x12 :: x13 :: x14 :: x15 :: x16 :: x17 :: some v :: σ) H) : gName 18 v (x0 :: x1 :: x2 :: x3 :: x4 :: x5 :: x6 :: x7 :: x8 :: x9 :: x10 :: x11 :: x12 :: x13 :: x14 :: x15 :: x16 :: x17 :: o :: σ) H R := h
theorem w_aug18 {x0 x1 x2 x3 x4 x5 x6 x7 x8 x9 x10 x11 x12 x13 x14 x15 x16 x17 : Option V} {f : Int → Int → Int} {a : Int} {σ : L2.St} (h : te (x0 :: x1 :: x2 :: x3 :: x4 :: x5 :: x6 :: x7 :: x8 :: x9 :: x10 :: x11 :: x12 :: x13 :: x14 :: x15 :: x16 :: x17 :: some (.int a) :: σ) H fun y H1 => ∃ b, y = .int b ∧ nx (x0 :: x1 :: x2 :: x3 :: x4 :: x5 :: x6 :: x7 :: x8 :: x9 :: x10 :: x11 :: x12 :: x13 :: x14 :: x15 :: x16 :: x17 :: some (.int (f a b)) :: σ) H1) : tAug 18 te (ipI f) ⟨nx, rt, bk, ct⟩ (x0 :: x1 :: x2 :: x3 :: x4 :: x5 :: x6 :: x7 :: x8 :: x9 :: x10 :: x11 :: x12 :: x13 :: x14 :: x15 :: x16 :: x17 :: some (.int a) :: σ) H := w_aug (i := 18) rfl h
theorem w_var19 {x0 x1 x2 x3 x4 x5 x6 x7 x8 x9 x10 x11 x12 x13 x14 x15 x16 x17 x18 : Option V} {σ : L2.St} (q : Q v H) : tVar 19 (x0 :: x1 :: x2 :: x3 :: x4 :: x5 :: x6 :: x7 :: x8 :: x9 :: x10 :: x11 :: x12 :: x13 :: x14 :: x15 :: x16 :: x17 :: x18 :: some v :: σ) H Q := ⟨v, rfl, q⟩
theorem w_asg19 {x0 x1 x2 x3 x4 x5 x6 x7 x8 x9 x10 x11 x12 x13 x14 x15 x16 x17 x18 : Option V} {o : Option V} {σ : L2.St} (h : te (x0 :: x1 :: x2 :: x3 :: x4 :: x5 :: x6 :: x7 :: x8 :: x9 :: x10 :: x11 :: x12 :: x13 :: x14 :: x15 :: x16 :: x17 :: x18 :: o :: σ) H fun x H1 => nx (x0 :: x1 :: x2 :: x3 :: x4 :: x5 :: x6 :: x7 :: x8 :: x9 :: x10 :: x11 :: x12 :: x13 :: x14 :: x15 :: x16 :: x17 :: x18 :: some x :: σ) H1) : tAsg te (gName 19) ⟨nx, rt, bk, ct⟩ (x0 :: x1 :: x2 :: x3 :: x4 :: x5 :: x6 :: x7 :: x8 :: x9 :: x10 :: x11 :: x12 :: x13 :: x14 :: x15 :: x16 :: x17 :: x18 :: o :: σ) H := h
theorem w_gn19 {x0 x1 x2 x3 x4 x5 x6 x7 x8 x9 x10 x11 x12 x13 x14 x15 x16 x17 x18 : Option V} {o : Option V} {σ : L2.St} {R : L2.St → Hp → Prop} (h : R (x0 :: x1 :: x2 :: x3 :: x4 :: x5 :: x6 :: x7 :: x8 :: x9 :: x10 :: x11 :: x12 :: x13 :: x14 :: x15 :: x16 :: x17 :: x18 :: some v :: σ) H) : gName 19 v (x0 :: x1 :: x2 :: x3 :: x4 :: x5 :: x6 :: x7 :: x8 :: x9 :: x10 :: x11 :: x12 :: x13 :: x14 :: x15 :: x16 :: x17 :: x18 :: o :: σ) H R := h
theorem w_aug19 {x0 x1 x2 x3 x4 x5 x6 x7 x8 x9 x10 x11 x12 x13 x14 x15 x16 x17 x18 : Option V} {f : Int → Int → Int} {a : Int} {σ : L2.St} (h : te (x0 :: x1 :: x2 :: x3 :: x4 :: x5 :: x6 :: x7 :: x8 :: x9 :: x10 :: x11 :: x12 :: x13 :: x14 :: x15 :: x16 :: x17 :: x18 :: some (.int a) :: σ) H fun y H1 => ∃ b, y = .int b ∧ nx (x0 :: x1 :: x2 :: x3 :: x4 :: x5 :: x6 :: x7 :: x8 :: x9 :: x10 :: x11 :: x12 :: x13 :: x14 :: x15 :: x16 :: x17 :: x18 :: some (.int (f a b)) :: σ) H1) : tAug 19 te (ipI f) ⟨nx, rt, bk, ct⟩ (x0 :: x1 :: x2 :: x3 :: x4 :: x5 :: x6 :: x7 :: x8 :: x9 :: x10 :: x11 :: x12 :: x13 :: x14 :: x15 :: x16 :: x17 :: x18 :: some (.int a) :: σ) H := w_aug (i := 19) rfl h
theorem cut {P : L2.St → Hp → Prop} {σ0 : L2.St} (σ : L2.St) (e : σ0 = σ) (h : P σ H) : P σ0 H := by
  rw [e]
  exact h
end
section
variable {nx bk ct : L2.St → Hp → Prop} {rt : VK} {t u tb : TS} {σ : L2.St} {H F0 H0 F : Hp} {L : List (Addr × HO)} {C : List Ck} {te ta tc : TE} {tA : TA} {Q : VK} {v x y : V} {g : TG} {K : PySem.W.Frag} {a : Addr} {xs : List V} {l m : List Nat} {i : Int} {c : Nat}
theorem isVar {i : Nat} (h : tVar i σ H Q) : tVar i σ H Q := h
theorem isAsg {i : Nat} {D : Ends} (h : tAsg te (gName i) D σ H) : tAsg te (gName i) D σ H := h
theorem isGn {i : Nat} {R : L2.St → Hp → Prop} (h : gName i v σ H R) : gName i v σ H R := h
theorem isAug {i : Nat} {f : Int → Int → Int} {D : Ends} (h : tAug i te (ipI f) D σ H) : tAug i te (ipI f) D σ H := h
theorem w_abs (q : Q (.int (i.natAbs : Nat)) H) : rAbs [.int i] H Q := ⟨i, rfl, q⟩
theorem w_toint (q : Q (.int i) H) : rInt [.int i] H Q := ⟨i, rfl, q⟩
theorem w_tointB {b : Bool} (q : Q (.int (if b then 1 else 0)) H) : rIntB [.bl b] H Q := ⟨b, rfl, q⟩
theorem w_lenS (q : Q (.int (l.length : Nat)) H) (hz : l.length ≤ sizeLine) : rLenS [vS l] H Q := ⟨l, rfl, hz, q⟩
theorem w_addS (q : Q (vS (l ++ m)) H) (hz : l.length + m.length ≤ sizeLine) : rAddS (vS l) (vS m) H Q := ⟨l, m, rfl, rfl, hz, q⟩
theorem w_ixS (q : Q (vS [c]) H) (ha : atI l i = some c) (hz : l.length ≤ sizeLine) : rIxSg (vS l) (.int i) H Q := ⟨l, i, c, rfl, rfl, hz, ha, q⟩
theorem w_mulS (q : Q (vS (List.replicate i.toNat l).flatten) H) (h : 0 ≤ i ∧ i < 2 ^ 30) (hz : l.length * i.toNat ≤ sizeLine) : rMulS (vS l) (.int i) H Q := ⟨l, i, rfl, rfl, h.1, h.2, hz, q⟩
theorem w_slS {lo hi : Option Int} (q : Q (vS (cutN l lo hi)) H) (hz : l.length ≤ sizeLine) : rSlSg (vS l) lo hi H Q := ⟨l, rfl, hz, q⟩
theorem w_sl {r : V → Option Int → Option Int → Hp → VK → Prop} {tl th : TO} (h : te σ H fun x H1 => tl σ H1 fun lo H2 => th σ H2 fun hi H3 => r x lo hi H3 Q) : tSl r te tl th σ H Q := h
theorem w_noP {R : Option Int → Hp → Prop} (h : R none H) : tNoPart σ H R := h
theorem w_part {R : Option Int → Hp → Prop} (h : te σ H fun x H1 => ∃ i, x = .int i ∧ R (some i) H1) : tPart te σ H R := h
theorem w_ixL (q : Q v H) (hs : SqL K H a xs) (ha : atI xs i = some v) : rIxL K (.ref a) (.int i) H Q := ⟨a, xs, i, v, rfl, rfl, hs, ha, q⟩
theorem w_ixT (q : Q v H) (hs : SqT K H a xs) (ha : atI xs i = some v) : rIxT K (.ref a) (.int i) H Q := ⟨a, xs, i, v, rfl, rfl, hs, ha, q⟩
theorem w_lenL (q : Q (.int (xs.length : Nat)) H) (hs : SqL K H a xs) : rLenQ K [.ref a] H Q := ⟨a, xs, rfl, .inl hs, q⟩
theorem w_lenT (q : Q (.int (xs.length : Nat)) H) (hs : SqT K H a xs) : rLenQ K [.ref a] H Q := ⟨a, xs, rfl, .inr hs, q⟩
def NewL (xs : List V) (H : Hp) (Q : VK) : Prop := xs.length ≤ sizeLine ∧ ∀ p, H p = none → Q (.ref p) (upd H p (.lst xs))
def NewT (xs : List V) (H : Hp) (Q : VK) : Prop := xs.length ≤ sizeLine ∧ ∀ p, H p = none → Q (.ref p) (upd H p (.tup xs))
theorem w_lst (h : tA σ H fun xs H1 => NewL xs H1 Q) : tLst tA σ H Q := h
theorem w_tup (h : tA σ H fun xs H1 => NewT xs H1 Q) : tTup tA σ H Q := h
theorem w_newL (O : Own F0 H0 F H L C) (k : ∀ p H', Own F0 H0 F H' ((p, .lst xs) :: L) C → Q (.ref p) H') (hz : xs.length ≤ sizeLine) : NewL xs H Q := ⟨hz, fun p np => k p _ (O.alloc np _)⟩
theorem w_newT (O : Own F0 H0 F H L C) (k : ∀ p F' H', Own F0 H0 F' H' L (cO p (.tup xs) :: C) → Q (.ref p) H') (hz : xs.length ≤ sizeLine) : NewT xs H Q := ⟨hz, fun p np => k p _ _ (O.ice np _)⟩
theorem w_bm {T : String} {r : V → List V → Hp → VK → Prop} {to : TE} (h : to σ H fun x H1 => tyV K T x H1 ∧ tA σ H1 fun vs H2 => r x vs H2 Q) : tBM K T r to tA σ H Q := h
theorem w_bm0 {T : String} {r : V → List V → Hp → VK → Prop} {to : TE} (h : to σ H fun x H1 => tyV K T x H1 ∧ r x [] H1 Q) : tBM0 K T r to σ H Q := h
theorem w_tyL {P : Prop} (h : P) (hs : SqL K H a xs) : tyV K "list" (.ref a) H ∧ P := ⟨.inl ⟨rfl, _, hs⟩, h⟩
theorem w_app {j : Nat} (O : Own F0 H0 F H L C) (hi : L[j]? = some (a, .lst xs)) (k : ∀ H', Own F0 H0 F H' (L.set j (a, .lst (xs ++ [v]))) C → Q .non H') (hz : xs.length < sizeLine) : rAppend (.ref a) [v] H Q :=
  ⟨a, xs, v, rfl, rfl, O.at_ j hi, hz, k _ (O.set j hi _)⟩
theorem w_app0 (O : Own F0 H0 F H ((a, .lst xs) :: L) C) (k : ∀ H', Own F0 H0 F H' ((a, .lst (xs ++ [v])) :: L) C → Q .non H') (hz : xs.length < sizeLine) : rAppend (.ref a) [v] H Q := w_app (j := 0) O rfl k hz
theorem w_app1 {q : Addr × HO} (O : Own F0 H0 F H (q :: (a, .lst xs) :: L) C) (k : ∀ H', Own F0 H0 F H' (q :: (a, .lst (xs ++ [v])) :: L) C → Q .non H') (hz : xs.length < sizeLine) : rAppend (.ref a) [v] H Q := w_app (j := 1) O rfl k hz
theorem w_app2 {q q' : Addr × HO} (O : Own F0 H0 F H (q :: q' :: (a, .lst xs) :: L) C) (k : ∀ H', Own F0 H0 F H' (q :: q' :: (a, .lst (xs ++ [v])) :: L) C → Q .non H') (hz : xs.length < sizeLine) : rAppend (.ref a) [v] H Q := w_app (j := 2) O rfl k hz
/-! loops -/
def LoopEnd (J : It) (g : TG) (tb : TS) (D : Ends) (σ : L2.St) (H : Hp) : Prop := ∃ W : Nat → Nat → L2.St → Hp → Prop, (∃ m, W 0 m σ H) ∧ ∀ i m σ H, W i m σ H →
  (J.stop i H ∧ D.nx σ H) ∨ (J.go i H ∧ ∃ N : L2.St → Hp → Prop, (∀ σ' H', N σ' H' → ∃ m', m' < m ∧ W (i + 1) m' σ' H') ∧ ∀ x H', J.yld i H x H' → g x σ H' fun σ2 H2 => tb { D with nx := N, ct := N, bk := D.nx } σ2 H2)
theorem w_for {wi : TI} (h : wi σ H fun J H1 => LoopEnd J g tb ⟨nx, rt, bk, ct⟩ σ H1) : tFor wi g tb ⟨nx, rt, bk, ct⟩ σ H := h
def Rg1 (vs : List V) (H : Hp) (R : It → Hp → Prop) : Prop := ∃ j : Int, vs = [.int j] ∧ -(2 ^ 62) ≤ j ∧ j < 2 ^ 62 ∧ R (Itr 0 j.toNat) H
theorem w_iRng1 {R : It → Hp → Prop} (h : tA σ H fun vs H1 => Rg1 vs H1 R) : iRng1 tA σ H R := h
theorem w_rg1 {n : Int} (hn : -(2 ^ 62) ≤ n ∧ n < 2 ^ 62) (Pv : Nat → L2.St → Hp → Prop) (h0 : Pv 0 σ H)
    (hs : ∀ (i : Nat) σ' H', (i : Int) < n → Pv i σ' H' → g (.int (i : Nat)) σ' H' fun σ2 H2 => tb ⟨Pv (i + 1), rt, nx, Pv (i + 1)⟩ σ2 H2) (hd : ∀ σ' H', Pv n.toNat σ' H' → nx σ' H') :
    Rg1 [.int n] H fun J H1 => LoopEnd J g tb ⟨nx, rt, bk, ct⟩ σ H1 := by
  refine ⟨n, rfl, hn.1, hn.2, for_range (lo := 0) (n := n.toNat) (D := ⟨nx, rt, bk, ct⟩) Pv h0 (fun i σ' H' hi p => ?_) hd⟩
  have q := hs i σ' H' (by omega) p
  rw [show (0 : Int) + (i : Int) = (i : Int) from Int.zero_add _]
  exact q
def Rg2 (vs : List V) (H : Hp) (R : It → Hp → Prop) : Prop := ∃ i j : Int, vs = [.int i, .int j] ∧ (-(2 ^ 62) ≤ i ∧ i < 2 ^ 62 ∧ -(2 ^ 62) ≤ j ∧ j < 2 ^ 62) ∧ R (Itr i (j - i).toNat) H
theorem w_iRng2 {R : It → Hp → Prop} (h : tA σ H fun vs H1 => Rg2 vs H1 R) : iRng2 tA σ H R := h
theorem w_rg2 {b n : Int} (hn : -(2 ^ 62) ≤ b ∧ b < 2 ^ 62 ∧ -(2 ^ 62) ≤ n ∧ n < 2 ^ 62) (Pv : Nat → L2.St → Hp → Prop) (h0 : Pv 0 σ H)
    (hs : ∀ (i : Nat) σ' H', b + (i : Int) < n → Pv i σ' H' → g (.int (b + (i : Nat))) σ' H' fun σ2 H2 => tb ⟨Pv (i + 1), rt, nx, Pv (i + 1)⟩ σ2 H2) (hd : ∀ σ' H', Pv (n - b).toNat σ' H' → nx σ' H') :
    Rg2 [.int b, .int n] H fun J H1 => LoopEnd J g tb ⟨nx, rt, bk, ct⟩ σ H1 :=
  ⟨b, n, rfl, hn, for_range (lo := b) (n := (n - b).toNat) (D := ⟨nx, rt, bk, ct⟩) Pv h0 (fun i σ' H' hi p => hs i σ' H' (by omega) p) hd⟩
def Rg3 (vs : List V) (H : Hp) (R : It → Hp → Prop) : Prop := ∃ (i j c : Int) (n : Nat), vs = [.int i, .int j, .int c] ∧ RgC i j c n ∧ R (Itc i c n) H
theorem w_iRng3 {R : It → Hp → Prop} (h : tA σ H fun vs H1 => Rg3 vs H1 R) : iRng3 tA σ H R := h
theorem w_rg3 {b e c : Int} {n : Nat} (hn : RgC b e c n) (Pv : Nat → L2.St → Hp → Prop) (h0 : Pv 0 σ H)
    (hs : ∀ (i : Nat) σ' H', i < n → Pv i σ' H' → g (.int (b + (i : Nat) * c)) σ' H' fun σ2 H2 => tb ⟨Pv (i + 1), rt, nx, Pv (i + 1)⟩ σ2 H2) (hd : ∀ σ' H', Pv n σ' H' → nx σ' H') :
    Rg3 [.int b, .int e, .int c] H fun J H1 => LoopEnd J g tb ⟨nx, rt, bk, ct⟩ σ H1 :=
  ⟨b, e, c, n, rfl, hn, for_rangeC (lo := b) (c := c) (n := n) (D := ⟨nx, rt, bk, ct⟩) Pv h0 (fun i σ' H' hi p => hs i σ' H' hi p) hd⟩
def FoL (K : PySem.W.Frag) (x : V) (H : Hp) (R : It → Hp → Prop) : Prop := ∃ a, x = .ref a ∧ (∃ xs, SqL K H a xs) ∧ R (Itl K a) H
theorem w_iList {R : It → Hp → Prop} (h : te σ H fun x H1 => FoL K x H1 R) : iList K te σ H R := h
theorem w_foL (Pv : Nat → L2.St → Hp → Prop) (hx : SqL K H a xs) (h0 : Pv 0 σ H) (hl : ∀ i σ' H', i ≤ xs.length → Pv i σ' H' → SqL K H' a xs)
    (hs : ∀ (i : Nat) x σ' H', xs[i]? = some x → Pv i σ' H' → g x σ' H' fun σ2 H2 => tb ⟨Pv (i + 1), rt, nx, Pv (i + 1)⟩ σ2 H2) (hd : ∀ σ' H', Pv xs.length σ' H' → nx σ' H') :
    FoL K (.ref a) H fun J H1 => LoopEnd J g tb ⟨nx, rt, bk, ct⟩ σ H1 :=
  ⟨a, rfl, ⟨xs, hx⟩, for_list (D := ⟨nx, rt, bk, ct⟩) Pv h0 hl (fun i x σ' H' hi p => hs i x σ' H' hi p) hd⟩
def FoT (K : PySem.W.Frag) (x : V) (H : Hp) (R : It → Hp → Prop) : Prop := ∃ a, x = .ref a ∧ (∃ xs, SqT K H a xs) ∧ R (Itt K a) H
theorem w_iTup {R : It → Hp → Prop} (h : te σ H fun x H1 => FoT K x H1 R) : iTup K te σ H R := h
theorem w_foT (Pv : Nat → L2.St → Hp → Prop) (hx : SqT K H a xs) (h0 : Pv 0 σ H) (hl : ∀ i σ' H', i ≤ xs.length → Pv i σ' H' → SqT K H' a xs)
    (hs : ∀ (i : Nat) x σ' H', xs[i]? = some x → Pv i σ' H' → g x σ' H' fun σ2 H2 => tb ⟨Pv (i + 1), rt, nx, Pv (i + 1)⟩ σ2 H2) (hd : ∀ σ' H', Pv xs.length σ' H' → nx σ' H') :
    FoT K (.ref a) H fun J H1 => LoopEnd J g tb ⟨nx, rt, bk, ct⟩ σ H1 :=
  ⟨a, rfl, ⟨xs, hx⟩, for_tup (D := ⟨nx, rt, bk, ct⟩) Pv h0 hl (fun i x σ' H' hi p => hs i x σ' H' hi p) hd⟩
def FoS (x : V) (H : Hp) (R : It → Hp → Prop) : Prop := ∃ z, x = .str z ∧ R (Its z) H
theorem w_iStr {R : It → Hp → Prop} (h : te σ H fun x H1 => FoS x H1 R) : iStr te σ H R := h
theorem w_foS (Pv : Nat → L2.St → Hp → Prop) (h0 : Pv 0 σ H)
    (hs : ∀ (i : Nat) (c : Nat) σ' H', l[i]? = some c → Pv i σ' H' → g (vS [c]) σ' H' fun σ2 H2 => tb ⟨Pv (i + 1), rt, nx, Pv (i + 1)⟩ σ2 H2) (hd : ∀ σ' H', Pv l.length σ' H' → nx σ' H') :
    FoS (vS l) H fun J H1 => LoopEnd J g tb ⟨nx, rt, bk, ct⟩ σ H1 := by
  refine ⟨S l, rfl, fun i k σ' H' => k = l.length - i ∧ i ≤ l.length ∧ Pv i σ' H', ⟨l.length, by simp, Nat.zero_le _, h0⟩, ?_⟩
  rintro i k σ' H' ⟨rfl, hi, p⟩
  have hsz : (S l).cps.size = l.length := by simp [S]
  by_cases hlt : i < l.length
  · refine .inr ⟨by show i < (S l).cps.size; rw [hsz]; exact hlt, Pv (i + 1), fun σ2 H2 p' => ⟨l.length - (i + 1), by omega, rfl, hlt, p'⟩, ?_⟩
    rintro x H2 ⟨rfl, c, hc, rfl⟩
    refine hs i c σ' _ ?_ p
    simpa [S] using hc
  · have e : i = l.length := by omega
    subst e
    exact .inl ⟨by show (S l).cps.size ≤ l.length; rw [hsz]; exact Nat.le_refl _, hd _ _ p⟩
def FoR (K : PySem.W.Frag) (vs : List V) (H : Hp) (R : It → Hp → Prop) : Prop := ∃ (a : Addr) (xs : List V), vs = [.ref a] ∧ SqL K H a xs ∧ R (Itv K a xs.length) H
theorem w_iRev {R : It → Hp → Prop} (h : tA σ H fun vs H1 => FoR K vs H1 R) : iRev K tA σ H R := h
/-- i: the turns done; the item is the one at length - 1 - i -/
theorem w_foR (Pv : Nat → L2.St → Hp → Prop) (hx : SqL K H a xs) (h0 : Pv 0 σ H) (hl : ∀ i σ' H', Pv i σ' H' → SqL K H' a xs)
    (hs : ∀ (i : Nat) x σ' H', i < xs.length → xs[xs.length - 1 - i]? = some x → Pv i σ' H' → g x σ' H' fun σ2 H2 => tb ⟨Pv (i + 1), rt, nx, Pv (i + 1)⟩ σ2 H2) (hd : ∀ σ' H', Pv xs.length σ' H' → nx σ' H') :
    FoR K [.ref a] H fun J H1 => LoopEnd J g tb ⟨nx, rt, bk, ct⟩ σ H1 := by
  refine ⟨a, xs, rfl, hx, fun i k σ' H' => k = xs.length - i ∧ i ≤ xs.length ∧ Pv i σ' H', ⟨xs.length, by simp, Nat.zero_le _, h0⟩, ?_⟩
  rintro i k σ' H' ⟨rfl, hi, p⟩
  by_cases hlt : i < xs.length
  · have hs1 : SqL K H' a xs := hl i σ' H' p
    have hg : xs[xs.length - 1 - i]? = some (xs[xs.length - 1 - i]'(by omega)) := List.getElem?_eq_getElem (by omega)
    refine .inr ⟨⟨hlt, xs, _, hs1, hg⟩, Pv (i + 1), fun σ2 H2 p' => ⟨xs.length - (i + 1), by omega, rfl, hlt, p'⟩, ?_⟩
    rintro x H2 ⟨rfl, hx2⟩
    exact hs i x σ' _ hlt (hx2 xs hs1) p
  · have e : i = xs.length := by omega
    subst e
    exact .inl ⟨Nat.le_refl _, hd _ _ p⟩
def FoE (K : PySem.W.Frag) (vs : List V) (H : Hp) (R : It → Hp → Prop) : Prop := ∃ (a : Addr) (xs : List V), vs = [.ref a] ∧ SqL K H a xs ∧ R (Ite K a) H
theorem w_iEnum {R : It → Hp → Prop} (h : tA σ H fun vs H1 => FoE K vs H1 R) : iEnum K tA σ H R := h
theorem w_foE (Pv : Nat → L2.St → Hp → Prop) (hx : SqL K H a xs) (h0 : Pv 0 σ H) (hl : ∀ i σ' H', Pv i σ' H' → SqL K H' a xs)
    (hs : ∀ (i : Nat) x σ' H' T, xs[i]? = some x → Pv i σ' H' → H' T = none → g (.ref T) σ' (upd H' T (.tup [.int (i : Nat), x])) fun σ2 H2 => tb ⟨Pv (i + 1), rt, nx, Pv (i + 1)⟩ σ2 H2) (hd : ∀ σ' H', Pv xs.length σ' H' → nx σ' H') :
    FoE K [.ref a] H fun J H1 => LoopEnd J g tb ⟨nx, rt, bk, ct⟩ σ H1 := by
  refine ⟨a, xs, rfl, hx, fun i k σ' H' => k = xs.length - i ∧ i ≤ xs.length ∧ Pv i σ' H', ⟨xs.length, by simp, Nat.zero_le _, h0⟩, ?_⟩
  rintro i k σ' H' ⟨rfl, hi, p⟩
  have hs1 : SqL K H' a xs := hl i σ' H' p
  by_cases hlt : i < xs.length
  · refine .inr ⟨⟨xs, _, hs1, List.getElem?_eq_getElem hlt⟩, Pv (i + 1), fun σ2 H2 p' => ⟨xs.length - (i + 1), by omega, rfl, hlt, p'⟩, ?_⟩
    rintro v H2 ⟨T, x, rfl, nT, rfl, hx2⟩
    exact hs i x σ' H' T (hx2 xs hs1) p nT
  · have e : i = xs.length := by omega
    subst e
    exact .inl ⟨⟨xs, hs1, Nat.le_refl _⟩, hd _ _ p⟩
/-- while: Pv with a number that falls -/
theorem w_while (Pv : Nat → L2.St → Hp → Prop) (m0 : Nat) (h0 : Pv m0 σ H) {c : TT}
    (hs : ∀ m σ' H', Pv m σ' H' → c σ' H' fun b H1 => if b = true then tb ⟨fun σ2 H2 => ∃ m', m' < m ∧ Pv m' σ2 H2, rt, nx, fun σ2 H2 => ∃ m', m' < m ∧ Pv m' σ2 H2⟩ σ' H1 else nx σ' H1)
    (mono : ∀ σ H (Q Q' : Bool → Hp → Prop), (∀ b H1, Q b H1 → Q' b H1) → c σ H Q → c σ H Q') : tWhile c tb ⟨nx, rt, bk, ct⟩ σ H := by
  refine ⟨Pv, ⟨m0, h0⟩, fun m σ' H' p => mono σ' H' _ _ (fun b H1 q => ?_) (hs m σ' H' p)⟩
  cases b with
  | true => exact ⟨_, fun _ _ z => z, q⟩
  | false => exact q
/-! comprehensions -/
def LcEnd (J : It) (g : TG) (tt : TT) (te : TE) (vs : List Nat) (σ : L2.St) (H1 : Hp) (Q : VK) : Prop := ∀ D, H1 D = none → ∃ W : Nat → Nat → Hp → Prop, (∃ m, W 0 m (upd H1 D (.lst []))) ∧ ∀ i m H, W i m H →
  (J.stop i H ∧ Q (.ref D) H) ∨ (J.go i H ∧ ∃ Nx : Hp → Prop, (∀ H', Nx H' → ∃ m', m' < m ∧ W (i + 1) m' H') ∧ ∀ x H', J.yld i H x H' → g x (wipe σ vs) H' fun σ2 H2 => wipe σ2 vs = wipe σ vs ∧ tt σ2 H2 fun b H3 =>
    if b = true then te σ2 H3 fun y H4 => ∃ acc, H4 D = some (.lst acc) ∧ acc.length < sizeLine ∧ Nx (upd H4 D (.lst (acc ++ [y]))) else Nx H3)
theorem w_lc {wi : TI} {tt : TT} {vs : List Nat} (h : wi σ H fun J H1 => LcEnd J g tt te vs σ H1 Q) : tLc wi g tt te vs σ H Q := h
/-- the item is put behind the list at D -/
def Put (D : Addr) (N : Hp → Prop) (y : V) (H4 : Hp) : Prop := ∃ acc, H4 D = some (.lst acc) ∧ acc.length < sizeLine ∧ N (upd H4 D (.lst (acc ++ [y])))
/-- what holds between two turns of a comprehension -/
def Btw (F0 H0 F : Hp) (L : List (Addr × HO)) (C : List Ck) (D : Addr) (Iv : List V → Hp → Prop) (H' : Hp) : Prop := ∃ F' acc, Own F0 H0 F' H' ((D, .lst acc) :: L) C ∧ Same F F' ∧ Iv acc F'
theorem w_put {Iv : List V → Hp → Prop} {D : Addr} {acc : List V} {F1 : Hp} (O : Own F0 H0 F1 H ((D, .lst acc) :: L) C) (sF : Same F F1) (hI : Iv (acc ++ [y]) F1) (hz : acc.length < sizeLine) : Put D (Btw F0 H0 F L C D Iv) y H :=
  ⟨acc, O.at_ 0, hz, F1, _, O.set 0 rfl _, sF, hI⟩
theorem w_skip {Iv : List V → Hp → Prop} {D : Addr} {acc : List V} {F1 : Hp} (O : Own F0 H0 F1 H ((D, .lst acc) :: L) C) (sF : Same F F1) (hI : Iv acc F1) : Btw F0 H0 F L C D Iv H := ⟨F1, acc, O, sF, hI⟩
theorem w_yes {Q : Bool → Hp → Prop} (h : Q true H) : tYes σ H Q := h
theorem w_iteT {A B : Prop} (h : A) : if true = true then A else B := by rw [if_pos rfl]; exact h
theorem w_iteF {A B : Prop} (h : B) : if false = true then A else B := by rw [if_neg Bool.false_ne_true]; exact h
theorem lc_any {J : It} {tt : TT} {vs : List Nat} (n : Nat) (Y : Nat → V → Prop) (O : Own F0 H0 F H L C) (Iv : Nat → List V → Hp → Prop) (h0 : Iv 0 [] F)
    (go : ∀ i H' F' acc D, i < n → Own F0 H0 F' H' ((D, .lst acc) :: L) C → Same F F' → J.go i H') (stop : ∀ H' F' acc D, Own F0 H0 F' H' ((D, .lst acc) :: L) C → Same F F' → J.stop n H')
    (yld : ∀ i x H' H2 F' acc D, i < n → Own F0 H0 F' H' ((D, .lst acc) :: L) C → Same F F' → J.yld i H' x H2 → H2 = H' ∧ Y i x)
    (turn : ∀ (i : Nat) x acc D F' H', i < n → Y i x → Iv i acc F' → Same F F' → Own F0 H0 F' H' ((D, .lst acc) :: L) C → g x (wipe σ vs) H' fun σ2 H2 => wipe σ2 vs = wipe σ vs ∧ tt σ2 H2 fun b H3 =>
      if b = true then te σ2 H3 (Put D (Btw F0 H0 F L C D (Iv (i + 1)))) else Btw F0 H0 F L C D (Iv (i + 1)) H3)
    (done : ∀ acc D F' H', Iv n acc F' → Same F F' → Own F0 H0 F' H' ((D, .lst acc) :: L) C → Q (.ref D) H') :
    LcEnd J g tt te vs σ H Q := by
  intro D hD
  refine ⟨fun i k H' => k = n - i ∧ i ≤ n ∧ Btw F0 H0 F L C D (Iv i) H', ⟨n, by omega, Nat.zero_le _, F, [], O.alloc hD _, Same.refl _, h0⟩, ?_⟩
  rintro i k H' ⟨rfl, hi, F', acc, O', sF, hI⟩
  by_cases hlt : i < n
  · refine .inr ⟨go i H' F' acc D hlt O' sF, Btw F0 H0 F L C D (Iv (i + 1)), fun H2 p' => ⟨n - (i + 1), by omega, rfl, hlt, p'⟩, fun x H2 hy => ?_⟩
    obtain ⟨rfl, hY⟩ := yld i x H' H2 F' acc D hlt O' sF hy
    exact turn i x acc D F' _ hlt hY hI sF O'
  · have e : i = n := by omega
    subst e
    exact .inl ⟨stop H' F' acc D O' sF, done acc D F' H' hI sF O'⟩
/-- [te for x in xs], xs a list that the frozen part or another own object holds -/
theorem w_lcL {tt : TT} {vs : List Nat} (O : Own F0 H0 F H L C) (hx : SqL K H a xs) (hl : ∀ {F' H' acc D}, Own F0 H0 F' H' ((D, .lst acc) :: L) C → Same F F' → SqL K H' a xs) (Iv : Nat → List V → Hp → Prop) (h0 : Iv 0 [] F)
    (turn : ∀ (i : Nat) x acc D F' H', xs[i]? = some x → Iv i acc F' → Same F F' → Own F0 H0 F' H' ((D, .lst acc) :: L) C → g x (wipe σ vs) H' fun σ2 H2 => wipe σ2 vs = wipe σ vs ∧ tt σ2 H2 fun b H3 =>
      if b = true then te σ2 H3 (Put D (Btw F0 H0 F L C D (Iv (i + 1)))) else Btw F0 H0 F L C D (Iv (i + 1)) H3)
    (done : ∀ acc D F' H', Iv xs.length acc F' → Same F F' → Own F0 H0 F' H' ((D, .lst acc) :: L) C → Q (.ref D) H') :
    FoL K (.ref a) H fun J H1 => LcEnd J g tt te vs σ H1 Q := by
  refine ⟨a, rfl, ⟨xs, hx⟩, lc_any xs.length (fun i x => xs[i]? = some x) O Iv h0 (fun i H' F' acc D hi O' sF => ?_) (fun H' F' acc D O' sF => ⟨xs, hl O' sF, Nat.le_refl _⟩) (fun i x H' H2 F' acc D hi O' sF hy => ⟨hy.1, hy.2 xs (hl O' sF)⟩) (fun i x acc D F' H' _ hY => turn i x acc D F' H' hY) done⟩
  exact ⟨xs, _, hl O' sF, List.getElem?_eq_getElem hi⟩
theorem w_lcT {tt : TT} {vs : List Nat} (O : Own F0 H0 F H L C) (hx : SqT K H a xs) (hl : ∀ {F' H' acc D}, Own F0 H0 F' H' ((D, .lst acc) :: L) C → Same F F' → SqT K H' a xs) (Iv : Nat → List V → Hp → Prop) (h0 : Iv 0 [] F)
    (turn : ∀ (i : Nat) x acc D F' H', xs[i]? = some x → Iv i acc F' → Same F F' → Own F0 H0 F' H' ((D, .lst acc) :: L) C → g x (wipe σ vs) H' fun σ2 H2 => wipe σ2 vs = wipe σ vs ∧ tt σ2 H2 fun b H3 =>
      if b = true then te σ2 H3 (Put D (Btw F0 H0 F L C D (Iv (i + 1)))) else Btw F0 H0 F L C D (Iv (i + 1)) H3)
    (done : ∀ acc D F' H', Iv xs.length acc F' → Same F F' → Own F0 H0 F' H' ((D, .lst acc) :: L) C → Q (.ref D) H') :
    FoT K (.ref a) H fun J H1 => LcEnd J g tt te vs σ H1 Q := by
  refine ⟨a, rfl, ⟨xs, hx⟩, lc_any xs.length (fun i x => xs[i]? = some x) O Iv h0 (fun i H' F' acc D hi O' sF => ?_) (fun H' F' acc D O' sF => ⟨xs, hl O' sF, Nat.le_refl _⟩) (fun i x H' H2 F' acc D hi O' sF hy => ⟨hy.1, hy.2 xs (hl O' sF)⟩) (fun i x acc D F' H' _ hY => turn i x acc D F' H' hY) done⟩
  exact ⟨xs, _, hl O' sF, List.getElem?_eq_getElem hi⟩
theorem w_lcR1 {tt : TT} {vs : List Nat} {n : Int} (O : Own F0 H0 F H L C) (hn : -(2 ^ 62) ≤ n ∧ n < 2 ^ 62) (Iv : Nat → List V → Hp → Prop) (h0 : Iv 0 [] F)
    (turn : ∀ (i : Nat) acc D F' H', (i : Int) < n → Iv i acc F' → Same F F' → Own F0 H0 F' H' ((D, .lst acc) :: L) C → g (.int (i : Nat)) (wipe σ vs) H' fun σ2 H2 => wipe σ2 vs = wipe σ vs ∧ tt σ2 H2 fun b H3 =>
      if b = true then te σ2 H3 (Put D (Btw F0 H0 F L C D (Iv (i + 1)))) else Btw F0 H0 F L C D (Iv (i + 1)) H3)
    (done : ∀ acc D F' H', Iv n.toNat acc F' → Same F F' → Own F0 H0 F' H' ((D, .lst acc) :: L) C → Q (.ref D) H') :
    Rg1 [.int n] H fun J H1 => LcEnd J g tt te vs σ H1 Q := by
  refine ⟨n, rfl, hn.1, hn.2, lc_any n.toNat (fun i x => x = .int (i : Nat)) O Iv h0 (fun i H' F' acc D hi O' sF => hi) (fun H' F' acc D O' sF => Nat.le_refl _) (fun i x H' H2 F' acc D hi O' sF hy => ⟨hy.1, by rw [hy.2, Int.zero_add]⟩) (fun i x acc D F' H' hi hY => ?_) done⟩
  intro h1 h2 h3
  rw [show x = .int (i : Nat) from hY]
  exact turn i acc D F' H' (by omega) h1 h2 h3
theorem w_lcS {tt : TT} {vs : List Nat} (O : Own F0 H0 F H L C) (Iv : Nat → List V → Hp → Prop) (h0 : Iv 0 [] F)
    (turn : ∀ (i : Nat) (c : Nat) acc D F' H', l[i]? = some c → Iv i acc F' → Same F F' → Own F0 H0 F' H' ((D, .lst acc) :: L) C → g (vS [c]) (wipe σ vs) H' fun σ2 H2 => wipe σ2 vs = wipe σ vs ∧ tt σ2 H2 fun b H3 =>
      if b = true then te σ2 H3 (Put D (Btw F0 H0 F L C D (Iv (i + 1)))) else Btw F0 H0 F L C D (Iv (i + 1)) H3)
    (done : ∀ acc D F' H', Iv l.length acc F' → Same F F' → Own F0 H0 F' H' ((D, .lst acc) :: L) C → Q (.ref D) H') :
    FoS (vS l) H fun J H1 => LcEnd J g tt te vs σ H1 Q := by
  have hsz : (S l).cps.size = l.length := by simp [S]
  refine ⟨S l, rfl, lc_any l.length (fun i x => ∃ c, l[i]? = some c ∧ x = vS [c]) O Iv h0 (fun i H' F' acc D hi O' sF => ?_) (fun H' F' acc D O' sF => ?_) (fun i x H' H2 F' acc D hi O' sF hy => ?_) (fun i x acc D F' H' hi hY => ?_) done⟩
  · show i < (S l).cps.size
    rw [hsz]; exact hi
  · show (S l).cps.size ≤ l.length
    rw [hsz]; exact Nat.le_refl _
  · obtain ⟨h1, c, hc, rfl⟩ := hy
    exact ⟨h1, c, by simpa [S] using hc, rfl⟩
  · obtain ⟨c, hc, rfl⟩ := hY
    exact turn i c acc D F' H' hc
end

/-! ### defs -/
section
variable {P : Program} {w : World} {K : PySem.W.Frag} {mg : Str → Option Value} {base : Heap}
theorem dn_mk {x q : Str} {st : Stmt} {f : Addr} {N ps : List Str} {k : Nat} {sp : Sp} (F : ∃ fd, FnP K x q st f fd) (S : FnScope N ps (defScope st))
    (hb : ∀ (kV doc pm : Value) (an : Option Addr) (cdv ct : Value) (us : List Value), us.length = ps.length → bindArgs (PySem.W.fnOf x q (defArgs st) (defBody st) (defScope st) .none kV doc pm an cdv ct) ⟨us, []⟩ = pure (ps.zip us))
    (len : ∀ vs H Q E, sp vs H Q E → vs.length = ps.length)
    (hbody : ∀ (cdv : Value) (A : Around) (outer : List Env) (s : Shared) (H : Hp) (vs : List V) (Q : VK) (E : XK), Room k (A.deeper (envOfC q (defScope st) s.heap.objs.size f cdv)) → sp vs H Q E →
      ∃ t, PSs (cxOf CX0 P w K mg base N q (defScope st) f cdv A outer s H E).nox (defBody st) t ∧ t ⟨fun _ H' => Q .non H', Q, fun _ _ => False, fun _ _ => False⟩ (start N vs) H) : Dn P w K mg base (k + 1) f ps sp := by
  obtain ⟨fd, F⟩ := F
  refine ⟨fd, F.ok S len fun cdv A outer s H vs Q E hr hsp => ?_, F.bindsN hb, F.kp, ?_⟩
  · obtain ⟨t, h, q⟩ := hbody cdv A outer s H vs Q E hr hsp
    exact ⟨t, h.nox, q⟩
  · obtain ⟨oc, od, dV, kV, doc, pm, an, cdv, ct, osl, e, lk, _⟩ := F.ex
    exact ⟨_, _, _, lk⟩
theorem lk_same {f : Addr} {fd fd' : FuncData} (h : Lk K f fd) (h' : Lk K f fd') : fd = fd' := by
  obtain ⟨oc, od, osl, lk⟩ := h
  obtain ⟨oc', od', osl', lk'⟩ := h'
  rw [lk] at lk'
  injection lk' with e
  injection e with _ _ e _
  injection e
theorem lk_of {x q : Str} {st : Stmt} {f : Addr} {fd : FuncData} (F : FnP K x q st f fd) : Lk K f fd := by
  obtain ⟨oc, od, dV, kV, doc, pm, an, cdv, ct, osl, e, lk, _⟩ := F.ex
  exact ⟨_, _, _, lk⟩
end

/-! ### promises of defs that hand back a plain value -/
def SpecV (A : Hp → Prop) (R : V → Prop) (H : Hp) (Q : VK) : Prop := ∃ F, Same F H ∧ A F ∧ ∀ v H', Same H H' → R v → Q v H'
theorem Own.callV {F0 H0 F H : Hp} {L : List (Addr × HO)} {C : List Ck} {A : Hp → Prop} {R : V → Prop} {Q : VK} (O : Own F0 H0 F H L C) (hA : A F) (k : ∀ v H', R v → Own F0 H0 F H' L C → Q v H') : SpecV A R H Q :=
  ⟨F, O.fh, hA, fun _ _ s r => k _ _ r (O.more s)⟩
theorem Own.retV {F H F' H' : Hp} {L : List (Addr × HO)} {C : List Ck} {R : V → Prop} {Q : VK} {v : V} (O : Own F H F' H' L C) (q : ∀ v H', Same H H' → R v → Q v H') (r : R v) : Q v H' := q _ _ O.hh r

/-! ### items -/
section
variable {H : Hp} {Q : VK} {K : PySem.W.Frag} {a : Addr} {l : List Nat} {ns : List Int} {i : Int}
theorem atI_get {α : Type} {xs : List α} {d : α} (h : 0 ≤ i ∧ i < xs.length) : atI xs i = some (xs.getD i.toNat d) := by
  have e : i = ((i.toNat : Nat) : Int) := (Int.toNat_of_nonneg h.1).symm
  have hl : i.toNat < xs.length := by omega
  have h2 := atI_nat (xs := xs) (j := i.toNat) (v := xs.getD i.toNat d) (by rw [List.getD_eq_getElem?_getD, List.getElem?_eq_getElem hl]; rfl)
  rw [← e] at h2
  exact h2
theorem w_ixN (q : Q (.int (ns.getD i.toNat 0)) H) (hs : SqL K H a (ns.map V.int)) (h : 0 ≤ i ∧ i < ns.length) : rIxL K (.ref a) (.int i) H Q := by
  refine w_ixL q hs ?_
  have h2 := atI_get (xs := ns.map V.int) (d := .int 0) (i := i) (by rw [List.length_map]; exact h)
  rw [h2]
  congr 1
  rw [List.getD_eq_getElem?_getD, List.getD_eq_getElem?_getD, List.getElem?_map]
  cases ns[i.toNat]? <;> rfl
theorem w_ixC (q : Q (vS [l.getD i.toNat 0]) H) (h : 0 ≤ i ∧ i < l.length) (hz : l.length ≤ sizeLine) : rIxSg (vS l) (.int i) H Q := w_ixS q (atI_get h) hz
theorem getD_map_int (ns : List Int) (n : Nat) : (ns.map V.int).getD n (.int 0) = .int (ns.getD n 0) := by
  rw [List.getD_eq_getElem?_getD, List.getD_eq_getElem?_getD, List.getElem?_map]
  cases ns[n]? <;> rfl
theorem getD_mem {α : Type} {xs : List α} {n : Nat} {d : α} (h : n < xs.length) : xs.getD n d ∈ xs := by
  rw [List.getD_eq_getElem?_getD, List.getElem?_eq_getElem h]
  exact List.getElem_mem h
end
end Fw

namespace Fw
open PySem PySem.Spec PyProof.Rows L2
/-! ### the same steps as equations -/
section
variable {nx bk ct : L2.St → Hp → Prop} {rt : VK} {t u tb : TS} {H : Hp} {te ta tc : TE} {Q : VK} {v x y : V} {g : TG} {tt tt' : TT} {tA : TA} {K : PySem.W.Frag} {σs : L2.St}

theorem q_var0 {σ : L2.St} : tVar 0 (some v :: σ) H Q = Q v H := propext ⟨fun ⟨_, e, q⟩ => by cases (show some v = some _ from Option.some.inj e); exact q, fun q => ⟨v, rfl, q⟩⟩
theorem q_asg0 {o : Option V} {σ : L2.St} : tAsg te (gName 0) ⟨nx, rt, bk, ct⟩ (o :: σ) H = te (o :: σ) H fun x H1 => nx (some x :: σ) H1 := rfl
theorem q_gn0 {o : Option V} {σ : L2.St} {R : L2.St → Hp → Prop} : gName 0 v (o :: σ) H R = R (some v :: σ) H := rfl
theorem q_aug0 {f : Int → Int → Int} {a : Int} {σ : L2.St} : tAug 0 te (ipI f) ⟨nx, rt, bk, ct⟩ (some (.int a) :: σ) H = te (some (.int a) :: σ) H fun y H1 => ∃ b, y = .int b ∧ nx (some (.int (f a b)) :: σ) H1 := by
  have e : (fun y H1 => ∃ b, y = V.int b ∧ nx (some (.int (f a b)) :: σ) H1) = (fun y H1 => ipI f (.int a) y H1 fun z H2 => nx (some z :: σ) H2) := by
    funext y H1
    exact propext ⟨fun ⟨b, e1, q⟩ => ⟨a, b, rfl, e1, q⟩, fun ⟨a', b, e0, e1, q⟩ => by cases e0; exact ⟨b, e1, q⟩⟩
  rw [e]
  exact propext ⟨fun ⟨x, e, q⟩ => by cases (show some (V.int a) = some _ from Option.some.inj e); exact q, fun q => ⟨_, rfl, q⟩⟩
theorem q_var1 {x0 : Option V} {σ : L2.St} : tVar 1 (x0 :: some v :: σ) H Q = Q v H := propext ⟨fun ⟨_, e, q⟩ => by cases (show some v = some _ from Option.some.inj e); exact q, fun q => ⟨v, rfl, q⟩⟩
theorem q_asg1 {x0 : Option V} {o : Option V} {σ : L2.St} : tAsg te (gName 1) ⟨nx, rt, bk, ct⟩ (x0 :: o :: σ) H = te (x0 :: o :: σ) H fun x H1 => nx (x0 :: some x :: σ) H1 := rfl
theorem q_gn1 {x0 : Option V} {o : Option V} {σ : L2.St} {R : L2.St → Hp → Prop} : gName 1 v (x0 :: o :: σ) H R = R (x0 :: some v :: σ) H := rfl
theorem q_aug1 {x0 : Option V} {f : Int → Int → Int} {a : Int} {σ : L2.St} : tAug 1 te (ipI f) ⟨nx, rt, bk, ct⟩ (x0 :: some (.int a) :: σ) H = te (x0 :: some (.int a) :: σ) H fun y H1 => ∃ b, y = .int b ∧ nx (x0 :: some (.int (f a b)) :: σ) H1 := by
  have e : (fun y H1 => ∃ b, y = V.int b ∧ nx (x0 :: some (.int (f a b)) :: σ) H1) = (fun y H1 => ipI f (.int a) y H1 fun z H2 => nx (x0 :: some z :: σ) H2) := by
    funext y H1
    exact propext ⟨fun ⟨b, e1, q⟩ => ⟨a, b, rfl, e1, q⟩, fun ⟨a', b, e0, e1, q⟩ => by cases e0; exact ⟨b, e1, q⟩⟩
  rw [e]
  exact propext ⟨fun ⟨x, e, q⟩ => by cases (show some (V.int a) = some _ from Option.some.inj e); exact q, fun q => ⟨_, rfl, q⟩⟩
theorem q_var2 {x0 x1 : Option V} {σ : L2.St} : tVar 2 (x0 :: x1 :: some v :: σ) H Q = Q v H := propext ⟨fun ⟨_, e, q⟩ => by cases (show some v = some _ from Option.some.inj e); exact q, fun q => ⟨v, rfl, q⟩⟩
theorem q_asg2 {x0 x1 : Option V} {o : Option V} {σ : L2.St} : tAsg te (gName 2) ⟨nx, rt, bk, ct⟩ (x0 :: x1 :: o :: σ) H = te (x0 :: x1 :: o :: σ) H fun x H1 => nx (x0 :: x1 :: some x :: σ) H1 := rfl
theorem q_gn2 {x0 x1 : Option V} {o : Option V} {σ : L2.St} {R : L2.St → Hp → Prop} : gName 2 v (x0 :: x1 :: o :: σ) H R = R (x0 :: x1 :: some v :: σ) H := rfl
theorem q_aug2 {x0 x1 : Option V} {f : Int → Int → Int} {a : Int} {σ : L2.St} : tAug 2 te (ipI f) ⟨nx, rt, bk, ct⟩ (x0 :: x1 :: some (.int a) :: σ) H = te (x0 :: x1 :: some (.int a) :: σ) H fun y H1 => ∃ b, y = .int b ∧ nx (x0 :: x1 :: some (.int (f a b)) :: σ) H1 := by
  have e : (fun y H1 => ∃ b, y = V.int b ∧ nx (x0 :: x1 :: some (.int (f a b)) :: σ) H1) = (fun y H1 => ipI f (.int a) y H1 fun z H2 => nx (x0 :: x1 :: some z :: σ) H2) := by
    funext y H1
    exact propext ⟨fun ⟨b, e1, q⟩ => ⟨a, b, rfl, e1, q⟩, fun ⟨a', b, e0, e1, q⟩ => by cases e0; exact ⟨b, e1, q⟩⟩
  rw [e]
  exact propext ⟨fun ⟨x, e, q⟩ => by cases (show some (V.int a) = some _ from Option.some.inj e); exact q, fun q => ⟨_, rfl, q⟩⟩
theorem q_var3 {x0 x1 x2 : Option V} {σ : L2.St} : tVar 3 (x0 :: x1 :: x2 :: some v :: σ) H Q = Q v H := propext ⟨fun ⟨_, e, q⟩ => by cases (show some v = some _ from Option.some.inj e); exact q, fun q => ⟨v, rfl, q⟩⟩
theorem q_asg3 {x0 x1 x2 : Option V} {o : Option V} {σ : L2.St} : tAsg te (gName 3) ⟨nx, rt, bk, ct⟩ (x0 :: x1 :: x2 :: o :: σ) H = te (x0 :: x1 :: x2 :: o :: σ) H fun x H1 => nx (x0 :: x1 :: x2 :: some x :: σ) H1 := rfl
theorem q_gn3 {x0 x1 x2 : Option V} {o : Option V} {σ : L2.St} {R : L2.St → Hp → Prop} : gName 3 v (x0 :: x1 :: x2 :: o :: σ) H R = R (x0 :: x1 :: x2 :: some v :: σ) H := rfl
theorem q_aug3 {x0 x1 x2 : Option V} {f : Int → Int → Int} {a : Int} {σ : L2.St} : tAug 3 te (ipI f) ⟨nx, rt, bk, ct⟩ (x0 :: x1 :: x2 :: some (.int a) :: σ) H = te (x0 :: x1 :: x2 :: some (.int a) :: σ) H fun y H1 => ∃ b, y = .int b ∧ nx (x0 :: x1 :: x2 :: some (.int (f a b)) :: σ) H1 := by
  have e : (fun y H1 => ∃ b, y = V.int b ∧ nx (x0 :: x1 :: x2 :: some (.int (f a b)) :: σ) H1) = (fun y H1 => ipI f (.int a) y H1 fun z H2 => nx (x0 :: x1 :: x2 :: some z :: σ) H2) := by
    funext y H1
    exact propext ⟨fun ⟨b, e1, q⟩ => ⟨a, b, rfl, e1, q⟩, fun ⟨a', b, e0, e1, q⟩ => by cases e0; exact ⟨b, e1, q⟩⟩
  rw [e]
  exact propext ⟨fun ⟨x, e, q⟩ => by cases (show some (V.int a) = some _ from Option.some.inj e); exact q, fun q => ⟨_, rfl, q⟩⟩
theorem q_var4 {x0 x1 x2 x3 : Option V} {σ : L2.St} : tVar 4 (x0 :: x1 :: x2 :: x3 :: some v :: σ) H Q = Q v H := propext ⟨fun ⟨_, e, q⟩ => by cases (show some v = some _ from Option.some.inj e); exact q, fun q => ⟨v, rfl, q⟩⟩
theorem q_asg4 {x0 x1 x2 x3 : Option V} {o : Option V} {σ : L2.St} : tAsg te (gName 4) ⟨nx, rt, bk, ct⟩ (x0 :: x1 :: x2 :: x3 :: o :: σ) H = te (x0 :: x1 :: x2 :: x3 :: o :: σ) H fun x H1 => nx (x0 :: x1 :: x2 :: x3 :: some x :: σ) H1 := rfl
theorem q_gn4 {x0 x1 x2 x3 : Option V} {o : Option V} {σ : L2.St} {R : L2.St → Hp → Prop} : gName 4 v (x0 :: x1 :: x2 :: x3 :: o :: σ) H R = R (x0 :: x1 :: x2 :: x3 :: some v :: σ) H := rfl
theorem q_aug4 {x0 x1 x2 x3 : Option V} {f : Int → Int → Int} {a : Int} {σ : L2.St} : tAug 4 te (ipI f) ⟨nx, rt, bk, ct⟩ (x0 :: x1 :: x2 :: x3 :: some (.int a) :: σ) H = te (x0 :: x1 :: x2 :: x3 :: some (.int a) :: σ) H fun y H1 => ∃ b, y = .int b ∧ nx (x0 :: x1 :: x2 :: x3 :: some (.int (f a b)) :: σ) H1 := by
  have e : (fun y H1 => ∃ b, y = V.int b ∧ nx (x0 :: x1 :: x2 :: x3 :: some (.int (f a b)) :: σ) H1) = (fun y H1 => ipI f (.int a) y H1 fun z H2 => nx (x0 :: x1 :: x2 :: x3 :: some z :: σ) H2) := by
    funext y H1
    exact propext ⟨fun ⟨b, e1, q⟩ => ⟨a, b, rfl, e1, q⟩, fun ⟨a', b, e0, e1, q⟩ => by cases e0; exact ⟨b, e1, q⟩⟩
  rw [e]
  exact propext ⟨fun ⟨x, e, q⟩ => by cases (show some (V.int a) = some _ from Option.some.inj e); exact q, fun q => ⟨_, rfl, q⟩⟩
theorem q_var5 {x0 x1 x2 x3 x4 : Option V} {σ : L2.St} : tVar 5 (x0 :: x1 :: x2 :: x3 :: x4 :: some v :: σ) H Q = Q v H := propext ⟨fun ⟨_, e, q⟩ => by cases (show some v = some _ from Option.some.inj e); exact q, fun q => ⟨v, rfl, q⟩⟩
theorem q_asg5 {x0 x1 x2 x3 x4 : Option V} {o : Option V} {σ : L2.St} : tAsg te (gName 5) ⟨nx, rt, bk, ct⟩ (x0 :: x1 :: x2 :: x3 :: x4 :: o :: σ) H = te (x0 :: x1 :: x2 :: x3 :: x4 :: o :: σ) H fun x H1 => nx (x0 :: x1 :: x2 :: x3 :: x4 :: some x :: σ) H1 := rfl
theorem q_gn5 {x0 x1 x2 x3 x4 : Option V} {o : Option V} {σ : L2.St} {R : L2.St → Hp → Prop} : gName 5 v (x0 :: x1 :: x2 :: x3 :: x4 :: o :: σ) H R = R (x0 :: x1 :: x2 :: x3 :: x4 :: some v :: σ) H := rfl
theorem q_aug5 {x0 x1 x2 x3 x4 : Option V} {f : Int → Int → Int} {a : Int} {σ : L2.St} : tAug 5 te (ipI f) ⟨nx, rt, bk, ct⟩ (x0 :: x1 :: x2 :: x3 :: x4 :: some (.int a) :: σ) H = te (x0 :: x1 :: x2 :: x3 :: x4 :: some (.int a) :: σ) H fun y H1 => ∃ b, y = .int b ∧ nx (x0 :: x1 :: x2 :: x3 :: x4 :: some (.int (f a b)) :: σ) H1 := by
  have e : (fun y H1 => ∃ b, y = V.int b ∧ nx (x0 :: x1 :: x2 :: x3 :: x4 :: some (.int (f a b)) :: σ) H1) = (fun y H1 => ipI f (.int a) y H1 fun z H2 => nx (x0 :: x1 :: x2 :: x3 :: x4 :: some z :: σ) H2) := by
    funext y H1
    exact propext ⟨fun ⟨b, e1, q⟩ => ⟨a, b, rfl, e1, q⟩, fun ⟨a', b, e0, e1, q⟩ => by cases e0; exact ⟨b, e1, q⟩⟩
  rw [e]
  exact propext ⟨fun ⟨x, e, q⟩ => by cases (show some (V.int a) = some _ from Option.some.inj e); exact q, fun q => ⟨_, rfl, q⟩⟩
theorem q_var6 {x0 x1 x2 x3 x4 x5 : Option V} {σ : L2.St} : tVar 6 (x0 :: x1 :: x2 :: x3 :: x4 :: x5 :: some v :: σ) H Q = Q v H := propext ⟨fun ⟨_, e, q⟩ => by cases (show some v = some _ from Option.some.inj e); exact q, fun q => ⟨v, rfl, q⟩⟩
theorem q_asg6 {x0 x1 x2 x3 x4 x5 : Option V} {o : Option V} {σ : L2.St} : tAsg te (gName 6) ⟨nx, rt, bk, ct⟩ (x0 :: x1 :: x2 :: x3 :: x4 :: x5 :: o :: σ) H = te (x0 :: x1 :: x2 :: x3 :: x4 :: x5 :: o :: σ) H fun x H1 => nx (x0 :: x1 :: x2 :: x3 :: x4 :: x5 :: some x :: σ) H1 := rfl
theorem q_gn6 {x0 x1 x2 x3 x4 x5 : Option V} {o : Option V} {σ : L2.St} {R : L2.St → Hp → Prop} : gName 6 v (x0 :: x1 :: x2 :: x3 :: x4 :: x5 :: o :: σ) H R = R (x0 :: x1 :: x2 :: x3 :: x4 :: x5 :: some v :: σ) H := rfl
theorem q_aug6 {x0 x1 x2 x3 x4 x5 : Option V} {f : Int → Int → Int} {a : Int} {σ : L2.St} : tAug 6 te (ipI f) ⟨nx, rt, bk, ct⟩ (x0 :: x1 :: x2 :: x3 :: x4 :: x5 :: some (.int a) :: σ) H = te (x0 :: x1 :: x2 :: x3 :: x4 :: x5 :: some (.int a) :: σ) H fun y H1 => ∃ b, y = .int b ∧ nx (x0 :: x1 :: x2 :: x3 :: x4 :: x5 :: some (.int (f a b)) :: σ) H1 := by
  have e : (fun y H1 => ∃ b, y = V.int b ∧ nx (x0 :: x1 :: x2 :: x3 :: x4 :: x5 :: some (.int (f a b)) :: σ) H1) = (fun y H1 => ipI f (.int a) y H1 fun z H2 => nx (x0 :: x1 :: x2 :: x3 :: x4 :: x5 :: some z :: σ) H2) := by
    funext y H1
    exact propext ⟨fun ⟨b, e1, q⟩ => ⟨a, b, rfl, e1, q⟩, fun ⟨a', b, e0, e1, q⟩ => by cases e0; exact ⟨b, e1, q⟩⟩
  rw [e]
  exact propext ⟨fun ⟨x, e, q⟩ => by cases (show some (V.int a) = some _ from Option.some.inj e); exact q, fun q => ⟨_, rfl, q⟩⟩
theorem q_var7 {x0 x1 x2 x3 x4 x5 x6 : Option V} {σ : L2.St} : tVar 7 (x0 :: x1 :: x2 :: x3 :: x4 :: x5 :: x6 :: some v :: σ) H Q = Q v H := propext ⟨fun ⟨_, e, q⟩ => by cases (show some v = some _ from Option.some.inj e); exact q, fun q => ⟨v, rfl, q⟩⟩
theorem q_asg7 {x0 x1 x2 x3 x4 x5 x6 : Option V} {o : Option V} {σ : L2.St} : tAsg te (gName 7) ⟨nx, rt, bk, ct⟩ (x0 :: x1 :: x2 :: x3 :: x4 :: x5 :: x6 :: o :: σ) H = te (x0 :: x1 :: x2 :: x3 :: x4 :: x5 :: x6 :: o :: σ) H fun x H1 => nx (x0 :: x1 :: x2 :: x3 :: x4 :: x5 :: x6 :: some x :: σ) H1 := rfl
theorem q_gn7 {x0 x1 x2 x3 x4 x5 x6 : Option V} {o : Option V} {σ : L2.St} {R : L2.St → Hp → Prop} : gName 7 v (x0 :: x1 :: x2 :: x3 :: x4 :: x5 :: x6 :: o :: σ) H R = R (x0 :: x1 :: x2 :: x3 :: x4 :: x5 :: x6 :: some v :: σ) H := rfl
theorem q_aug7 {x0 x1 x2 x3 x4 x5 x6 : Option V} {f : Int → Int → Int} {a : Int} {σ : L2.St} : tAug 7 te (ipI f) ⟨nx, rt, bk, ct⟩ (x0 :: x1 :: x2 :: x3 :: x4 :: x5 :: x6 :: some (.int a) :: σ) H = te (x0 :: x1 :: x2 :: x3 :: x4 :: x5 :: x6 :: some (.int a) :: σ) H fun y H1 => ∃ b, y = .int b ∧ nx (x0 :: x1 :: x2 :: x3 :: x4 :: x5 :: x6 :: some (.int (f a b)) :: σ) H1 := by
  have e : (fun y H1 => ∃ b, y = V.int b ∧ nx (x0 :: x1 :: x2 :: x3 :: x4 :: x5 :: x6 :: some (.int (f a b)) :: σ) H1) = (fun y H1 => ipI f (.int a) y H1 fun z H2 => nx (x0 :: x1 :: x2 :: x3 :: x4 :: x5 :: x6 :: some z :: σ) H2) := by
    funext y H1
    exact propext ⟨fun ⟨b, e1, q⟩ => ⟨a, b, rfl, e1, q⟩, fun ⟨a', b, e0, e1, q⟩ => by cases e0; exact ⟨b, e1, q⟩⟩
  rw [e]
  exact propext ⟨fun ⟨x, e, q⟩ => by cases (show some (V.int a) = some _ from Option.some.inj e); exact q, fun q => ⟨_, rfl, q⟩⟩
theorem q_var8 {x0 x1 x2 x3 x4 x5 x6 x7 : Option V} {σ : L2.St} : tVar 8 (x0 :: x1 :: x2 :: x3 :: x4 :: x5 :: x6 :: x7 :: some v :: σ) H Q = Q v H := propext ⟨fun ⟨_, e, q⟩ => by cases (show some v = some _ from Option.some.inj e); exact q, fun q => ⟨v, rfl, q⟩⟩
theorem q_asg8 {x0 x1 x2 x3 x4 x5 x6 x7 : Option V} {o : Option V} {σ : L2.St} : tAsg te (gName 8) ⟨nx, rt, bk, ct⟩ (x0 :: x1 :: x2 :: x3 :: x4 :: x5 :: x6 :: x7 :: o :: σ) H = te (x0 :: x1 :: x2 :: x3 :: x4 :: x5 :: x6 :: x7 :: o :: σ) H fun x H1 => nx (x0 :: x1 :: x2 :: x3 :: x4 :: x5 :: x6 :: x7 :: some x :: σ) H1 := rfl
theorem q_gn8 {x0 x1 x2 x3 x4 x5 x6 x7 : Option V} {o : Option V} {σ : L2.St} {R : L2.St → Hp → Prop} : gName 8 v (x0 :: x1 :: x2 :: x3 :: x4 :: x5 :: x6 :: x7 :: o :: σ) H R = R (x0 :: x1 :: x2 :: x3 :: x4 :: x5 :: x6 :: x7 :: some v :: σ) H := rfl
theorem q_aug8 {x0 x1 x2 x3 x4 x5 x6 x7 : Option V} {f : Int → Int → Int} {a : Int} {σ : L2.St} : tAug 8 te (ipI f) ⟨nx, rt, bk, ct⟩ (x0 :: x1 :: x2 :: x3 :: x4 :: x5 :: x6 :: x7 :: some (.int a) :: σ) H = te (x0 :: x1 :: x2 :: x3 :: x4 :: x5 :: x6 :: x7 :: some (.int a) :: σ) H fun y H1 => ∃ b, y = .int b ∧ nx (x0 :: x1 :: x2 :: x3 :: x4 :: x5 :: x6 :: x7 :: some (.int (f a b)) :: σ) H1 := by
  have e : (fun y H1 => ∃ b, y = V.int b ∧ nx (x0 :: x1 :: x2 :: x3 :: x4 :: x5 :: x6 :: x7 :: some (.int (f a b)) :: σ) H1) = (fun y H1 => ipI f (.int a) y H1 fun z H2 => nx (x0 :: x1 :: x2 :: x3 :: x4 :: x5 :: x6 :: x7 :: some z :: σ) H2) := by
    funext y H1
    exact propext ⟨fun ⟨b, e1, q⟩ => ⟨a, b, rfl, e1, q⟩, fun ⟨a', b, e0, e1, q⟩ => by cases e0; exact ⟨b, e1, q⟩⟩
  rw [e]
  exact propext ⟨fun ⟨x, e, q⟩ => by cases (show some (V.int a) = some _ from Option.some.inj e); exact q, fun q => ⟨_, rfl, q⟩⟩
theorem q_var9 {x0 x1 x2 x3 x4 x5 x6 x7 x8 : Option V} {σ : L2.St} : tVar 9 (x0 :: x1 :: x2 :: x3 :: x4 :: x5 :: x6 :: x7 :: x8 :: some v :: σ) H Q = Q v H := propext ⟨fun ⟨_, e, q⟩ => by cases (show some v = some _ from Option.some.inj e); exact q, fun q => ⟨v, rfl, q⟩⟩
theorem q_asg9 {x0 x1 x2 x3 x4 x5 x6 x7 x8 : Option V} {o : Option V} {σ : L2.St} : tAsg te (gName 9) ⟨nx, rt, bk, ct⟩ (x0 :: x1 :: x2 :: x3 :: x4 :: x5 :: x6 :: x7 :: x8 :: o :: σ) H = te (x0 :: x1 :: x2 :: x3 :: x4 :: x5 :: x6 :: x7 :: x8 :: o :: σ) H fun x H1 => nx (x0 :: x1 :: x2 :: x3 :: x4 :: x5 :: x6 :: x7 :: x8 :: some x :: σ) H1 := rfl
theorem q_gn9 {x0 x1 x2 x3 x4 x5 x6 x7 x8 : Option V} {o : Option V} {σ : L2.St} {R : L2.St → Hp → Prop} : gName 9 v (x0 :: x1 :: x2 :: x3 :: x4 :: x5 :: x6 :: x7 :: x8 :: o :: σ) H R = R (x0 :: x1 :: x2 :: x3 :: x4 :: x5 :: x6 :: x7 :: x8 :: some v :: σ) H := rfl
theorem q_aug9 {x0 x1 x2 x3 x4 x5 x6 x7 x8 : Option V} {f : Int → Int → Int} {a : Int} {σ : L2.St} : tAug 9 te (ipI f) ⟨nx, rt, bk, ct⟩ (x0 :: x1 :: x2 :: x3 :: x4 :: x5 :: x6 :: x7 :: x8 :: some (.int a) :: σ) H = te (x0 :: x1 :: x2 :: x3 :: x4 :: x5 :: x6 :: x7 :: x8 :: some (.int a) :: σ) H fun y H1 => ∃ b, y = .int b ∧ nx (x0 :: x1 :: x2 :: x3 :: x4 :: x5 :: x6 :: x7 :: x8 :: some (.int (f a b)) :: σ) H1 := by
  have e : (fun y H1 => ∃ b, y = V.int b ∧ nx (x0 :: x1 :: x2 :: x3 :: x4 :: x5 :: x6 :: x7 :: x8 :: some (.int (f a b)) :: σ) H1) = (fun y H1 => ipI f (.int a) y H1 fun z H2 => nx (x0 :: x1 :: x2 :: x3 :: x4 :: x5 :: x6 :: x7 :: x8 :: some z :: σ) H2) := by
    funext y H1
    exact propext ⟨fun ⟨b, e1, q⟩ => ⟨a, b, rfl, e1, q⟩, fun ⟨a', b, e0, e1, q⟩ => by cases e0; exact ⟨b, e1, q⟩⟩
  rw [e]
  exact propext ⟨fun ⟨x, e, q⟩ => by cases (show some (V.int a) = some _ from Option.some.inj e); exact q, fun q => ⟨_, rfl, q⟩⟩
theorem q_var10 {x0 x1 x2 x3 x4 x5 x6 x7 x8 x9 : Option V} {σ : L2.St} : tVar 10 (x0 :: x1 :: x2 :: x3 :: x4 :: x5 :: x6 :: x7 :: x8 :: x9 :: some v :: σ) H Q = Q v H := propext ⟨fun ⟨_, e, q⟩ => by cases (show some v = some _ from Option.some.inj e); exact q, fun q => ⟨v, rfl, q⟩⟩
theorem q_asg10 {x0 x1 x2 x3 x4 x5 x6 x7 x8 x9 : Option V} {o : Option V} {σ : L2.St} : tAsg te (gName 10) ⟨nx, rt, bk, ct⟩ (x0 :: x1 :: x2 :: x3 :: x4 :: x5 :: x6 :: x7 :: x8 :: x9 :: o :: σ) H = te (x0 :: x1 :: x2 :: x3 :: x4 :: x5 :: x6 :: x7 :: x8 :: x9 :: o :: σ) H fun x H1 => nx (x0 :: x1 :: x2 :: x3 :: x4 :: x5 :: x6 :: x7 :: x8 :: x9 :: some x :: σ) H1 := rfl
theorem q_gn10 {x0 x1 x2 x3 x4 x5 x6 x7 x8 x9 : Option V} {o : Option V} {σ : L2.St} {R : L2.St → Hp → Prop} : gName 10 v (x0 :: x1 :: x2 :: x3 :: x4 :: x5 :: x6 :: x7 :: x8 :: x9 :: o :: σ) H R = R (x0 :: x1 :: x2 :: x3 :: x4 :: x5 :: x6 :: x7 :: x8 :: x9 :: some v :: σ) H := rfl
theorem q_aug10 {x0 x1 x2 x3 x4 x5 x6 x7 x8 x9 : Option V} {f : Int → Int → Int} {a : Int} {σ : L2.St} : tAug 10 te (ipI f) ⟨nx, rt, bk, ct⟩ (x0 :: x1 :: x2 :: x3 :: x4 :: x5 :: x6 :: x7 :: x8 :: x9 :: some (.int a) :: σ) H = te (x0 :: x1 :: x2 :: x3 :: x4 :: x5 :: x6 :: x7 :: x8 :: x9 :: some (.int a) :: σ) H fun y H1 => ∃ b, y = .int b ∧ nx (x0 :: x1 :: x2 :: x3 :: x4 :: x5 :: x6 :: x7 :: x8 :: x9 :: some (.int (f a b)) :: σ) H1 := by
  have e : (fun y H1 => ∃ b, y = V.int b ∧ nx (x0 :: x1 :: x2 :: x3 :: x4 :: x5 :: x6 :: x7 :: x8 :: x9 :: some (.int (f a b)) :: σ) H1) = (fun y H1 => ipI f (.int a) y H1 fun z H2 => nx (x0 :: x1 :: x2 :: x3 :: x4 :: x5 :: x6 :: x7 :: x8 :: x9 :: some z :: σ) H2) := by
    funext y H1
    exact propext ⟨fun ⟨b, e1, q⟩ => ⟨a, b, rfl, e1, q⟩, fun ⟨a', b, e0, e1, q⟩ => by cases e0; exact ⟨b, e1, q⟩⟩
  rw [e]
  exact propext ⟨fun ⟨x, e, q⟩ => by cases (show some (V.int a) = some _ from Option.some.inj e); exact q, fun q => ⟨_, rfl, q⟩⟩
theorem q_var11 {x0 x1 x2 x3 x4 x5 x6 x7 x8 x9 x10 : Option V} {σ : L2.St} : tVar 11 (x0 :: x1 :: x2 :: x3 :: x4 :: x5 :: x6 :: x7 :: x8 :: x9 :: x10 :: some v :: σ) H Q = Q v H := propext ⟨fun ⟨_, e, q⟩ => by cases (show some v = some _ from Option.some.inj e); exact q, fun q => ⟨v, rfl, q⟩⟩
theorem q_asg11 {x0 x1 x2 x3 x4 x5 x6 x7 x8 x9 x10 : Option V} {o : Option V} {σ : L2.St} : tAsg te (gName 11) ⟨nx, rt, bk, ct⟩ (x0 :: x1 :: x2 :: x3 :: x4 :: x5 :: x6 :: x7 :: x8 :: x9 :: x10 :: o :: σ) H = te (x0 :: x1 :: x2 :: x3 :: x4 :: x5 :: x6 :: x7 :: x8 :: x9 :: x10 :: o :: σ) H fun x H1 => nx (x0 :: x1 :: x2 :: x3 :: x4 :: x5 :: x6 :: x7 :: x8 :: x9 :: x10 :: some x :: σ) H1 := rfl
theorem q_gn11 {x0 x1 x2 x3 x4 x5 x6 x7 x8 x9 x10 : Option V} {o : Option V} {σ : L2.St} {R : L2.St → Hp → Prop} : gName 11 v (x0 :: x1 :: x2 :: x3 :: x4 :: x5 :: x6 :: x7 :: x8 :: x9 :: x10 :: o :: σ) H R = R (x0 :: x1 :: x2 :: x3 :: x4 :: x5 :: x6 :: x7 :: x8 :: x9 :: x10 :: some v :: σ) H := rfl
theorem q_aug11 {x0 x1 x2 x3 x4 x5 x6 x7 x8 x9 x10 : Option V} {f : Int → Int → Int} {a : Int} {σ : L2.St} : tAug 11 te (ipI f) ⟨nx, rt, bk, ct⟩ (x0 :: x1 :: x2 :: x3 :: x4 :: x5 :: x6 :: x7 :: x8 :: x9 :: x10 :: some (.int a) :: σ) H = te (x0 :: x1 :: x2 :: x3 :: x4 :: x5 :: x6 :: x7 :: x8 :: x9 :: x10 :: some (.int a) :: σ) H fun y H1 => ∃ b, y = .int b ∧ nx (x0 :: x1 :: x2 :: x3 :: x4 :: x5 :: x6 :: x7 :: x8 :: x9 :: x10 :: some (.int (f a b)) :: σ) H1 := by
  have e : (fun y H1 => ∃ b, y = V.int b ∧ nx (x0 :: x1 :: x2 :: x3 :: x4 :: x5 :: x6 :: x7 :: x8 :: x9 :: x10 :: some (.int (f a b)) :: σ) H1) = (fun y H1 => ipI f (.int a) y H1 fun z H2 => nx (x0 :: x1 :: x2 :: x3 :: x4 :: x5 :: x6 :: x7 :: x8 :: x9 :: x10 :: some z :: σ) H2) := by
    funext y H1
    exact propext ⟨fun ⟨b, e1, q⟩ => ⟨a, b, rfl, e1, q⟩, fun ⟨a', b, e0, e1, q⟩ => by cases e0; exact ⟨b, e1, q⟩⟩
  rw [e]
  exact propext ⟨fun ⟨x, e, q⟩ => by cases (show some (V.int a) = some _ from Option.some.inj e); exact q, fun q => ⟨_, rfl, q⟩⟩
theorem q_var12 {x0 x1 x2 x3 x4 x5 x6 x7 x8 x9 x10 x11 : Option V} {σ : L2.St} : tVar 12 (x0 :: x1 :: x2 :: x3 :: x4 :: x5 :: x6 :: x7 :: x8 :: x9 :: x10 :: x11 :: some v :: σ) H Q = Q v H := propext ⟨fun ⟨_, e, q⟩ => by cases (show some v = some _ from Option.some.inj e); exact q, fun q => ⟨v, rfl, q⟩⟩
theorem q_asg12 {x0 x1 x2 x3 x4 x5 x6 x7 x8 x9 x10 x11 : Option V} {o : Option V} {σ : L2.St} : tAsg te (gName 12) ⟨nx, rt, bk, ct⟩ (x0 :: x1 :: x2 :: x3 :: x4 :: x5 :: x6 :: x7 :: x8 :: x9 :: x10 :: x11 :: o :: σ) H = te (x0 :: x1 :: x2 :: x3 :: x4 :: x5 :: x6 :: x7 :: x8 :: x9 :: x10 :: x11 :: o :: σ) H fun x H1 => nx (x0 :: x1 :: x2 :: x3 :: x4 :: x5 :: x6 :: x7 :: x8 :: x9 :: x10 :: x11 :: some x :: σ) H1 := rfl
theorem q_gn12 {x0 x1 x2 x3 x4 x5 x6 x7 x8 x9 x10 x11 : Option V} {o : Option V} {σ : L2.St} {R : L2.St → Hp → Prop} : gName 12 v (x0 :: x1 :: x2 :: x3 :: x4 :: x5 :: x6 :: x7 :: x8 :: x9 :: x10 :: x11 :: o :: σ) H R = R (x0 :: x1 :: x2 :: x3 :: x4 :: x5 :: x6 :: x7 :: x8 :: x9 :: x10 :: x11 :: some v :: σ) H := rfl
theorem q_aug12 {x0 x1 x2 x3 x4 x5 x6 x7 x8 x9 x10 x11 : Option V} {f : Int → Int → Int} {a : Int} {σ : L2.St} : tAug 12 te (ipI f) ⟨nx, rt, bk, ct⟩ (x0 :: x1 :: x2 :: x3 :: x4 :: x5 :: x6 :: x7 :: x8 :: x9 :: x10 :: x11 :: some (.int a) :: σ) H = te (x0 :: x1 :: x2 :: x3 :: x4 :: x5 :: x6 :: x7 :: x8 :: x9 :: x10 :: x11 :: some (.int a) :: σ) H fun y H1 => ∃ b, y = .int b ∧ nx (x0 :: x1 :: x2 :: x3 :: x4 :: x5 :: x6 :: x7 :: x8 :: x9 :: x10 :: x11 :: some (.int (f a b)) :: σ) H1 := by
  have e : (fun y H1 => ∃ b, y = V.int b ∧ nx (x0 :: x1 :: x2 :: x3 :: x4 :: x5 :: x6 :: x7 :: x8 :: x9 :: x10 :: x11 :: some (.int (f a b)) :: σ) H1) = (fun y H1 => ipI f (.int a) y H1 fun z H2 => nx (x0 :: x1 :: x2 :: x3 :: x4 :: x5 :: x6 :: x7 :: x8 :: x9 :: x10 :: x11 :: some z :: σ) H2) := by
    funext y H1
    exact propext ⟨fun ⟨b, e1, q⟩ => ⟨a, b, rfl, e1, q⟩, fun ⟨a', b, e0, e1, q⟩ => by cases e0; exact ⟨b, e1, q⟩⟩
  rw [e]
  exact propext ⟨fun ⟨x, e, q⟩ => by cases (show some (V.int a) = some _ from Option.some.inj e); exact q, fun q => ⟨_, rfl, q⟩⟩
theorem q_var13 {x0 x1 x2 x3 x4 x5 x6 x7 x8 x9 x10 x11 x12 : Option V} {σ : L2.St} : tVar 13 (x0 :: x1 :: x2 :: x3 :: x4 :: x5 :: x6 :: x7 :: x8 :: x9 :: x10 :: x11 :: x12 :: some v :: σ) H Q = Q v H := propext ⟨fun ⟨_, e, q⟩ => by cases (show some v = some _ from Option.some.inj e); exact q, fun q => ⟨v, rfl, q⟩⟩
theorem q_asg13 {x0 x1 x2 x3 x4 x5 x6 x7 x8 x9 x10 x11 x12 : Option V} {o : Option V} {σ : L2.St} : tAsg te (gName 13) ⟨nx, rt, bk, ct⟩ (x0 :: x1 :: x2 :: x3 :: x4 :: x5 :: x6 :: x7 :: x8 :: x9 :: x10 :: x11 :: x12 :: o :: σ) H = te (x0 :: x1 :: x2 :: x3 :: x4 :: x5 :: x6 :: x7 :: x8 :: x9 :: x10 :: x11 :: x12 :: o :: σ) H fun x H1 => nx (x0 :: x1 :: x2 :: x3 :: x4 :: x5 :: x6 :: x7 :: x8 :: x9 :: x10 :: x11 :: x12 :: some x :: σ) H1 := rfl
theorem q_gn13 {x0 x1 x2 x3 x4 x5 x6 x7 x8 x9 x10 x11 x12 : Option V} {o : Option V} {σ : L2.St} {R : L2.St → Hp → Prop} : gName 13 v (x0 :: x1 :: x2 :: x3 :: x4 :: x5 :: x6 :: x7 :: x8 :: x9 :: x10 :: x11 :: x12 :: o :: σ) H R = R (x0 :: x1 :: x2 :: x3 :: x4 :: x5 :: x6 :: x7 :: x8 :: x9 :: x10 :: x11 :: x12 :: some v :: σ) H := rfl
theorem q_aug13 {x0 x1 x2 x3 x4 x5 x6 x7 x8 x9 x10 x11 x12 : Option V} {f : Int → Int → Int} {a : Int} {σ : L2.St} : tAug 13 te (ipI f) ⟨nx, rt, bk, ct⟩ (x0 :: x1 :: x2 :: x3 :: x4 :: x5 :: x6 :: x7 :: x8 :: x9 :: x10 :: x11 :: x12 :: some (.int a) :: σ) H = te (x0 :: x1 :: x2 :: x3 :: x4 :: x5 :: x6 :: x7 :: x8 :: x9 :: x10 :: x11 :: x12 :: some (.int a) :: σ) H fun y H1 => ∃ b, y = .int b ∧ nx (x0 :: x1 :: x2 :: x3 :: x4 :: x5 :: x6 :: x7 :: x8 :: x9 :: x10 :: x11 :: x12 :: some (.int (f a b)) :: σ) H1 := by
  have e : (fun y H1 => ∃ b, y = V.int b ∧ nx (x0 :: x1 :: x2 :: x3 :: x4 :: x5 :: x6 :: x7 :: x8 :: x9 :: x10 :: x11 :: x12 :: some (.int (f a b)) :: σ) H1) = (fun y H1 => ipI f (.int a) y H1 fun z H2 => nx (x0 :: x1 :: x2 :: x3 :: x4 :: x5 :: x6 :: x7 :: x8 :: x9 :: x10 :: x11 :: x12 :: some z :: σ) H2) := by
    funext y H1
    exact propext ⟨fun ⟨b, e1, q⟩ => ⟨a, b, rfl, e1, q⟩, fun ⟨a', b, e0, e1, q⟩ => by cases e0; exact ⟨b, e1, q⟩⟩
  rw [e]
  exact propext ⟨fun ⟨x, e, q⟩ => by cases (show some (V.int a) = some _ from Option.some.inj e); exact q, fun q => ⟨_, rfl, q⟩⟩
theorem q_var14 {x0 x1 x2 x3 x4 x5 x6 x7 x8 x9 x10 x11 x12 x13 : Option V} {σ : L2.St} : tVar 14 (x0 :: x1 :: x2 :: x3 :: x4 :: x5 :: x6 :: x7 :: x8 :: x9 :: x10 :: x11 :: x12 :: x13 :: some v :: σ) H Q = Q v H := propext ⟨fun ⟨_, e, q⟩ => by cases (show some v = some _ from Option.some.inj e); exact q, fun q => ⟨v, rfl, q⟩⟩
theorem q_asg14 {x0 x1 x2 x3 x4 x5 x6 x7 x8 x9 x10 x11 x12 x13 : Option V} {o : Option V} {σ : L2.St} : tAsg te (gName 14) ⟨nx, rt, bk, ct⟩ (x0 :: x1 :: x2 :: x3 :: x4 :: x5 :: x6 :: x7 :: x8 :: x9 :: x10 :: x11 :: x12 :: x13 :: o :: σ) H = te (x0 :: x1 :: x2 :: x3 :: x4 :: x5 :: x6 :: x7 :: x8 :: x9 :: x10 :: x11 :: x12 :: x13 :: o :: σ) H fun x H1 => nx (x0 :: x1 :: x2 :: x3 :: x4 :: x5 :: x6 :: x7 :: x8 :: x9 :: x10 :: x11 :: x12 :: x13 :: some x :: σ) H1 := rfl
theorem q_gn14 {x0 x1 x2 x3 x4 x5 x6 x7 x8 x9 x10 x11 x12 x13 : Option V} {o : Option V} {σ : L2.St} {R : L2.St → Hp → Prop} : gName 14 v (x0 :: x1 :: x2 :: x3 :: x4 :: x5 :: x6 :: x7 :: x8 :: x9 :: x10 :: x11 :: x12 :: x13 :: o :: σ) H R = R (x0 :: x1 :: x2 :: x3 :: x4 :: x5 :: x6 :: x7 :: x8 :: x9 :: x10 :: x11 :: x12 :: x13 :: some v :: σ) H := rfl
theorem q_aug14 {x0 x1 x2 x3 x4 x5 x6 x7 x8 x9 x10 x11 x12 x13 : Option V} {f : Int → Int → Int} {a : Int} {σ : L2.St} : tAug 14 te (ipI f) ⟨nx, rt, bk, ct⟩ (x0 :: x1 :: x2 :: x3 :: x4 :: x5 :: x6 :: x7 :: x8 :: x9 :: x10 :: x11 :: x12 :: x13 :: some (.int a) :: σ) H = te (x0 :: x1 :: x2 :: x3 :: x4 :: x5 :: x6 :: x7 :: x8 :: x9 :: x10 :: x11 :: x12 :: x13 :: some (.int a) :: σ) H fun y H1 => ∃ b, y = .int b ∧ nx (x0 :: x1 :: x2 :: x3 :: x4 :: x5 :: x6 :: x7 :: x8 :: x9 :: x10 :: x11 :: x12 :: x13 :: some (.int (f a b)) :: σ) H1 := by
  have e : (fun y H1 => ∃ b, y = V.int b ∧ nx (x0 :: x1 :: x2 :: x3 :: x4 :: x5 :: x6 :: x7 :: x8 :: x9 :: x10 :: x11 :: x12 :: x13 :: some (.int (f a b)) :: σ) H1) = (fun y H1 => ipI f (.int a) y H1 fun z H2 => nx (x0 :: x1 :: x2 :: x3 :: x4 :: x5 :: x6 :: x7 :: x8 :: x9 :: x10 :: x11 :: x12 :: x13 :: some z :: σ) H2) := by
    funext y H1
    exact propext ⟨fun ⟨b, e1, q⟩ => ⟨a, b, rfl, e1, q⟩, fun ⟨a', b, e0, e1, q⟩ => by cases e0; exact ⟨b, e1, q⟩⟩
  rw [e]
  exact propext ⟨fun ⟨x, e, q⟩ => by cases (show some (V.int a) = some _ from Option.some.inj e); exact q, fun q => ⟨_, rfl, q⟩⟩
theorem q_var15 {x0 x1 x2 x3 x4 x5 x6 x7 x8 x9 x10 x11 x12 x13 x14 : Option V} {σ : L2.St} : tVar 15 (x0 :: x1 :: x2 :: x3 :: x4 :: x5 :: x6 :: x7 :: x8 :: x9 :: x10 :: x11 :: x12 :: x13 :: x14 :: some v :: σ) H Q = Q v H := propext ⟨fun ⟨_, e, q⟩ => by cases (show some v = some _ from Option.some.inj e); exact q, fun q => ⟨v, rfl, q⟩⟩
theorem q_asg15 {x0 x1 x2 x3 x4 x5 x6 x7 x8 x9 x10 x11 x12 x13 x14 : Option V} {o : Option V} {σ : L2.St} : tAsg te (gName 15) ⟨nx, rt, bk, ct⟩ (x0 :: x1 :: x2 :: x3 :: x4 :: x5 :: x6 :: x7 :: x8 :: x9 :: x10 :: x11 :: x12 :: x13 :: x14 :: o :: σ) H = te (x0 :: x1 :: x2 :: x3 :: x4 :: x5 :: x6 :: x7 :: x8 :: x9 :: x10 :: x11 :: x12 :: x13 :: x14 :: o :: σ) H fun x H1 => nx (x0 :: x1 :: x2 :: x3 :: x4 :: x5 :: x6 :: x7 :: x8 :: x9 :: x10 :: x11 :: x12 :: x13 :: x14 :: some x :: σ) H1 := rfl
theorem q_gn15 {x0 x1 x2 x3 x4 x5 x6 x7 x8 x9 x10 x11 x12 x13 x14 : Option V} {o : Option V} {σ : L2.St} {R : L2.St → Hp → Prop} : gName 15 v (x0 :: x1 :: x2 :: x3 :: x4 :: x5 :: x6 :: x7 :: x8 :: x9 :: x10 :: x11 :: x12 :: x13 :: x14 :: o :: σ) H R = R (x0 :: x1 :: x2 :: x3 :: x4 :: x5 :: x6 :: x7 :: x8 :: x9 :: x10 :: x11 :: x12 :: x13 :: x14 :: some v :: σ) H := rfl
theorem q_aug15 {x0 x1 x2 x3 x4 x5 x6 x7 x8 x9 x10 x11 x12 x13 x14 : Option V} {f : Int → Int → Int} {a : Int} {σ : L2.St} : tAug 15 te (ipI f) ⟨nx, rt, bk, ct⟩ (x0 :: x1 :: x2 :: x3 :: x4 :: x5 :: x6 :: x7 :: x8 :: x9 :: x10 :: x11 :: x12 :: x13 :: x14 :: some (.int a) :: σ) H = te (x0 :: x1 :: x2 :: x3 :: x4 :: x5 :: x6 :: x7 :: x8 :: x9 :: x10 :: x11 :: x12 :: x13 :: x14 :: some (.int a) :: σ) H fun y H1 => ∃ b, y = .int b ∧ nx (x0 :: x1 :: x2 :: x3 :: x4 :: x5 :: x6 :: x7 :: x8 :: x9 :: x10 :: x11 :: x12 :: x13 :: x14 :: some (.int (f a b)) :: σ) H1 := by
  have e : (fun y H1 => ∃ b, y = V.int b ∧ nx (x0 :: x1 :: x2 :: x3 :: x4 :: x5 :: x6 :: x7 :: x8 :: x9 :: x10 :: x11 :: x12 :: x13 :: x14 :: some (.int (f a b)) :: σ) H1) = (fun y H1 => ipI f (.int a) y H1 fun z H2 => nx (x0 :: x1 :: x2 :: x3 :: x4 :: x5 :: x6 :: x7 :: x8 :: x9 :: x10 :: x11 :: x12 :: x13 :: x14 :: some z :: σ) H2) := by
    funext y H1
    exact propext ⟨fun ⟨b, e1, q⟩ => ⟨a, b, rfl, e1, q⟩, fun ⟨a', b, e0, e1, q⟩ => by cases e0; exact ⟨b, e1, q⟩⟩
  rw [e]
  exact propext ⟨fun ⟨x, e, q⟩ => by cases (show some (V.int a) = some _ from Option.some.inj e); exact q, fun q => ⟨_, rfl, q⟩⟩
theorem q_var16 {x0 x1 x2 x3 x4 x5 x6 x7 x8 x9 x10 x11 x12 x13 x14 x15 : Option V} {σ : L2.St} : tVar 16 (x0 :: x1 :: x2 :: x3 :: x4 :: x5 :: x6 :: x7 :: x8 :: x9 :: x10 :: x11 :: x12 :: x13 :: x14 :: x15 :: some v :: σ) H Q = Q v H := propext ⟨fun ⟨_, e, q⟩ => by cases (show some v = some _ from Option.some.inj e); exact q, fun q => ⟨v, rfl, q⟩⟩
theorem q_asg16 {x0 x1 x2 x3 x4 x5 x6 x7 x8 x9 x10 x11 x12 x13 x14 x15 : Option V} {o : Option V} {σ : L2.St} : tAsg te (gName 16) ⟨nx, rt, bk, ct⟩ (x0 :: x1 :: x2 :: x3 :: x4 :: x5 :: x6 :: x7 :: x8 :: x9 :: x10 :: x11 :: x12 :: x13 :: x14 :: x15 :: o :: σ) H = te (x0 :: x1 :: x2 :: x3 :: x4 :: x5 :: x6 :: x7 :: x8 :: x9 :: x10 :: x11 :: x12 :: x13 :: x14 :: x15 :: o :: σ) H fun x H1 => nx (x0 :: x1 :: x2 :: x3 :: x4 :: x5 :: x6 :: x7 :: x8 :: x9 :: x10 :: x11 :: x12 :: x13 :: x14 :: x15 :: some x :: σ) H1 := rfl
theorem q_gn16 {x0 x1 x2 x3 x4 x5 x6 x7 x8 x9 x10 x11 x12 x13 x14 x15 : Option V} {o : Option V} {σ : L2.St} {R : L2.St → Hp → Prop} : gName 16 v (x0 :: x1 :: x2 :: x3 :: x4 :: x5 :: x6 :: x7 :: x8 :: x9 :: x10 :: x11 :: x12 :: x13 :: x14 :: x15 :: o :: σ) H R = R (x0 :: x1 :: x2 :: x3 :: x4 :: x5 :: x6 :: x7 :: x8 :: x9 :: x10 :: x11 :: x12 :: x13 :: x14 :: x15 :: some v :: σ) H := rfl
theorem q_aug16 {x0 x1 x2 x3 x4 x5 x6 x7 x8 x9 x10 x11 x12 x13 x14 x15 : Option V} {f : Int → Int → Int} {a : Int} {σ : L2.St} : tAug 16 te (ipI f) ⟨nx, rt, bk, ct⟩ (x0 :: x1 :: x2 :: x3 :: x4 :: x5 :: x6 :: x7 :: x8 :: x9 :: x10 :: x11 :: x12 :: x13 :: x14 :: x15 :: some (.int a) :: σ) H = te (x0 :: x1 :: x2 :: x3 :: x4 :: x5 :: x6 :: x7 :: x8 :: x9 :: x10 :: x11 :: x12 :: x13 :: x14 :: x15 :: some (.int a) :: σ) H fun y H1 => ∃ b, y = .int b ∧ nx (x0 :: x1 :: x2 :: x3 :: x4 :: x5 :: x6 :: x7 :: x8 :: x9 :: x10 :: x11 :: x12 :: x13 :: x14 :: x15 :: some (.int (f a b)) :: σ) H1 := by
  have e : (fun y H1 => ∃ b, y = V.int b ∧ nx (x0 :: x1 :: x2 :: x3 :: x4 :: x5 :: x6 :: x7 :: x8 :: x9 :: x10 :: x11 :: x12 :: x13 :: x14 :: x15 :: some (.int (f a b)) :: σ) H1) = (fun y H1 => ipI f (.int a) y H1 fun z H2 => nx (x0 :: x1 :: x2 :: x3 :: x4 :: x5 :: x6 :: x7 :: x8 :: x9 :: x10 :: x11 :: x12 :: x13 :: x14 :: x15 :: some z :: σ) H2) := by
    funext y H1
    exact propext ⟨fun ⟨b, e1, q⟩ => ⟨a, b, rfl, e1, q⟩, fun ⟨a', b, e0, e1, q⟩ => by cases e0; exact ⟨b, e1, q⟩⟩
  rw [e]
  exact propext ⟨fun ⟨x, e, q⟩ => by cases (show some (V.int a) = some _ from Option.some.inj e); exact q, fun q => ⟨_, rfl, q⟩⟩
theorem q_var17 {x0 x1 x2 x3 x4 x5 x6 x7 x8 x9 x10 x11 x12 x13 x14 x15 x16 : Option V} {σ : L2.St} : tVar 17 (x0 :: x1 :: x2 :: x3 :: x4 :: x5 :: x6 :: x7 :: x8 :: x9 :: x10 :: x11 :: x12 :: x13 :: x14 :: x15 :: x16 :: some v :: σ) H Q = Q v H := propext ⟨fun ⟨_, e, q⟩ => by cases (show some v = some _ from Option.some.inj e); exact q, fun q => ⟨v, rfl, q⟩⟩
theorem q_asg17 {x0 x1 x2 x3 x4 x5 x6 x7 x8 x9 x10 x11 x12 x13 x14 x15 x16 : Option V} {o : Option V} {σ : L2.St} : tAsg te (gName 17) ⟨nx, rt, bk, ct⟩ (x0 :: x1 :: x2 :: x3 :: x4 :: x5 :: x6 :: x7 :: x8 :: x9 :: x10 :: x11 :: x12 :: x13 :: x14 :: x15 :: x16 :: o :: σ) H = te (x0 :: x1 :: x2 :: x3 :: x4 :: x5 :: x6 :: x7 :: x8 :: x9 :: x10 :: x11 :: x12 :: x13 :: x14 :: x15 :: x16 :: o :: σ) H fun x H1 => nx (x0 :: x1 :: x2 :: x3 :: x4 :: x5 :: x6 :: x7 :: x8 :: x9 :: x10 :: x11 :: x12 :: x13 :: x14 :: x15 :: x16 :: some x :: σ) H1 := rfl
theorem q_gn17 {x0 x1 x2 x3 x4 x5 x6 x7 x8 x9 x10 x11 x12 x13 x14 x15 x16 : Option V} {o : Option V} {σ : L2.St} {R : L2.St → Hp → Prop} : gName 17 v (x0 :: x1 :: x2 :: x3 :: x4 :: x5 :: x6 :: x7 :: x8 :: x9 :: x10 :: x11 :: x12 :: x13 :: x14 :: x15 :: x16 :: o :: σ) H R = R (x0 :: x1 :: x2 :: x3 :: x4 :: x5 :: x6 :: x7 :: x8 :: x9 :: x10 :: x11 :: x12 :: x13 :: x14 :: x15 :: x16 :: some v :: σ) H := rfl
theorem q_aug17 {x0 x1 x2 x3 x4 x5 x6 x7 x8 x9 x10 x11 x12 x13 x14 x15 x16 : Option V} {f : Int → Int → Int} {a : Int} {σ : L2.St} : tAug 17 te (ipI f) ⟨nx, rt, bk, ct⟩ (x0 :: x1 :: x2 :: x3 :: x4 :: x5 :: x6 :: x7 :: x8 :: x9 :: x10 :: x11 :: x12 :: x13 :: x14 :: x15 :: x16 :: some (.int a) :: σ) H = te (x0 :: x1 :: x2 :: x3 :: x4 :: x5 :: x6 :: x7 :: x8 :: x9 :: x10 :: x11 :: x12 :: x13 :: x14 :: x15 :: x16 :: some (.int a) :: σ) H fun y H1 => ∃ b, y = .int b ∧ nx (x0 :: x1 :: x2 :: x3 :: x4 :: x5 :: x6 :: x7 :: x8 :: x9 :: x10 :: x11 :: x12 :: x13 :: x14 :: x15 :: x16 :: some (.int (f a b)) :: σ) H1 := by
  have e : (fun y H1 => ∃ b, y = V.int b ∧ nx (x0 :: x1 :: x2 :: x3 :: x4 :: x5 :: x6 :: x7 :: x8 :: x9 :: x10 :: x11 :: x12 :: x13 :: x14 :: x15 :: x16 :: some (.int (f a b)) :: σ) H1) = (fun y H1 => ipI f (.int a) y H1 fun z H2 => nx (x0 :: x1 :: x2 :: x3 :: x4 :: x5 :: x6 :: x7 :: x8 :: x9 :: x10 :: x11 :: x12 :: x13 :: x14 :: x15 :: x16 :: some z :: σ) H2) := by
    funext y H1
    exact propext ⟨fun ⟨b, e1, q⟩ => ⟨a, b, rfl, e1, q⟩, fun ⟨a', b, e0, e1, q⟩ => by cases e0; exact ⟨b, e1, q⟩⟩
  rw [e]
  exact propext ⟨fun ⟨x, e, q⟩ => by cases (show some (V.int a) = some _ from Option.some.inj e); exact q, fun q => ⟨_, rfl, q⟩⟩
theorem q_var18 {x0 x1 x2 x3 x4 x5 x6 x7 x8 x9 x10 x11 x12 x13 x14 x15 x16 x17 : Option V} {σ : L2.St} : tVar 18 (x0 :: x1 :: x2 :: x3 :: x4 :: x5 :: x6 :: x7 :: x8 :: x9 :: x10 :: x11 :: x12 :: x13 :: x14 :: x15 :: x16 :: x17 :: some v :: σ) H Q = Q v H := propext ⟨fun ⟨_, e, q⟩ => by cases (show some v = some _ from Option.some.inj e); exact q, fun q => ⟨v, rfl, q⟩⟩
theorem q_asg18 {x0 x1 x2 x3 x4 x5 x6 x7 x8 x9 x10 x11 x12 x13 x14 x15 x16 x17 : Option V} {o : Option V} {σ : L2.St} : tAsg te (gName 18) ⟨nx, rt, bk, ct⟩ (x0 :: x1 :: x2 :: x3 :: x4 :: x5 :: x6 :: x7 :: x8 :: x9 :: x10 :: x11 :: x12 :: x13 :: x14 :: x15 :: x16 :: x17 :: o :: σ) H = te (x0 :: x1 :: x2 :: x3 :: x4 :: x5 :: x6 :: x7 :: x8 :: x9 :: x10 :: x11 :: x12 :: x13 :: x14 :: x15 :: x16 :: x17 :: o :: σ) H fun x H1 => nx (x0 :: x1 :: x2 :: x3 :: x4 :: x5 :: x6 :: x7 :: x8 :: x9 :: x10 :: x11 :: x12 :: x13 :: x14 :: x15 :: x16 :: x17 :: some x :: σ) H1 := rfl
theorem q_gn18 {x0 x1 x2 x3 x4 x5 x6 x7 x8 x9 x10 x11 x12 x13 x14 x15 x16 x17 : Option V} {o : Option V} {σ : L2.St} {R : L2.St → Hp → Prop} : gName 18 v (x0 :: x1 :: x2 :: x3 :: x4 :: x5 :: x6 :: x7 :: x8 :: x9 :: x10 :: x11 :: x12 :: x13 :: x14 :: x15 :: x16 :: x17 :: o :: σ) H R = R (x0 :: x1 :: x2 :: x3 :: x4 :: x5 :: x6 :: x7 :: x8 :: x9 :: x10 :: x11 :: x12 :: x13 :: x14 :: x15 :: x16 :: x17 :: some v :: σ) H := rfl
theorem q_aug18 {x0 x1 x2 x3 x4 x5 x6 x7 x8 x9 x10 x11 x12 x13 x14 x15 x16 x17 : Option V} {f : Int → Int → Int} {a : Int} {σ : L2.St} : tAug 18 te (ipI f) ⟨nx, rt, bk, ct⟩ (x0 :: x1 :: x2 :: x3 :: x4 :: x5 :: x6 :: x7 :: x8 :: x9 :: x10 :: x11 :: x12 :: x13 :: x14 :: x15 :: x16 :: x17 :: some (.int a) :: σ) H = te (x0 :: x1 :: x2 :: x3 :: x4 :: x5 :: x6 :: x7 :: x8 :: x9 :: x10 :: x11 :: x12 :: x13 :: x14 :: x15 :: x16 :: x17 :: some (.int a) :: σ) H fun y H1 => ∃ b, y = .int b ∧ nx (x0 :: x1 :: x2 :: x3 :: x4 :: x5 :: x6 :: x7 :: x8 :: x9 :: x10 :: x11 :: x12 :: x13 :: x14 :: x15 :: x16 :: x17 :: some (.int (f a b)) :: σ) H1 := by
  have e : (fun y H1 => ∃ b, y = V.int b ∧ nx (x0 :: x1 :: x2 :: x3 :: x4 :: x5 :: x6 :: x7 :: x8 :: x9 :: x10 :: x11 :: x12 :: x13 :: x14 :: x15 :: x16 :: x17 :: some (.int (f a b)) :: σ) H1) = (fun y H1 => ipI f (.int a) y H1 fun z H2 => nx (x0 :: x1 :: x2 :: x3 :: x4 :: x5 :: x6 :: x7 :: x8 :: x9 :: x10 :: x11 :: x12 :: x13 :: x14 :: x15 :: x16 :: x17 :: some z :: σ) H2) := by
    funext y H1
    exact propext ⟨fun ⟨b, e1, q⟩ => ⟨a, b, rfl, e1, q⟩, fun ⟨a', b, e0, e1, q⟩ => by cases e0; exact ⟨b, e1, q⟩⟩
  rw [e]
  exact propext ⟨fun ⟨x, e, q⟩ => by cases (show some (V.int a) = some _ from Option.some.inj e); exact q, fun q => ⟨_, rfl, q⟩⟩
theorem q_var19 {x0 x1 x2 x3 x4 x5 x6 x7 x8 x9 x10 x11 x12 x13 x14 x15 x16 x17 x18 : Option V} {σ : L2.St} : tVar 19 (x0 :: x1 :: x2 :: x3 :: x4 :: x5 :: x6 :: x7 :: x8 :: x9 :: x10 :: x11 :: x12 :: x13 :: x14 :: x15 :: x16 :: x17 :: x18 :: some v :: σ) H Q = Q v H := propext ⟨fun ⟨_, e, q⟩ => by cases (show some v = some _ from Option.some.inj e); exact q, fun q => ⟨v, rfl, q⟩⟩
theorem q_asg19 {x0 x1 x2 x3 x4 x5 x6 x7 x8 x9 x10 x11 x12 x13 x14 x15 x16 x17 x18 : Option V} {o : Option V} {σ : L2.St} : tAsg te (gName 19) ⟨nx, rt, bk, ct⟩ (x0 :: x1 :: x2 :: x3 :: x4 :: x5 :: x6 :: x7 :: x8 :: x9 :: x10 :: x11 :: x12 :: x13 :: x14 :: x15 :: x16 :: x17 :: x18 :: o :: σ) H = te (x0 :: x1 :: x2 :: x3 :: x4 :: x5 :: x6 :: x7 :: x8 :: x9 :: x10 :: x11 :: x12 :: x13 :: x14 :: x15 :: x16 :: x17 :: x18 :: o :: σ) H fun x H1 => nx (x0 :: x1 :: x2 :: x3 :: x4 :: x5 :: x6 :: x7 :: x8 :: x9 :: x10 :: x11 :: x12 :: x13 :: x14 :: x15 :: x16 :: x17 :: x18 :: some x :: σ) H1 := rfl
theorem q_gn19 {x0 x1 x2 x3 x4 x5 x6 x7 x8 x9 x10 x11 x12 x13 x14 x15 x16 x17 x18 : Option V} {o : Option V} {σ : L2.St} {R : L2.St → Hp → Prop} : gName 19 v (x0 :: x1 :: x2 :: x3 :: x4 :: x5 :: x6 :: x7 :: x8 :: x9 :: x10 :: x11 :: x12 :: x13 :: x14 :: x15 :: x16 :: x17 :: x18 :: o :: σ) H R = R (x0 :: x1 :: x2 :: x3 :: x4 :: x5 :: x6 :: x7 :: x8 :: x9 :: x10 :: x11 :: x12 :: x13 :: x14 :: x15 :: x16 :: x17 :: x18 :: some v :: σ) H := rfl
theorem q_aug19 {x0 x1 x2 x3 x4 x5 x6 x7 x8 x9 x10 x11 x12 x13 x14 x15 x16 x17 x18 : Option V} {f : Int → Int → Int} {a : Int} {σ : L2.St} : tAug 19 te (ipI f) ⟨nx, rt, bk, ct⟩ (x0 :: x1 :: x2 :: x3 :: x4 :: x5 :: x6 :: x7 :: x8 :: x9 :: x10 :: x11 :: x12 :: x13 :: x14 :: x15 :: x16 :: x17 :: x18 :: some (.int a) :: σ) H = te (x0 :: x1 :: x2 :: x3 :: x4 :: x5 :: x6 :: x7 :: x8 :: x9 :: x10 :: x11 :: x12 :: x13 :: x14 :: x15 :: x16 :: x17 :: x18 :: some (.int a) :: σ) H fun y H1 => ∃ b, y = .int b ∧ nx (x0 :: x1 :: x2 :: x3 :: x4 :: x5 :: x6 :: x7 :: x8 :: x9 :: x10 :: x11 :: x12 :: x13 :: x14 :: x15 :: x16 :: x17 :: x18 :: some (.int (f a b)) :: σ) H1 := by
  have e : (fun y H1 => ∃ b, y = V.int b ∧ nx (x0 :: x1 :: x2 :: x3 :: x4 :: x5 :: x6 :: x7 :: x8 :: x9 :: x10 :: x11 :: x12 :: x13 :: x14 :: x15 :: x16 :: x17 :: x18 :: some (.int (f a b)) :: σ) H1) = (fun y H1 => ipI f (.int a) y H1 fun z H2 => nx (x0 :: x1 :: x2 :: x3 :: x4 :: x5 :: x6 :: x7 :: x8 :: x9 :: x10 :: x11 :: x12 :: x13 :: x14 :: x15 :: x16 :: x17 :: x18 :: some z :: σ) H2) := by
    funext y H1
    exact propext ⟨fun ⟨b, e1, q⟩ => ⟨a, b, rfl, e1, q⟩, fun ⟨a', b, e0, e1, q⟩ => by cases e0; exact ⟨b, e1, q⟩⟩
  rw [e]
  exact propext ⟨fun ⟨x, e, q⟩ => by cases (show some (V.int a) = some _ from Option.some.inj e); exact q, fun q => ⟨_, rfl, q⟩⟩
theorem q_var20 {x0 x1 x2 x3 x4 x5 x6 x7 x8 x9 x10 x11 x12 x13 x14 x15 x16 x17 x18 x19 : Option V} {σ : L2.St} : tVar 20 (x0 :: x1 :: x2 :: x3 :: x4 :: x5 :: x6 :: x7 :: x8 :: x9 :: x10 :: x11 :: x12 :: x13 :: x14 :: x15 :: x16 :: x17 :: x18 :: x19 :: some v :: σ) H Q = Q v H := propext ⟨fun ⟨_, e, q⟩ => by cases (show some v = some _ from Option.some.inj e); exact q, fun q => ⟨v, rfl, q⟩⟩
theorem q_asg20 {x0 x1 x2 x3 x4 x5 x6 x7 x8 x9 x10 x11 x12 x13 x14 x15 x16 x17 x18 x19 : Option V} {o : Option V} {σ : L2.St} : tAsg te (gName 20) ⟨nx, rt, bk, ct⟩ (x0 :: x1 :: x2 :: x3 :: x4 :: x5 :: x6 :: x7 :: x8 :: x9 :: x10 :: x11 :: x12 :: x13 :: x14 :: x15 :: x16 :: x17 :: x18 :: x19 :: o :: σ) H = te (x0 :: x1 :: x2 :: x3 :: x4 :: x5 :: x6 :: x7 :: x8 :: x9 :: x10 :: x11 :: x12 :: x13 :: x14 :: x15 :: x16 :: x17 :: x18 :: x19 :: o :: σ) H fun x H1 => nx (x0 :: x1 :: x2 :: x3 :: x4 :: x5 :: x6 :: x7 :: x8 :: x9 :: x10 :: x11 :: x12 :: x13 :: x14 :: x15 :: x16 :: x17 :: x18 :: x19 :: some x :: σ) H1 := rfl
theorem q_gn20 {x0 x1 x2 x3 x4 x5 x6 x7 x8 x9 x10 x11 x12 x13 x14 x15 x16 x17 x18 x19 : Option V} {o : Option V} {σ : L2.St} {R : L2.St → Hp → Prop} : gName 20 v (x0 :: x1 :: x2 :: x3 :: x4 :: x5 :: x6 :: x7 :: x8 :: x9 :: x10 :: x11 :: x12 :: x13 :: x14 :: x15 :: x16 :: x17 :: x18 :: x19 :: o :: σ) H R = R (x0 :: x1 :: x2 :: x3 :: x4 :: x5 :: x6 :: x7 :: x8 :: x9 :: x10 :: x11 :: x12 :: x13 :: x14 :: x15 :: x16 :: x17 :: x18 :: x19 :: some v :: σ) H := rfl
theorem q_aug20 {x0 x1 x2 x3 x4 x5 x6 x7 x8 x9 x10 x11 x12 x13 x14 x15 x16 x17 x18 x19 : Option V} {f : Int → Int → Int} {a : Int} {σ : L2.St} : tAug 20 te (ipI f) ⟨nx, rt, bk, ct⟩ (x0 :: x1 :: x2 :: x3 :: x4 :: x5 :: x6 :: x7 :: x8 :: x9 :: x10 :: x11 :: x12 :: x13 :: x14 :: x15 :: x16 :: x17 :: x18 :: x19 :: some (.int a) :: σ) H = te (x0 :: x1 :: x2 :: x3 :: x4 :: x5 :: x6 :: x7 :: x8 :: x9 :: x10 :: x11 :: x12 :: x13 :: x14 :: x15 :: x16 :: x17 :: x18 :: x19 :: some (.int a) :: σ) H fun y H1 => ∃ b, y = .int b ∧ nx (x0 :: x1 :: x2 :: x3 :: x4 :: x5 :: x6 :: x7 :: x8 :: x9 :: x10 :: x11 :: x12 :: x13 :: x14 :: x15 :: x16 :: x17 :: x18 :: x19 :: some (.int (f a b)) :: σ) H1 := by
  have e : (fun y H1 => ∃ b, y = V.int b ∧ nx (x0 :: x1 :: x2 :: x3 :: x4 :: x5 :: x6 :: x7 :: x8 :: x9 :: x10 :: x11 :: x12 :: x13 :: x14 :: x15 :: x16 :: x17 :: x18 :: x19 :: some (.int (f a b)) :: σ) H1) = (fun y H1 => ipI f (.int a) y H1 fun z H2 => nx (x0 :: x1 :: x2 :: x3 :: x4 :: x5 :: x6 :: x7 :: x8 :: x9 :: x10 :: x11 :: x12 :: x13 :: x14 :: x15 :: x16 :: x17 :: x18 :: x19 :: some z :: σ) H2) := by
    funext y H1
    exact propext ⟨fun ⟨b, e1, q⟩ => ⟨a, b, rfl, e1, q⟩, fun ⟨a', b, e0, e1, q⟩ => by cases e0; exact ⟨b, e1, q⟩⟩
  rw [e]
  exact propext ⟨fun ⟨x, e, q⟩ => by cases (show some (V.int a) = some _ from Option.some.inj e); exact q, fun q => ⟨_, rfl, q⟩⟩
theorem q_var21 {x0 x1 x2 x3 x4 x5 x6 x7 x8 x9 x10 x11 x12 x13 x14 x15 x16 x17 x18 x19 x20 : Option V} {σ : L2.St} : tVar 21 (x0 :: x1 :: x2 :: x3 :: x4 :: x5 :: x6 :: x7 :: x8 :: x9 :: x10 :: x11 :: x12 :: x13 :: x14 :: x15 :: x16 :: x17 :: x18 :: x19 :: x20 :: some v :: σ) H Q = Q v H := propext ⟨fun ⟨_, e, q⟩ => by cases (show some v = some _ from Option.some.inj e); exact q, fun q => ⟨v, rfl, q⟩⟩
theorem q_asg21 {x0 x1 x2 x3 x4 x5 x6 x7 x8 x9 x10 x11 x12 x13 x14 x15 x16 x17 x18 x19 x20 : Option V} {o : Option V} {σ : L2.St} : tAsg te (gName 21) ⟨nx, rt, bk, ct⟩ (x0 :: x1 :: x2 :: x3 :: x4 :: x5 :: x6 :: x7 :: x8 :: x9 :: x10 :: x11 :: x12 :: x13 :: x14 :: x15 :: x16 :: x17 :: x18 :: x19 :: x20 :: o :: σ) H = te (x0 :: x1 :: x2 :: x3 :: x4 :: x5 :: x6 :: x7 :: x8 :: x9 :: x10 :: x11 :: x12 :: x13 :: x14 :: x15 :: x16 :: x17 :: x18 :: x19 :: x20 :: o :: σ) H fun x H1 => nx (x0 :: x1 :: x2 :: x3 :: x4 :: x5 :: x6 :: x7 :: x8 :: x9 :: x10 :: x11 :: x12 :: x13 :: x14 :: x15 :: x16 :: x17 :: x18 :: x19 :: x20 :: some x :: σ) H1 := rfl
theorem q_gn21 {x0 x1 x2 x3 x4 x5 x6 x7 x8 x9 x10 x11 x12 x13 x14 x15 x16 x17 x18 x19 x20 : Option V} {o : Option V} {σ : L2.St} {R : L2.St → Hp → Prop} : gName 21 v (x0 :: x1 :: x2 :: x3 :: x4 :: x5 :: x6 :: x7 :: x8 :: x9 :: x10 :: x11 :: x12 :: x13 :: x14 :: x15 :: x16 :: x17 :: x18 :: x19 :: x20 :: o :: σ) H R = R (x0 :: x1 :: x2 :: x3 :: x4 :: x5 :: x6 :: x7 :: x8 :: x9 :: x10 :: x11 :: x12 :: x13 :: x14 :: x15 :: x16 :: x17 :: x18 :: x19 :: x20 :: some v :: σ) H := rfl
theorem q_aug21 {x0 x1 x2 x3 x4 x5 x6 x7 x8 x9 x10 x11 x12 x13 x14 x15 x16 x17 x18 x19 x20 : Option V} {f : Int → Int → Int} {a : Int} {σ : L2.St} : tAug 21 te (ipI f) ⟨nx, rt, bk, ct⟩ (x0 :: x1 :: x2 :: x3 :: x4 :: x5 :: x6 :: x7 :: x8 :: x9 :: x10 :: x11 :: x12 :: x13 :: x14 :: x15 :: x16 :: x17 :: x18 :: x19 :: x20 :: some (.int a) :: σ) H = te (x0 :: x1 :: x2 :: x3 :: x4 :: x5 :: x6 :: x7 :: x8 :: x9 :: x10 :: x11 :: x12 :: x13 :: x14 :: x15 :: x16 :: x17 :: x18 :: x19 :: x20 :: some (.int a) :: σ) H fun y H1 => ∃ b, y = .int b ∧ nx (x0 :: x1 :: x2 :: x3 :: x4 :: x5 :: x6 :: x7 :: x8 :: x9 :: x10 :: x11 :: x12 :: x13 :: x14 :: x15 :: x16 :: x17 :: x18 :: x19 :: x20 :: some (.int (f a b)) :: σ) H1 := by
  have e : (fun y H1 => ∃ b, y = V.int b ∧ nx (x0 :: x1 :: x2 :: x3 :: x4 :: x5 :: x6 :: x7 :: x8 :: x9 :: x10 :: x11 :: x12 :: x13 :: x14 :: x15 :: x16 :: x17 :: x18 :: x19 :: x20 :: some (.int (f a b)) :: σ) H1) = (fun y H1 => ipI f (.int a) y H1 fun z H2 => nx (x0 :: x1 :: x2 :: x3 :: x4 :: x5 :: x6 :: x7 :: x8 :: x9 :: x10 :: x11 :: x12 :: x13 :: x14 :: x15 :: x16 :: x17 :: x18 :: x19 :: x20 :: some z :: σ) H2) := by
    funext y H1
    exact propext ⟨fun ⟨b, e1, q⟩ => ⟨a, b, rfl, e1, q⟩, fun ⟨a', b, e0, e1, q⟩ => by cases e0; exact ⟨b, e1, q⟩⟩
  rw [e]
  exact propext ⟨fun ⟨x, e, q⟩ => by cases (show some (V.int a) = some _ from Option.some.inj e); exact q, fun q => ⟨_, rfl, q⟩⟩
theorem q_var22 {x0 x1 x2 x3 x4 x5 x6 x7 x8 x9 x10 x11 x12 x13 x14 x15 x16 x17 x18 x19 x20 x21 : Option V} {σ : L2.St} : tVar 22 (x0 :: x1 :: x2 :: x3 :: x4 :: x5 :: x6 :: x7 :: x8 :: x9 :: x10 :: x11 :: x12 :: x13 :: x14 :: x15 :: x16 :: x17 :: x18 :: x19 :: x20 :: x21 :: some v :: σ) H Q = Q v H := propext ⟨fun ⟨_, e, q⟩ => by cases (show some v = some _ from Option.some.inj e); exact q, fun q => ⟨v, rfl, q⟩⟩
theorem q_asg22 {x0 x1 x2 x3 x4 x5 x6 x7 x8 x9 x10 x11 x12 x13 x14 x15 x16 x17 x18 x19 x20 x21 : Option V} {o : Option V} {σ : L2.St} : tAsg te (gName 22) ⟨nx, rt, bk, ct⟩ (x0 :: x1 :: x2 :: x3 :: x4 :: x5 :: x6 :: x7 :: x8 :: x9 :: x10 :: x11 :: x12 :: x13 :: x14 :: x15 :: x16 :: x17 :: x18 :: x19 :: x20 :: x21 :: o :: σ) H = te (x0 :: x1 :: x2 :: x3 :: x4 :: x5 :: x6 :: x7 :: x8 :: x9 :: x10 :: x11 :: x12 :: x13 :: x14 :: x15 :: x16 :: x17 :: x18 :: x19 :: x20 :: x21 :: o :: σ) H fun x H1 => nx (x0 :: x1 :: x2 :: x3 :: x4 :: x5 :: x6 :: x7 :: x8 :: x9 :: x10 :: x11 :: x12 :: x13 :: x14 :: x15 :: x16 :: x17 :: x18 :: x19 :: x20 :: x21 :: some x :: σ) H1 := rfl
theorem q_gn22 {x0 x1 x2 x3 x4 x5 x6 x7 x8 x9 x10 x11 x12 x13 x14 x15 x16 x17 x18 x19 x20 x21 : Option V} {o : Option V} {σ : L2.St} {R : L2.St → Hp → Prop} : gName 22 v (x0 :: x1 :: x2 :: x3 :: x4 :: x5 :: x6 :: x7 :: x8 :: x9 :: x10 :: x11 :: x12 :: x13 :: x14 :: x15 :: x16 :: x17 :: x18 :: x19 :: x20 :: x21 :: o :: σ) H R = R (x0 :: x1 :: x2 :: x3 :: x4 :: x5 :: x6 :: x7 :: x8 :: x9 :: x10 :: x11 :: x12 :: x13 :: x14 :: x15 :: x16 :: x17 :: x18 :: x19 :: x20 :: x21 :: some v :: σ) H := rfl
theorem q_aug22 {x0 x1 x2 x3 x4 x5 x6 x7 x8 x9 x10 x11 x12 x13 x14 x15 x16 x17 x18 x19 x20 x21 : Option V} {f : Int → Int → Int} {a : Int} {σ : L2.St} : tAug 22 te (ipI f) ⟨nx, rt, bk, ct⟩ (x0 :: x1 :: x2 :: x3 :: x4 :: x5 :: x6 :: x7 :: x8 :: x9 :: x10 :: x11 :: x12 :: x13 :: x14 :: x15 :: x16 :: x17 :: x18 :: x19 :: x20 :: x21 :: some (.int a) :: σ) H = te (x0 :: x1 :: x2 :: x3 :: x4 :: x5 :: x6 :: x7 :: x8 :: x9 :: x10 :: x11 :: x12 :: x13 :: x14 :: x15 :: x16 :: x17 :: x18 :: x19 :: x20 :: x21 :: some (.int a) :: σ) H fun y H1 => ∃ b, y = .int b ∧ nx (x0 :: x1 :: x2 :: x3 :: x4 :: x5 :: x6 :: x7 :: x8 :: x9 :: x10 :: x11 :: x12 :: x13 :: x14 :: x15 :: x16 :: x17 :: x18 :: x19 :: x20 :: x21 :: some (.int (f a b)) :: σ) H1 := by
  have e : (fun y H1 => ∃ b, y = V.int b ∧ nx (x0 :: x1 :: x2 :: x3 :: x4 :: x5 :: x6 :: x7 :: x8 :: x9 :: x10 :: x11 :: x12 :: x13 :: x14 :: x15 :: x16 :: x17 :: x18 :: x19 :: x20 :: x21 :: some (.int (f a b)) :: σ) H1) = (fun y H1 => ipI f (.int a) y H1 fun z H2 => nx (x0 :: x1 :: x2 :: x3 :: x4 :: x5 :: x6 :: x7 :: x8 :: x9 :: x10 :: x11 :: x12 :: x13 :: x14 :: x15 :: x16 :: x17 :: x18 :: x19 :: x20 :: x21 :: some z :: σ) H2) := by
    funext y H1
    exact propext ⟨fun ⟨b, e1, q⟩ => ⟨a, b, rfl, e1, q⟩, fun ⟨a', b, e0, e1, q⟩ => by cases e0; exact ⟨b, e1, q⟩⟩
  rw [e]
  exact propext ⟨fun ⟨x, e, q⟩ => by cases (show some (V.int a) = some _ from Option.some.inj e); exact q, fun q => ⟨_, rfl, q⟩⟩
theorem q_var23 {x0 x1 x2 x3 x4 x5 x6 x7 x8 x9 x10 x11 x12 x13 x14 x15 x16 x17 x18 x19 x20 x21 x22 : Option V} {σ : L2.St} : tVar 23 (x0 :: x1 :: x2 :: x3 :: x4 :: x5 :: x6 :: x7 :: x8 :: x9 :: x10 :: x11 :: x12 :: x13 :: x14 :: x15 :: x16 :: x17 :: x18 :: x19 :: x20 :: x21 :: x22 :: some v :: σ) H Q = Q v H := propext ⟨fun ⟨_, e, q⟩ => by cases (show some v = some _ from Option.some.inj e); exact q, fun q => ⟨v, rfl, q⟩⟩
theorem q_asg23 {x0 x1 x2 x3 x4 x5 x6 x7 x8 x9 x10 x11 x12 x13 x14 x15 x16 x17 x18 x19 x20 x21 x22 : Option V} {o : Option V} {σ : L2.St} : tAsg te (gName 23) ⟨nx, rt, bk, ct⟩ (x0 :: x1 :: x2 :: x3 :: x4 :: x5 :: x6 :: x7 :: x8 :: x9 :: x10 :: x11 :: x12 :: x13 :: x14 :: x15 :: x16 :: x17 :: x18 :: x19 :: x20 :: x21 :: x22 :: o :: σ) H = te (x0 :: x1 :: x2 :: x3 :: x4 :: x5 :: x6 :: x7 :: x8 :: x9 :: x10 :: x11 :: x12 :: x13 :: x14 :: x15 :: x16 :: x17 :: x18 :: x19 :: x20 :: x21 :: x22 :: o :: σ) H fun x H1 => nx (x0 :: x1 :: x2 :: x3 :: x4 :: x5 :: x6 :: x7 :: x8 :: x9 :: x10 :: x11 :: x12 :: x13 :: x14 :: x15 :: x16 :: x17 :: x18 :: x19 :: x20 :: x21 :: x22 :: some x :: σ) H1 := rfl
theorem q_gn23 {x0 x1 x2 x3 x4 x5 x6 x7 x8 x9 x10 x11 x12 x13 x14 x15 x16 x17 x18 x19 x20 x21 x22 : Option V} {o : Option V} {σ : L2.St} {R : L2.St → Hp → Prop} : gName 23 v (x0 :: x1 :: x2 :: x3 :: x4 :: x5 :: x6 :: x7 :: x8 :: x9 :: x10 :: x11 :: x12 :: x13 :: x14 :: x15 :: x16 :: x17 :: x18 :: x19 :: x20 :: x21 :: x22 :: o :: σ) H R = R (x0 :: x1 :: x2 :: x3 :: x4 :: x5 :: x6 :: x7 :: x8 :: x9 :: x10 :: x11 :: x12 :: x13 :: x14 :: x15 :: x16 :: x17 :: x18 :: x19 :: x20 :: x21 :: x22 :: some v :: σ) H := rfl
theorem q_aug23 {x0 x1 x2 x3 x4 x5 x6 x7 x8 x9 x10 x11 x12 x13 x14 x15 x16 x17 x18 x19 x20 x21 x22 : Option V} {f : Int → Int → Int} {a : Int} {σ : L2.St} : tAug 23 te (ipI f) ⟨nx, rt, bk, ct⟩ (x0 :: x1 :: x2 :: x3 :: x4 :: x5 :: x6 :: x7 :: x8 :: x9 :: x10 :: x11 :: x12 :: x13 :: x14 :: x15 :: x16 :: x17 :: x18 :: x19 :: x20 :: x21 :: x22 :: some (.int a) :: σ) H = te (x0 :: x1 :: x2 :: x3 :: x4 :: x5 :: x6 :: x7 :: x8 :: x9 :: x10 :: x11 :: x12 :: x13 :: x14 :: x15 :: x16 :: x17 :: x18 :: x19 :: x20 :: x21 :: x22 :: some (.int a) :: σ) H fun y H1 => ∃ b, y = .int b ∧ nx (x0 :: x1 :: x2 :: x3 :: x4 :: x5 :: x6 :: x7 :: x8 :: x9 :: x10 :: x11 :: x12 :: x13 :: x14 :: x15 :: x16 :: x17 :: x18 :: x19 :: x20 :: x21 :: x22 :: some (.int (f a b)) :: σ) H1 := by
  have e : (fun y H1 => ∃ b, y = V.int b ∧ nx (x0 :: x1 :: x2 :: x3 :: x4 :: x5 :: x6 :: x7 :: x8 :: x9 :: x10 :: x11 :: x12 :: x13 :: x14 :: x15 :: x16 :: x17 :: x18 :: x19 :: x20 :: x21 :: x22 :: some (.int (f a b)) :: σ) H1) = (fun y H1 => ipI f (.int a) y H1 fun z H2 => nx (x0 :: x1 :: x2 :: x3 :: x4 :: x5 :: x6 :: x7 :: x8 :: x9 :: x10 :: x11 :: x12 :: x13 :: x14 :: x15 :: x16 :: x17 :: x18 :: x19 :: x20 :: x21 :: x22 :: some z :: σ) H2) := by
    funext y H1
    exact propext ⟨fun ⟨b, e1, q⟩ => ⟨a, b, rfl, e1, q⟩, fun ⟨a', b, e0, e1, q⟩ => by cases e0; exact ⟨b, e1, q⟩⟩
  rw [e]
  exact propext ⟨fun ⟨x, e, q⟩ => by cases (show some (V.int a) = some _ from Option.some.inj e); exact q, fun q => ⟨_, rfl, q⟩⟩
theorem q_seq : tSeq t u ⟨nx, rt, bk, ct⟩ σs H = t ⟨u ⟨nx, rt, bk, ct⟩, rt, bk, ct⟩ σs H := rfl
theorem q_next : tNext ⟨nx, rt, bk, ct⟩ σs H = nx σs H := rfl
theorem q_brk : tBreak ⟨nx, rt, bk, ct⟩ σs H = bk σs H := rfl
theorem q_cont : tCont ⟨nx, rt, bk, ct⟩ σs H = ct σs H := rfl
theorem q_ret : tRet te ⟨nx, rt, bk, ct⟩ σs H = te σs H rt := rfl
theorem q_retN : tRetN ⟨nx, rt, bk, ct⟩ σs H = rt .non H := rfl
theorem q_drop : tDrop te ⟨nx, rt, bk, ct⟩ σs H = te σs H fun _ H1 => nx σs H1 := rfl
theorem q_if : tIfS tt t u ⟨nx, rt, bk, ct⟩ σs H = tt σs H fun b H1 => if b = true then t ⟨nx, rt, bk, ct⟩ σs H1 else u ⟨nx, rt, bk, ct⟩ σs H1 := rfl
theorem q_c : tC v σs H Q = Q v H := rfl
theorem q_op {r : R2} : tOp r ta tc σs H Q = ta σs H fun x H1 => tc σs H1 fun y H2 => r x y H2 Q := rfl
theorem q_un {r : V → Hp → VK → Prop} : tUn r ta σs H Q = ta σs H fun x H1 => r x H1 Q := rfl
theorem q_cb {r : List V → Hp → VK → Prop} : tCB r tA σs H Q = tA σs H fun vs H1 => r vs H1 Q := rfl
theorem q_nil {R : List V → Hp → Prop} : tNil σs H R = R [] H := rfl
theorem q_cons {R : List V → Hp → Prop} : tCons ta tA σs H R = ta σs H fun x H1 => tA σs H1 fun xs H2 => R (x :: xs) H2 := rfl
theorem q_call {sp : Sp} {E : XK} : tCall sp [] E tA σs H Q = tA σs H fun vs H1 => sp vs H1 Q E := by
  have e : (fun vs H1 => sp (vs ++ []) H1 Q E) = (fun vs H1 => sp vs H1 Q E) := by funext vs H1; rw [List.append_nil]
  show (tA σs H fun vs H1 => sp (vs ++ []) H1 Q E) = _
  rw [e]
theorem q_test {R : Bool → Hp → Prop} : tTest te σs H R = te σs H fun x H1 => ∃ k, x = .bl k ∧ R k H1 := rfl
theorem q_tB {R : Bool → Hp → Prop} : tB te σs H R = te σs H fun x H1 => ∃ k, x = .bl k ∧ R k H1 := rfl
theorem q_bl {R : Bool → Prop} {b : Bool} : (∃ k, V.bl b = .bl k ∧ R k) = R b := propext ⟨fun ⟨k, e, q⟩ => by cases e; exact q, fun q => ⟨b, rfl, q⟩⟩
theorem q_int {R : Int → Prop} {b : Int} : (∃ k, V.int b = .int k ∧ R k) = R b := propext ⟨fun ⟨k, e, q⟩ => by cases e; exact q, fun q => ⟨b, rfl, q⟩⟩
theorem q_and {R : Bool → Hp → Prop} : tAnd tt tt' σs H R = tt σs H fun c H1 => if c = true then tt' σs H1 R else R false H1 := rfl
theorem q_or {R : Bool → Hp → Prop} : tOr tt tt' σs H R = tt σs H fun c H1 => if c = true then R true H1 else tt' σs H1 R := rfl
theorem q_not {R : Bool → Hp → Prop} : tNot tt σs H R = tt σs H fun c H1 => R (!c) H1 := rfl
theorem q_andV : tAndV ta tc σs H Q = ta σs H fun x H1 => ∃ c, x = .bl c ∧ if c = true then tc σs H1 Q else Q (.bl false) H1 := rfl
theorem q_orV : tOrV ta tc σs H Q = ta σs H fun x H1 => ∃ c, x = .bl c ∧ if c = true then Q (.bl true) H1 else tc σs H1 Q := rfl
theorem q_notV : tNotV ta σs H Q = ta σs H fun x H1 => ∃ c, x = .bl c ∧ Q (.bl (!c)) H1 := rfl
theorem q_ifE : tIf tt ta tc σs H Q = tt σs H fun c H1 => if c = true then ta σs H1 Q else tc σs H1 Q := rfl
theorem q_I0 {g : Int → Int → V} {i j : Int} : rI0 g (.int i) (.int j) H Q = Q (g i j) H := propext ⟨fun ⟨a, b, e1, e2, q⟩ => by cases e1; cases e2; exact q, fun q => ⟨i, j, rfl, rfl, q⟩⟩
theorem q_I {P : Int → Int → Prop} {g : Int → Int → V} {i j : Int} : rI P g (.int i) (.int j) H Q = (P i j ∧ Q (g i j) H) := propext ⟨fun ⟨a, b, e1, e2, q⟩ => by cases e1; cases e2; exact q, fun q => ⟨i, j, rfl, rfl, q⟩⟩
theorem q_U {g : Int → V} {i : Int} : rU g (.int i) H Q = Q (g i) H := propext ⟨fun ⟨a, e1, q⟩ => by cases e1; exact q, fun q => ⟨i, rfl, q⟩⟩
theorem q_eqI {i j : Int} : rEq (.int i) (.int j) H Q = Q (.bl (decide (i = j))) H := by
  have e : decide (V.int i = V.int j) = decide (i = j) := decide_eq_decide.mpr ⟨fun h => V.int.inj h, fun h => by rw [h]⟩
  refine propext ⟨fun ⟨_, q⟩ => ?_, fun q => ⟨rfl, ?_⟩⟩
  · rw [e] at q; exact q
  · rw [e]; exact q
theorem q_neI {i j : Int} : rNe (.int i) (.int j) H Q = Q (.bl (!decide (i = j))) H := by
  have e : decide (V.int i = V.int j) = decide (i = j) := decide_eq_decide.mpr ⟨fun h => V.int.inj h, fun h => by rw [h]⟩
  refine propext ⟨fun ⟨_, q⟩ => ?_, fun q => ⟨rfl, ?_⟩⟩
  · rw [e] at q; exact q
  · rw [e]; exact q
theorem q_eqS {i j : Str} : rEq (.str i) (.str j) H Q = Q (.bl (decide (i = j))) H := by
  have e : decide (V.str i = V.str j) = decide (i = j) := decide_eq_decide.mpr ⟨fun h => V.str.inj h, fun h => by rw [h]⟩
  refine propext ⟨fun ⟨_, q⟩ => ?_, fun q => ⟨rfl, ?_⟩⟩
  · rw [e] at q; exact q
  · rw [e]; exact q
theorem q_neS {i j : Str} : rNe (.str i) (.str j) H Q = Q (.bl (!decide (i = j))) H := by
  have e : decide (V.str i = V.str j) = decide (i = j) := decide_eq_decide.mpr ⟨fun h => V.str.inj h, fun h => by rw [h]⟩
  refine propext ⟨fun ⟨_, q⟩ => ?_, fun q => ⟨rfl, ?_⟩⟩
  · rw [e] at q; exact q
  · rw [e]; exact q
theorem q_eqB {i j : Bool} : rEq (.bl i) (.bl j) H Q = Q (.bl (decide (i = j))) H := by
  have e : decide (V.bl i = V.bl j) = decide (i = j) := decide_eq_decide.mpr ⟨fun h => V.bl.inj h, fun h => by rw [h]⟩
  refine propext ⟨fun ⟨_, q⟩ => ?_, fun q => ⟨rfl, ?_⟩⟩
  · rw [e] at q; exact q
  · rw [e]; exact q
theorem q_neB {i j : Bool} : rNe (.bl i) (.bl j) H Q = Q (.bl (!decide (i = j))) H := by
  have e : decide (V.bl i = V.bl j) = decide (i = j) := decide_eq_decide.mpr ⟨fun h => V.bl.inj h, fun h => by rw [h]⟩
  refine propext ⟨fun ⟨_, q⟩ => ?_, fun q => ⟨rfl, ?_⟩⟩
  · rw [e] at q; exact q
  · rw [e]; exact q
theorem q_abs {i : Int} : rAbs [.int i] H Q = Q (.int (i.natAbs : Nat)) H := propext ⟨fun ⟨a, e, q⟩ => by cases e; exact q, fun q => ⟨i, rfl, q⟩⟩
theorem q_toint {i : Int} : rInt [.int i] H Q = Q (.int i) H := propext ⟨fun ⟨a, e, q⟩ => by cases e; exact q, fun q => ⟨i, rfl, q⟩⟩
theorem q_tointB {b : Bool} : rIntB [.bl b] H Q = Q (.int (if b then 1 else 0)) H := propext ⟨fun ⟨a, e, q⟩ => by cases e; exact q, fun q => ⟨b, rfl, q⟩⟩
theorem q_lenS {l : List Nat} : rLenS [vS l] H Q = (l.length ≤ sizeLine ∧ Q (.int (l.length : Nat)) H) := propext ⟨fun ⟨m, e, q⟩ => by have e := S_inj.mp (V.str.inj (List.cons.inj e).1); subst e; exact q, fun q => ⟨l, rfl, q⟩⟩
theorem q_addS {l m : List Nat} : rAddS (vS l) (vS m) H Q = (l.length + m.length ≤ sizeLine ∧ Q (vS (l ++ m)) H) := propext ⟨fun ⟨a, b, e, e2, q⟩ => by have e := S_inj.mp (V.str.inj e); subst e; have e2 := S_inj.mp (V.str.inj e2); subst e2; exact q, fun q => ⟨l, m, rfl, rfl, q⟩⟩
theorem q_slS {l : List Nat} {lo hi : Option Int} : rSlSg (vS l) lo hi H Q = (l.length ≤ sizeLine ∧ Q (vS (cutN l lo hi)) H) := propext ⟨fun ⟨a, e, q⟩ => by have e := S_inj.mp (V.str.inj e); subst e; exact q, fun q => ⟨l, rfl, q⟩⟩
theorem q_sl {r : V → Option Int → Option Int → Hp → VK → Prop} {tl th : TO} : tSl r te tl th σs H Q = te σs H fun x H1 => tl σs H1 fun lo H2 => th σs H2 fun hi H3 => r x lo hi H3 Q := rfl
theorem q_noP {R : Option Int → Hp → Prop} : tNoPart σs H R = R none H := rfl
theorem q_part {R : Option Int → Hp → Prop} : tPart te σs H R = te σs H fun x H1 => ∃ i, x = .int i ∧ R (some i) H1 := rfl
theorem q_lst : tLst tA σs H Q = tA σs H fun xs H1 => NewL xs H1 Q := rfl
theorem q_tup : tTup tA σs H Q = tA σs H fun xs H1 => NewT xs H1 Q := rfl
theorem q_bm {T : String} {r : V → List V → Hp → VK → Prop} {to : TE} : tBM K T r to tA σs H Q = to σs H fun x H1 => tyV K T x H1 ∧ tA σs H1 fun vs H2 => r x vs H2 Q := rfl
theorem q_bm0 {T : String} {r : V → List V → Hp → VK → Prop} {to : TE} : tBM0 K T r to σs H Q = to σs H fun x H1 => tyV K T x H1 ∧ r x [] H1 Q := rfl
theorem q_for {wi : TI} : tFor wi g tb ⟨nx, rt, bk, ct⟩ σs H = wi σs H fun J H1 => LoopEnd J g tb ⟨nx, rt, bk, ct⟩ σs H1 := rfl
theorem q_iRng1 {R : It → Hp → Prop} : iRng1 tA σs H R = tA σs H fun vs H1 => Rg1 vs H1 R := rfl
theorem q_iRng2 {R : It → Hp → Prop} : iRng2 tA σs H R = tA σs H fun vs H1 => Rg2 vs H1 R := rfl
theorem q_iRng3 {R : It → Hp → Prop} : iRng3 tA σs H R = tA σs H fun vs H1 => Rg3 vs H1 R := rfl
theorem q_iList {R : It → Hp → Prop} : iList K te σs H R = te σs H fun x H1 => FoL K x H1 R := rfl
theorem q_iTup {R : It → Hp → Prop} : iTup K te σs H R = te σs H fun x H1 => FoT K x H1 R := rfl
theorem q_iStr {R : It → Hp → Prop} : iStr te σs H R = te σs H fun x H1 => FoS x H1 R := rfl
theorem q_iRev {R : It → Hp → Prop} : iRev K tA σs H R = tA σs H fun vs H1 => FoR K vs H1 R := rfl
theorem q_iEnum {R : It → Hp → Prop} : iEnum K tA σs H R = tA σs H fun vs H1 => FoE K vs H1 R := rfl
theorem q_yes {R : Bool → Hp → Prop} : tYes σs H R = R true H := rfl
theorem q_lc {wi : TI} {vs : List Nat} : tLc wi g tt te vs σs H Q = wi σs H fun J H1 => LcEnd J g tt te vs σs H1 Q := rfl
theorem q_iteT {A B : Prop} : (if true = true then A else B) = A := if_pos rfl
theorem q_iteF {A B : Prop} : (if false = true then A else B) = B := if_neg Bool.false_ne_true
theorem w_cdiv {i j : Int} (h1 : 0 < j) (h2 : j < 1073741824) : CDiv i j := ⟨h1, h2⟩
theorem w_cmul1 {i j : Int} (h1 : -(2 ^ 64) < i) (h2 : i < 2 ^ 64) : CMul i j := .inl ⟨h1, h2⟩
theorem w_cmul2 {i j : Int} (h1 : -(2 ^ 64) < j) (h2 : j < 2 ^ 64) : CMul i j := .inr ⟨h1, h2⟩
theorem w_size {n : Nat} (h : n ≤ 16777216) : n ≤ sizeLine := by rw [sizeLine_eq]; exact h
theorem w_sizel {n : Nat} (h : n < 16777216) : n < sizeLine := by rw [sizeLine_eq]; exact h
theorem w_conj {A B : Prop} (h2 : B) (h1 : A) : A ∧ B := ⟨h1, h2⟩
end
end Fw
namespace Fw
open PySem PySem.Spec PyProof.Rows L2
/-! ### isinstance of built-in kinds -/
section
variable {K : PySem.W.Frag} {H : Hp} {Q : VK} {x : V} {i : Int} {z : Str} {bb : Bool} {a : Addr} {xs : List V} {F0 H0 F : Hp} {L : List (Addr × HO)} {C : List Ck}
theorem w_isi {b : Bool} (t n : String) (b : Bool) (ty : TyX K H x (.type t)) (h : kitB t n = some b) (q : Q (.bl b) H) : rIsi K [x, .ty n] H Q := ⟨x, .ty n, _, _, b, rfl, .ty n, ty, kit_ty h, q⟩
theorem w_isiII (q : Q (.bl true) H) : rIsi K [.int i, .ty "int"] H Q := w_isi (b := true) "int" "int" true (.base (.int i)) (by decide +kernel) q
theorem w_isiIB (q : Q (.bl false) H) : rIsi K [.int i, .ty "bool"] H Q := w_isi (b := true) "int" "bool" false (.base (.int i)) (by decide +kernel) q
theorem w_isiBB (q : Q (.bl true) H) : rIsi K [.bl bb, .ty "bool"] H Q := w_isi (b := true) "bool" "bool" true (.base (.bl bb)) (by decide +kernel) q
theorem w_isiSS (q : Q (.bl true) H) : rIsi K [.str z, .ty "str"] H Q := w_isi (b := true) "str" "str" true (.base (.str z)) (by decide +kernel) q
theorem w_isiLL (q : Q (.bl true) H) (h : H a = some (.lst xs)) : rIsi K [.ref a, .ty "list"] H Q := w_isi (b := true) "list" "list" true (.base (.lst h)) (by decide +kernel) q
theorem w_isiTT (q : Q (.bl true) H) (h : H a = some (.tup xs)) : rIsi K [.ref a, .ty "tuple"] H Q := w_isi (b := true) "tuple" "tuple" true (.base (.tup h)) (by decide +kernel) q
end
end Fw
namespace Fw
open PySem PySem.Spec PyProof.Rows L2
theorem w_cut {t u : TS} {nx bk ct : L2.St → Hp → Prop} {rt : VK} {σ : L2.St} {H : Hp} (Mid : L2.St → Hp → Prop) (h1 : t ⟨Mid, rt, bk, ct⟩ σ H) (h2 : ∀ σ' H', Mid σ' H' → u ⟨nx, rt, bk, ct⟩ σ' H') : Evl.tCut t u ⟨nx, rt, bk, ct⟩ σ H := ⟨Mid, h1, h2⟩
end Fw
namespace Fw
open PySem PySem.Spec PyProof.Rows L2
/-! ### lists of tuples -/
def cTs (ts : List Addr) (f : Nat → List V) : Ck := ⟨fun F => ∀ (j : Nat) t, ts[j]? = some t → F t = some (.tup (f j)), fun s h j t e => s _ _ (h j t e)⟩
theorem cTs_nil {F : Hp} (f : Nat → List V) : (cTs [] f).p F := fun j t e => by simp at e
theorem cTs_add {F : Hp} {ts : List Addr} {f : Nat → List V} {t : Addr} (h : (cTs ts f).p F) (e : F t = some (.tup (f ts.length))) : (cTs (ts ++ [t]) f).p F := by
  intro j u hu
  by_cases hj : j < ts.length
  · rw [List.getElem?_append_left hj] at hu
    exact h j u hu
  · rw [List.getElem?_append_right (by omega)] at hu
    by_cases h0 : j - ts.length = 0
    · rw [h0] at hu
      have e1 : t = u := Option.some.inj hu
      have e2 : j = ts.length := by omega
      rw [← e1, e2]
      exact e
    · rw [List.getElem?_eq_none (by simp; omega)] at hu
      cases hu
theorem map_ref_add (ts : List Addr) (t : Addr) : ts.map V.ref ++ [V.ref t] = (ts ++ [t]).map V.ref := by rw [List.map_append]; rfl
theorem cutN_nat (l : List Nat) (a b : Nat) : cutN l (some (a : Int)) (some (b : Int)) = (l.drop a).take (b - a) := by
  unfold cutN
  rw [HT.sIx_nat, HT.sIx_nat]
  by_cases h : a ≤ l.length
  · rw [Nat.min_eq_left h]
    by_cases h2 : b ≤ l.length
    · rw [Nat.min_eq_left h2]
    · rw [Nat.min_eq_right (show l.length ≤ b by omega), List.take_of_length_le (by rw [List.length_drop]; exact Nat.le_refl _), List.take_of_length_le (by rw [List.length_drop]; omega)]
  · rw [Nat.min_eq_right (show l.length ≤ a by omega), List.drop_length, List.drop_eq_nil_of_le (show l.length ≤ a by omega)]
    simp
theorem cutN_to (l : List Nat) (b : Nat) : cutN l none (some (b : Int)) = l.take b := by
  unfold cutN
  rw [HT.sIx_nat, HT.sIx_none]
  show List.take (min b l.length - 0) (l.drop 0) = _
  rw [Nat.sub_zero, List.drop_zero]
  by_cases h : b ≤ l.length
  · rw [Nat.min_eq_left h]
  · rw [Nat.min_eq_right (show l.length ≤ b by omega), List.take_length, List.take_of_length_le (show l.length ≤ b by omega)]
theorem cutN_from (l : List Nat) (a : Nat) : cutN l (some (a : Int)) none = l.drop a := by
  unfold cutN
  rw [HT.sIx_nat, HT.sIx_none]
  by_cases h : a ≤ l.length
  · rw [Nat.min_eq_left h, List.take_of_length_le (by rw [List.length_drop]; exact Nat.le_refl _)]
  · rw [Nat.min_eq_right (show l.length ≤ a by omega), List.drop_length, List.drop_eq_nil_of_le (show l.length ≤ a by omega)]
    simp
end Fw
namespace Fw
open PySem PySem.Spec PyProof.Rows L2
section
variable {K : PySem.W.Frag} {H : Hp} {Q : VK} {a b : Addr} {ns ms : List Int}
theorem dpAll_ints : ∀ ns : List Int, DpAll K H (ns.map V.int) (ns.map PyData.int)
  | [] => .nil
  | n :: r => .cons (.int n) (dpAll_ints r)
theorem shaped_ints (ns : List Int) : SeqAt.shaped (.list (ns.map PyData.int)) = true := by
  unfold SeqAt.shaped
  refine Bool.and_eq_true_iff.mpr ⟨?_, decide_eq_true ?_⟩
  · show PyData.canLayAll0 (ns.map PyData.int) = true
    induction ns with
    | nil => rfl
    | cons n r ih => show (true && PyData.canLayAll0 (r.map PyData.int)) = true; rw [ih]; rfl
  · show PyData.depthAll (ns.map PyData.int) + 1 ≤ 64
    have h : PyData.depthAll (ns.map PyData.int) = 0 := by
      induction ns with
      | nil => rfl
      | cons n r ih => show max 0 (PyData.depthAll (r.map PyData.int)) = 0; rw [ih]; rfl
    omega
theorem w_eqDI (q : Q (.bl (decide (ns = ms))) H) (ha : SqL K H a (ns.map V.int)) (hb : SqL K H b (ms.map V.int)) : rEqD K (.ref a) (.ref b) H Q :=
  ⟨_, _, .lst ha (dpAll_ints ns), .lst hb (dpAll_ints ms), shaped_ints ns, shaped_ints ms, by
    show Q (.bl (PyData.eqvAll (ns.map PyData.int) (ms.map PyData.int))) H
    rw [PySem.W.ked_eqvAll]; exact q⟩
theorem w_neDI (q : Q (.bl (!decide (ns = ms))) H) (ha : SqL K H a (ns.map V.int)) (hb : SqL K H b (ms.map V.int)) : rNeD K (.ref a) (.ref b) H Q :=
  ⟨_, _, .lst ha (dpAll_ints ns), .lst hb (dpAll_ints ms), shaped_ints ns, shaped_ints ms, by
    show Q (.bl (!PyData.eqvAll (ns.map PyData.int) (ms.map PyData.int))) H
    rw [PySem.W.ked_eqvAll]; exact q⟩
variable {F0 H0 F : Hp} {L : List (Addr × HO)} {C : List Ck}
theorem w_sortRev (O : Own F0 H0 F H L C) (ha : SqL K H a (ns.map V.int)) (k : ∀ p H' (ms : List Int), ms.Perm ns → ms.Pairwise (· ≥ ·) → Own F0 H0 F H' ((p, .lst (ms.map V.int)) :: L) C → Q (.ref p) H') : rSortedKw K true [.bl true] [.ref a] [.bl true] H Q :=
  ⟨a, ns, rfl, rfl, ha, fun ms p pm od np => k p _ ms pm od (O.alloc np _)⟩
theorem w_max (h0 : 0 < ns.length) (ha : SqL K H a (ns.map V.int)) (k : ∀ m, m ∈ ns → (∀ y ∈ ns, y ≤ m) → Q (.int m) H) : rMax K [.ref a] H Q := ⟨a, ns, rfl, ha, h0, fun m h1 h2 => k m h1 h2⟩
theorem w_min (h0 : 0 < ns.length) (ha : SqL K H a (ns.map V.int)) (k : ∀ m, m ∈ ns → (∀ y ∈ ns, m ≤ y) → Q (.int m) H) : rMin K [.ref a] H Q := ⟨a, ns, rfl, ha, h0, fun m h1 h2 => k m h1 h2⟩
/-- two lists alike in order are one -/
theorem sorted_one : ∀ {ms ns : List Int}, ms.Perm ns → ms.Pairwise (· ≥ ·) → ns.Pairwise (· ≥ ·) → ms = ns := fun {ms ns} p h1 h2 =>
  List.Perm.eq_of_pairwise (le := (· ≥ ·)) (fun a b _ _ h1 h2 => by omega) h1 h2 p
theorem q_ckw {r : List V → List V → Hp → VK → Prop} {t tk : TA} {σ : L2.St} : tCKw r t tk σ H Q = t σ H fun vs H1 => tk σ H1 fun zs H2 => r vs zs H2 Q := rfl
theorem Own.tup (O : Own F0 H0 F H L C) (i : Nat) {ts : List Addr} {f : Nat → List V} {j : Nat} {t : Addr} (h : C[i]? = some (cTs ts f) := by rfl) (e : ts[j]? = some t) : H t = some (.tup (f j)) := O.fh _ _ (O.cs.get h j t e)
theorem w_ixT2 {xs : List V} {i : Int} {v : V} (q : Q v H) (hs : H a = some (.tup xs)) (hi : atI xs i = some v) : rIxT K (.ref a) (.int i) H Q := w_ixT q (.inl (.inl hs)) hi
end
end Fw
namespace Fw
theorem q_iteNT {A B : Prop} : (if (!true) = true then A else B) = B := if_neg Bool.false_ne_true
theorem q_iteNF {A B : Prop} : (if (!false) = true then A else B) = A := if_pos rfl
theorem sum_rep (n m : Nat) : (List.replicate n m).sum = n * m := by
  induction n with
  | zero => simp
  | succ n ih => rw [List.replicate_succ, List.sum_cons, ih, Nat.succ_mul, Nat.add_comm]
theorem flat_rep {α : Type} (n : Nat) (l : List α) : (List.replicate n l).flatten.length = n * l.length := by
  rw [List.length_flatten, List.map_replicate, sum_rep]
end Fw
namespace Fw
open PySem L2
theorem q_wipe1 {σ : L2.St} {s : Str} {n : Nat} : wipe σ (List.map (fun x => x.snd) [(s, n)]) = σ.set n none := rfl
theorem q_wipe2 {σ : L2.St} {s s' : Str} {n n' : Nat} : wipe σ (List.map (fun x => x.snd) [(s, n), (s', n')]) = (σ.set n' none).set n none := rfl
end Fw
namespace Fw
open PySem PySem.Spec PyProof.Rows L2
/-! ### further rules -/
section
variable {X : Cx} {K : PySem.W.Frag}
def rListQ (K : PySem.W.Frag) : List V → Hp → VK → Prop := fun vs H Q => ∃ p ys, vs = [.ref p] ∧ (SqL K H p ys ∨ SqT K H p ys) ∧ ys.length ≤ sizeLine ∧ NewL ys H Q
theorem listQ_ (e : X.K = K := by rfl) : CallR X (.type "list") (rListQ K) := by
  subst e
  exact fun pins s σ H vs us Q I r ⟨p, ys, e, h, _, n⟩ => call_list_of pins s σ H vs us Q I r ⟨p, ys, e, h, n.2⟩
/-- list(text) -/
def rListS : List V → Hp → VK → Prop := fun vs H Q => ∃ l : List Nat, vs = [vS l] ∧ l.length ≤ sizeLine ∧ NewL (l.map fun c => vS [c]) H Q
theorem vals_signs {x : Str} : ∀ {l : List Nat} {vs : List Value}, vs.length = l.length → (∀ (j : Nat) v, vs[j]? = some v → ∃ c u, l[j]? = some c ∧ v = .str ⟨#[c]⟩ u) → Vals (l.map fun c => vS [c]) vs
  | [], [], _, _ => .nil
  | [], _ :: _, h, _ => by cases h
  | _ :: _, [], h, _ => by cases h
  | c :: l, v :: vs, h, f => by
    obtain ⟨c', u, e1, e2⟩ := f 0 v rfl
    have e3 : c = c' := Option.some.inj e1
    subst e3
    exact .cons ⟨u, e2⟩ (vals_signs (x := x) (by simpa using h) fun j w hw => f (j + 1) w hw)
theorem listS_ (hc : X.calm = true) : CallR X (.type "list") rListS := by
  intro pins s σ H vs us Q I r h
  obtain ⟨l, rfl, hz, q⟩ := h
  obtain ⟨u, rfl, t, rfl⟩ := vals1 r
  refine call_list_str (I.ok.hd hc) (S l) t (fun h' tk acc' c' kp e it => ?_) (by show (S l).cps.size ≤ sizeLine; simpa [S] using hz)
  refine ⟨.ref s.heap.objs.size, _, I.laid (t' := tk) kp (Nat.le_refl _) (show ObjOk X.prog X.w _ h' _ (.lst (l.map fun c => vS [c])) from ⟨by rw [List.length_map]; exact hz, acc'.toList, c', ?_, e⟩), rfl, q.2 _ (I.hok.fresh (Nat.le_refl _))⟩
  refine vals_signs (x := S l) ?_ fun j v hv => ?_
  · rw [Array.length_toList, it.1]
    simp [S]
  · obtain ⟨c, u, e1, e2⟩ := it.2 j v (by simpa using hv)
    exact ⟨c, u, by simpa [S] using e1, e2⟩
/-- list[i] in an augmented assignment, 0 ≤ i -/
def rGetL (K : PySem.W.Frag) : V → V → Hp → VK → Prop := fun x y H Q => ∃ p xs i v, x = .ref p ∧ y = .int i ∧ SqL K H p xs ∧ 0 ≤ i ∧ xs[i.toNat]? = some v ∧ Q v H
theorem getL_ (e : X.K = K := by rfl) : PGet X (rGetL K) := by
  subst e
  intro pins s σ H o i ov iv Q I rx ry h
  obtain ⟨p, xs, i, v, rfl, rfl, hq, h0, he, q⟩ := h
  cases rx
  obtain ⟨t, rfl⟩ := ry
  obtain ⟨its, r, pl, hz⟩ := I.list hq
  obtain ⟨w, ew, rw'⟩ := r.get he
  have hl := r.length
  have hn := line63
  have hlt := (List.getElem?_eq_some_iff.mp he).1
  exact wpAny_getItem_list pl.isList h0 (by omega) (by simpa using ew) ⟨v, H, I, rw', q⟩
/-- sep.join(texts) -/
def joinN (sep : List Nat) : List (List Nat) → List Nat
  | [] => []
  | [x] => x
  | x :: r => x ++ (sep ++ joinN sep r)
theorem joinN_cons (sep x y : List Nat) (r : List (List Nat)) : joinN sep (x :: y :: r) = x ++ (sep ++ joinN sep (y :: r)) := rfl
theorem joinN_nil : ∀ ys : List (List Nat), joinN [] ys = ys.flatten
  | [] => rfl
  | [x] => by simp [joinN]
  | x :: y :: r => by rw [joinN_cons, joinN_nil (y :: r), List.nil_append]; rfl
theorem glue_fold (sep : List Nat) : ∀ (r : List (List Nat)) (acc : List Nat), (r.map S).foldl (fun (a : Array Nat) (p : Str) => a ++ (S sep).cps ++ p.cps) acc.toArray = (r.foldl (fun a p => a ++ (sep ++ p)) acc).toArray
  | [], acc => rfl
  | x :: r, acc => by
    rw [List.map_cons, List.foldl_cons, List.foldl_cons, ← glue_fold sep r (acc ++ (sep ++ x))]
    congr 1
    simp [S]
theorem glue_join (sep : List Nat) : ∀ (r : List (List Nat)) (x : List Nat), r.foldl (fun a p => a ++ (sep ++ p)) x = joinN sep (x :: r)
  | [], x => rfl
  | y :: r, x => by
    rw [List.foldl_cons, glue_join sep r, joinN_cons]
    cases r with
    | nil => rfl
    | cons z r => rw [joinN_cons, joinN_cons]; simp
theorem txt_join (sep : List Nat) (ys : List (List Nat)) : Txt.join (S sep) (ys.map S) = S (joinN sep ys) := by
  show (⟨((ys.map S).drop 1).foldl (fun (acc : Array Nat) (p : Str) => acc ++ (S sep).cps ++ p.cps) ((ys.map S).headD Str.empty).cps⟩ : Str) = _
  cases ys with
  | nil => rfl
  | cons x r =>
    show (⟨(r.map S).foldl (fun (acc : Array Nat) (p : Str) => acc ++ (S sep).cps ++ p.cps) (S x).cps⟩ : Str) = _
    have e := glue_fold sep r x
    rw [glue_join] at e
    show (⟨(r.map S).foldl (fun (acc : Array Nat) (p : Str) => acc ++ (S sep).cps ++ p.cps) x.toArray⟩ : Str) = _
    rw [e]
    rfl
def rJoin (K : PySem.W.Frag) : V → List V → Hp → VK → Prop := fun x xs H Q => ∃ (l : List Nat) (p : Addr) (ys : List (List Nat)), x = vS l ∧ xs = [.ref p] ∧ (SqL K H p (ys.map vS) ∨ SqT K H p (ys.map vS)) ∧ (ys.map List.length).sum + ys.length * l.length ≤ 16777216 ∧ Q (vS (joinN l ys)) H
theorem mt_joinN (e : X.K = K := by rfl) : MtR X "str.join" (rJoin K) := by
  subst e
  intro pins s σ H x xs v us Q I rx rs h
  obtain ⟨l, p, ys, e1, e2, hp, hz, q⟩ := h
  have em : ys.map vS = (ys.map S).map V.str := by rw [List.map_map]; rfl
  refine mt_join pins s σ H x xs v us Q I rx rs ⟨S l, p, ys.map S, e1, e2, by rw [← em]; exact hp, ?_, by rw [txt_join]; exact q⟩
  rw [List.map_map, List.length_map, S_len]
  have e3 : ((fun z : Str => z.length) ∘ S) = List.length := by funext z; exact S_len z
  rw [e3]
  exact hz
theorem pe_joinL {o e : Expr} {apos pos : Pos} {to te : TE} (ho : PE X o to) (he : PE X e te) (eK : X.K = K := by rfl) (hs : starEach [e] X.env = [(false, eval e X.env)] := by rfl) (hbase : attributeBase o "join" X.env (eval o X.env) = eval o X.env := by rfl) (hline : (apos.endLine == pos.line) = true := by rfl) :
    PE X (.Call (.Attribute o "join" apos) [e] [] pos) (tM1 (rJoin K) to te) := pe_m1 PySem.F.slot_str_join PySem.F.type_str_join (mt_joinN eK) ho he hs hbase hline
/-- text.index(sign), the sign stands in it -/
def rIdxS : V → List V → Hp → VK → Prop := fun x xs H Q => ∃ (l : List Nat) (c : Nat), x = vS l ∧ xs = [vS [c]] ∧ c ∈ l ∧ Q (.int (l.idxOf c : Nat)) H
theorem occ_idx {l : List Nat} {c : Nat} (h : c ∈ l) : ∃ r, Builtin.Str.occurrences (S l) (S [c]) 0 (S l).length 1 = l.idxOf c :: r := by
  rcases StrLaws.occ_head (S l) (S [c]) 1 (Nat.le_refl _) with ⟨_, hn⟩ | ⟨i, r, e, ha, hn⟩
  · obtain ⟨i, hi⟩ := List.mem_iff_getElem?.mp h
    exact absurd ((StrLaws.subAt_one (S l) c i).mpr (by rw [S_list]; exact hi)) (hn i)
  · refine ⟨r, ?_⟩
    rw [e]
    congr 1
    have h1 := (StrLaws.subAt_one (S l) c i).mp ha
    rw [S_list] at h1
    have h2 : ∀ k, k < i → l[k]? ≠ some c := fun k hk z => hn k hk ((StrLaws.subAt_one (S l) c k).mpr (by rw [S_list]; exact z))
    obtain ⟨hi, hv⟩ := List.getElem?_eq_some_iff.mp h1
    have hlt : l.idxOf c < l.length := List.idxOf_lt_length_of_mem h
    have hg : l[l.idxOf c]? = some c := by
      rw [List.getElem?_eq_getElem hlt, List.getElem_idxOf hlt]
    by_cases h3 : l.idxOf c < i
    · exact absurd hg (h2 _ h3)
    · by_cases h4 : i < l.idxOf c
      · exact absurd hv (by
          have := List.not_of_lt_findIdx (p := (· == c)) (xs := l) (i := i) h4
          simpa using this)
      · omega
theorem mt_idxS : MtR X "str.index" rIdxS := by
  intro pins s σ H x xs v us Q I rx rs h
  obtain ⟨l, c, e1, e2, hc, q⟩ := h
  obtain ⟨r, e⟩ := occ_idx hc
  exact mt_sindex pins s σ H x xs v us Q I rx rs ⟨S l, S [c], _, r, e1, e2, e, q⟩
theorem pe_indexL {o e : Expr} {apos pos : Pos} {to te : TE} (ho : PE X o to) (he : PE X e te) (hs : starEach [e] X.env = [(false, eval e X.env)] := by rfl) (hbase : attributeBase o "index" X.env (eval o X.env) = eval o X.env := by rfl) (hline : (apos.endLine == pos.line) = true := by rfl) :
    PE X (.Call (.Attribute o "index" apos) [e] [] pos) (tM1 rIdxS to te) := pe_m1 PySem.F.slot_str_index PySem.F.type_str_index mt_idxS ho he hs hbase hline
def rStarts : V → List V → Hp → VK → Prop := fun x xs H Q => ∃ l m : List Nat, x = vS l ∧ xs = [vS m] ∧ Q (.bl (m.isPrefixOf l)) H
theorem starts_pre (l m : List Nat) : Txt.startswith (S l) (S m) = m.isPrefixOf l := by
  unfold Txt.startswith
  rw [S_len, S_len, StrLaws.subAt_eq]
  rw [Bool.eq_iff_iff, Bool.and_eq_true, decide_eq_true_eq, List.isPrefixOf_iff_prefix]
  show (0 + m.length ≤ l.length ∧ (((S l).cps.toList.drop 0).take (S m).cps.toList.length == (S m).cps.toList) = true) ↔ _
  rw [S_list, S_list, List.drop_zero, beq_iff_eq]
  constructor
  · rintro ⟨_, h⟩
    rw [← h]
    exact List.take_prefix _ _
  · intro h
    exact ⟨by have := h.length_le; omega, (List.prefix_iff_eq_take.mp h).symm⟩
theorem mt_startsN : MtR X "str.startswith" rStarts := by
  intro pins s σ H x xs v us Q I rx rs h
  obtain ⟨l, m, e1, e2, q⟩ := h
  exact mt_startswith pins s σ H x xs v us Q I rx rs ⟨S l, S m, e1, e2, by rw [starts_pre]; exact q⟩
theorem pe_startsL {o e : Expr} {apos pos : Pos} {to te : TE} (ho : PE X o to) (he : PE X e te) (hs : starEach [e] X.env = [(false, eval e X.env)] := by rfl) (hbase : attributeBase o "startswith" X.env (eval o X.env) = eval o X.env := by rfl) (hline : (apos.endLine == pos.line) = true := by rfl) :
    PE X (.Call (.Attribute o "startswith" apos) [e] [] pos) (tM1 rStarts to te) := pe_m1 PySem.F.slot_str_startswith PySem.F.type_str_startswith mt_startsN ho he hs hbase hline
end
section
variable {nx bk ct : L2.St → Hp → Prop} {rt : VK} {t u tb : TS} {H F0 H0 F : Hp} {L : List (Addr × HO)} {C : List Ck} {te ta tc : TE} {Q : VK} {v x y : V} {g : TG} {tt : TT} {tA : TA} {K : PySem.W.Frag} {σ : L2.St} {a b : Addr} {xs ys : List V} {i : Int}
theorem w_listL (O : Own F0 H0 F H L C) (hs : SqL K H a xs) (k : ∀ p H', Own F0 H0 F H' ((p, .lst xs) :: L) C → Q (.ref p) H') (hz : xs.length ≤ sizeLine) : rListQ K [.ref a] H Q := ⟨a, xs, rfl, .inl hs, hz, w_newL O k hz⟩
theorem w_listS {l : List Nat} (O : Own F0 H0 F H L C) (k : ∀ p H', Own F0 H0 F H' ((p, .lst (l.map fun c => vS [c])) :: L) C → Q (.ref p) H') (hz : l.length ≤ sizeLine) : rListS [vS l] H Q := ⟨l, rfl, hz, w_newL O k (by rw [List.length_map]; exact hz)⟩
theorem q_gsub {to ti : TE} {ts : TSet} {R : L2.St → Hp → Prop} : gSub to ti ts v σ H R = to σ H fun o H1 => ti σ H1 fun i H2 => ts o i v H2 fun H3 => R σ H3 := rfl
theorem q_asgG {to ti : TE} {ts : TSet} : tAsg te (gSub to ti ts) ⟨nx, rt, bk, ct⟩ σ H = te σ H fun x H1 => gSub to ti ts x σ H1 nx := rfl
theorem q_asgT {n : Nat} {tg : TGs} : tAsg te (gTup K n tg) ⟨nx, rt, bk, ct⟩ σ H = te σ H fun x H1 => gTup K n tg x σ H1 nx := rfl
theorem q_gnil {R : L2.St → Hp → Prop} : gNil [] σ H R = R σ H := propext ⟨fun ⟨_, q⟩ => q, fun q => ⟨rfl, q⟩⟩
theorem q_gcons {tg : TG} {tgs : TGs} {R : L2.St → Hp → Prop} : gCons tg tgs (v :: xs) σ H R = tg v σ H fun σ' H' => tgs xs σ' H' R := propext ⟨fun ⟨_, _, e, q⟩ => by cases e; exact q, fun q => ⟨v, xs, rfl, q⟩⟩
theorem w_gtup {n : Nat} {tg : TGs} {R : L2.St → Hp → Prop} (h : tg xs σ H R) (hs : SqT K H a xs) (hn : xs.length = n := by rfl) : gTup K n tg (.ref a) σ H R := ⟨a, xs, rfl, hs, hn, h⟩
theorem q_par {j k : Nat} : tPar j k tA ⟨nx, rt, bk, ct⟩ σ H = tA σ H fun vs H1 => ∃ v w, vs = [v, w] ∧ nx ((σ.set j (some v)).set k (some w)) H1 := rfl
theorem q_two {w : V} {R : V → V → Prop} : (∃ x y, [v, w] = [x, y] ∧ R x y) = R v w := propext ⟨fun ⟨_, _, e, q⟩ => by cases e; exact q, fun q => ⟨_, _, rfl, q⟩⟩
theorem q_chain {r r' : R2} : tChain r r' te ta tc σ H Q = te σ H fun x H1 => ta σ H1 fun y H2 => r x y H2 fun z H3 => ∃ k, z = .bl k ∧ (if k = true then tc σ H3 fun w' H4 => r' y w' H4 Q else Q (.bl false) H3) := rfl
theorem q_m1 {r : V → List V → Hp → VK → Prop} {to : TE} : tM1 r to te σ H Q = to σ H fun x H1 => (∃ a, x = .str a) ∧ te σ H1 fun y H2 => r x [y] H2 Q := rfl
theorem q_isS {z : Str} {P : Prop} : ((∃ a, V.str z = .str a) ∧ P) = P := propext ⟨fun h => h.2, fun h => ⟨⟨z, rfl⟩, h⟩⟩
theorem q_augS {to ti : TE} {tget : V → V → Hp → VK → Prop} {tip : TIp} {ts : TSet} : tAugS to ti te tget tip ts ⟨nx, rt, bk, ct⟩ σ H = to σ H fun o H1 => ti σ H1 fun i H2 => tget o i H2 fun x H3 => te σ H3 fun y H4 => tip x y H4 fun z H5 => ts o i z H5 fun H6 => nx σ H6 := rfl
theorem q_ipI {f : Int → Int → Int} {i j : Int} : ipI f (.int i) (.int j) H Q = Q (.int (f i j)) H := propext ⟨fun ⟨_, _, e1, e2, q⟩ => by cases e1; cases e2; exact q, fun q => ⟨i, j, rfl, rfl, q⟩⟩
theorem ixN_pos {n : Nat} (h : 0 ≤ i ∧ i < n) : ixN n i = some i.toNat := by
  unfold ixN
  rw [if_pos h.1, if_pos (by omega)]
theorem w_set {j : Nat} {R : Hp → Prop} (O : Own F0 H0 F H L C) (hi : L[j]? = some (a, .lst xs)) (h : 0 ≤ i ∧ i < xs.length) (k : ∀ H', Own F0 H0 F H' (L.set j (a, .lst (xs.set i.toNat v))) C → R H') : rSetL (.ref a) (.int i) v H R :=
  ⟨a, xs, i, i.toNat, rfl, rfl, O.at_ j hi, ixN_pos h, k _ (O.set j hi _)⟩
theorem w_set0 {R : Hp → Prop} (O : Own F0 H0 F H ((a, .lst xs) :: L) C) (k : ∀ H', Own F0 H0 F H' ((a, .lst (xs.set i.toNat v)) :: L) C → R H') (h : 0 ≤ i ∧ i < xs.length) : rSetL (.ref a) (.int i) v H R := w_set (j := 0) O rfl h k
theorem w_set1 {q : Addr × HO} {R : Hp → Prop} (O : Own F0 H0 F H (q :: (a, .lst xs) :: L) C) (k : ∀ H', Own F0 H0 F H' (q :: (a, .lst (xs.set i.toNat v)) :: L) C → R H') (h : 0 ≤ i ∧ i < xs.length) : rSetL (.ref a) (.int i) v H R := w_set (j := 1) O rfl h k
theorem w_set2 {q q' : Addr × HO} {R : Hp → Prop} (O : Own F0 H0 F H (q :: q' :: (a, .lst xs) :: L) C) (k : ∀ H', Own F0 H0 F H' (q :: q' :: (a, .lst (xs.set i.toNat v)) :: L) C → R H') (h : 0 ≤ i ∧ i < xs.length) : rSetL (.ref a) (.int i) v H R := w_set (j := 2) O rfl h k
theorem w_getN {ns : List Int} (q : Q (.int (ns.getD i.toNat 0)) H) (hs : SqL K H a (ns.map V.int)) (h : 0 ≤ i ∧ i < ns.length) : rGetL K (.ref a) (.int i) H Q := by
  refine ⟨a, _, i, .int (ns.getD i.toNat 0), rfl, rfl, hs, h.1, ?_, q⟩
  rw [List.getElem?_map, List.getD_eq_getElem?_getD, List.getElem?_eq_getElem (by omega)]
  rfl
theorem w_rep (O : Own F0 H0 F H L C) (hs : H a = some (.lst xs)) (k : ∀ p H', Own F0 H0 F H' ((p, .lst (List.replicate i.toNat xs).flatten) :: L) C → Q (.ref p) H') (h : -(2 ^ 63) ≤ i ∧ i < 2 ^ 63) (hz : xs.length * i.toNat ≤ sizeLine) : rRep (.ref a) (.int i) H Q :=
  ⟨a, i, xs, rfl, rfl, hs, h.1, h.2, hz, fun p np => k p _ (O.alloc np _)⟩
theorem w_slL {lo hi : Option Int} (O : Own F0 H0 F H L C) (hs : SqL K H a xs) (k : ∀ p H', Own F0 H0 F H' ((p, .lst (cutV xs lo hi)) :: L) C → Q (.ref p) H') : rSlL K (.ref a) lo hi H Q := ⟨a, xs, rfl, hs, fun p np => k p _ (O.alloc np _)⟩
theorem w_cat (O : Own F0 H0 F H L C) (hs : H a = some (.lst xs)) (ht : H b = some (.lst ys)) (k : ∀ p H', Own F0 H0 F H' ((p, .lst (xs ++ ys)) :: L) C → Q (.ref p) H') (hz : xs.length + ys.length ≤ sizeLine) : rCat (.ref a) (.ref b) H Q := ⟨a, b, xs, ys, rfl, rfl, hs, ht, hz, fun p np => k p _ (O.alloc np _)⟩
theorem w_ext {j : Nat} (O : Own F0 H0 F H L C) (hi : L[j]? = some (a, .lst xs)) (hb : H b = some (.lst ys)) (k : ∀ H', Own F0 H0 F H' (L.set j (a, .lst (xs ++ ys))) C → Q .non H') (hz : xs.length + ys.length ≤ sizeLine) : rExtend (.ref a) [.ref b] H Q :=
  ⟨a, b, xs, ys, rfl, rfl, O.at_ j hi, hb, hz, k _ (O.set j hi _)⟩
theorem w_ext0 (O : Own F0 H0 F H ((a, .lst xs) :: L) C) (hb : H b = some (.lst ys)) (k : ∀ H', Own F0 H0 F H' ((a, .lst (xs ++ ys)) :: L) C → Q .non H') (hz : xs.length + ys.length ≤ sizeLine) : rExtend (.ref a) [.ref b] H Q := w_ext (j := 0) O rfl hb k hz
theorem w_ext1 {q : Addr × HO} (O : Own F0 H0 F H (q :: (a, .lst xs) :: L) C) (hb : H b = some (.lst ys)) (k : ∀ H', Own F0 H0 F H' (q :: (a, .lst (xs ++ ys)) :: L) C → Q .non H') (hz : xs.length + ys.length ≤ sizeLine) : rExtend (.ref a) [.ref b] H Q := w_ext (j := 1) O rfl hb k hz
theorem w_rev {j : Nat} (O : Own F0 H0 F H L C) (hi : L[j]? = some (a, .lst xs)) (k : ∀ H', Own F0 H0 F H' (L.set j (a, .lst xs.reverse)) C → Q .non H') : rReverse (.ref a) [] H Q := ⟨a, xs, rfl, rfl, O.at_ j hi, k _ (O.set j hi _)⟩
theorem w_rev0 (O : Own F0 H0 F H ((a, .lst xs) :: L) C) (k : ∀ H', Own F0 H0 F H' ((a, .lst xs.reverse) :: L) C → Q .non H') : rReverse (.ref a) [] H Q := w_rev (j := 0) O rfl k
theorem w_join {l : List Nat} {ls : List (List Nat)} (q : Q (vS (joinN l ls)) H) (hs : SqL K H a (ls.map vS)) (hz : (ls.map List.length).sum + ls.length * l.length ≤ 16777216) : rJoin K (vS l) [.ref a] H Q := ⟨l, a, ls, rfl, rfl, .inl hs, hz, q⟩
theorem q_starts {l m : List Nat} : rStarts (vS l) [vS m] H Q = Q (.bl (m.isPrefixOf l)) H := propext ⟨fun ⟨l', m', e1, e2, q⟩ => by
  have e1 := S_inj.mp (V.str.inj e1)
  subst e1
  have e2 := S_inj.mp (V.str.inj (List.cons.inj e2).1)
  subst e2
  exact q, fun q => ⟨l, m, rfl, rfl, q⟩⟩
theorem w_idxS {l : List Nat} {c : Nat} (q : Q (.int (l.idxOf c : Nat)) H) (h : c ∈ l) : rIdxS (vS l) [vS [c]] H Q := ⟨l, c, rfl, rfl, h, q⟩
/-! text == text by their signs -/
theorem decide_S {l m : List Nat} : decide (S l = S m) = decide (l = m) := decide_eq_decide.mpr S_inj
/-! a list of lists of integers, each frozen -/
def cNs (ts : List Addr) (nss : List (List Int)) : Ck := ⟨fun F => ts.length = nss.length ∧ ∀ (j : Nat) t ns, ts[j]? = some t → nss[j]? = some ns → F t = some (.lst (ns.map V.int)), fun s h => ⟨h.1, fun j t ns e1 e2 => s _ _ (h.2 j t ns e1 e2)⟩⟩
theorem cNs_nil {F : Hp} : (cNs [] []).p F := ⟨rfl, fun j t ns e => by simp at e⟩
theorem cNs_add {F : Hp} {ts : List Addr} {nss : List (List Int)} {t : Addr} {ns : List Int} (h : (cNs ts nss).p F) (e : F t = some (.lst (ns.map V.int))) : (cNs (ts ++ [t]) (nss ++ [ns])).p F := by
  refine ⟨by rw [List.length_append, List.length_append, h.1]; rfl, fun j u ms hu hm => ?_⟩
  by_cases hj : j < ts.length
  · rw [List.getElem?_append_left hj] at hu
    rw [List.getElem?_append_left (by have := h.1; omega)] at hm
    exact h.2 j u ms hu hm
  · rw [List.getElem?_append_right (by omega)] at hu
    rw [List.getElem?_append_right (by have := h.1; omega), ← h.1] at hm
    by_cases h0 : j - ts.length = 0
    · rw [h0] at hu hm
      have e1 : t = u := Option.some.inj hu
      have e2 : ns = ms := Option.some.inj hm
      rw [← e1, ← e2]
      exact e
    · rw [List.getElem?_eq_none (by simp; omega)] at hu
      cases hu
end
end Fw

namespace Fw
open PySem PySem.Spec PyProof.Rows L2
/-! ### promises whose arguments are told of the heap at the entry -/
def SpV (R : V → Prop) (H : Hp) (Q : VK) : Prop := ∀ v H', Same H H' → R v → Q v H'
def SpN (R : V → List (Addr × HO) → Hp → Prop) (H : Hp) (Q : VK) : Prop := Spec (fun _ => True) R H Q
section
variable {F0 H0 F H F' H' : Hp} {L : List (Addr × HO)} {C : List Ck} {R : V → Prop} {Rn : V → List (Addr × HO) → Hp → Prop} {Q : VK} {v : V} {K : PySem.W.Frag} {a : Addr} {xs : List V}
abbrev noF : Hp := fun _ => none
theorem Own.start0 : Own noF H noF H [] [] := ⟨Same.refl _, fun _ _ h => (nomatch h), Same.refl _, fun _ _ h => .inl h, fun _ h => (nomatch h), List.nodup_nil, trivial⟩
theorem Own.callS (O : Own F0 H0 F H L C) (k : ∀ v H', R v → Own F0 H0 F H' L C → Q v H') : SpV R H Q := fun _ _ s r => k _ _ r (O.more s)
theorem Own.retS (O : Own F0 H F' H' L C) (q : SpV R H Q) (r : R v) : Q v H' := q _ _ O.hh r
theorem Own.callN (O : Own F0 H0 F H L C) (k : ∀ v L' F' H', Rn v L' F' → Own F0 H0 F' H' (L' ++ L) C → Q v H') : SpN Rn H Q := O.call trivial k
theorem Own.ofH (O : Own F0 H0 F H L C) (h : SqL K H0 a xs) : SqL K H a xs := O.hh.seq h
theorem Own.ofHT (O : Own F0 H0 F H L C) (h : SqT K H0 a xs) : SqT K H a xs := Same.sqt O.hh h
theorem Own.ofHO {o : HO} (O : Own F0 H0 F H L C) (h : H0 a = some o) : H a = some o := O.hh _ _ h
end
end Fw

namespace Fw
open PySem PySem.Spec PyProof.Rows L2
/-! ### dicts of the module -/
theorem ixD_ {X : Cx} {K : PySem.W.Frag} {w : World} (e : X.K = K := by rfl) (e2 : X.w = w := by rfl) : IxR X (rIxD K w) := by
  subst e
  subst e2
  exact ix_kdict
theorem kd_of {K : PySem.W.Frag} {w : World} {a : Addr} {kvs : List (Str × He.Dv)} (D : ∃ es n, KDict K w a es n) (h : He.valsB K a kvs = true) : ∀ q ∈ kvs, KDct K w a q.1 (q.2.v K) := fun q hq => by
  obtain ⟨es, n, d⟩ := D
  obtain ⟨u, h1, h2⟩ := He.valsB_ok h hq
  exact ⟨es, n, u, d.at_, d.lit, h1, h2⟩
theorem w_kd {K : PySem.W.Frag} {w : World} {a : Addr} {z : Str} {v : V} {H : Hp} {Q : VK} (h : KDct K w a z v) (q : Q v H) : rIxD K w (.ref a) (.str z) H Q := ⟨a, z, v, rfl, rfl, h, q⟩
end Fw

namespace Fw
open PySem PySem.Spec PyProof.Rows L2
section
variable {H F0 H0 F : Hp} {L : List (Addr × HO)} {C : List Ck} {te : TE} {Q : VK} {g : TG} {K : PySem.W.Frag} {σ : L2.St} {a : Addr} {xs : List V}
/-- [te for x in reversed(xs)] -/
theorem w_lcRev {tt : TT} {vs : List Nat} (O : Own F0 H0 F H L C) (hx : SqL K H a xs) (hl : ∀ {F' H' acc D}, Own F0 H0 F' H' ((D, .lst acc) :: L) C → Same F F' → SqL K H' a xs) (Iv : Nat → List V → Hp → Prop) (h0 : Iv 0 [] F)
    (turn : ∀ (i : Nat) x acc D F' H', i < xs.length → xs[xs.length - 1 - i]? = some x → Iv i acc F' → Same F F' → Own F0 H0 F' H' ((D, .lst acc) :: L) C → g x (wipe σ vs) H' fun σ2 H2 => wipe σ2 vs = wipe σ vs ∧ tt σ2 H2 fun b H3 =>
      if b = true then te σ2 H3 (Put D (Btw F0 H0 F L C D (Iv (i + 1)))) else Btw F0 H0 F L C D (Iv (i + 1)) H3)
    (done : ∀ acc D F' H', Iv xs.length acc F' → Same F F' → Own F0 H0 F' H' ((D, .lst acc) :: L) C → Q (.ref D) H') :
    FoR K [.ref a] H fun J H1 => LcEnd J g tt te vs σ H1 Q := by
  refine ⟨a, xs, rfl, hx, lc_any xs.length (fun i x => xs[xs.length - 1 - i]? = some x) O Iv h0 (fun i H' F' acc D hi O' sF => ?_) (fun H' F' acc D O' sF => Nat.le_refl _) (fun i x H' H2 F' acc D hi O' sF hy => ⟨hy.1, hy.2 xs (hl O' sF)⟩) (fun i x acc D F' H' hi hY => turn i x acc D F' H' hi hY) done⟩
  exact ⟨hi, xs, _, hl O' sF, List.getElem?_eq_getElem (by omega)⟩
theorem q_dec1 {c d : Nat} : decide ([c] = [d]) = decide (c = d) := decide_eq_decide.mpr ⟨fun h => (List.cons.inj h).1, fun h => by rw [h]⟩
end
end Fw

namespace Fw
open PySem PySem.Spec PyProof.Rows L2
/-! ### guards of the tactic -/
theorem h_NewL {xs : List V} {H : Hp} {Q : VK} (h : NewL xs H Q) : NewL xs H Q := h
theorem h_NewT {xs : List V} {H : Hp} {Q : VK} (h : NewT xs H Q) : NewT xs H Q := h
theorem h_Ty {K : PySem.W.Frag} {T : String} {x : V} {H : Hp} {P : Prop} (h : tyV K T x H ∧ P) : tyV K T x H ∧ P := h
theorem h_App {x : V} {vs : List V} {H : Hp} {Q : VK} (h : rAppend x vs H Q) : rAppend x vs H Q := h
theorem h_Len {K : PySem.W.Frag} {vs : List V} {H : Hp} {Q : VK} (h : rLenQ K vs H Q) : rLenQ K vs H Q := h
theorem h_Ix {K : PySem.W.Frag} {x y : V} {H : Hp} {Q : VK} (h : rIxL K x y H Q) : rIxL K x y H Q := h
theorem h_IxS {x y : V} {H : Hp} {Q : VK} (h : rIxSg x y H Q) : rIxSg x y H Q := h
theorem h_MulS {x y : V} {H : Hp} {Q : VK} (h : rMulS x y H Q) : rMulS x y H Q := h
theorem h_Isi {K : PySem.W.Frag} {vs : List V} {H : Hp} {Q : VK} (h : rIsi K vs H Q) : rIsi K vs H Q := h
theorem h_Set {o i v : V} {H : Hp} {R : Hp → Prop} (h : rSetL o i v H R) : rSetL o i v H R := h
theorem h_Get {K : PySem.W.Frag} {x y : V} {H : Hp} {Q : VK} (h : rGetL K x y H Q) : rGetL K x y H Q := h
theorem h_ListQ {K : PySem.W.Frag} {vs : List V} {H : Hp} {Q : VK} (h : rListQ K vs H Q) : rListQ K vs H Q := h
theorem h_ListS {vs : List V} {H : Hp} {Q : VK} (h : rListS vs H Q) : rListS vs H Q := h
theorem h_Rep {x y : V} {H : Hp} {Q : VK} (h : rRep x y H Q) : rRep x y H Q := h
theorem h_SlL {K : PySem.W.Frag} {x : V} {lo hi : Option Int} {H : Hp} {Q : VK} (h : rSlL K x lo hi H Q) : rSlL K x lo hi H Q := h
theorem h_Cat {x y : V} {H : Hp} {Q : VK} (h : rCat x y H Q) : rCat x y H Q := h
theorem h_Ext {x : V} {vs : List V} {H : Hp} {Q : VK} (h : rExtend x vs H Q) : rExtend x vs H Q := h
theorem h_Rev {x : V} {vs : List V} {H : Hp} {Q : VK} (h : rReverse x vs H Q) : rReverse x vs H Q := h
theorem h_Idx {x : V} {vs : List V} {H : Hp} {Q : VK} (h : rIdxS x vs H Q) : rIdxS x vs H Q := h
theorem h_Gtup {K : PySem.W.Frag} {n : Nat} {tg : TGs} {v : V} {σ : L2.St} {H : Hp} {R : L2.St → Hp → Prop} (h : gTup K n tg v σ H R) : gTup K n tg v σ H R := h
theorem h_EqD {K : PySem.W.Frag} {x y : V} {H : Hp} {Q : VK} (h : rEqD K x y H Q) : rEqD K x y H Q := h
theorem h_NeD {K : PySem.W.Frag} {x y : V} {H : Hp} {Q : VK} (h : rNeD K x y H Q) : rNeD K x y H Q := h
section
variable {H F0 H0 F : Hp} {L : List (Addr × HO)} {C : List Ck} {Q : VK} {v : V} {a : Addr} {xs : List V} {i : Int} {q1 q2 q3 q4 : Addr × HO}
theorem w_app3 (O : Own F0 H0 F H (q1 :: q2 :: q3 :: (a, .lst xs) :: L) C) (k : ∀ H', Own F0 H0 F H' (q1 :: q2 :: q3 :: (a, .lst (xs ++ [v])) :: L) C → Q .non H') (hz : xs.length < sizeLine) : rAppend (.ref a) [v] H Q := w_app (j := 3) O rfl k hz
theorem w_app4 (O : Own F0 H0 F H (q1 :: q2 :: q3 :: q4 :: (a, .lst xs) :: L) C) (k : ∀ H', Own F0 H0 F H' (q1 :: q2 :: q3 :: q4 :: (a, .lst (xs ++ [v])) :: L) C → Q .non H') (hz : xs.length < sizeLine) : rAppend (.ref a) [v] H Q := w_app (j := 4) O rfl k hz
theorem w_set3 {R : Hp → Prop} (O : Own F0 H0 F H (q1 :: q2 :: q3 :: (a, .lst xs) :: L) C) (k : ∀ H', Own F0 H0 F H' (q1 :: q2 :: q3 :: (a, .lst (xs.set i.toNat v)) :: L) C → R H') (h : 0 ≤ i ∧ i < xs.length) : rSetL (.ref a) (.int i) v H R := w_set (j := 3) O rfl h k
end
end Fw

namespace Fw
open PySem PySem.Spec PyProof.Rows L2
/-! ### equal data; numbers as texts; split -/
section
variable {K : PySem.W.Frag} {H : Hp} {Q : VK} {x y : V} {d : PyData}
theorem w_eqD1 (ha : Dp K H x d) (hb : Dp K H y d) (hs : SeqAt.shaped d = true) (q : Q (.bl true) H) : rEqD K x y H Q :=
  ⟨d, d, ha, hb, hs, hs, by rw [SeqAt.eqv_refl d (SeqAt.canLay_of_shaped hs)]; exact q⟩
theorem w_neD1 (ha : Dp K H x d) (hb : Dp K H y d) (hs : SeqAt.shaped d = true) (q : Q (.bl false) H) : rNeD K x y H Q :=
  ⟨d, d, ha, hb, hs, hs, by rw [SeqAt.eqv_refl d (SeqAt.canLay_of_shaped hs)]; exact q⟩
/-- data of a small depth, its texts well made -/
structure Shp (n : Nat) (d : PyData) : Prop where
  lay : d.canLay0 = true
  dep : d.depth ≤ n
theorem Shp.shaped {n : Nat} (h : Shp n d) (hn : n ≤ 64) : SeqAt.shaped d = true := Bool.and_eq_true_iff.mpr ⟨h.lay, decide_eq_true (Nat.le_trans h.dep hn)⟩
theorem shp_int (i : Int) : Shp 0 (.int i) := ⟨rfl, Nat.le_refl _⟩
theorem shp_bool (b : Bool) : Shp 0 (.bool b) := ⟨rfl, Nat.le_refl _⟩
theorem shp_non : Shp 0 .none := ⟨rfl, Nat.le_refl _⟩
theorem shp_str {l : List Nat} (h : ∀ c ∈ l, c < 1114112) : Shp 0 (.str (S l)) := by
  refine ⟨?_, Nat.le_refl _⟩
  show PyData.strOk (S l) = true
  unfold PyData.strOk S
  rw [Array.all_eq_true_iff_forall_mem]
  intro c hc
  exact decide_eq_true (h c (by simpa using hc))
theorem shp_all {n : Nat} : ∀ {ds : List PyData}, (∀ d ∈ ds, Shp n d) → PyData.canLayAll0 ds = true ∧ PyData.depthAll ds ≤ n
  | [], _ => ⟨rfl, Nat.zero_le _⟩
  | d :: ds, h => by
    obtain ⟨h1, h2⟩ := shp_all (ds := ds) fun e he => h e (List.mem_cons_of_mem _ he)
    have h3 := h d List.mem_cons_self
    refine ⟨Bool.and_eq_true_iff.mpr ⟨h3.lay, h1⟩, ?_⟩
    show max (PyData.depth d) (PyData.depthAll ds) ≤ n
    have := h3.dep
    omega
theorem shp_list {n : Nat} {ds : List PyData} (h : ∀ d ∈ ds, Shp n d) : Shp (n + 1) (.list ds) := ⟨(shp_all h).1, Nat.succ_le_succ (shp_all h).2⟩
theorem shp_tuple {n : Nat} {ds : List PyData} (h : ∀ d ∈ ds, Shp n d) : Shp (n + 1) (.tuple ds) := ⟨(shp_all h).1, Nat.succ_le_succ (shp_all h).2⟩
theorem dpAll_strs : ∀ ls : List (List Nat), DpAll K H (ls.map vS) (ls.map fun l => PyData.str (S l))
  | [] => .nil
  | l :: r => .cons (.str (S l)) (dpAll_strs r)
theorem dpAll_map {α : Type} {f : α → V} {g : α → PyData} : ∀ {as : List α}, (∀ a ∈ as, Dp K H (f a) (g a)) → DpAll K H (as.map f) (as.map g)
  | [], _ => .nil
  | a :: as, h => .cons (h a List.mem_cons_self) (dpAll_map fun b hb => h b (List.mem_cons_of_mem _ hb))
end
section
variable {X : Cx}
/-- a part of a record: a number from 0 on, or a text -/
inductive Fld where
  | n (k : Nat)
  | s (l : List Nat)
def Fld.v : Fld → V
  | .n k => .int (k : Nat)
  | .s l => vS l
def Fld.t : Fld → List Nat
  | .n k => TL.numL k
  | .s l => l
def Fld.d : Fld → PyData
  | .n k => .int (k : Nat)
  | .s l => .str (S l)
theorem num_S (k : Nat) : Str.ofString (toString ((k : Nat) : Int)) = S (TL.numL k) := by
  rw [S_of (Str.ofString (toString ((k : Nat) : Int)))]
  rw [S_inj]
  exact TL.tl_num k
def rStr : List V → Hp → VK → Prop := fun vs H Q => ∃ f : Fld, vs = [f.v] ∧ (∀ k, f = .n k → k < 10 ^ 20) ∧ Q (vS f.t) H
theorem k_str : CallR X (.type "str") rStr := by
  intro pins s σ H vs us Q I r h
  obtain ⟨f, rfl, hs, q⟩ := h
  cases f with
  | n k =>
    refine call_str_int pins s σ H _ us Q I r ⟨(k : Int), rfl, ?_, ?_⟩
    · have h1 := hs k rfl
      have h2 : (k : Int).natAbs = k := rfl
      rw [h2]
      by_cases h0 : k = 0
      · subst h0
        decide
      · exact Nat.lt_of_lt_of_le ((Nat.log2_lt h0).mpr (Nat.lt_of_lt_of_le h1 (by decide : 10 ^ 20 ≤ 2 ^ 67))) (by decide)
    · show Q (.str (Str.ofString (toString ((k : Nat) : Int)))) H
      rw [num_S]
      exact q
  | s l => exact SkE.call_str_str pins s σ H _ us Q I r ⟨S l, rfl, q⟩
def rIntS : List V → Hp → VK → Prop := fun vs H Q => ∃ (l : List Nat) (n : Int), vs = [vS l] ∧ intText? (S l) = some n ∧ l.length ≤ 640 ∧ Q (.int n) H
theorem k_intS : CallR X (.type "int") rIntS := fun pins s σ H vs us Q I r ⟨l, n, e, h1, h2, q⟩ => call_int_str pins s σ H vs us Q I r ⟨S l, n, e, h1, by rw [S_len]; exact h2, q⟩
theorem int_numL {k : Nat} (h : k < 10 ^ 20) : intText? (S (TL.numL k)) = some (k : Int) ∧ (TL.numL k).length ≤ 640 := by
  have hl := TL.numL_len (k := 20) (by decide) h
  have e := TL.int_num (n := k) (by omega)
  rw [num_S] at e
  exact ⟨e, by omega⟩
/-- text.split(sign) -/
def rSplit : V → List V → Hp → VK → Prop := fun x xs H Q => ∃ (c : Nat) (ls : List (List Nat)), x = vS (joinN [c] ls) ∧ xs = [vS [c]] ∧ c < 256 ∧ ls ≠ [] ∧ (∀ p ∈ ls, c ∉ p) ∧ (joinN [c] ls).length + 2 ≤ sizeLine ∧ NewL (ls.map vS) H Q
theorem mt_splitN : MtR X "str.split" rSplit := by
  intro pins s σ H x xs v us Q I rx rs h
  obtain ⟨c, ls, e1, e2, hc, hne, hp, hz, n⟩ := h
  refine mt_split pins s σ H x xs v us Q I rx rs ⟨S (joinN [c] ls), S [c], e1, e2, rfl, by rw [S_len]; exact hz, ?_⟩
  have e3 : Txt.split (S (joinN [c] ls)) (S [c]) = ls.map S := by
    rw [← txt_join]
    refine TL.split_join (s := c) (S := []) rfl ?_ (fun e => hne (List.map_eq_nil_iff.mp e)) fun p h => ?_
    · show (#[c] : Array Nat).all (· < 256) = true
      simp [hc]
    · obtain ⟨z, hz, rfl⟩ := List.mem_map.mp h
      show c ∉ (S z).cps.toList
      rw [S_list]
      exact hp z hz
  rw [e3]
  intro p np
  rw [List.map_map]
  exact n.2 p np
theorem pe_splitL {o e : Expr} {apos pos : Pos} {to te : TE} (ho : PE X o to) (he : PE X e te) (hs : starEach [e] X.env = [(false, eval e X.env)] := by rfl) (hbase : attributeBase o "split" X.env (eval o X.env) = eval o X.env := by rfl) (hline : (apos.endLine == pos.line) = true := by rfl) :
    PE X (.Call (.Attribute o "split" apos) [e] [] pos) (tM1 rSplit to te) := pe_m1 PySem.F.slot_str_split PySem.F.type_str_split mt_splitN ho he hs hbase hline
end
section
variable {H F0 H0 F : Hp} {L : List (Addr × HO)} {C : List Ck} {Q : VK} {K : PySem.W.Frag} {a : Addr} {xs : List V}
theorem w_str {f : Fld} (q : Q (vS f.t) H) (hs : ∀ k, f = .n k → k < 10 ^ 20) : rStr [f.v] H Q := ⟨f, rfl, hs, q⟩
theorem w_strN {k : Nat} (q : Q (vS (TL.numL k)) H) (hs : k < 10 ^ 20) : rStr [.int (k : Nat)] H Q := ⟨.n k, rfl, fun _ e => by cases e; exact hs, q⟩
theorem w_intS {l : List Nat} {n : Int} (q : Q (.int n) H) (h : intText? (S l) = some n ∧ l.length ≤ 640) : rIntS [vS l] H Q := ⟨l, n, rfl, h.1, h.2, q⟩
theorem w_split {c : Nat} {ls : List (List Nat)} (O : Own F0 H0 F H L C) (hc : c < 256) (hne : ls ≠ []) (hp : ∀ p ∈ ls, c ∉ p) (hz : (joinN [c] ls).length + 2 ≤ sizeLine) (k : ∀ p H', Own F0 H0 F H' ((p, .lst (ls.map vS)) :: L) C → Q (.ref p) H') (hl : ls.length ≤ sizeLine) : rSplit (vS (joinN [c] ls)) [vS [c]] H Q :=
  ⟨c, ls, rfl, rfl, hc, hne, hp, hz, w_newL O k (by rw [List.length_map]; exact hl)⟩
theorem w_slT {lo hi : Option Int} (O : Own F0 H0 F H L C) (hs : SqT K H a xs) (h : ¬ (HT.sIx xs.length 0 lo = 0 ∧ HT.sIx xs.length xs.length hi = xs.length)) (k : ∀ p F' H', Own F0 H0 F' H' L (cO p (.tup (cutV xs lo hi)) :: C) → Q (.ref p) H') : rSlT K (.ref a) lo hi H Q := ⟨a, xs, rfl, hs, h, fun p np => k p _ _ (O.ice np _)⟩
theorem w_all {bs : List Bool} (hs : SqL K H a (bs.map V.bl)) (q : Q (.bl (bs.all id)) H) : rAll K [.ref a] H Q := ⟨a, bs, rfl, hs, q⟩
theorem w_any {bs : List Bool} (hs : SqL K H a (bs.map V.bl)) (q : Q (.bl (bs.any id)) H) : rAny K [.ref a] H Q := ⟨a, bs, rfl, hs, q⟩
theorem w_sum {ns : List Int} (hs : SqL K H a (ns.map V.int)) (q : Q (.int ns.sum) H) : rSum K [.ref a] H Q := ⟨a, ns, rfl, hs, q⟩
end
end Fw

namespace Fw
open PySem PySem.Spec PyProof.Rows L2
/-! ### signs in texts, least and greatest of two, tests of truth -/
section
variable {X : Cx} {K : PySem.W.Frag}
def rInSg : R2 := fun x y H Q => ∃ (c : Nat) (l : List Nat), x = vS [c] ∧ y = vS l ∧ Q (.bl (decide (c ∈ l))) H
def rNotInSg : R2 := fun x y H Q => ∃ (c : Nat) (l : List Nat), x = vS [c] ∧ y = vS l ∧ Q (.bl (!decide (c ∈ l))) H
theorem k_inS : OpR X (compareOp .In) rInSg := fun pins s σ H x y u v Q I rx ry ⟨c, l, e1, e2, q⟩ => op_in_sign pins s σ H x y u v Q I rx ry ⟨c, S l, e1, e2, by rw [S_list]; exact q⟩
theorem k_notInS : OpR X (compareOp .NotIn) rNotInSg := fun pins s σ H x y u v Q I rx ry ⟨c, l, e1, e2, q⟩ => op_notIn_sign pins s σ H x y u v Q I rx ry ⟨c, S l, e1, e2, by rw [S_list]; exact q⟩
def rMin2' : List V → Hp → VK → Prop := fun xs H Q => ∃ i j : Int, xs = [.int i, .int j] ∧ Q (.int (min i j)) H
def rMax2' : List V → Hp → VK → Prop := fun xs H Q => ∃ i j : Int, xs = [.int i, .int j] ∧ Q (.int (max i j)) H
theorem min2_ (hc : X.calm = true) : CallR X (.builtin "min") rMin2' := by
  intro pins s σ H vs us Q I r h
  obtain ⟨i, j, e, q⟩ := h
  refine call_min2 hc pins s σ H vs us Q I r ⟨i, j, e, ?_⟩
  have e2 : (if j < i then j else i) = min i j := by split <;> omega
  rw [e2]
  exact q
theorem max2_ (hc : X.calm = true) : CallR X (.builtin "max") rMax2' := by
  intro pins s σ H vs us Q I r h
  obtain ⟨i, j, e, q⟩ := h
  refine call_max2 hc pins s σ H vs us Q I r ⟨i, j, e, ?_⟩
  have e2 : (if j > i then j else i) = max i j := by split <;> omega
  rw [e2]
  exact q
end
section
variable {H F0 H0 F : Hp} {L : List (Addr × HO)} {C : List Ck} {Q : VK} {K : PySem.W.Frag} {a : Addr} {xs : List V}
theorem q_inSg {c : Nat} {l : List Nat} : rInSg (vS [c]) (vS l) H Q = Q (.bl (decide (c ∈ l))) H := propext ⟨fun ⟨c', l', e1, e2, q⟩ => by
  have e1 := List.cons.inj (S_inj.mp (V.str.inj e1))
  have e2 := S_inj.mp (V.str.inj e2)
  rw [e1.1, e2]
  exact q, fun q => ⟨c, l, rfl, rfl, q⟩⟩
theorem q_notInSg {c : Nat} {l : List Nat} : rNotInSg (vS [c]) (vS l) H Q = Q (.bl (!decide (c ∈ l))) H := propext ⟨fun ⟨c', l', e1, e2, q⟩ => by
  have e1 := List.cons.inj (S_inj.mp (V.str.inj e1))
  have e2 := S_inj.mp (V.str.inj e2)
  rw [e1.1, e2]
  exact q, fun q => ⟨c, l, rfl, rfl, q⟩⟩
theorem q_min2 {i j : Int} : rMin2' [.int i, .int j] H Q = Q (.int (min i j)) H := propext ⟨fun ⟨_, _, e, q⟩ => by cases e; exact q, fun q => ⟨i, j, rfl, q⟩⟩
theorem q_max2 {i j : Int} : rMax2' [.int i, .int j] H Q = Q (.int (max i j)) H := propext ⟨fun ⟨_, _, e, q⟩ => by cases e; exact q, fun q => ⟨i, j, rfl, q⟩⟩
theorem w_ixStrs {ls : List (List Nat)} {i : Int} (q : Q (vS (ls.getD i.toNat [])) H) (hs : SqL K H a (ls.map vS)) (h : 0 ≤ i ∧ i < ls.length) : rIxL K (.ref a) (.int i) H Q := by
  refine w_ixL q hs ?_
  rw [atI_get (xs := ls.map vS) (d := vS []) (i := i) (by rw [List.length_map]; exact h)]
  congr 1
  rw [List.getD_eq_getElem?_getD, List.getD_eq_getElem?_getD, List.getElem?_map]
  cases ls[i.toNat]? <;> rfl
theorem Own.perm {L' : List (Addr × HO)} (O : Own F0 H0 F H L C) (h : L'.Perm L) : Own F0 H0 F H L' C := ⟨O.f0, O.fh, O.hh, O.new, fun q hq => O.own q (h.subset hq), (h.map Prod.fst).nodup_iff.mpr O.nd, O.cs⟩
theorem Own.swap {q q' : Addr × HO} (O : Own F0 H0 F H (q :: q' :: L) C) : Own F0 H0 F H (q' :: q :: L) C := O.perm (List.Perm.swap _ _ _)
/-- while, its turn told as it stands -/
theorem w_wh {tb : TS} {nx bk ct : L2.St → Hp → Prop} {rt : VK} {σ : L2.St} (Pv : Nat → L2.St → Hp → Prop) (m0 : Nat) (h0 : Pv m0 σ H) {c : TT}
    (hs : ∀ m σ' H', Pv m σ' H' → c σ' H' fun b H1 => if b = true then ∃ N : L2.St → Hp → Prop, (∀ σ2 H2, N σ2 H2 → ∃ m', m' < m ∧ Pv m' σ2 H2) ∧ tb ⟨N, rt, nx, N⟩ σ' H1 else nx σ' H1) : tWhile c tb ⟨nx, rt, bk, ct⟩ σ H := ⟨Pv, ⟨m0, h0⟩, fun m σ' H' p => hs m σ' H' p⟩
/-- its body -/
theorem w_bd {tb : TS} {nx : L2.St → Hp → Prop} {rt : VK} {σ : L2.St} {Pn : L2.St → Hp → Prop} (h : tb ⟨Pn, rt, nx, Pn⟩ σ H) : ∃ N : L2.St → Hp → Prop, (∀ σ2 H2, N σ2 H2 → Pn σ2 H2) ∧ tb ⟨N, rt, nx, N⟩ σ H := ⟨Pn, fun _ _ z => z, h⟩
/-- the frozen part has grown from F -/
def cF (F : Hp) : Ck := ⟨fun F' => Same F F', fun s h => h.trans s⟩
/-- a list of texts, against itself -/
theorem dp_strs {ls : List (List Nat)} (h : SqL K H a (ls.map vS)) : Dp K H (.ref a) (.list (ls.map fun l => PyData.str (S l))) := .lst h (dpAll_strs ls)
theorem q_wipe3 {σ : L2.St} {s s' s'' : Str} {n n' n'' : Nat} : wipe σ (List.map (fun x => x.snd) [(s, n), (s', n'), (s'', n'')]) = ((σ.set n'' none).set n' none).set n none := rfl
theorem q_wipe4 {σ : L2.St} {s s' s'' s3 : Str} {n n' n'' n3 : Nat} : wipe σ (List.map (fun x => x.snd) [(s, n), (s', n'), (s'', n''), (s3, n3)]) = (((σ.set n3 none).set n'' none).set n' none).set n none := rfl
theorem w_lcR3 {g : TG} {te : TE} {σ : L2.St} {tt : TT} {vs : List Nat} {b e c : Int} {n : Nat} (O : Own F0 H0 F H L C) (hn : RgC b e c n) (Iv : Nat → List V → Hp → Prop) (h0 : Iv 0 [] F)
    (turn : ∀ (i : Nat) acc D F' H', i < n → Iv i acc F' → Same F F' → Own F0 H0 F' H' ((D, .lst acc) :: L) C → g (.int (b + (i : Nat) * c)) (wipe σ vs) H' fun σ2 H2 => wipe σ2 vs = wipe σ vs ∧ tt σ2 H2 fun b H3 =>
      if b = true then te σ2 H3 (Put D (Btw F0 H0 F L C D (Iv (i + 1)))) else Btw F0 H0 F L C D (Iv (i + 1)) H3)
    (done : ∀ acc D F' H', Iv n acc F' → Same F F' → Own F0 H0 F' H' ((D, .lst acc) :: L) C → Q (.ref D) H') :
    Rg3 [.int b, .int e, .int c] H fun J H1 => LcEnd J g tt te vs σ H1 Q := by
  refine ⟨b, e, c, n, rfl, hn, lc_any n (fun i x => x = .int (b + (i : Nat) * c)) O Iv h0 (fun i H' F' acc D hi O' sF => hi) (fun H' F' acc D O' sF => Nat.le_refl _) (fun i x H' H2 F' acc D hi O' sF hy => hy) (fun i x acc D F' H' hi hY => ?_) done⟩
  intro h1 h2 h3
  rw [show x = .int (b + (i : Nat) * c) from hY]
  exact turn i acc D F' H' hi h1 h2 h3
theorem rgc_pos {n c : Nat} (hc : 0 < c ∧ c < 1073741824) (hn : n < 2 ^ 61) : RgC 0 (n : Int) (c : Int) ((n + c - 1) / c) := by
  have hs : Builtin.Range.rangeSize 0 (n : Int) (c : Int) = (((n + c - 1) / c : Nat) : Int) := by
    unfold Builtin.Range.rangeSize
    rw [if_pos (by omega)]
    by_cases h : n = 0
    · subst h
      rw [if_neg (by omega), Nat.div_eq_of_lt (by omega)]
      rfl
    · rw [if_pos (by omega), show n + c - 1 = (n - 1) + c by omega, Nat.add_div_right _ hc.1]
      have e : (n : Int) - 0 - 1 = ((n - 1 : Nat) : Int) := by omega
      rw [e]
      rfl
  refine ⟨by omega, by omega, ?_, hs⟩
  have hle : (n + c - 1) / c ≤ n := by
    rw [Nat.div_le_iff_le_mul hc.1]
    have : n ≤ n * c := Nat.le_mul_of_pos_right _ hc.1
    omega
  have hle2 : (n + c - 1) / c * c ≤ n + c - 1 := Nat.div_mul_le_self _ _
  have hle3 : (((n + c - 1) / c : Nat) : Int) * (c : Int) ≤ (n : Int) + c - 1 := by
    rw [← Int.natCast_mul]
    omega
  unfold Builtin.Range.small
  rw [hs]
  simp only [Builtin.Range.rangeFitsLong, Bool.and_eq_true, Bool.or_eq_true, decide_eq_true_eq, beq_iff_eq]
  generalize (n + c - 1) / c = d at hle ⊢
  refine ⟨⟨⟨⟨⟨by omega, by omega⟩, by omega, by omega⟩, by omega, by omega⟩, by omega, by omega⟩, .inr ?_⟩
  rw [if_pos (by omega), Bool.and_eq_true, decide_eq_true_eq, decide_eq_true_eq]
  omega
theorem sum_ones : ∀ {ls : List (List Nat)}, (∀ l ∈ ls, l.length = 1) → (ls.map List.length).sum = ls.length
  | [], _ => rfl
  | l :: ls, h => by
    rw [List.map_cons, List.sum_cons, h l List.mem_cons_self, sum_ones fun x hx => h x (List.mem_cons_of_mem _ hx), List.length_cons]
    omega
theorem joinN_ones : ∀ l : List Nat, joinN [] (l.map fun c => [c]) = l
  | [] => rfl
  | [c] => rfl
  | c :: d :: l => by
    show [c] ++ [] ++ joinN [] ((d :: l).map fun c => [c]) = _
    rw [joinN_ones (d :: l)]
    rfl
end
end Fw

namespace Fw
open PySem PySem.Spec PyProof.Rows L2
/-! ### comprehensions that make objects of their own -/
section
variable {F0 H0 F H : Hp} {L : List (Addr × HO)} {C : List Ck} {Q : VK} {K : PySem.W.Frag} {g : TG} {te : TE} {σ : L2.St} {tt : TT} {vs : List Nat} {y : V}
/-- what holds between two turns: M are the objects made so far -/
def BtwG (F0 H0 F : Hp) (L : List (Addr × HO)) (C : List Ck) (D : Addr) (Iv : List V → List (Addr × HO) → Hp → Prop) (H' : Hp) : Prop := ∃ F' acc M, Own F0 H0 F' H' ((D, .lst acc) :: (M ++ L)) C ∧ Same F F' ∧ Iv acc M F'
theorem w_putG {Iv : List V → List (Addr × HO) → Hp → Prop} {D : Addr} {acc : List V} {M : List (Addr × HO)} {F1 : Hp} (O : Own F0 H0 F1 H ((D, .lst acc) :: (M ++ L)) C) (sF : Same F F1) (hI : Iv (acc ++ [y]) M F1) (hz : acc.length < sizeLine) : Put D (BtwG F0 H0 F L C D Iv) y H :=
  ⟨acc, O.at_ 0, hz, F1, _, M, O.set 0 rfl _, sF, hI⟩
theorem lc_anyG {J : It} (n : Nat) (Y : Nat → V → Prop) (O : Own F0 H0 F H L C) (Iv : Nat → List V → List (Addr × HO) → Hp → Prop) (h0 : Iv 0 [] [] F)
    (go : ∀ i H' F' acc M D, i < n → Own F0 H0 F' H' ((D, .lst acc) :: (M ++ L)) C → Same F F' → J.go i H') (stop : ∀ H' F' acc M D, Own F0 H0 F' H' ((D, .lst acc) :: (M ++ L)) C → Same F F' → J.stop n H')
    (yld : ∀ i x H' H2 F' acc M D, i < n → Own F0 H0 F' H' ((D, .lst acc) :: (M ++ L)) C → Same F F' → J.yld i H' x H2 → H2 = H' ∧ Y i x)
    (turn : ∀ (i : Nat) x acc M D F' H', i < n → Y i x → Iv i acc M F' → Same F F' → Own F0 H0 F' H' ((D, .lst acc) :: (M ++ L)) C → g x (wipe σ vs) H' fun σ2 H2 => wipe σ2 vs = wipe σ vs ∧ tt σ2 H2 fun b H3 =>
      if b = true then te σ2 H3 (Put D (BtwG F0 H0 F L C D (Iv (i + 1)))) else BtwG F0 H0 F L C D (Iv (i + 1)) H3)
    (done : ∀ acc M D F' H', Iv n acc M F' → Same F F' → Own F0 H0 F' H' ((D, .lst acc) :: (M ++ L)) C → Q (.ref D) H') :
    LcEnd J g tt te vs σ H Q := by
  intro D hD
  refine ⟨fun i k H' => k = n - i ∧ i ≤ n ∧ BtwG F0 H0 F L C D (Iv i) H', ⟨n, by omega, Nat.zero_le _, F, [], [], O.alloc hD _, Same.refl _, h0⟩, ?_⟩
  rintro i k H' ⟨rfl, hi, F', acc, M, O', sF, hI⟩
  by_cases hlt : i < n
  · refine .inr ⟨go i H' F' acc M D hlt O' sF, BtwG F0 H0 F L C D (Iv (i + 1)), fun H2 p' => ⟨n - (i + 1), by omega, rfl, hlt, p'⟩, fun x H2 hy => ?_⟩
    obtain ⟨rfl, hY⟩ := yld i x H' H2 F' acc M D hlt O' sF hy
    exact turn i x acc M D F' _ hlt hY hI sF O'
  · have e : i = n := by omega
    subst e
    exact .inl ⟨stop H' F' acc M D O' sF, done acc M D F' H' hI sF O'⟩
theorem w_lcR1G {n : Int} (O : Own F0 H0 F H L C) (hn : -(2 ^ 62) ≤ n ∧ n < 2 ^ 62) (Iv : Nat → List V → List (Addr × HO) → Hp → Prop) (h0 : Iv 0 [] [] F)
    (turn : ∀ (i : Nat) acc M D F' H', (i : Int) < n → Iv i acc M F' → Same F F' → Own F0 H0 F' H' ((D, .lst acc) :: (M ++ L)) C → g (.int (i : Nat)) (wipe σ vs) H' fun σ2 H2 => wipe σ2 vs = wipe σ vs ∧ tt σ2 H2 fun b H3 =>
      if b = true then te σ2 H3 (Put D (BtwG F0 H0 F L C D (Iv (i + 1)))) else BtwG F0 H0 F L C D (Iv (i + 1)) H3)
    (done : ∀ acc M D F' H', Iv n.toNat acc M F' → Same F F' → Own F0 H0 F' H' ((D, .lst acc) :: (M ++ L)) C → Q (.ref D) H') :
    Rg1 [.int n] H fun J H1 => LcEnd J g tt te vs σ H1 Q := by
  refine ⟨n, rfl, hn.1, hn.2, lc_anyG n.toNat (fun i x => x = .int (i : Nat)) O Iv h0 (fun i H' F' acc M D hi O' sF => hi) (fun H' F' acc M D O' sF => Nat.le_refl _) (fun i x H' H2 F' acc M D hi O' sF hy => ⟨hy.1, by rw [hy.2, Int.zero_add]⟩) (fun i x acc M D F' H' hi hY => ?_) done⟩
  intro h1 h2 h3
  rw [show x = .int (i : Nat) from hY]
  exact turn i acc M D F' H' (by omega) h1 h2 h3
theorem w_lcLG {a : Addr} {xs : List V} (O : Own F0 H0 F H L C) (hx : SqL K H a xs) (hl : ∀ {F' H' acc M D}, Own F0 H0 F' H' ((D, .lst acc) :: (M ++ L)) C → Same F F' → SqL K H' a xs) (Iv : Nat → List V → List (Addr × HO) → Hp → Prop) (h0 : Iv 0 [] [] F)
    (turn : ∀ (i : Nat) x acc M D F' H', xs[i]? = some x → Iv i acc M F' → Same F F' → Own F0 H0 F' H' ((D, .lst acc) :: (M ++ L)) C → g x (wipe σ vs) H' fun σ2 H2 => wipe σ2 vs = wipe σ vs ∧ tt σ2 H2 fun b H3 =>
      if b = true then te σ2 H3 (Put D (BtwG F0 H0 F L C D (Iv (i + 1)))) else BtwG F0 H0 F L C D (Iv (i + 1)) H3)
    (done : ∀ acc M D F' H', Iv xs.length acc M F' → Same F F' → Own F0 H0 F' H' ((D, .lst acc) :: (M ++ L)) C → Q (.ref D) H') :
    FoL K (.ref a) H fun J H1 => LcEnd J g tt te vs σ H1 Q := by
  refine ⟨a, rfl, ⟨xs, hx⟩, lc_anyG xs.length (fun i x => xs[i]? = some x) O Iv h0 (fun i H' F' acc M D hi O' sF => ?_) (fun H' F' acc M D O' sF => ⟨xs, hl O' sF, Nat.le_refl _⟩) (fun i x H' H2 F' acc M D hi O' sF hy => ⟨hy.1, hy.2 xs (hl O' sF)⟩) (fun i x acc M D F' H' _ hY => turn i x acc M D F' H' hY) done⟩
  exact ⟨xs, _, hl O' sF, List.getElem?_eq_getElem hi⟩
/-! ### least of three -/
def rMin3' : List V → Hp → VK → Prop := fun xs H Q => ∃ i j k : Int, xs = [.int i, .int j, .int k] ∧ Q (.int (min (min i j) k)) H
theorem min3_ {X : Cx} (hc : X.calm = true) : CallR X (.builtin "min") rMin3' := by
  intro pins s σ H vs us Q I r h
  obtain ⟨i, j, k, e, q⟩ := h
  refine call_min3Nu hc pins s σ H vs us Q I r ⟨.int i, .int j, .int k, .int (min (min i j) k), e, ?_, q⟩
  have h2 : ∀ a b : Int, nuMin2 (.int a) (.int b) = some (.int (min a b)) := fun a b => by
    show some (if decide (b < a) = true then V.int b else V.int a) = _
    by_cases h : b < a
    · rw [decide_eq_true h, if_pos rfl, show min a b = b by omega]
    · rw [decide_eq_false h, if_neg Bool.false_ne_true, show min a b = a by omega]
  show (nuMin2 (.int i) (.int j)).bind (fun m => nuMin2 m (.int k)) = _
  rw [h2]
  exact h2 _ _
theorem q_min3 {i j k : Int} {Q : VK} {H : Hp} : rMin3' [.int i, .int j, .int k] H Q = Q (.int (min (min i j) k)) H := propext ⟨fun ⟨_, _, _, e, q⟩ => by cases e; exact q, fun q => ⟨i, j, k, rfl, q⟩⟩
/-! ### grids: rows of their own, addresses A, cells M -/
def row (M : Nat → Nat → Int) (e i : Nat) : List V := (List.range e).map fun j => .int (M i j)
def fam (A : Nat → Addr) (M : Nat → Nat → Int) (n e : Nat) : List (Addr × HO) := (List.range n).map fun i => (A i, .lst (row M e i))
def upd2 (M : Nat → Nat → Int) (i j : Nat) (v : Int) : Nat → Nat → Int := fun i' j' => if i' = i ∧ j' = j then v else M i' j'
theorem upd2_same (M : Nat → Nat → Int) (i j : Nat) (v : Int) : upd2 M i j v i j = v := if_pos ⟨rfl, rfl⟩
theorem upd2_ne {M : Nat → Nat → Int} {i j i' j' : Nat} {v : Int} (h : ¬ (i' = i ∧ j' = j)) : upd2 M i j v i' j' = M i' j' := if_neg h
theorem row_len (M : Nat → Nat → Int) (e i : Nat) : (row M e i).length = e := by rw [row, List.length_map, List.length_range]
theorem row_get {M : Nat → Nat → Int} {e i j : Nat} (h : j < e) : (row M e i)[j]? = some (.int (M i j)) := by
  rw [row, List.getElem?_map, List.getElem?_range h]
  rfl
theorem row_at {M : Nat → Nat → Int} {e i j : Nat} (h : j < e) : atI (row M e i) (j : Nat) = some (.int (M i j)) := by
  rw [atI_get (d := V.non) ⟨by omega, by rw [row_len]; omega⟩, Int.toNat_natCast, List.getD_eq_getElem?_getD, row_get h]
  rfl
theorem fam_len (A : Nat → Addr) (M : Nat → Nat → Int) (n e : Nat) : (fam A M n e).length = n := by rw [fam, List.length_map, List.length_range]
theorem fam_get {A : Nat → Addr} {M : Nat → Nat → Int} {n e i : Nat} (h : i < n) : (fam A M n e)[i]? = some (A i, .lst (row M e i)) := by
  rw [fam, List.getElem?_map, List.getElem?_range h]
  rfl
theorem fam_mem {A : Nat → Addr} {M : Nat → Nat → Int} {n e i : Nat} (h : i < n) : (A i, HO.lst (row M e i)) ∈ fam A M n e := List.mem_of_getElem? (fam_get h)
theorem row_set {M : Nat → Nat → Int} {e i j : Nat} {v : Int} : (row M e i).set j (.int v) = row (upd2 M i j v) e i := by
  refine List.ext_getElem? fun k => ?_
  by_cases hk : k < e
  · by_cases e2 : j = k
    · subst e2
      rw [List.getElem?_set_self (by rw [row_len]; exact hk), row_get hk, upd2_same]
    · rw [List.getElem?_set_ne e2, row_get hk, row_get hk, upd2_ne (by omega)]
  · rw [List.getElem?_eq_none (by rw [List.length_set, row_len]; omega), List.getElem?_eq_none (by rw [row_len]; omega)]
theorem row_ne {M : Nat → Nat → Int} {e i j i' : Nat} {v : Int} (h : i' ≠ i) : row (upd2 M i j v) e i' = row M e i' := by
  refine List.map_congr_left fun k _ => ?_
  rw [upd2_ne (by omega)]
theorem fam_set {A : Nat → Addr} {M : Nat → Nat → Int} {n e i j : Nat} {v : Int} (h : i < n) : (fam A M n e).set i (A i, .lst ((row M e i).set j (.int v))) = fam A (upd2 M i j v) n e := by
  rw [row_set]
  refine List.ext_getElem? fun k => ?_
  by_cases hk : k < n
  · by_cases e2 : i = k
    · subst e2
      rw [List.getElem?_set_self (by rw [fam_len]; exact hk), fam_get hk]
    · rw [List.getElem?_set_ne e2, fam_get hk, fam_get hk, row_ne (by omega)]
  · rw [List.getElem?_eq_none (by rw [List.length_set, fam_len]; omega), List.getElem?_eq_none (by rw [fam_len]; omega)]
/-- a cell is set -/
theorem Own.cell {A : Nat → Addr} {M : Nat → Nat → Int} {n e i j : Nat} {v : Int} {L1 L2 : List (Addr × HO)} (O : Own F0 H0 F H (L1 ++ (fam A M n e ++ L2)) C) (h : i < n) :
    Own F0 H0 F (upd H (A i) (.lst ((row M e i).set j (.int v)))) (L1 ++ (fam A (upd2 M i j v) n e ++ L2)) C := by
  have g : (L1 ++ (fam A M n e ++ L2))[L1.length + i]? = some (A i, .lst (row M e i)) := by
    rw [List.getElem?_append_right (by omega), show L1.length + i - L1.length = i by omega, List.getElem?_append_left (by rw [fam_len]; exact h), fam_get h]
  have O2 := O.set _ g (.lst ((row M e i).set j (.int v)))
  rw [List.set_append_right _ _ (by omega), show L1.length + i - L1.length = i by omega, List.set_append_left _ _ (by rw [fam_len]; exact h), fam_set h] at O2
  exact O2
end
end Fw

namespace Mi
open PySem PySem.Spec PyProof.Rows L2 Fw
/-! ### mirrors: Python by value -/
/-- how a value stands for data -/
structure Rp (α : Type) where
  r : Hp → V → α → Prop
  m : ∀ {F F' : Hp} {v : V} {x : α}, Same F F' → r F v x → r F' v x
theorem Paired.mono {α β : Type} {A B : α → β → Prop} (h : ∀ a b, A a b → B a b) : ∀ {xs : List α} {ys : List β}, Paired A xs ys → Paired B xs ys
  | _, _, .nil => .nil
  | _, _, .cons r t => .cons (h _ _ r) (Paired.mono h t)
theorem Paired.at {α β : Type} {A : α → β → Prop} : ∀ {xs : List α} {ys : List β} {i : Nat} {y : β}, Paired A xs ys → ys[i]? = some y → ∃ x, xs[i]? = some x ∧ A x y
  | _, _, _, _, .nil, e => by simp at e
  | _, _, 0, _, .cons r _, e => by
    have e2 := Option.some.inj e
    rw [← e2]
    exact ⟨_, rfl, r⟩
  | _, _, i + 1, _, .cons _ t, e => Paired.at (i := i) t e
theorem Paired.app {α β : Type} {A : α → β → Prop} : ∀ {xs : List α} {ys : List β} {xs' : List α} {ys' : List β}, Paired A xs ys → Paired A xs' ys' → Paired A (xs ++ xs') (ys ++ ys')
  | _, _, _, _, .nil, h => h
  | _, _, _, _, .cons r t, h => .cons r (Paired.app t h)
theorem Paired.upd {α β : Type} {A : α → β → Prop} {x : α} {y : β} (h : A x y) : ∀ {xs : List α} {ys : List β} (i : Nat), Paired A xs ys → Paired A (xs.set i x) (ys.set i y)
  | _, _, _, .nil => .nil
  | _, _, 0, .cons _ t => .cons h t
  | _, _, i + 1, .cons r t => .cons r (Paired.upd h i t)
theorem Paired.tk {α β : Type} {A : α → β → Prop} : ∀ {xs : List α} {ys : List β} (n : Nat), Paired A xs ys → Paired A (xs.take n) (ys.take n)
  | _, _, 0, _ => .nil
  | _, _, _ + 1, .nil => .nil
  | _, _, n + 1, .cons r t => .cons r (Paired.tk n t)
theorem Paired.dp {α β : Type} {A : α → β → Prop} : ∀ {xs : List α} {ys : List β} (n : Nat), Paired A xs ys → Paired A (xs.drop n) (ys.drop n)
  | _, _, 0, h => h
  | _, _, _ + 1, .nil => .nil
  | _, _, n + 1, .cons _ t => Paired.dp n t
theorem Paired.rev {α β : Type} {A : α → β → Prop} : ∀ {xs : List α} {ys : List β}, Paired A xs ys → Paired A xs.reverse ys.reverse
  | _, _, .nil => .nil
  | _, _, .cons r t => by
    rw [List.reverse_cons, List.reverse_cons]
    exact Paired.app (Paired.rev t) (.cons r .nil)
theorem Paired.ofMap {α β : Type} {A : α → β → Prop} {f : β → α} (h : ∀ a b, A a b → a = f b) : ∀ {xs : List α} {ys : List β}, Paired A xs ys → xs = ys.map f
  | _, _, .nil => rfl
  | _, _, .cons r t => by rw [List.map_cons, ← h _ _ r, ← Paired.ofMap h t]
theorem Paired.mk {α β : Type} {A : α → β → Prop} {f : β → α} (h : ∀ b, A (f b) b) : ∀ (ys : List β), Paired A (ys.map f) ys
  | [] => .nil
  | y :: ys => .cons (h y) (Paired.mk h ys)
theorem Paired.len {α β : Type} {A : α → β → Prop} {xs : List α} {ys : List β} (h : Paired A xs ys) : xs.length = ys.length := Paired.length h
def jI : Rp Int := ⟨fun _ v x => v = .int x, fun _ h => h⟩
def jB : Rp Bool := ⟨fun _ v x => v = .bl x, fun _ h => h⟩
/-- signs of a text -/
def okS (x : List Nat) : Prop := ∀ c ∈ x, c < 1114112
instance (x : List Nat) : Decidable (okS x) := inferInstanceAs (Decidable (∀ c ∈ x, c < 1114112))
theorem okS_app {x y : List Nat} (h : okS x) (k : okS y) : okS (x ++ y) := fun c hc => (List.mem_append.mp hc).elim (h c) (k c)
theorem okS_nil : okS [] := fun _ h => nomatch h
theorem okS_sub {x y : List Nat} (h : okS x) (k : ∀ c ∈ y, c ∈ x) : okS y := fun c hc => h c (k c hc)
theorem okS_flat {xs : List (List Nat)} (h : ∀ x ∈ xs, okS x) : okS xs.flatten := fun c hc => by
  obtain ⟨x, hx, hcx⟩ := List.mem_flatten.mp hc
  exact h x hx c hcx
def jS : Rp (List Nat) := ⟨fun _ v x => v = vS x ∧ okS x, fun _ h => h⟩
def jN : Rp Unit := ⟨fun _ v _ => v = .non, fun _ h => h⟩
/-- a thing known by its value -/
def jV (u : V) : Rp Unit := ⟨fun _ v _ => v = u, fun _ h => h⟩
def jO {α : Type} (R : Rp α) : Rp (Option α) := ⟨fun F v x => match x with | none => v = .non | some y => R.r F v y, fun {_ _ _ x} s h => by
  cases x with
  | none => exact h
  | some y => exact R.m s h⟩
def jL {α : Type} (R : Rp α) : Rp (List α) := ⟨fun F v xs => ∃ a vs, v = .ref a ∧ F a = some (.lst vs) ∧ Paired (R.r F) vs xs,
  fun s ⟨a, vs, e, h, p⟩ => ⟨a, vs, e, s _ _ h, Paired.mono (fun _ _ q => R.m s q) p⟩⟩
/-- a list that is read, of whatever kind -/
def jQ {α : Type} (K : PySem.W.Frag) (R : Rp α) : Rp (List α) := ⟨fun F v xs => ∃ a vs, v = .ref a ∧ SqL K F a vs ∧ Paired (R.r F) vs xs,
  fun s ⟨a, vs, e, h, p⟩ => ⟨a, vs, e, s.seq h, Paired.mono (fun _ _ q => R.m s q) p⟩⟩
/-- a tuple's parts -/
structure Tp (ρ : Type) where
  r : Hp → List V → ρ → Prop
  m : ∀ {F F' : Hp} {v : List V} {x : ρ}, Same F F' → r F v x → r F' v x
def y1 {α : Type} (R : Rp α) : Tp α := ⟨fun F vs x => ∃ v, vs = [v] ∧ R.r F v x, fun s ⟨v, e, h⟩ => ⟨v, e, R.m s h⟩⟩
def yC {α ρ : Type} (R : Rp α) (T : Tp ρ) : Tp (α × ρ) := ⟨fun F vs x => ∃ v r, vs = v :: r ∧ R.r F v x.1 ∧ T.r F r x.2, fun s ⟨v, r, e, h, t⟩ => ⟨v, r, e, R.m s h, T.m s t⟩⟩
def jT {ρ : Type} (T : Tp ρ) : Rp ρ := ⟨fun F v x => ∃ a vs, v = .ref a ∧ F a = some (.tup vs) ∧ T.r F vs x, fun s ⟨a, vs, e, h, t⟩ => ⟨a, vs, e, s _ _ h, T.m s t⟩⟩
/-- how a value and its own objects stand for data -/
structure Sl (α : Type) where
  r : V → Hp → List (Addr × HO) → α → Prop
  m : ∀ {F F' : Hp} {v : V} {L : List (Addr × HO)} {x : α}, Same F F' → r v F L x → r v F' L x
def sF {α : Type} (R : Rp α) : Sl α := ⟨fun v F L x => L = [] ∧ R.r F v x, fun s ⟨e, h⟩ => ⟨e, R.m s h⟩⟩
def sO {α : Type} (R : Rp α) : Sl (List α) := ⟨fun v F L xs => ∃ p vs, v = .ref p ∧ L = [(p, .lst vs)] ∧ Paired (R.r F) vs xs,
  fun s ⟨p, vs, e, h, q⟩ => ⟨p, vs, e, h, Paired.mono (fun _ _ q => R.m s q) q⟩⟩
/-- the names -/
structure En (ρ : Type) where
  r : L2.St → Hp → List (Addr × HO) → ρ → Prop
  m : ∀ {σ : L2.St} {F F' : Hp} {L : List (Addr × HO)} {x : ρ}, Same F F' → r σ F L x → r σ F' L x
def eN : En Unit := ⟨fun σ _ L _ => σ = [] ∧ L = [], fun _ h => h⟩
def eU {ρ : Type} (E : En ρ) : En ρ := ⟨fun σ F L γ => ∃ o σ', σ = o :: σ' ∧ E.r σ' F L γ, fun s ⟨o, σ', e, h⟩ => ⟨o, σ', e, E.m s h⟩⟩
def eC {α ρ : Type} (s : Sl α) (E : En ρ) : En (α × ρ) := ⟨fun σ F L γ => ∃ v σ' L1 L2, σ = some v :: σ' ∧ L = L1 ++ L2 ∧ s.r v F L1 γ.1 ∧ E.r σ' F L2 γ.2,
  fun z ⟨v, σ', L1, L2, e1, e2, h, t⟩ => ⟨v, σ', L1, L2, e1, e2, s.m z h, E.m z t⟩⟩
/-! own objects, fewer -/
def Sb (A B : List (Addr × HO)) : Prop := ∃ R, (A ++ R).Perm B
theorem Sb.refl (A : List (Addr × HO)) : Sb A A := ⟨[], by rw [List.append_nil]⟩
theorem Sb.trans {A B C : List (Addr × HO)} (h : Sb A B) (k : Sb B C) : Sb A C := by
  obtain ⟨R, h⟩ := h
  obtain ⟨S, k⟩ := k
  exact ⟨R ++ S, by rw [← List.append_assoc]; exact (h.append_right S).trans k⟩
theorem Sb.left {A B : List (Addr × HO)} (C : List (Addr × HO)) (h : Sb A B) : Sb (C ++ A) (C ++ B) := by
  obtain ⟨R, h⟩ := h
  exact ⟨R, by rw [List.append_assoc]; exact h.append_left C⟩
theorem Sb.right {A B : List (Addr × HO)} (C : List (Addr × HO)) (h : Sb A B) : Sb (A ++ C) (B ++ C) := by
  obtain ⟨R, h⟩ := h
  refine ⟨R, ?_⟩
  have e : ((A ++ C) ++ R).Perm ((A ++ R) ++ C) := by
    rw [List.append_assoc, List.append_assoc]
    exact List.perm_append_comm.append_left A
  exact e.trans (h.append_right C)
theorem Sb.perm {A B : List (Addr × HO)} (h : A.Perm B) : Sb A B := ⟨[], by rw [List.append_nil]; exact h⟩
theorem Sb.dropL (A B : List (Addr × HO)) : Sb B (A ++ B) := ⟨A, List.perm_append_comm⟩
theorem Sb.dropR (A B : List (Addr × HO)) : Sb A (A ++ B) := ⟨B, List.Perm.refl _⟩
theorem Sb.nil (A : List (Addr × HO)) : Sb [] A := ⟨A, List.Perm.refl _⟩
theorem Sb.mem {A B : List (Addr × HO)} (h : Sb A B) {q : Addr × HO} (hq : q ∈ A) : q ∈ B := by
  obtain ⟨R, h⟩ := h
  exact h.subset (List.mem_append_left R hq)
theorem OwnSb {F0 H0 F H : Hp} {L L' : List (Addr × HO)} {C : List Ck} (O : Own F0 H0 F H L C) (h : Sb L' L) : Own F0 H0 F H L' C := by
  obtain ⟨R, h⟩ := h
  exact (O.perm h).sub (List.sublist_append_left L' R)
abbrev Held (H : Hp) (L : List (Addr × HO)) : Prop := ∀ q ∈ L, H q.1 = some q.2
theorem Held.of {F0 H0 F H : Hp} {L : List (Addr × HO)} {C : List Ck} (O : Own F0 H0 F H L C) : Held H L := fun q hq => (O.own q hq).2.2
theorem Held.mono {H H' : Hp} {L : List (Addr × HO)} (h : Held H L) (s : Same H H') : Held H' L := fun q hq => s _ _ (h q hq)
abbrev Step (F H F' H' : Hp) (L : List (Addr × HO)) : Prop := Own F H F' H' L []
theorem Step.nil {F H : Hp} (s : Same F H) : Step F H F H [] := Own.start s trivial
theorem Own.on {F0 H0 F H F' H' : Hp} {L L1 : List (Addr × HO)} {C : List Ck} (O : Own F0 H0 F H L C) (s : Step F H F' H' L1) : Own F0 H0 F' H' (L1 ++ L) C := O.grow s.ext s.news
/-! ### the judgements -/
section
variable {ρ ρ' α β δ : Type}
structure SE (t : TE) (E : En ρ) (s : Sl α) (f : ρ → Option α) : Prop where
  run : ∀ {σ : L2.St} {F H : Hp} {L : List (Addr × HO)} {γ : ρ} {x : α} {Q : VK}, Same F H → Held H L → E.r σ F L γ → f γ = some x →
  (∀ v F' H' L1, Step F H F' H' L1 → s.r v F' L1 x → Q v H') → t σ H Q
instance {t : TE} {E : En ρ} {s : Sl α} {f : ρ → Option α} : CoeFun (SE t E s f) (fun _ => ∀ {σ : L2.St} {F H : Hp} {L : List (Addr × HO)} {γ : ρ} {x : α} {Q : VK}, Same F H → Held H L → E.r σ F L γ → f γ = some x →
  (∀ v F' H' L1, Step F H F' H' L1 → s.r v F' L1 x → Q v H') → t σ H Q) := ⟨fun h => h.run⟩
structure RE (X : Cx) (e : Expr) (t : TE) (E : En ρ) (s : Sl α) (f : ρ → Option α) : Prop where
  pe : PE X e t
  se : SE t E s f
structure SB (t : TE) (E : En ρ) (R : Rp α) (f : ρ → Option (List α)) : Prop where
  run : ∀ {σ : L2.St} {F H : Hp} {L : List (Addr × HO)} {γ : ρ} {x : List α} {Q : VK}, Same F H → Held H L → E.r σ F L γ → f γ = some x →
  (∀ a vs F' H', Step F H F' H' [] → H' a = some (.lst vs) → Paired (R.r F') vs x → Q (.ref a) H') → t σ H Q
instance {t : TE} {E : En ρ} {R : Rp α} {f : ρ → Option (List α)} : CoeFun (SB t E R f) (fun _ => ∀ {σ : L2.St} {F H : Hp} {L : List (Addr × HO)} {γ : ρ} {x : List α} {Q : VK}, Same F H → Held H L → E.r σ F L γ → f γ = some x →
  (∀ a vs F' H', Step F H F' H' [] → H' a = some (.lst vs) → Paired (R.r F') vs x → Q (.ref a) H') → t σ H Q) := ⟨fun h => h.run⟩
/-- a list read as it stands -/
structure RB (X : Cx) (e : Expr) (t : TE) (E : En ρ) (R : Rp α) (f : ρ → Option (List α)) : Prop where
  pe : PE X e t
  se : SB t E R f
structure ST (t : TT) (E : En ρ) (f : ρ → Option Bool) : Prop where
  run : ∀ {σ : L2.St} {F H : Hp} {L : List (Addr × HO)} {γ : ρ} {x : Bool} {Q : Bool → Hp → Prop}, Same F H → Held H L → E.r σ F L γ → f γ = some x →
  (∀ F' H', Step F H F' H' [] → Q x H') → t σ H Q
instance {t : TT} {E : En ρ} {f : ρ → Option Bool} : CoeFun (ST t E f) (fun _ => ∀ {σ : L2.St} {F H : Hp} {L : List (Addr × HO)} {γ : ρ} {x : Bool} {Q : Bool → Hp → Prop}, Same F H → Held H L → E.r σ F L γ → f γ = some x →
  (∀ F' H', Step F H F' H' [] → Q x H') → t σ H Q) := ⟨fun h => h.run⟩
structure RTt (X : Cx) (e : Expr) (t : TT) (E : En ρ) (f : ρ → Option Bool) : Prop where
  pt : PT X e t
  st : ST t E f
structure RW (X : Cx) (e : Expr) (t : TT) (E : En ρ) (f : ρ → Option Bool) : Prop where
  pw : PW X e t
  st : ST t E f
/-- arguments -/
structure Ar (ρ : Type) where
  r : Hp → List V → ρ → Prop
  m : ∀ {F F' : Hp} {v : List V} {x : ρ}, Same F F' → r F v x → r F' v x
def aN : Ar Unit := ⟨fun _ vs _ => vs = [], fun _ h => h⟩
def aC (R : Rp α) (T : Ar ρ) : Ar (α × ρ) := ⟨fun F vs x => ∃ v r, vs = v :: r ∧ R.r F v x.1 ∧ T.r F r x.2, fun s ⟨v, r, e, h, t⟩ => ⟨v, r, e, R.m s h, T.m s t⟩⟩
structure SA (t : TA) (E : En ρ) (A : Ar α) (f : ρ → Option α) : Prop where
  run : ∀ {σ : L2.St} {F H : Hp} {L : List (Addr × HO)} {γ : ρ} {x : α} {Q : List V → Hp → Prop}, Same F H → Held H L → E.r σ F L γ → f γ = some x →
  (∀ vs F' H', Step F H F' H' [] → A.r F' vs x → Q vs H') → t σ H Q
instance {t : TA} {E : En ρ} {A : Ar α} {f : ρ → Option α} : CoeFun (SA t E A f) (fun _ => ∀ {σ : L2.St} {F H : Hp} {L : List (Addr × HO)} {γ : ρ} {x : α} {Q : List V → Hp → Prop}, Same F H → Held H L → E.r σ F L γ → f γ = some x →
  (∀ vs F' H', Step F H F' H' [] → A.r F' vs x → Q vs H') → t σ H Q) := ⟨fun h => h.run⟩
structure RA (X : Cx) (es : List Expr) (t : TA) (E : En ρ) (A : Ar α) (f : ρ → Option α) : Prop where
  pa : PA X es t
  sa : SA t E A f
end
/-! ### names -/
section
variable {ρ ρ' α β δ : Type} {E : En ρ} {E' : En ρ'} {s : Sl α} {s' : Sl β}
structure Gt (E : En ρ) (i : Nat) (s : Sl α) (g : ρ → α) : Prop where
  run : ∀ {σ : L2.St} {F : Hp} {L : List (Addr × HO)} {γ : ρ}, E.r σ F L γ → ∃ v L1, σ[i]? = some (some v) ∧ (∀ q ∈ L1, q ∈ L) ∧ s.r v F L1 (g γ)
instance {E : En ρ} {i : Nat} {s : Sl α} {g : ρ → α} : CoeFun (Gt E i s g) (fun _ => ∀ {σ : L2.St} {F : Hp} {L : List (Addr × HO)} {γ : ρ}, E.r σ F L γ → ∃ v L1, σ[i]? = some (some v) ∧ (∀ q ∈ L1, q ∈ L) ∧ s.r v F L1 (g γ)) := ⟨fun h => h.run⟩
theorem g0 : Gt (eC s E) 0 s (fun γ => γ.1) := ⟨fun ⟨v, σ', L1, L2, e1, e2, h, _⟩ => ⟨v, L1, by rw [e1]; rfl, fun q hq => by rw [e2]; exact List.mem_append_left _ hq, h⟩⟩
theorem gU {i : Nat} {g : ρ → α} (h : Gt E i s g) : Gt (eU E) (i + 1) s g := ⟨fun ⟨o, σ', e, t⟩ => by
  obtain ⟨v, L1, h1, h2, h3⟩ := h t
  exact ⟨v, L1, by rw [e]; exact h1, h2, h3⟩⟩
theorem gS {i : Nat} {g : ρ → α} (h : Gt E i s g) : Gt (eC s' E) (i + 1) s (fun γ => g γ.2) := ⟨fun ⟨v', σ', L1', L2, e1, e2, _, t⟩ => by
  obtain ⟨v, L1, h1, h2, h3⟩ := h t
  exact ⟨v, L1, by rw [e1]; exact h1, fun q hq => by rw [e2]; exact List.mem_append_right _ (h2 q hq), h3⟩⟩
/-- a name gets a value -/
structure Pt (E : En ρ) (i : Nat) (s : Sl α) (E' : En ρ') (u : α → ρ → ρ') : Prop where
  run : ∀ {σ : L2.St} {F : Hp} {L : List (Addr × HO)} {γ : ρ} {v : V} {L1 : List (Addr × HO)} {x : α}, E.r σ F L γ → s.r v F L1 x →
  ∃ L', E'.r (σ.set i (some v)) F L' (u x γ) ∧ Sb L' (L1 ++ L)
instance {E : En ρ} {i : Nat} {s : Sl α} {E' : En ρ'} {u : α → ρ → ρ'} : CoeFun (Pt E i s E' u) (fun _ => ∀ {σ : L2.St} {F : Hp} {L : List (Addr × HO)} {γ : ρ} {v : V} {L1 : List (Addr × HO)} {x : α}, E.r σ F L γ → s.r v F L1 x →
  ∃ L', E'.r (σ.set i (some v)) F L' (u x γ) ∧ Sb L' (L1 ++ L)) := ⟨fun h => h.run⟩
theorem p0 : Pt (eC s' E) 0 s (eC s E) (fun x γ => (x, γ.2)) := ⟨fun {_ _ _ _ v L1 _} ⟨v', σ', La, L2, e1, e2, _, t⟩ h => by
  subst e1 e2
  exact ⟨L1 ++ L2, ⟨v, σ', L1, L2, rfl, rfl, h, t⟩, (Sb.dropL La L2).left L1⟩⟩
theorem p0U : Pt (eU E) 0 s (eC s E) (fun x γ => (x, γ)) := ⟨fun {_ _ L _ v L1 _} ⟨o, σ', e, t⟩ h => by
  subst e
  exact ⟨L1 ++ L, ⟨v, σ', L1, L, rfl, rfl, h, t⟩, Sb.refl _⟩⟩
theorem pU {i : Nat} {u : α → ρ → ρ'} (h : Pt E i s E' u) : Pt (eU E) (i + 1) s (eU E') u := ⟨fun ⟨o, σ', e, t⟩ k => by
  subst e
  obtain ⟨L', h1, h2⟩ := h t k
  exact ⟨L', ⟨o, _, rfl, h1⟩, h2⟩⟩
theorem pS {i : Nat} {u : α → ρ → ρ'} (h : Pt E i s E' u) : Pt (eC s' E) (i + 1) s (eC s' E') (fun x γ => (γ.1, u x γ.2)) := ⟨fun {_ _ _ _ _ L1 _} ⟨v', σ', La, L2, e1, e2, q, t⟩ k => by
  subst e1 e2
  obtain ⟨L', h1, h2⟩ := h t k
  refine ⟨La ++ L', ⟨v', _, La, L', rfl, rfl, q, h1⟩, (h2.left La).trans (Sb.perm ?_)⟩
  rw [← List.append_assoc, ← List.append_assoc]
  exact List.perm_append_comm.append_right L2⟩
/-- an own list is changed -/
structure Up (E : En ρ) (i : Nat) (R : Rp α) (g : ρ → List α) (u : List α → ρ → ρ) : Prop where
  run : ∀ {σ : L2.St} {F : Hp} {L : List (Addr × HO)} {γ : ρ}, E.r σ F L γ →
  ∃ p vs j, σ[i]? = some (some (.ref p)) ∧ L[j]? = some (p, .lst vs) ∧ Paired (R.r F) vs (g γ) ∧ ∀ F' vs' xs', Same F F' → Paired (R.r F') vs' xs' → E.r σ F' (L.set j (p, .lst vs')) (u xs' γ)
instance {E : En ρ} {i : Nat} {R : Rp α} {g : ρ → List α} {u : List α → ρ → ρ} : CoeFun (Up E i R g u) (fun _ => ∀ {σ : L2.St} {F : Hp} {L : List (Addr × HO)} {γ : ρ}, E.r σ F L γ →
  ∃ p vs j, σ[i]? = some (some (.ref p)) ∧ L[j]? = some (p, .lst vs) ∧ Paired (R.r F) vs (g γ) ∧ ∀ F' vs' xs', Same F F' → Paired (R.r F') vs' xs' → E.r σ F' (L.set j (p, .lst vs')) (u xs' γ)) := ⟨fun h => h.run⟩
theorem u0 {R : Rp α} : Up (eC (sO R) E) 0 R (fun γ => γ.1) (fun xs γ => (xs, γ.2)) := ⟨fun ⟨v', σ', La, L2, e1, e2, ⟨p, vs, e3, e4, q⟩, t⟩ => by
  subst e1 e2 e3 e4
  exact ⟨p, vs, 0, rfl, rfl, q, fun F' vs' xs' sF q' => ⟨_, σ', [(p, .lst vs')], L2, rfl, rfl, ⟨p, vs', rfl, rfl, q'⟩, E.m sF t⟩⟩⟩
theorem uU {i : Nat} {R : Rp α} {g : ρ → List α} {u : List α → ρ → ρ} (h : Up E i R g u) : Up (eU E) (i + 1) R g u := ⟨fun ⟨o, σ', e, t⟩ => by
  subst e
  obtain ⟨p, vs, j, h1, h2, h3, h4⟩ := h t
  exact ⟨p, vs, j, h1, h2, h3, fun F' vs' xs' sF q' => ⟨o, σ', rfl, h4 F' vs' xs' sF q'⟩⟩⟩
theorem uS {i : Nat} {R : Rp α} {g : ρ → List α} {u : List α → ρ → ρ} (h : Up E i R g u) : Up (eC s' E) (i + 1) R (fun γ => g γ.2) (fun xs γ => (γ.1, u xs γ.2)) := ⟨fun ⟨v', σ', La, L2, e1, e2, q, t⟩ => by
  subst e1 e2
  obtain ⟨p, vs, j, h1, h2, h3, h4⟩ := h t
  refine ⟨p, vs, La.length + j, h1, by rw [List.getElem?_append_right (by omega), show La.length + j - La.length = j by omega]; exact h2, h3, fun F' vs' xs' sF q' => ⟨v', σ', La, L2.set j (p, .lst vs'), rfl, ?_, s'.m sF q, h4 F' vs' xs' sF q'⟩⟩
  rw [List.set_append_right _ _ (by omega), show La.length + j - La.length = j by omega]⟩
/-- names are forgotten, own lists frozen -/
structure Co (E : En ρ) (E' : En ρ') (c : ρ → ρ') : Prop where
  run : ∀ {σ : L2.St} {F0 H0 F H : Hp} {L Z : List (Addr × HO)} {γ : ρ}, Own F0 H0 F H (L ++ Z) [] → E.r σ F L γ → ∃ F' L', Own F0 H0 F' H (L' ++ Z) [] ∧ Same F F' ∧ E'.r σ F' L' (c γ)
instance {E : En ρ} {E' : En ρ'} {c : ρ → ρ'} : CoeFun (Co E E' c) (fun _ => ∀ {σ : L2.St} {F0 H0 F H : Hp} {L Z : List (Addr × HO)} {γ : ρ}, Own F0 H0 F H (L ++ Z) [] → E.r σ F L γ → ∃ F' L', Own F0 H0 F' H (L' ++ Z) [] ∧ Same F F' ∧ E'.r σ F' L' (c γ)) := ⟨fun h => h.run⟩
theorem cN : Co eN eN (fun γ => γ) := ⟨fun {_ _ _ F _ L _ _} O h => ⟨F, L, O, Same.refl _, h⟩⟩
theorem cId : Co E E (fun γ => γ) := ⟨fun {_ _ _ F _ L _ _} O h => ⟨F, L, O, Same.refl _, h⟩⟩
theorem cU {c : ρ → ρ'} (h : Co E E' c) : Co (eU E) (eU E') c := ⟨fun O ⟨o, σ', e, t⟩ => by
  obtain ⟨F', L', O', sF, t'⟩ := h O t
  exact ⟨F', L', O', sF, o, σ', e, t'⟩⟩
theorem cK {c : ρ → ρ'} (h : Co E E' c) : Co (eC s E) (eC s E') (fun γ => (γ.1, c γ.2)) := ⟨fun {_ _ _ _ _ _ Z _} O ⟨v, σ', L1, L2, e1, e2, q, t⟩ => by
  subst e1 e2
  have O1 := O.perm (L' := L2 ++ (L1 ++ Z)) (by rw [← List.append_assoc]; exact List.perm_append_comm.append_right Z)
  obtain ⟨F', L', O', sF, t'⟩ := h O1 t
  refine ⟨F', L1 ++ L', O'.perm ?_, sF, v, σ', L1, L', rfl, rfl, s.m sF q, t'⟩
  rw [← List.append_assoc]
  exact List.perm_append_comm.append_right Z⟩
theorem cF {c : ρ → ρ'} (h : Co E E' c) : Co (eC s E) (eU E') (fun γ => c γ.2) := ⟨fun {_ _ _ _ _ _ Z _} O ⟨v, σ', L1, L2, e1, e2, q, t⟩ => by
  subst e1 e2
  have O1 := OwnSb (L' := L2 ++ Z) O (by rw [List.append_assoc]; exact Sb.dropL _ _)
  obtain ⟨F', L', O', sF, t'⟩ := h O1 t
  exact ⟨F', L', O', sF, _, σ', rfl, t'⟩⟩
theorem cI {c : ρ → ρ'} {R : Rp α} (h : Co E E' c) : Co (eC (sO R) E) (eC (sF (jL R)) E') (fun γ => (γ.1, c γ.2)) := ⟨fun {_ _ _ F _ _ Z _} O ⟨v, σ', L1, L2, e1, e2, ⟨p, vs, e3, e4, q⟩, t⟩ => by
  subst e1 e2 e3 e4
  have O1 := (show Own _ _ _ _ ((p, HO.lst vs) :: (L2 ++ Z)) [] from O).freeze
  have s1 : Same F (upd F p (.lst vs)) := fun b u e => by rw [upd_ne (ne_of_none e ((O.own (p, .lst vs) List.mem_cons_self)).1)]; exact e
  obtain ⟨F', L', O', sF, t'⟩ := h (O1.chunks trivial) (E.m s1 t)
  exact ⟨F', L', O', s1.trans sF, _, σ', [], L', rfl, rfl, ⟨rfl, p, vs, rfl, sF _ _ upd_same, Paired.mono (fun _ _ q => R.m (s1.trans sF) q) q⟩, t'⟩⟩
end
end Mi

namespace Mi
open PySem PySem.Spec PyProof.Rows L2 Fw
theorem Step.tr {F H F1 H1 F2 H2 : Hp} {L : List (Addr × HO)} (a : Step F H F1 H1 []) (b : Step F1 H1 F2 H2 L) : Step F H F2 H2 L := by
  have := Own.on a b
  rwa [List.append_nil] at this
abbrev ob {α β : Type} (x : Option α) (f : α → Option β) : Option β := x.bind f
theorem ob_some {α β : Type} {x : Option α} {f : α → Option β} {z : β} (e : ob x f = some z) : ∃ y, x = some y ∧ f y = some z := Option.bind_eq_some_iff.mp e
/-! ### expressions -/
section
variable {ρ ρ' α β δ ε : Type} {E : En ρ} {E' : En ρ'} {ta tb tc te : TE} {A : Rp α} {B : Rp β} {D : Rp δ} {fa : ρ → Option α} {fb : ρ → Option β} {fc : ρ → Option δ} {K : PySem.W.Frag}
theorem se_var {i : Nat} {R : Rp α} {g : ρ → α} (hg : Gt E i (sF R) g) : SE (tVar i) E (sF R) (fun γ => some (g γ)) := ⟨fun {_ _ _ _ _ _ _} sF' _ he e k => by
  obtain ⟨v, L1, h1, _, h2, h3⟩ := hg he
  cases e
  exact ⟨v, h1, k v _ _ [] (Step.nil sF') ⟨rfl, h3⟩⟩⟩
theorem se_c {v : V} {R : Rp α} (x : α) (h : ∀ F, R.r F v x) : SE (tC v) E (sF R) (fun _ => some x) := ⟨fun sF' _ _ e k => by
  cases e
  exact k v _ _ [] (Step.nil sF') ⟨rfl, h _⟩⟩
theorem se_int {i : Int} : SE (tC (.int i)) E (sF jI) (fun _ => some i) := se_c i fun _ => rfl
theorem se_bl {i : Bool} : SE (tC (.bl i)) E (sF jB) (fun _ => some i) := se_c i fun _ => rfl
theorem se_str {l : List Nat} (h : okS l := by decide) : SE (tC (vS l)) E (sF jS) (fun _ => some l) := se_c l fun _ => ⟨rfl, h⟩
theorem se_non : SE (tC .non) E (sF jN) (fun _ => some ()) := se_c () fun _ => rfl
theorem se_v {v : V} : SE (tC v) E (sF (jV v)) (fun _ => some ()) := se_c () fun _ => rfl
/-- a fresh list is frozen -/
theorem se_fz {R : Rp α} {fa : ρ → Option (List α)} (h : SE ta E (sO R) fa) : SE ta E (sF (jL R)) fa := ⟨fun {_ _ _ _ _ _ _} s1 hL he e k => h s1 hL he e fun v F' H' L1 s2 ⟨p, vs, e1, e2, q⟩ => by
  subst e1 e2
  have sP : Same F' (upd F' p (.lst vs)) := fun b u e => by rw [upd_ne (ne_of_none e ((s2.own (p, .lst vs) List.mem_cons_self)).1)]; exact e
  exact k _ _ _ [] (s2.freeze.chunks trivial) ⟨rfl, p, vs, rfl, upd_same, Paired.mono (fun _ _ q => R.m sP q) q⟩⟩
/-- another reading of the value -/
theorem se_cv {s : Sl α} {s' : Sl β} {c : α → Option β} (h : SE ta E s fa) (hc : ∀ {v F L x y}, s.r v F L x → c x = some y → s'.r v F L y) : SE ta E s' (fun γ => ob (fa γ) c) := ⟨fun s1 hL he e k => by
  obtain ⟨x, e1, e2⟩ := ob_some e
  exact h s1 hL he e1 fun v F' H' L1 s2 r => k v F' H' L1 s2 (hc r e2)⟩
/-- a value that is there -/
theorem se_some {R : Rp α} {fa : ρ → Option (Option α)} (h : SE ta E (sF (jO R)) fa) : SE ta E (sF R) (fun γ => ob (fa γ) fun x => x) := se_cv h fun {v F L x y} ⟨e, r⟩ e2 => by
  subst e2
  exact ⟨e, r⟩
theorem se_toOp {R : Rp α} (h : SE ta E (sF R) fa) : SE ta E (sF (jO R)) (fun γ => ob (fa γ) fun x => some (some x)) := se_cv h fun {v F L x y} ⟨e, r⟩ e2 => by
  cases e2
  exact ⟨e, r⟩
theorem se_nonOp {R : Rp α} : SE (tC .non) E (sF (jO R)) (fun _ => some none) := se_c none fun _ => rfl
theorem se_toQ {R : Rp α} {fa : ρ → Option (List α)} (h : SE ta E (sF (jL R)) fa) : SE ta E (sF (jQ K R)) fa := ⟨fun s1 hL he e k => h s1 hL he e fun v F' H' L1 s2 ⟨e1, a, vs, e2, r, p⟩ => k v F' H' L1 s2 ⟨e1, a, vs, e2, .inl (.inl r), p⟩⟩
/-- two operands -/
structure S2 (r : R2) (A : Rp α) (B : Rp β) (s : Sl δ) (g : α → β → Option δ) : Prop where
  run : ∀ {F H : Hp} {x y : V} {a : α} {b : β} {c : δ} {Q : VK}, Same F H → A.r F x a → B.r F y b → g a b = some c →
  (∀ z F' H' L, Step F H F' H' L → s.r z F' L c → Q z H') → r x y H Q
instance {r : R2} {A : Rp α} {B : Rp β} {s : Sl δ} {g : α → β → Option δ} : CoeFun (S2 r A B s g) (fun _ => ∀ {F H : Hp} {x y : V} {a : α} {b : β} {c : δ} {Q : VK}, Same F H → A.r F x a → B.r F y b → g a b = some c →
  (∀ z F' H' L, Step F H F' H' L → s.r z F' L c → Q z H') → r x y H Q) := ⟨fun h => h.run⟩
theorem se_op {r : R2} {s : Sl δ} {g : α → β → Option δ} (ha : SE ta E (sF A) fa) (hb : SE tb E (sF B) fb) (hs : S2 r A B s g) : SE (tOp r ta tb) E s (fun γ => ob (fa γ) fun x => ob (fb γ) fun y => g x y) := ⟨fun s0 hL he e k => by
  obtain ⟨x, e1, e⟩ := ob_some e
  obtain ⟨y, e2, e⟩ := ob_some e
  refine ha s0 hL he e1 fun v F1 H1 L1 s1 ⟨z1, r1⟩ => ?_
  subst z1
  refine hb s1.fh (hL.mono s1.hh) (E.m s1.f0 he) e2 fun u F2 H2 L2 s2 ⟨z2, r2⟩ => ?_
  subst z2
  exact hs s2.fh (A.m s2.f0 r1) r2 e fun z F3 H3 L3 s3 r3 => k z F3 H3 L3 (s1.tr (s2.tr s3)) r3⟩
structure S1 (r : V → Hp → VK → Prop) (A : Rp α) (s : Sl δ) (g : α → Option δ) : Prop where
  run : ∀ {F H : Hp} {x : V} {a : α} {c : δ} {Q : VK}, Same F H → A.r F x a → g a = some c →
  (∀ z F' H' L, Step F H F' H' L → s.r z F' L c → Q z H') → r x H Q
instance {r : V → Hp → VK → Prop} {A : Rp α} {s : Sl δ} {g : α → Option δ} : CoeFun (S1 r A s g) (fun _ => ∀ {F H : Hp} {x : V} {a : α} {c : δ} {Q : VK}, Same F H → A.r F x a → g a = some c →
  (∀ z F' H' L, Step F H F' H' L → s.r z F' L c → Q z H') → r x H Q) := ⟨fun h => h.run⟩
theorem se_un {r : V → Hp → VK → Prop} {s : Sl δ} {g : α → Option δ} (ha : SE ta E (sF A) fa) (hs : S1 r A s g) : SE (tUn r ta) E s (fun γ => ob (fa γ) fun x => g x) := ⟨fun s0 hL he e k => by
  obtain ⟨x, e1, e⟩ := ob_some e
  refine ha s0 hL he e1 fun v F1 H1 L1 s1 ⟨z1, r1⟩ => ?_
  subst z1
  exact hs s1.fh r1 e fun z F3 H3 L3 s3 r3 => k z F3 H3 L3 (s1.tr s3) r3⟩
theorem s2_I0 {f : Int → Int → Int} : S2 (rI0 fun i j => .int (f i j)) jI jI (sF jI) (fun x y => some (f x y)) := ⟨fun s0 r1 r2 e k => by
  cases e
  exact ⟨_, _, r1, r2, k _ _ _ [] (Step.nil s0) ⟨rfl, rfl⟩⟩⟩
theorem s2_C0 {f : Int → Int → Bool} : S2 (rI0 fun i j => .bl (f i j)) jI jI (sF jB) (fun x y => some (f x y)) := ⟨fun s0 r1 r2 e k => by
  cases e
  exact ⟨_, _, r1, r2, k _ _ _ [] (Step.nil s0) ⟨rfl, rfl⟩⟩⟩
def pck (P : Prop) [Decidable P] (x : α) : Option α := if P then some x else none
theorem pck_some {P : Prop} [Decidable P] {x y : α} (h : pck P x = some y) : P ∧ x = y := by
  unfold pck at h
  split at h
  · next p => cases h; exact ⟨p, rfl⟩
  · cases h
theorem pck_of {P : Prop} [Decidable P] {x : α} (h : P) : pck P x = some x := if_pos h
theorem s2_I {C : Int → Int → Prop} {P : Int → Int → Prop} [∀ i j, Decidable (P i j)] {f : Int → Int → Int} (h : ∀ i j, P i j → C i j) : S2 (rI C fun i j => .int (f i j)) jI jI (sF jI) (fun x y => pck (P x y) (f x y)) := ⟨fun s0 r1 r2 e k => by
  obtain ⟨p, rfl⟩ := pck_some e
  exact ⟨_, _, r1, r2, h _ _ p, k _ _ _ [] (Step.nil s0) ⟨rfl, rfl⟩⟩⟩
abbrev PMul (i j : Int) : Prop := (-18446744073709551616 < i ∧ i < 18446744073709551616) ∨ (-18446744073709551616 < j ∧ j < 18446744073709551616)
abbrev PDiv (_ j : Int) : Prop := 0 < j ∧ j < 1073741824
abbrev PMod (_ j : Int) : Prop := 0 < j
abbrev PSh (_ j : Int) : Prop := 0 ≤ j
theorem s2_mul : S2 (rI CMul fun i j => .int (i * j)) jI jI (sF jI) (fun x y => pck (PMul x y) (x * y)) := s2_I fun _ _ h => h
theorem s2_div : S2 (rI CDiv fun i j => .int (i / j)) jI jI (sF jI) (fun x y => pck (PDiv x y) (x / y)) := s2_I fun _ _ h => h
theorem s2_mod : S2 (rI (fun _ j => 0 < j) fun i j => .int (i % j)) jI jI (sF jI) (fun x y => pck (PMod x y) (x % y)) := s2_I fun _ _ h => h
theorem s2_shr : S2 (rI (fun _ j => 0 ≤ j) fun i j => .int (i / 2 ^ j.toNat)) jI jI (sF jI) (fun x y => pck (PSh x y) (x / 2 ^ y.toNat)) := s2_I (P := PSh) (f := fun i j => i / 2 ^ j.toNat) fun _ _ h => h
theorem s1_U {f : Int → Int} : S1 (rU fun i => .int (f i)) jI (sF jI) (fun x => some (f x)) := ⟨fun s0 r1 e k => by
  cases e
  exact ⟨_, r1, k _ _ _ [] (Step.nil s0) ⟨rfl, rfl⟩⟩⟩
theorem s2_eqI : S2 rEq jI jI (sF jB) (fun x y => some (decide (x = y))) := ⟨fun {_ H _ _ a b _ Q} s0 r1 r2 e k => by
  cases e
  rw [show _ = V.int a from r1, show _ = V.int b from r2, q_eqI]
  exact k _ _ _ [] (Step.nil s0) ⟨rfl, rfl⟩⟩
theorem s2_neI : S2 rNe jI jI (sF jB) (fun x y => some (!decide (x = y))) := ⟨fun {_ H _ _ a b _ Q} s0 r1 r2 e k => by
  cases e
  rw [show _ = V.int a from r1, show _ = V.int b from r2, q_neI]
  exact k _ _ _ [] (Step.nil s0) ⟨rfl, rfl⟩⟩
theorem s2_eqS : S2 rEq jS jS (sF jB) (fun x y => some (decide (x = y))) := ⟨fun {_ H _ _ a b _ Q} s0 r1 r2 e k => by
  cases e
  rw [show _ = V.str (S a) from r1.1, show _ = V.str (S b) from r2.1, q_eqS, show decide (S a = S b) = decide (a = b) from decide_eq_decide.mpr S_inj]
  exact k _ _ _ [] (Step.nil s0) ⟨rfl, rfl⟩⟩
theorem s2_neS : S2 rNe jS jS (sF jB) (fun x y => some (!decide (x = y))) := ⟨fun {_ H _ _ a b _ Q} s0 r1 r2 e k => by
  cases e
  rw [show _ = V.str (S a) from r1.1, show _ = V.str (S b) from r2.1, q_neS, show decide (S a = S b) = decide (a = b) from decide_eq_decide.mpr S_inj]
  exact k _ _ _ [] (Step.nil s0) ⟨rfl, rfl⟩⟩
theorem s2_eqB : S2 rEq jB jB (sF jB) (fun x y => some (decide (x = y))) := ⟨fun {_ H _ _ a b _ Q} s0 r1 r2 e k => by
  cases e
  rw [show _ = V.bl a from r1, show _ = V.bl b from r2, q_eqB]
  exact k _ _ _ [] (Step.nil s0) ⟨rfl, rfl⟩⟩
theorem s2_neB : S2 rNe jB jB (sF jB) (fun x y => some (!decide (x = y))) := ⟨fun {_ H _ _ a b _ Q} s0 r1 r2 e k => by
  cases e
  rw [show _ = V.bl a from r1, show _ = V.bl b from r2, q_neB]
  exact k _ _ _ [] (Step.nil s0) ⟨rfl, rfl⟩⟩
abbrev sz : Nat := 16777216
theorem sz_le {n : Nat} (h : n ≤ sz) : n ≤ sizeLine := by rw [sizeLine_eq]; exact h
theorem sz_lt {n : Nat} (h : n < sz) : n < sizeLine := by rw [sizeLine_eq]; exact h
theorem s2_addS : S2 Fw.rAddS jS jS (sF jS) (fun x y => pck (x.length + y.length ≤ sz) (x ++ y)) := ⟨fun s0 r1 r2 e k => by
  obtain ⟨p, rfl⟩ := pck_some e
  exact ⟨_, _, r1.1, r2.1, sz_le p, k _ _ _ [] (Step.nil s0) ⟨rfl, rfl, okS_app r1.2 r2.2⟩⟩⟩
theorem s2_mulS : S2 rMulS jS jI (sF jS) (fun x y => pck ((0 ≤ y ∧ y < 1073741824) ∧ x.length * y.toNat ≤ sz) (List.replicate y.toNat x).flatten) := ⟨fun s0 r1 r2 e k => by
  obtain ⟨p, rfl⟩ := pck_some e
  exact ⟨_, _, r1.1, r2, p.1.1, p.1.2, sz_le p.2, k _ _ _ [] (Step.nil s0) ⟨rfl, rfl, okS_flat fun x hx => by rw [(List.mem_replicate.mp hx).2]; exact r1.2⟩⟩⟩
/-- x[i], from either end -/
def pat {τ : Type} (xs : List τ) (i : Int) : Option τ := atI xs i
theorem pat_mem {τ : Type} {xs : List τ} {i : Int} {x : τ} (h : pat xs i = some x) : x ∈ xs := by
  unfold pat atI at h
  cases hj : ixN xs.length i with
  | none => rw [hj] at h; cases h
  | some j => rw [hj] at h; exact List.mem_of_getElem? h
def pixS (x : List Nat) (y : Int) : Option (List Nat) := ob (pck (x.length ≤ sz) ()) fun _ => (pat x y).map fun c => [c]
theorem s2_ixS : S2 rIxSg jS jI (sF jS) (fun x y => pixS x y) := ⟨fun s0 r1 r2 e k => by
  unfold pixS at e
  obtain ⟨_, e1, e⟩ := ob_some e
  obtain ⟨p, _⟩ := pck_some e1
  cases h : pat _ _ with
  | none => rw [h] at e; cases e
  | some c =>
    rw [h] at e
    cases e
    exact ⟨_, _, c, r1.1, r2, sz_le p, h, k _ _ _ [] (Step.nil s0) ⟨rfl, rfl, okS_sub r1.2 fun d hd => by rw [List.mem_singleton.mp hd]; exact pat_mem h⟩⟩⟩
theorem paired_len {R : Rp α} {F : Hp} {vs : List V} {xs : List α} (h : Paired (R.r F) vs xs) : vs.length = xs.length := Paired.len h
theorem pat_paired {R : α → β → Prop} {vs : List α} {xs : List β} {i : Int} {x : β} (h : Paired R vs xs) (e : pat xs i = some x) : ∃ v, atI vs i = some v ∧ R v x := by
  unfold pat atI at e
  unfold atI
  rw [Paired.len h]
  cases hj : ixN xs.length i with
  | none => rw [hj] at e; cases e
  | some j =>
    rw [hj] at e
    exact Paired.at h e
theorem s2_ixL : S2 (rIxL K) (jL A) jI (sF A) (fun x y => pat x y) := ⟨fun s0 ⟨a, vs, r1, r2, p⟩ r3 e k => by
  obtain ⟨v, h1, h2⟩ := pat_paired p e
  exact ⟨a, vs, _, v, r1, r3, .inl (.inl (s0 _ _ r2)), h1, k _ _ _ [] (Step.nil s0) ⟨rfl, h2⟩⟩⟩
theorem s2_ixQ : S2 (rIxL K) (jQ K A) jI (sF A) (fun x y => pat x y) := ⟨fun s0 ⟨a, vs, r1, r2, p⟩ r3 e k => by
  obtain ⟨v, h1, h2⟩ := pat_paired p e
  exact ⟨a, vs, _, v, r1, r3, s0.seq r2, h1, k _ _ _ [] (Step.nil s0) ⟨rfl, h2⟩⟩⟩
/-- a tuple's part -/
structure Tat (T : Tp ρ') (n : Nat) (i : Nat) (R : Rp α) (g : ρ' → α) : Prop where
  run : ∀ {F : Hp} {vs : List V} {x : ρ'}, T.r F vs x → vs.length = n ∧ ∃ v, vs[i]? = some v ∧ R.r F v (g x)
instance {T : Tp ρ'} {n : Nat} {i : Nat} {R : Rp α} {g : ρ' → α} : CoeFun (Tat T n i R g) (fun _ => ∀ {F : Hp} {vs : List V} {x : ρ'}, T.r F vs x → vs.length = n ∧ ∃ v, vs[i]? = some v ∧ R.r F v (g x)) := ⟨fun h => h.run⟩
theorem tz1 : Tat (y1 A) 1 0 A (fun x => x) := ⟨fun ⟨v, e, h⟩ => by subst e; exact ⟨rfl, v, rfl, h⟩⟩
theorem tz {T : Tp ρ'} {n j : Nat} {R : Rp β} {g : ρ' → β} (h : Tat T n j R g) : Tat (yC A T) (n + 1) 0 A (fun x => x.1) := ⟨fun ⟨v, r, e, h1, h2⟩ => by
  subst e
  exact ⟨by rw [List.length_cons, (h h2).1], v, rfl, h1⟩⟩
theorem ts {T : Tp ρ'} {n j : Nat} {R : Rp β} {g : ρ' → β} (h : Tat T n j R g) : Tat (yC A T) (n + 1) (j + 1) R (fun x => g x.2) := ⟨fun ⟨v, r, e, h1, h2⟩ => by
  subst e
  obtain ⟨e1, u, e2, e3⟩ := h h2
  exact ⟨by rw [List.length_cons, e1], u, e2, e3⟩⟩
theorem se_ixT {T : Tp ρ'} {n j : Nat} {i : Int} {R : Rp β} {g : ρ' → β} {fa : ρ → Option ρ'} (ha : SE ta E (sF (jT T)) fa) (h : Tat T n j R g) (hi : ixN n i = some j := by rfl) : SE (tOp (rIxT K) ta (tC (.int i))) E (sF R) (fun γ => ob (fa γ) fun x => some (g x)) := ⟨fun s0 hL he e k => by
  obtain ⟨x, e1, e⟩ := ob_some e
  cases e
  refine ha s0 hL he e1 fun v F1 H1 L1 s1 ⟨z1, a, vs, r1, r2, p⟩ => ?_
  subst z1
  obtain ⟨h1, u, h2, h3⟩ := h p
  refine ⟨a, vs, i, u, r1, rfl, .inl (.inl (s1.fh _ _ r2)), ?_, k _ _ _ [] s1 ⟨rfl, h3⟩⟩
  unfold atI
  rw [h1, hi]
  exact h2⟩
/-! tests and choices -/
theorem se_ifE {t : TT} {s : Sl α} {fq : ρ → Option Bool} {fa fb : ρ → Option α} (hc : ST t E fq) (ha : SE ta E s fa) (hb : SE tb E s fb) : SE (tIf t ta tb) E s (fun γ => ob (fq γ) fun b => if b = true then fa γ else fb γ) := ⟨fun s0 hL he e k => by
  obtain ⟨b, e1, e⟩ := ob_some e
  refine hc s0 hL he e1 fun F1 H1 s1 => ?_
  cases b with
  | true =>
    show if true = true then _ else _
    rw [if_pos rfl]
    rw [if_pos rfl] at e
    exact ha s1.fh (hL.mono s1.hh) (E.m s1.f0 he) e fun z F3 H3 L3 s3 r3 => k z F3 H3 L3 (s1.tr s3) r3
  | false =>
    show if false = true then _ else _
    rw [if_neg Bool.false_ne_true]
    rw [if_neg Bool.false_ne_true] at e
    exact hb s1.fh (hL.mono s1.hh) (E.m s1.f0 he) e fun z F3 H3 L3 s3 r3 => k z F3 H3 L3 (s1.tr s3) r3⟩
theorem se_andV {fa fb : ρ → Option Bool} (ha : SE ta E (sF jB) fa) (hb : SE tb E (sF jB) fb) : SE (tAndV ta tb) E (sF jB) (fun γ => ob (fa γ) fun b => if b = true then fb γ else some false) := ⟨fun s0 hL he e k => by
  obtain ⟨b, e1, e⟩ := ob_some e
  refine ha s0 hL he e1 fun v F1 H1 L1 s1 ⟨z1, r1⟩ => ?_
  subst z1
  refine ⟨b, r1, ?_⟩
  cases b with
  | true =>
    rw [if_pos rfl] at e ⊢
    exact hb s1.fh (hL.mono s1.hh) (E.m s1.f0 he) e fun z F3 H3 L3 s3 r3 => k z F3 H3 L3 (s1.tr s3) r3
  | false =>
    rw [if_neg Bool.false_ne_true] at e ⊢
    cases e
    exact k _ _ _ [] s1 ⟨rfl, rfl⟩⟩
theorem se_orV {fa fb : ρ → Option Bool} (ha : SE ta E (sF jB) fa) (hb : SE tb E (sF jB) fb) : SE (tOrV ta tb) E (sF jB) (fun γ => ob (fa γ) fun b => if b = true then some true else fb γ) := ⟨fun s0 hL he e k => by
  obtain ⟨b, e1, e⟩ := ob_some e
  refine ha s0 hL he e1 fun v F1 H1 L1 s1 ⟨z1, r1⟩ => ?_
  subst z1
  refine ⟨b, r1, ?_⟩
  cases b with
  | true =>
    rw [if_pos rfl] at e ⊢
    cases e
    exact k _ _ _ [] s1 ⟨rfl, rfl⟩
  | false =>
    rw [if_neg Bool.false_ne_true] at e ⊢
    exact hb s1.fh (hL.mono s1.hh) (E.m s1.f0 he) e fun z F3 H3 L3 s3 r3 => k z F3 H3 L3 (s1.tr s3) r3⟩
theorem se_notV {fa : ρ → Option Bool} (ha : SE ta E (sF jB) fa) : SE (tNotV ta) E (sF jB) (fun γ => ob (fa γ) fun b => some (!b)) := ⟨fun s0 hL he e k => by
  obtain ⟨b, e1, e⟩ := ob_some e
  cases e
  refine ha s0 hL he e1 fun v F1 H1 L1 s1 ⟨z1, r1⟩ => ?_
  subst z1
  exact ⟨b, r1, k _ _ _ [] s1 ⟨rfl, rfl⟩⟩⟩
theorem se_chain {r r' : R2} {g : α → β → Option Bool} {g' : β → δ → Option Bool} (ha : SE ta E (sF A) fa) (hb : SE tb E (sF B) fb) (hc : SE tc E (sF D) fc) (h1 : S2 r A B (sF jB) g) (h2 : S2 r' B D (sF jB) g') :
    SE (tChain r r' ta tb tc) E (sF jB) (fun γ => ob (fa γ) fun x => ob (fb γ) fun y => ob (g x y) fun b => if b = true then ob (fc γ) fun z => g' y z else some false) := ⟨fun s0 hL he e k => by
  obtain ⟨x, e1, e⟩ := ob_some e
  obtain ⟨y, e2, e⟩ := ob_some e
  obtain ⟨b, e3, e⟩ := ob_some e
  refine ha s0 hL he e1 fun v F1 H1 L1 s1 ⟨z1, r1⟩ => ?_
  subst z1
  refine hb s1.fh (hL.mono s1.hh) (E.m s1.f0 he) e2 fun u F2 H2 L2 s2 ⟨z2, r2⟩ => ?_
  subst z2
  have s12 := s1.tr s2
  refine h1 s2.fh (A.m s2.f0 r1) r2 e3 fun z F3 H3 L3 s3 ⟨z3, r3⟩ => ?_
  subst z3
  have s13 := s12.tr s3
  refine ⟨b, r3, ?_⟩
  cases b with
  | true =>
    rw [if_pos rfl] at e ⊢
    obtain ⟨z', e4, e⟩ := ob_some e
    refine hc s3.fh (hL.mono s13.hh) (E.m s13.f0 he) e4 fun u4 F4 H4 L4 s4 ⟨z4, r4⟩ => ?_
    subst z4
    exact h2 s4.fh (B.m s4.f0 (B.m s3.f0 r2)) r4 e fun z F5 H5 L5 s5 r5 => k z F5 H5 L5 (s13.tr (s4.tr s5)) r5
  | false =>
    rw [if_neg Bool.false_ne_true] at e ⊢
    cases e
    exact k _ _ _ [] s13 ⟨rfl, rfl⟩⟩
theorem st_test {fa : ρ → Option Bool} (ha : SE ta E (sF jB) fa) : ST (tTest ta) E fa := ⟨fun s0 hL he e k => ha s0 hL he e fun v F1 H1 L1 s1 ⟨z1, r1⟩ => by
  subst z1
  exact ⟨_, r1, k _ _ s1⟩⟩
theorem st_B {fa : ρ → Option Bool} (ha : SE ta E (sF jB) fa) : ST (tB ta) E fa := st_test ha
variable {t u : TT} {ft fu : ρ → Option Bool}
theorem st_and (ha : ST t E ft) (hb : ST u E fu) : ST (tAnd t u) E (fun γ => ob (ft γ) fun b => if b = true then fu γ else some false) := ⟨fun s0 hL he e k => by
  obtain ⟨b, e1, e⟩ := ob_some e
  refine ha s0 hL he e1 fun F1 H1 s1 => ?_
  cases b with
  | true =>
    show if true = true then _ else _
    rw [if_pos rfl]
    rw [if_pos rfl] at e
    exact hb s1.fh (hL.mono s1.hh) (E.m s1.f0 he) e fun F3 H3 s3 => k F3 H3 (s1.tr s3)
  | false =>
    show if false = true then _ else _
    rw [if_neg Bool.false_ne_true] at e ⊢
    cases e
    exact k _ _ s1⟩
theorem st_or (ha : ST t E ft) (hb : ST u E fu) : ST (tOr t u) E (fun γ => ob (ft γ) fun b => if b = true then some true else fu γ) := ⟨fun s0 hL he e k => by
  obtain ⟨b, e1, e⟩ := ob_some e
  refine ha s0 hL he e1 fun F1 H1 s1 => ?_
  cases b with
  | true =>
    show if true = true then _ else _
    rw [if_pos rfl] at e ⊢
    cases e
    exact k _ _ s1
  | false =>
    show if false = true then _ else _
    rw [if_neg Bool.false_ne_true] at e ⊢
    exact hb s1.fh (hL.mono s1.hh) (E.m s1.f0 he) e fun F3 H3 s3 => k F3 H3 (s1.tr s3)⟩
theorem st_not (ha : ST t E ft) : ST (tNot t) E (fun γ => ob (ft γ) fun b => some (!b)) := ⟨fun s0 hL he e k => by
  obtain ⟨b, e1, e⟩ := ob_some e
  cases e
  exact ha s0 hL he e1 fun F1 H1 s1 => k _ _ s1⟩
theorem st_yes : ST tYes E (fun _ => some true) := ⟨fun s0 _ _ e k => by
  cases e
  exact k _ _ (Step.nil s0)⟩
/-! argument lists -/
theorem sa_nil : SA tNil E aN (fun _ => some ()) := ⟨fun s0 _ _ e k => k _ _ _ (Step.nil s0) rfl⟩
theorem sa_cons {tr : TA} {T : Ar β} {fr : ρ → Option β} (ha : SE ta E (sF A) fa) (hr : SA tr E T fr) : SA (tCons ta tr) E (aC A T) (fun γ => ob (fa γ) fun x => ob (fr γ) fun y => some (x, y)) := ⟨fun s0 hL he e k => by
  obtain ⟨x, e1, e⟩ := ob_some e
  obtain ⟨y, e2, e⟩ := ob_some e
  cases e
  refine ha s0 hL he e1 fun v F1 H1 L1 s1 ⟨z1, r1⟩ => ?_
  subst z1
  exact hr s1.fh (hL.mono s1.hh) (E.m s1.f0 he) e2 fun vs F2 H2 s2 r2 => k _ _ _ (s1.tr s2) ⟨v, vs, rfl, A.m s2.f0 r1, r2⟩⟩
/-- items of one kind -/
def aL (R : Rp α) : Ar (List α) := ⟨fun F vs xs => Paired (R.r F) vs xs, fun s h => Paired.mono (fun _ _ q => R.m s q) h⟩
theorem sl_nil : SA tNil E (aL A) (fun _ => some []) := ⟨fun s0 _ _ e k => by
  cases e
  exact k _ _ _ (Step.nil s0) .nil⟩
theorem sl_cons {tr : TA} {fr : ρ → Option (List α)} (ha : SE ta E (sF A) fa) (hr : SA tr E (aL A) fr) : SA (tCons ta tr) E (aL A) (fun γ => ob (fa γ) fun x => ob (fr γ) fun y => some (x :: y)) := ⟨fun s0 hL he e k => by
  obtain ⟨x, e1, e⟩ := ob_some e
  obtain ⟨y, e2, e⟩ := ob_some e
  cases e
  refine ha s0 hL he e1 fun v F1 H1 L1 s1 ⟨z1, r1⟩ => ?_
  subst z1
  exact hr s1.fh (hL.mono s1.hh) (E.m s1.f0 he) e2 fun vs F2 H2 s2 r2 => k _ _ _ (s1.tr s2) (.cons (A.m s2.f0 r1) r2)⟩
/-- a tuple's parts -/
def aT (T : Tp α) : Ar α := ⟨T.r, T.m⟩
theorem st1 (ha : SE ta E (sF A) fa) : SA (tCons ta tNil) E (aT (y1 A)) fa := ⟨fun s0 hL he e k => by
  refine ha s0 hL he e fun v F1 H1 L1 s1 ⟨z1, r1⟩ => ?_
  subst z1
  exact k _ _ _ s1 ⟨v, rfl, r1⟩⟩
theorem stC {tr : TA} {T : Tp β} {fr : ρ → Option β} (ha : SE ta E (sF A) fa) (hr : SA tr E (aT T) fr) : SA (tCons ta tr) E (aT (yC A T)) (fun γ => ob (fa γ) fun x => ob (fr γ) fun y => some (x, y)) := ⟨fun s0 hL he e k => by
  obtain ⟨x, e1, e⟩ := ob_some e
  obtain ⟨y, e2, e⟩ := ob_some e
  cases e
  refine ha s0 hL he e1 fun v F1 H1 L1 s1 ⟨z1, r1⟩ => ?_
  subst z1
  exact hr s1.fh (hL.mono s1.hh) (E.m s1.f0 he) e2 fun vs F2 H2 s2 r2 => k _ _ _ (s1.tr s2) ⟨v, vs, rfl, A.m s2.f0 r1, r2⟩⟩
theorem Tp.lenOf {T : Tp ρ'} {n j : Nat} {R : Rp β} {g : ρ' → β} (h : Tat T n j R g) {F : Hp} {vs : List V} {x : ρ'} (r : T.r F vs x) : vs.length = n := (h r).1
theorem se_tup {tA : TA} {T : Tp α} {f : ρ → Option α} {n j : Nat} {R : Rp β} {g : α → β} (h : SA tA E (aT T) f) (hn : Tat T n j R g) (hz : n ≤ sz := by decide) : SE (tTup tA) E (sF (jT T)) f := ⟨fun s0 hL he e k => by
  refine h s0 hL he e fun vs F1 H1 s1 r1 => ?_
  refine ⟨sz_le (by rw [show vs.length = n from (hn r1).1]; exact hz), fun p np => ?_⟩
  have s2 := (Step.nil s1.fh).ice np (.tup vs)
  exact k _ _ _ [] (s1.tr (s2.chunks trivial)) ⟨rfl, p, vs, rfl, upd_same, T.m s2.f0 r1⟩⟩
theorem newL {F H : Hp} {R : Rp α} {vs : List V} {xs : List α} {Q : VK} (s0 : Same F H) (h : Paired (R.r F) vs xs) (k : ∀ z F' H' L, Step F H F' H' L → (sO R).r z F' L xs → Q z H') (p : Addr) (np : H p = none) : Q (.ref p) (upd H p (.lst vs)) :=
  k _ _ _ _ ((Step.nil s0).alloc np (.lst vs)) ⟨p, vs, rfl, rfl, h⟩
theorem se_lst {tA : TA} {f : ρ → Option (List α)} (h : SA tA E (aL A) f) : SE (tLst tA) E (sO A) (fun γ => ob (f γ) fun xs => pck (xs.length ≤ sz) xs) := ⟨fun s0 hL he e k => by
  obtain ⟨xs, e1, e⟩ := ob_some e
  obtain ⟨p, rfl⟩ := pck_some e
  refine h s0 hL he e1 fun vs F1 H1 s1 r1 => ?_
  exact ⟨sz_le (by rw [Paired.len r1]; exact p), fun p np => newL s1.fh r1 (fun z F' H' L s2 r => k z F' H' L (s1.tr s2) r) p np⟩⟩
end
end Mi

namespace Mi
open PySem PySem.Spec PyProof.Rows L2 Fw
section
variable {ρ ρ' ρ'' α β δ ε : Type} {E : En ρ} {E' : En ρ'} {ta tb tc te : TE} {tA : TA} {A : Rp α} {B : Rp β} {D : Rp δ} {fa : ρ → Option α} {fb : ρ → Option β} {fc : ρ → Option δ} {K : PySem.W.Frag}
/-! slices -/
structure SP (t : TO) (E : En ρ) (f : ρ → Option (Option Int)) : Prop where
  run : ∀ {σ : L2.St} {F H : Hp} {L : List (Addr × HO)} {γ : ρ} {x : Option Int} {Q : Option Int → Hp → Prop}, Same F H → Held H L → E.r σ F L γ → f γ = some x →
  (∀ F' H', Step F H F' H' [] → Q x H') → t σ H Q
instance {t : TO} {E : En ρ} {f : ρ → Option (Option Int)} : CoeFun (SP t E f) (fun _ => ∀ {σ : L2.St} {F H : Hp} {L : List (Addr × HO)} {γ : ρ} {x : Option Int} {Q : Option Int → Hp → Prop}, Same F H → Held H L → E.r σ F L γ → f γ = some x →
  (∀ F' H', Step F H F' H' [] → Q x H') → t σ H Q) := ⟨fun h => h.run⟩
theorem sp_no : SP tNoPart E (fun _ => some none) := ⟨fun s0 _ _ e k => by
  cases e
  exact k _ _ (Step.nil s0)⟩
theorem sp_so {fa : ρ → Option Int} (ha : SE ta E (sF jI) fa) : SP (tPart ta) E (fun γ => ob (fa γ) fun x => some (some x)) := ⟨fun s0 hL he e k => by
  obtain ⟨x, e1, e⟩ := ob_some e
  cases e
  refine ha s0 hL he e1 fun v F1 H1 L1 s1 ⟨z1, r1⟩ => ?_
  subst z1
  exact ⟨x, r1, k _ _ s1⟩⟩
/-- xs[lo:hi] -/
def pcut {τ : Type} (xs : List τ) (lo hi : Option Int) : List τ := (xs.drop (HT.sIx xs.length 0 lo)).take (HT.sIx xs.length xs.length hi - HT.sIx xs.length 0 lo)
structure SS3 (r : V → Option Int → Option Int → Hp → VK → Prop) (A : Rp α) (s : Sl β) (g : α → Option Int → Option Int → Option β) : Prop where
  run : ∀ {F H : Hp} {x : V} {a : α} {lo hi : Option Int} {c : β} {Q : VK}, Same F H → A.r F x a → g a lo hi = some c →
  (∀ z F' H' L, Step F H F' H' L → s.r z F' L c → Q z H') → r x lo hi H Q
instance {r : V → Option Int → Option Int → Hp → VK → Prop} {A : Rp α} {s : Sl β} {g : α → Option Int → Option Int → Option β} : CoeFun (SS3 r A s g) (fun _ => ∀ {F H : Hp} {x : V} {a : α} {lo hi : Option Int} {c : β} {Q : VK}, Same F H → A.r F x a → g a lo hi = some c →
  (∀ z F' H' L, Step F H F' H' L → s.r z F' L c → Q z H') → r x lo hi H Q) := ⟨fun h => h.run⟩
theorem se_sl {r : V → Option Int → Option Int → Hp → VK → Prop} {tl th : TO} {fl fh : ρ → Option (Option Int)} {s : Sl β} {g : α → Option Int → Option Int → Option β} (ha : SE ta E (sF A) fa) (hl : SP tl E fl) (hh : SP th E fh) (hs : SS3 r A s g) :
    SE (tSl r ta tl th) E s (fun γ => ob (fa γ) fun x => ob (fl γ) fun lo => ob (fh γ) fun hi => g x lo hi) := ⟨fun s0 hL he e k => by
  obtain ⟨x, e1, e⟩ := ob_some e
  obtain ⟨lo, e2, e⟩ := ob_some e
  obtain ⟨hi, e3, e⟩ := ob_some e
  refine ha s0 hL he e1 fun v F1 H1 L1 s1 ⟨z1, r1⟩ => ?_
  subst z1
  refine hl s1.fh (hL.mono s1.hh) (E.m s1.f0 he) e2 fun F2 H2 s2 => ?_
  have s12 := s1.tr s2
  refine hh s2.fh (hL.mono s12.hh) (E.m s12.f0 he) e3 fun F3 H3 s3 => ?_
  exact hs s3.fh (A.m s3.f0 (A.m s2.f0 r1)) e fun z F5 H5 L5 s5 r5 => k z F5 H5 L5 (s12.tr (s3.tr s5)) r5⟩
theorem s3_S : SS3 rSlSg jS (sF jS) (fun x lo hi => pck (x.length ≤ sz) (pcut x lo hi)) := ⟨fun s0 r1 e k => by
  obtain ⟨p, rfl⟩ := pck_some e
  exact ⟨_, r1.1, sz_le p, k _ _ _ [] (Step.nil s0) ⟨rfl, rfl, okS_sub r1.2 fun c hc => List.mem_of_mem_drop (List.mem_of_mem_take hc)⟩⟩⟩
theorem pcut_paired {R : α → β → Prop} {vs : List α} {xs : List β} {lo hi : Option Int} (h : Paired R vs xs) : Paired R (pcut vs lo hi) (pcut xs lo hi) := by
  unfold pcut
  rw [Paired.len h]
  exact Paired.tk _ (Paired.dp _ h)
theorem s3_L : SS3 (rSlL K) (jL A) (sO A) (fun x lo hi => some (pcut x lo hi)) := ⟨fun s0 ⟨a, vs, r1, r2, p⟩ e k => by
  cases e
  exact ⟨a, vs, r1, .inl (.inl (s0 _ _ r2)), newL s0 (pcut_paired p) k⟩⟩
/-! calls of built-in things -/
structure SC (r : List V → Hp → VK → Prop) (A : Ar α) (s : Sl δ) (g : α → Option δ) : Prop where
  run : ∀ {F H : Hp} {vs : List V} {a : α} {c : δ} {Q : VK}, Same F H → A.r F vs a → g a = some c →
  (∀ z F' H' L, Step F H F' H' L → s.r z F' L c → Q z H') → r vs H Q
theorem se_cb {r : List V → Hp → VK → Prop} {Ar : Ar α} {s : Sl δ} {g : α → Option δ} {f : ρ → Option α} (h : SA tA E Ar f) (hs : SC r Ar s g) : SE (tCB r tA) E s (fun γ => ob (f γ) g) := ⟨fun s0 hL he e k => by
  obtain ⟨x, e1, e⟩ := ob_some e
  refine h s0 hL he e1 fun vs F1 H1 s1 r1 => ?_
  exact hs.run s1.fh r1 e fun z F5 H5 L5 s5 r5 => k z F5 H5 L5 (s1.tr s5) r5⟩
theorem sc_val {r : List V → Hp → VK → Prop} {Ar : Ar α} {g : α → δ} (h : ∀ {F H : Hp} {vs : List V} {a : α} {Q : VK}, Same F H → Ar.r F vs a → (∀ z, D.r F z (g a) → Q z H) → r vs H Q) : SC r Ar (sF D) (fun x => some (g x)) := ⟨fun s0 r1 e k => by
  cases e
  exact h s0 r1 fun z rz => k z _ _ [] (Step.nil s0) ⟨rfl, rz⟩⟩
theorem sc_lenS : SC rLenS (aC jS aN) (sF jI) (fun x => pck (x.1.length ≤ sz) (x.1.length : Int)) := ⟨fun {_ _ _ a _ _} s0 ⟨v, r, e1, r1, e2⟩ e k => by
  obtain ⟨p, rfl⟩ := pck_some e
  subst e1 e2
  refine ⟨a.1, ?_, sz_le p, k _ _ _ [] (Step.nil s0) ⟨rfl, rfl⟩⟩
  rw [show v = vS a.1 from r1.1]⟩
theorem sc_lenL : SC (rLenQ K) (aC (jL A) aN) (sF jI) (fun x => some (x.1.length : Int)) := sc_val fun s0 ⟨v, r, e1, ⟨a, vs, e3, h, p⟩, e2⟩ k => by
  subst e1 e2 e3
  exact ⟨a, vs, rfl, .inl (.inl (.inl (s0 _ _ h))), by rw [Paired.len p]; exact k _ rfl⟩
theorem sc_lenQ : SC (rLenQ K) (aC (jQ K A) aN) (sF jI) (fun x => some (x.1.length : Int)) := sc_val fun s0 ⟨v, r, e1, ⟨a, vs, e3, h, p⟩, e2⟩ k => by
  subst e1 e2 e3
  exact ⟨a, vs, rfl, .inl (s0.seq h), by rw [Paired.len p]; exact k _ rfl⟩
theorem sc_lenT {T : Tp α} {n j : Nat} {R : Rp β} {g : α → β} (ht : Tat T n j R g) : SC (rLenQ K) (aC (jT T) aN) (sF jI) (fun _ => some (n : Int)) := sc_val fun s0 ⟨v, r, e1, ⟨a, vs, e3, h, p⟩, e2⟩ k => by
  subst e1 e2 e3
  exact ⟨a, vs, rfl, .inr (.inl (.inl (s0 _ _ h))), by rw [(ht p).1]; exact k _ rfl⟩
theorem sc_abs : SC rAbs (aC jI aN) (sF jI) (fun x => some (x.1.natAbs : Int)) := sc_val fun {_ _ _ a _} s0 ⟨v, r, e1, r1, e2⟩ k => by
  subst e1 e2
  exact ⟨a.1, by rw [show v = .int a.1 from r1], k _ rfl⟩
theorem sc_int : SC rInt (aC jI aN) (sF jI) (fun x => some x.1) := sc_val fun {_ _ _ a _} s0 ⟨v, r, e1, r1, e2⟩ k => by
  subst e1 e2
  exact ⟨a.1, by rw [show v = .int a.1 from r1], k _ rfl⟩
theorem sc_intB : SC rIntB (aC jB aN) (sF jI) (fun x => some (if x.1 = true then 1 else 0)) := sc_val fun {_ _ _ a _} s0 ⟨v, r, e1, r1, e2⟩ k => by
  subst e1 e2
  exact ⟨a.1, by rw [show v = .bl a.1 from r1], k _ rfl⟩
theorem sc_min2 : SC rMin2' (aC jI (aC jI aN)) (sF jI) (fun x => some (min x.1 x.2.1)) := sc_val fun {_ _ _ a _} s0 ⟨v, r, e1, r1, v2, r', e2, r2, e3⟩ k => by
  subst e1 e2 e3
  exact ⟨a.1, a.2.1, by rw [show v = .int a.1 from r1, show v2 = .int a.2.1 from r2], k _ rfl⟩
theorem sc_max2 : SC rMax2' (aC jI (aC jI aN)) (sF jI) (fun x => some (max x.1 x.2.1)) := sc_val fun {_ _ _ a _} s0 ⟨v, r, e1, r1, v2, r', e2, r2, e3⟩ k => by
  subst e1 e2 e3
  exact ⟨a.1, a.2.1, by rw [show v = .int a.1 from r1, show v2 = .int a.2.1 from r2], k _ rfl⟩
theorem sc_min3 : SC rMin3' (aC jI (aC jI (aC jI aN))) (sF jI) (fun x => some (min (min x.1 x.2.1) x.2.2.1)) := sc_val fun {_ _ _ a _} s0 ⟨v, r, e1, r1, v2, r', e2, r2, v3, r'', e3, r3, e4⟩ k => by
  subst e1 e2 e3 e4
  exact ⟨a.1, a.2.1, a.2.2.1, by rw [show v = .int a.1 from r1, show v2 = .int a.2.1 from r2, show v3 = .int a.2.2.1 from r3], k _ rfl⟩
theorem ints_of {F : Hp} {vs : List V} {ns : List Int} (h : Paired (jI.r F) vs ns) : vs = ns.map V.int := Paired.ofMap (fun _ _ r => r) h
theorem strs_of {F : Hp} {vs : List V} {ns : List (List Nat)} (h : Paired (jS.r F) vs ns) : vs = ns.map vS := Paired.ofMap (fun _ _ r => r.1) h
theorem bls_of {F : Hp} {vs : List V} {ns : List Bool} (h : Paired (jB.r F) vs ns) : vs = ns.map V.bl := Paired.ofMap (fun _ _ r => r) h
theorem sc_sum : SC (rSum K) (aC (jL jI) aN) (sF jI) (fun x => some x.1.sum) := sc_val fun s0 ⟨v, r, e1, ⟨a, vs, e3, h, p⟩, e2⟩ k => by
  subst e1 e2 e3
  exact ⟨a, _, rfl, .inl (.inl (by rw [← ints_of p]; exact s0 _ _ h)), k _ rfl⟩
theorem sc_all : SC (rAll K) (aC (jL jB) aN) (sF jB) (fun x => some (x.1.all id)) := sc_val fun s0 ⟨v, r, e1, ⟨a, vs, e3, h, p⟩, e2⟩ k => by
  subst e1 e2 e3
  exact ⟨a, _, rfl, .inl (.inl (by rw [← bls_of p]; exact s0 _ _ h)), k _ rfl⟩
theorem sc_any : SC (rAny K) (aC (jL jB) aN) (sF jB) (fun x => some (x.1.any id)) := sc_val fun s0 ⟨v, r, e1, ⟨a, vs, e3, h, p⟩, e2⟩ k => by
  subst e1 e2 e3
  exact ⟨a, _, rfl, .inl (.inl (by rw [← bls_of p]; exact s0 _ _ h)), k _ rfl⟩
/-- least, greatest -/
def pmin : List Int → Option Int
  | [] => none
  | x :: xs => some (xs.foldl min x)
def pmax : List Int → Option Int
  | [] => none
  | x :: xs => some (xs.foldl max x)
theorem foldl_min : ∀ (xs : List Int) (x : Int), xs.foldl min x ≤ x ∧ (∀ y ∈ xs, xs.foldl min x ≤ y) ∧ (xs.foldl min x = x ∨ xs.foldl min x ∈ xs)
  | [], x => ⟨Int.le_refl _, fun _ h => (nomatch h), .inl rfl⟩
  | y :: ys, x => by
    obtain ⟨h1, h2, h3⟩ := foldl_min ys (min x y)
    rw [List.foldl_cons]
    refine ⟨by omega, fun z hz => ?_, ?_⟩
    · rcases List.mem_cons.mp hz with e | hz
      · subst e; omega
      · exact h2 z hz
    · rcases h3 with h3 | h3
      · rw [h3]
        by_cases hxy : x ≤ y
        · exact .inl (by omega)
        · exact .inr (by rw [show min x y = y by omega]; exact List.mem_cons_self)
      · exact .inr (List.mem_cons_of_mem _ h3)
theorem foldl_max : ∀ (xs : List Int) (x : Int), x ≤ xs.foldl max x ∧ (∀ y ∈ xs, y ≤ xs.foldl max x) ∧ (xs.foldl max x = x ∨ xs.foldl max x ∈ xs)
  | [], x => ⟨Int.le_refl _, fun _ h => (nomatch h), .inl rfl⟩
  | y :: ys, x => by
    obtain ⟨h1, h2, h3⟩ := foldl_max ys (max x y)
    rw [List.foldl_cons]
    refine ⟨by omega, fun z hz => ?_, ?_⟩
    · rcases List.mem_cons.mp hz with e | hz
      · subst e; omega
      · exact h2 z hz
    · rcases h3 with h3 | h3
      · rw [h3]
        by_cases hxy : y ≤ x
        · exact .inl (by omega)
        · exact .inr (by rw [show max x y = y by omega]; exact List.mem_cons_self)
      · exact .inr (List.mem_cons_of_mem _ h3)
theorem pmin_spec {ns : List Int} {m : Int} (h : pmin ns = some m) : m ∈ ns ∧ ∀ y ∈ ns, m ≤ y := by
  cases ns with
  | nil => cases h
  | cons x xs =>
    cases h
    obtain ⟨h1, h2, h3⟩ := foldl_min xs x
    refine ⟨?_, fun y hy => ?_⟩
    · rcases h3 with h3 | h3
      · rw [h3]; exact List.mem_cons_self
      · exact List.mem_cons_of_mem _ h3
    · rcases List.mem_cons.mp hy with e | hy
      · subst e; exact h1
      · exact h2 y hy
theorem pmax_spec {ns : List Int} {m : Int} (h : pmax ns = some m) : m ∈ ns ∧ ∀ y ∈ ns, y ≤ m := by
  cases ns with
  | nil => cases h
  | cons x xs =>
    cases h
    obtain ⟨h1, h2, h3⟩ := foldl_max xs x
    refine ⟨?_, fun y hy => ?_⟩
    · rcases h3 with h3 | h3
      · rw [h3]; exact List.mem_cons_self
      · exact List.mem_cons_of_mem _ h3
    · rcases List.mem_cons.mp hy with e | hy
      · subst e; exact h1
      · exact h2 y hy
theorem pmin_is {ns : List Int} {m : Int} (h1 : m ∈ ns) (h2 : ∀ y ∈ ns, m ≤ y) : pmin ns = some m := by
  cases h : pmin ns with
  | none => cases ns with
    | nil => cases h1
    | cons x xs => cases h
  | some k =>
    obtain ⟨k1, k2⟩ := pmin_spec h
    have a := k2 m h1
    have b := h2 k k1
    rw [show k = m by omega]
theorem pmax_is {ns : List Int} {m : Int} (h1 : m ∈ ns) (h2 : ∀ y ∈ ns, y ≤ m) : pmax ns = some m := by
  cases h : pmax ns with
  | none => cases ns with
    | nil => cases h1
    | cons x xs => cases h
  | some k =>
    obtain ⟨k1, k2⟩ := pmax_spec h
    have a := k2 m h1
    have b := h2 k k1
    rw [show k = m by omega]
theorem sc_min : SC (rMin K) (aC (jL jI) aN) (sF jI) (fun x => pmin x.1) := ⟨fun {_ _ _ a c _} s0 ⟨v, r, e1, ⟨p, vs, e3, h, q⟩, e2⟩ e k => by
  subst e1 e2 e3
  obtain ⟨h1, h2⟩ := pmin_spec e
  refine ⟨p, _, rfl, .inl (.inl (by rw [← ints_of q]; exact s0 _ _ h)), List.length_pos_of_mem h1, fun m m1 m2 => ?_⟩
  have a := h2 m m1
  have b := m2 c h1
  rw [show m = c by omega]
  exact k _ _ _ [] (Step.nil s0) ⟨rfl, rfl⟩⟩
theorem sc_max : SC (rMax K) (aC (jL jI) aN) (sF jI) (fun x => pmax x.1) := ⟨fun {_ _ _ a c _} s0 ⟨v, r, e1, ⟨p, vs, e3, h, q⟩, e2⟩ e k => by
  subst e1 e2 e3
  obtain ⟨h1, h2⟩ := pmax_spec e
  refine ⟨p, _, rfl, .inl (.inl (by rw [← ints_of q]; exact s0 _ _ h)), List.length_pos_of_mem h1, fun m m1 m2 => ?_⟩
  have a := h2 m m1
  have b := m2 c h1
  rw [show m = c by omega]
  exact k _ _ _ [] (Step.nil s0) ⟨rfl, rfl⟩⟩
theorem sc_listL : SC (rListQ K) (aC (jL A) aN) (sO A) (fun x => pck (x.1.length ≤ sz) x.1) := ⟨fun s0 ⟨v, r, e1, ⟨a, vs, e3, h, q⟩, e2⟩ e k => by
  obtain ⟨p, rfl⟩ := pck_some e
  subst e1 e2 e3
  have hz := sz_le (by rw [← Paired.len q] at p; exact p)
  exact ⟨a, vs, rfl, .inl (.inl (.inl (s0 _ _ h))), hz, hz, fun p np => newL s0 q k p np⟩⟩
theorem sc_listS : SC rListS (aC jS aN) (sO jS) (fun x => pck (x.1.length ≤ sz) (x.1.map fun c => [c])) := ⟨fun {H _ _ a _ _} s0 ⟨v, r, e1, r1, e2⟩ e k => by
  obtain ⟨p, rfl⟩ := pck_some e
  subst e1 e2
  refine ⟨a.1, by rw [show v = vS a.1 from r1.1], sz_le p, sz_le (by rw [List.length_map]; exact p), fun p np => newL s0 ?_ k p np⟩
  have h2 := r1.2
  clear np p r1
  generalize a.1 = l at h2
  induction l with
  | nil => exact .nil
  | cons c l ih => exact .cons ⟨rfl, fun d hd => by rw [List.mem_singleton.mp hd]; exact h2 c List.mem_cons_self⟩ (ih fun d hd => h2 d (List.mem_cons_of_mem _ hd))⟩
/-- the sorted list of numbers -/
def psort (ns : List Int) : List Int := ns.mergeSort (fun a b => decide (a ≤ b))
theorem psort_perm (ns : List Int) : (psort ns).Perm ns := List.mergeSort_perm _ _
theorem psort_sorted (ns : List Int) : (psort ns).Pairwise (· ≤ ·) := by
  have := List.pairwise_mergeSort (le := fun a b : Int => decide (a ≤ b)) (fun a b c h1 h2 => by simp at *; omega) (fun a b => by simp; omega) ns
  exact this.imp fun h => by simpa using h
theorem sorted_up : ∀ {ms ns : List Int}, ms.Perm ns → ms.Pairwise (· ≤ ·) → ns.Pairwise (· ≤ ·) → ms = ns := fun {ms ns} p h1 h2 =>
  List.Perm.eq_of_pairwise (le := (· ≤ ·)) (fun a b _ _ h1 h2 => by omega) h1 h2 p
theorem sc_sortI : SC (rSortedI K) (aC (jL jI) aN) (sO jI) (fun x => some (psort x.1)) := ⟨fun s0 ⟨v, r, e1, ⟨a, vs, e3, h, q⟩, e2⟩ e k => by
  cases e
  subst e1 e2 e3
  refine ⟨a, _, rfl, .inl (.inl (by rw [← ints_of q]; exact s0 _ _ h)), fun ms p pm od np => ?_⟩
  have em := sorted_up (pm.trans (psort_perm _).symm) od (psort_sorted _)
  subst em
  exact newL s0 (Paired.mk (A := jI.r _) (fun _ => rfl) _) k p np⟩
/-! isinstance -/
theorem sc_isi {r : Rp α} {n : String} {b : Bool} (h : ∀ {F H : Hp} {v : V} {x : α} {Q : VK}, Same F H → r.r F v x → Q (.bl b) H → L2.rIsi K [v, .ty n] H Q) : SC (L2.rIsi K) (aC r (aC (jV (.ty n)) aN)) (sF jB) (fun _ => some b) := sc_val fun s0 ⟨v, r1, e1, r2, v2, r', e2, r3, e3⟩ k => by
  subst e1 e2 e3
  rw [show v2 = .ty n from r3]
  exact h s0 r2 (k _ rfl)
theorem is_II : SC (L2.rIsi K) (aC jI (aC (jV (.ty "int")) aN)) (sF jB) (fun _ => some true) := sc_isi fun s0 r q => by rw [show _ = V.int _ from r]; exact w_isiII q
theorem is_IB : SC (L2.rIsi K) (aC jI (aC (jV (.ty "bool")) aN)) (sF jB) (fun _ => some false) := sc_isi fun s0 r q => by rw [show _ = V.int _ from r]; exact w_isiIB q
theorem is_SS : SC (L2.rIsi K) (aC jS (aC (jV (.ty "str")) aN)) (sF jB) (fun _ => some true) := sc_isi fun s0 r q => by rw [show _ = V.str _ from r.1]; exact w_isiSS q
theorem is_LL : SC (L2.rIsi K) (aC (jL A) (aC (jV (.ty "list")) aN)) (sF jB) (fun _ => some true) := sc_isi fun s0 ⟨a, vs, e, h, _⟩ q => by rw [e]; exact w_isiLL q (s0 _ _ h)
theorem is_TT {T : Tp α} : SC (L2.rIsi K) (aC (jT T) (aC (jV (.ty "tuple")) aN)) (sF jB) (fun _ => some true) := sc_isi fun s0 ⟨a, vs, e, h, _⟩ q => by rw [e]; exact w_isiTT q (s0 _ _ h)
theorem is_NT {n : String} (h : kitB "NoneType" n = some false := by decide +kernel) : SC (L2.rIsi K) (aC jN (aC (jV (.ty n)) aN)) (sF jB) (fun _ => some false) := sc_isi fun s0 r q => by
  rw [show _ = V.non from r]
  exact w_isi (b := true) "NoneType" n false (.base .non) h q
/-! lists -/
theorem s2_cat : S2 rCat (jL A) (jL A) (sO A) (fun x y => pck (x.length + y.length ≤ sz) (x ++ y)) := ⟨fun s0 ⟨a, vs, e1, h1, q1⟩ ⟨b, us, e2, h2, q2⟩ e k => by
  obtain ⟨p, rfl⟩ := pck_some e
  subst e1 e2
  exact ⟨a, b, vs, us, rfl, rfl, s0 _ _ h1, s0 _ _ h2, sz_le (by rw [Paired.len q1, Paired.len q2]; exact p), fun p np => newL s0 (Paired.app q1 q2) k p np⟩⟩
theorem Paired.rep {R : α → β → Prop} {vs : List α} {xs : List β} (h : Paired R vs xs) : ∀ n : Nat, Paired R (List.replicate n vs).flatten (List.replicate n xs).flatten
  | 0 => .nil
  | n + 1 => by
    rw [List.replicate_succ, List.replicate_succ, List.flatten_cons, List.flatten_cons]
    exact Paired.app h (Paired.rep h n)
/-- xs * k -/
def prep {τ : Type} (xs : List τ) (k : Int) : List τ := (List.replicate k.toNat xs).flatten
theorem s2_rep : S2 rRep (jL A) jI (sO A) (fun x k => pck ((-9223372036854775808 ≤ k ∧ k < 9223372036854775808) ∧ x.length * k.toNat ≤ sz) (prep x k)) := ⟨fun s0 ⟨a, vs, e1, h1, q1⟩ r2 e k => by
  obtain ⟨p, rfl⟩ := pck_some e
  subst e1
  exact ⟨a, _, vs, rfl, r2, s0 _ _ h1, p.1.1, p.1.2, sz_le (by rw [Paired.len q1]; exact p.2), fun p np => newL s0 (Paired.rep q1 _) k p np⟩⟩
/-! texts -/
def pinS (x y : List Nat) : Option Bool := match x with | [c] => some (decide (c ∈ y)) | _ => none
def pninS (x y : List Nat) : Option Bool := match x with | [c] => some (!decide (c ∈ y)) | _ => none
theorem s2_inS : S2 rInSg jS jS (sF jB) (fun x y => pinS x y) := ⟨fun {_ _ _ _ x y _ _} s0 r1 r2 e k => by
  match x, r1, e with
  | [c], r1, e =>
    cases e
    exact ⟨c, y, r1.1, r2.1, k _ _ _ [] (Step.nil s0) ⟨rfl, rfl⟩⟩⟩
theorem s2_notInS : S2 rNotInSg jS jS (sF jB) (fun x y => pninS x y) := ⟨fun {_ _ _ _ x y _ _} s0 r1 r2 e k => by
  match x, r1, e with
  | [c], r1, e =>
    cases e
    exact ⟨c, y, r1.1, r2.1, k _ _ _ [] (Step.nil s0) ⟨rfl, rfl⟩⟩⟩
theorem eqV_str (x y : List Nat) : eqV (vS y) (vS x) = decide (x = y) := by
  show decide (S y = S x) = _
  rw [show decide (S y = S x) = decide (x = y) from decide_eq_decide.mpr ⟨fun h => (S_inj.mp h).symm, fun h => by rw [h]⟩]
theorem inV_str (x : List Nat) : ∀ ys : List (List Nat), inV (vS x) (ys.map vS) = decide (x ∈ ys)
  | [] => rfl
  | y :: ys => by
    have := inV_str x ys
    show (eqV (vS y) (vS x) || inV (vS x) (ys.map vS)) = _
    rw [this, eqV_str]
    by_cases h : x = y
    · rw [decide_eq_true h, decide_eq_true (show x ∈ y :: ys from by rw [h]; exact List.mem_cons_self)]; rfl
    · rw [decide_eq_false h, Bool.false_or, decide_eq_decide, List.mem_cons]
      exact ⟨.inr, fun q => q.elim (fun z => absurd z h) id⟩
theorem flat_strs (ys : List (List Nat)) : (ys.map vS).all flatV = true := by
  induction ys with
  | nil => rfl
  | cons y ys ih => exact ih
theorem s2_inLS : S2 (rIn K false) jS (jL jS) (sF jB) (fun x ys => some (decide (x ∈ ys))) := ⟨fun s0 r1 ⟨a, vs, e1, h1, q1⟩ e k => by
  cases e
  have ev := strs_of q1
  subst e1 ev
  rw [show _ = vS _ from r1.1]
  exact ⟨a, _, rfl, .inl (.inl (.inl (s0 _ _ h1))), rfl, flat_strs _, by rw [if_neg Bool.false_ne_true, inV_str]; exact k _ _ _ [] (Step.nil s0) ⟨rfl, rfl⟩⟩⟩
theorem s2_notInLS : S2 (rIn K true) jS (jL jS) (sF jB) (fun x ys => some (!decide (x ∈ ys))) := ⟨fun s0 r1 ⟨a, vs, e1, h1, q1⟩ e k => by
  cases e
  have ev := strs_of q1
  subst e1 ev
  rw [show _ = vS _ from r1.1]
  exact ⟨a, _, rfl, .inl (.inl (.inl (s0 _ _ h1))), rfl, flat_strs _, by rw [if_pos rfl, inV_str]; exact k _ _ _ [] (Step.nil s0) ⟨rfl, rfl⟩⟩⟩
/-- a text's method with one argument -/
abbrev SM (r : V → List V → Hp → VK → Prop) (A : Rp α) (B : Rp β) (s : Sl δ) (g : α → β → Option δ) : Prop := S2 (fun x y => r x [y]) A B s g
theorem se_m1 {r : V → List V → Hp → VK → Prop} {s : Sl δ} {fa : ρ → Option (List Nat)} {g : List Nat → β → Option δ} (ha : SE ta E (sF jS) fa) (hb : SE tb E (sF B) fb) (hs : SM r jS B s g) : SE (tM1 r ta tb) E s (fun γ => ob (fa γ) fun x => ob (fb γ) fun y => g x y) := ⟨fun s0 hL he e k => by
  obtain ⟨x, e1, e⟩ := ob_some e
  obtain ⟨y, e2, e⟩ := ob_some e
  refine ha s0 hL he e1 fun v F1 H1 L1 s1 ⟨z1, r1⟩ => ?_
  subst z1
  refine ⟨⟨S x, r1.1⟩, ?_⟩
  refine hb s1.fh (hL.mono s1.hh) (E.m s1.f0 he) e2 fun u F2 H2 L2 s2 ⟨z2, r2⟩ => ?_
  subst z2
  exact hs s2.fh (jS.m s2.f0 r1) r2 e fun z F3 H3 L3 s3 r3 => k z F3 H3 L3 (s1.tr (s2.tr s3)) r3⟩
theorem oks_of {F : Hp} : ∀ {vs : List V} {ys : List (List Nat)}, Paired (jS.r F) vs ys → ∀ y ∈ ys, okS y
  | _, _, .nil, _, h => nomatch h
  | _, _, .cons r t, y, h => by
    rcases List.mem_cons.mp h with e | h
    · rw [e]; exact r.2
    · exact oks_of t y h
theorem okS_join {x : List Nat} (hx : okS x) : ∀ {ys : List (List Nat)}, (∀ y ∈ ys, okS y) → okS (joinN x ys)
  | [], _ => okS_nil
  | [y], h => h y List.mem_cons_self
  | y :: z :: r, h => by
    rw [joinN_cons]
    exact okS_app (h y List.mem_cons_self) (okS_app hx (okS_join hx fun w hw => h w (List.mem_cons_of_mem _ hw)))
theorem sm_join : SM (rJoin K) jS (jL jS) (sF jS) (fun x ys => pck ((ys.map List.length).sum + ys.length * x.length ≤ sz) (joinN x ys)) := ⟨fun s0 r1 ⟨a, vs, e1, h1, q1⟩ e k => by
  obtain ⟨p, rfl⟩ := pck_some e
  have ev := strs_of q1
  subst e1 ev
  exact ⟨_, a, _, r1.1, rfl, .inl (.inl (.inl (s0 _ _ h1))), p, k _ _ _ [] (Step.nil s0) ⟨rfl, rfl, okS_join r1.2 (oks_of q1)⟩⟩⟩
def pidx (x y : List Nat) : Option Int := match y with | [c] => pck (c ∈ x) (x.idxOf c : Int) | _ => none
theorem sm_idx : SM rIdxS jS jS (sF jI) (fun x y => pidx x y) := ⟨fun {_ _ _ _ x y _ _} s0 r1 r2 e k => by
  match y, r2, e with
  | [c], r2, e =>
    obtain ⟨p, rfl⟩ := pck_some e
    exact ⟨x, c, r1.1, by rw [show _ = vS [c] from r2.1], p, k _ _ _ [] (Step.nil s0) ⟨rfl, rfl⟩⟩⟩
theorem sm_starts : SM rStarts jS jS (sF jB) (fun x y => some (y.isPrefixOf x)) := ⟨fun {_ _ _ _ x y _ _} s0 r1 r2 e k => by
  cases e
  exact ⟨x, y, r1.1, by rw [show _ = vS y from r2.1], k _ _ _ [] (Step.nil s0) ⟨rfl, rfl⟩⟩⟩
end
end Mi

namespace Mi
open PySem PySem.Spec PyProof.Rows L2 Fw
section
variable {ρ ρ' ρ'' α β δ ε κ : Type} {E : En ρ} {E' : En ρ'} {ta tb tc te : TE} {tA : TA} {A : Rp α} {B : Rp β} {D : Rp δ} {fa : ρ → Option α} {fb : ρ → Option β} {fc : ρ → Option δ} {K : PySem.W.Frag}
theorem Step.at {F H H3 : Hp} (e : H3 = H) (s : Same F H) : Step F H F H3 [] := by
  subst e
  exact Step.nil s
/-! ### what a loop walks -/
structure ItOk (J : It) (F' : Hp) (R : Rp α) (xs : List α) : Prop where
  one : ∀ {i : Nat} {F2 H2 : Hp} {x : α}, Same F' F2 → Same F2 H2 → xs[i]? = some x → J.go i H2 ∧ ∀ v H3, J.yld i H2 v H3 → ∃ F3, Step F2 H2 F3 H3 [] ∧ R.r F3 v x
  stop : ∀ {F2 H2 : Hp}, Same F' F2 → Same F2 H2 → J.stop xs.length H2
structure SI (wi : TI) (E : En ρ) (R : Rp α) (f : ρ → Option (List α)) : Prop where
  run : ∀ {σ : L2.St} {F H : Hp} {L : List (Addr × HO)} {γ : ρ} {xs : List α} {Q : It → Hp → Prop}, Same F H → Held H L → E.r σ F L γ → f γ = some xs → (∀ J F' H', Step F H F' H' [] → ItOk J F' R xs → Q J H') → wi σ H Q
def prange (n : Int) : List Int := (List.range n.toNat).map fun i : Nat => (i : Int)
def prange2 (a b : Int) : List Int := (List.range (b - a).toNat).map fun i : Nat => a + (i : Int)
theorem itr_ok {lo : Int} {n : Nat} {F : Hp} : ItOk (Itr lo n) F jI ((List.range n).map fun i : Nat => lo + (i : Int)) where
  one {i _ _ x} _ s2 e := by
    rw [List.getElem?_map] at e
    by_cases h : i < n
    · rw [List.getElem?_range h] at e
      cases e
      exact ⟨h, fun v H3 hy => ⟨_, Step.at hy.1 s2, hy.2⟩⟩
    · rw [List.getElem?_eq_none (by rw [List.length_range]; omega)] at e
      cases e
  stop _ _ := by
    show n ≤ _
    rw [List.length_map, List.length_range]
    exact Nat.le_refl _
theorem si_r1 {f : ρ → Option (Int × Unit)} (h : SA tA E (aC jI aN) f) : SI (iRng1 tA) E jI (fun γ => ob (f γ) fun x => pck (-4611686018427387904 ≤ x.1 ∧ x.1 < 4611686018427387904) (prange x.1)) where
  run s0 hL he e k := by
    obtain ⟨x, e1, e⟩ := ob_some e
    obtain ⟨p, rfl⟩ := pck_some e
    refine h s0 hL he e1 fun vs F1 H1 s1 ⟨v, r, z1, r1, z2⟩ => ?_
    subst z1 z2
    refine ⟨x.1, by rw [show v = .int x.1 from r1], p.1, p.2, k _ _ _ s1 ?_⟩
    have := itr_ok (lo := 0) (n := x.1.toNat) (F := F1)
    simp only [Int.zero_add] at this
    exact this
theorem si_r2 {f : ρ → Option (Int × Int × Unit)} (h : SA tA E (aC jI (aC jI aN)) f) : SI (iRng2 tA) E jI (fun γ => ob (f γ) fun x => pck (-4611686018427387904 ≤ x.1 ∧ x.1 < 4611686018427387904 ∧ -4611686018427387904 ≤ x.2.1 ∧ x.2.1 < 4611686018427387904) (prange2 x.1 x.2.1)) where
  run s0 hL he e k := by
    obtain ⟨x, e1, e⟩ := ob_some e
    obtain ⟨p, rfl⟩ := pck_some e
    refine h s0 hL he e1 fun vs F1 H1 s1 ⟨v, r, z1, r1, v2, r', z2, r2, z3⟩ => ?_
    subst z1 z2 z3
    exact ⟨x.1, x.2.1, by rw [show v = .int x.1 from r1, show v2 = .int x.2.1 from r2], p, k _ _ _ s1 itr_ok⟩
def prangeC (a c : Int) (n : Nat) : List Int := (List.range n).map fun i : Nat => a + (i : Int) * c
theorem itc_ok {lo c : Int} {n : Nat} {F : Hp} : ItOk (Itc lo c n) F jI (prangeC lo c n) where
  one {i _ _ x} _ s2 e := by
    unfold prangeC at e
    rw [List.getElem?_map] at e
    by_cases h : i < n
    · rw [List.getElem?_range h] at e
      cases e
      exact ⟨h, fun v H3 hy => ⟨_, Step.at hy.1 s2, hy.2⟩⟩
    · rw [List.getElem?_eq_none (by rw [List.length_range]; omega)] at e
      cases e
  stop _ _ := by
    show n ≤ _
    unfold prangeC
    rw [List.length_map, List.length_range]
    exact Nat.le_refl _
/-- range(a, b, -1) -/
theorem si_rm {f : ρ → Option (Int × Int × Int × Unit)} (h : SA tA E (aC jI (aC jI (aC jI aN))) f) : SI (iRng3 tA) E jI (fun γ => ob (f γ) fun x => pck (x.2.2.1 = -1 ∧ -4611686018427387904 ≤ x.1 ∧ x.1 < 4611686018427387904 ∧ -4611686018427387904 ≤ x.2.1 ∧ x.2.1 < 4611686018427387904) (prangeC x.1 (-1) (x.1 - x.2.1).toNat)) where
  run s0 hL he e k := by
    obtain ⟨x, e1, e⟩ := ob_some e
    obtain ⟨p, rfl⟩ := pck_some e
    refine h s0 hL he e1 fun vs F1 H1 s1 ⟨v, r, z1, r1, v2, r', z2, r2, v3, r'', z3, r3, z4⟩ => ?_
    subst z1 z2 z3 z4
    refine ⟨x.1, x.2.1, -1, _, by rw [show v = .int x.1 from r1, show v2 = .int x.2.1 from r2, show v3 = .int x.2.2.1 from r3, p.1], RgC.neg p.2.1 p.2.2.1 p.2.2.2.1 p.2.2.2.2, k _ _ _ s1 itc_ok⟩
/-- range(0, n, c) -/
theorem si_rc {f : ρ → Option (Int × Int × Int × Unit)} (h : SA tA E (aC jI (aC jI (aC jI aN))) f) : SI (iRng3 tA) E jI (fun γ => ob (f γ) fun x => pck (x.1 = 0 ∧ 0 ≤ x.2.1 ∧ x.2.1 < 2305843009213693952 ∧ 0 < x.2.2.1 ∧ x.2.2.1 < 1073741824) (prangeC 0 x.2.2.1 ((x.2.1.toNat + x.2.2.1.toNat - 1) / x.2.2.1.toNat))) where
  run s0 hL he e k := by
    obtain ⟨x, e1, e⟩ := ob_some e
    obtain ⟨p, rfl⟩ := pck_some e
    refine h s0 hL he e1 fun vs F1 H1 s1 ⟨v, r, z1, r1, v2, r', z2, r2, v3, r'', z3, r3, z4⟩ => ?_
    subst z1 z2 z3 z4
    have g := rgc_pos (n := x.2.1.toNat) (c := x.2.2.1.toNat) (by omega) (by omega)
    rw [Int.toNat_of_nonneg p.2.1, Int.toNat_of_nonneg (by omega : 0 ≤ x.2.2.1)] at g
    exact ⟨0, x.2.1, x.2.2.1, _, by rw [show v = .int x.1 from r1, show v2 = .int x.2.1 from r2, show v3 = .int x.2.2.1 from r3, p.1], g, k _ _ _ s1 itc_ok⟩
theorem itl_ok {a : Addr} {vs : List V} {xs : List α} {F : Hp} (h : SqL K F a vs) (p : Paired (A.r F) vs xs) : ItOk (Itl K a) F A xs where
  one s1 s2 e := by
    have hs := s2.seq (s1.seq h)
    obtain ⟨v, h1, h2⟩ := Paired.at p e
    exact ⟨⟨vs, v, hs, h1⟩, fun u H3 hy => ⟨_, Step.at hy.1 s2, by
      have e2 := (hy.2 vs hs).symm.trans h1
      cases e2
      exact A.m s1 h2⟩⟩
  stop s1 s2 := ⟨vs, s2.seq (s1.seq h), by rw [Paired.len p]; exact Nat.le_refl _⟩
theorem si_list {fa : ρ → Option (List α)} (ha : SE ta E (sF (jL A)) fa) : SI (iList K ta) E A fa where
  run s0 hL he e k := by
    refine ha s0 hL he e fun v F1 H1 L1 s1 ⟨z1, a, vs, r1, r2, p⟩ => ?_
    subst z1
    exact ⟨a, r1, ⟨vs, s1.fh.seq (.inl (.inl r2))⟩, k _ _ _ s1 (itl_ok (.inl (.inl r2)) p)⟩
theorem si_listQ {fa : ρ → Option (List α)} (ha : SE ta E (sF (jQ K A)) fa) : SI (iList K ta) E A fa where
  run s0 hL he e k := by
    refine ha s0 hL he e fun v F1 H1 L1 s1 ⟨z1, a, vs, r1, r2, p⟩ => ?_
    subst z1
    exact ⟨a, r1, ⟨vs, s1.fh.seq r2⟩, k _ _ _ s1 (itl_ok r2 p)⟩
/-- a tuple of things of one kind, walked -/
structure Tls (T : Tp ρ') (R : Rp α) (g : ρ' → List α) : Prop where
  run : ∀ {F : Hp} {vs : List V} {x : ρ'}, T.r F vs x → Paired (R.r F) vs (g x)
instance {T : Tp ρ'} {R : Rp α} {g : ρ' → List α} : CoeFun (Tls T R g) (fun _ => ∀ {F : Hp} {vs : List V} {x : ρ'}, T.r F vs x → Paired (R.r F) vs (g x)) := ⟨fun h => h.run⟩
theorem tl1 : Tls (y1 A) A (fun x => [x]) := ⟨fun ⟨v, e, h⟩ => by
  subst e
  exact .cons h .nil⟩
theorem tlC {T : Tp ρ'} {g : ρ' → List α} (h : Tls T A g) : Tls (yC A T) A (fun x => x.1 :: g x.2) := ⟨fun ⟨v, r, e, h1, h2⟩ => by
  subst e
  exact .cons h1 (h h2)⟩
theorem si_tup {T : Tp ρ'} {g : ρ' → List α} {fa : ρ → Option ρ'} (ha : SE ta E (sF (jT T)) fa) (hg : Tls T A g) : SI (iTup K ta) E A (fun γ => ob (fa γ) fun x => some (g x)) where
  run s0 hL he e k := by
    obtain ⟨x, e1, e⟩ := ob_some e
    cases e
    refine ha s0 hL he e1 fun v F1 H1 L1 s1 ⟨z1, a, vs, r1, r2, p⟩ => ?_
    subst z1
    have h : SqT K F1 a vs := .inl (.inl r2)
    have q := hg p
    refine ⟨a, r1, ⟨vs, Same.sqt s1.fh h⟩, k _ _ _ s1 ⟨fun s1 s2 e => ?_, fun s1 s2 => ⟨vs, Same.sqt s2 (Same.sqt s1 h), by rw [Paired.len q]; exact Nat.le_refl _⟩⟩⟩
    have hs := Same.sqt s2 (Same.sqt s1 h)
    obtain ⟨v, h1, h2⟩ := Paired.at q e
    exact ⟨⟨vs, v, hs, h1⟩, fun u H3 hy => ⟨_, Step.at hy.1 s2, by
      have e2 := (hy.2 vs hs).symm.trans h1
      cases e2
      exact A.m s1 h2⟩⟩
theorem its_ok {l : List Nat} {F : Hp} (hl : okS l) : ItOk (Its (S l)) F jS (l.map fun c => [c]) where
  one {i _ _ x} _ s2 e := by
    rw [List.getElem?_map] at e
    have hsz : (S l).cps.size = l.length := by simp [S]
    cases h : l[i]? with
    | none => rw [h] at e; cases e
    | some c =>
      rw [h] at e
      cases e
      refine ⟨by show i < (S l).cps.size; rw [hsz]; exact (List.getElem?_eq_some_iff.mp h).1, fun v H3 hy => ?_⟩
      obtain ⟨e1, c', e2, e3⟩ := hy
      refine ⟨_, Step.at e1 s2, ?_⟩
      have e4 : l[i]? = some c' := by simpa [S] using e2
      rw [h] at e4
      cases e4
      exact ⟨e3, fun d hd => by rw [List.mem_singleton.mp hd]; exact hl c (List.mem_of_getElem? h)⟩
  stop _ _ := by
    show (S l).cps.size ≤ _
    rw [List.length_map]
    simp [S]
theorem si_str {fa : ρ → Option (List Nat)} (ha : SE ta E (sF jS) fa) : SI (iStr ta) E jS (fun γ => ob (fa γ) fun x => some (x.map fun c => [c])) where
  run s0 hL he e k := by
    obtain ⟨x, e1, e⟩ := ob_some e
    cases e
    refine ha s0 hL he e1 fun v F1 H1 L1 s1 ⟨z1, r1⟩ => ?_
    subst z1
    exact ⟨S x, r1.1, k _ _ _ s1 (its_ok r1.2)⟩
theorem si_rev {fa : ρ → Option (List α × Unit)} (h : SA tA E (aC (jL A) aN) fa) : SI (iRev K tA) E A (fun γ => ob (fa γ) fun x => some x.1.reverse) where
  run s0 hL he e k := by
    obtain ⟨x, e1, e⟩ := ob_some e
    cases e
    refine h s0 hL he e1 fun vs F1 H1 s1 ⟨v, r, z1, ⟨a, us, r1, r2, p⟩, z2⟩ => ?_
    subst z1 z2 r1
    have hq : SqL K F1 a us := .inl (.inl r2)
    have pr := Paired.rev p
    refine ⟨a, us, rfl, s1.fh.seq hq, k _ _ _ s1 ⟨fun {i F2 H2 x} s1 s2 e => ?_, fun s1 s2 => by show us.length ≤ _; rw [List.length_reverse, Paired.len p]; exact Nat.le_refl _⟩⟩
    have hs := s2.seq (s1.seq hq)
    obtain ⟨v, h1, h2⟩ := Paired.at pr e
    have hlt : i < us.length := by
      have := (List.getElem?_eq_some_iff.mp h1).1
      rwa [List.length_reverse] at this
    rw [List.getElem?_reverse hlt] at h1
    exact ⟨⟨hlt, us, v, hs, h1⟩, fun u H3 hy => ⟨_, Step.at hy.1 s2, by
      have e2 := (hy.2 us hs).symm.trans h1
      cases e2
      exact A.m s1 h2⟩⟩
/-- numbered -/
def penum {τ : Type} (xs : List τ) : List (Int × τ) := (List.range xs.length).zip xs |>.map fun p => ((p.1 : Int), p.2)
theorem penum_get {τ : Type} {xs : List τ} {i : Nat} {q : Int × τ} (h : (penum xs)[i]? = some q) : q.1 = (i : Int) ∧ xs[i]? = some q.2 := by
  unfold penum at h
  rw [List.getElem?_map] at h
  cases hz : ((List.range xs.length).zip xs)[i]? with
  | none => rw [hz] at h; cases h
  | some p =>
    rw [hz] at h
    cases h
    obtain ⟨h1, h2⟩ := List.getElem?_zip_eq_some.mp hz
    have h3 := (List.getElem?_eq_some_iff.mp h2).1
    rw [List.getElem?_range h3] at h1
    cases h1
    exact ⟨rfl, h2⟩
theorem penum_len {τ : Type} (xs : List τ) : (penum xs).length = xs.length := by
  unfold penum
  rw [List.length_map, List.length_zip, List.length_range, Nat.min_self]
theorem yieldT {F2 H2 : Hp} {T : Tp α} {t : Addr} {vs : List V} {x : α} (s2 : Same F2 H2) (nt : H2 t = none) (h : T.r F2 vs x) : ∃ F3, Step F2 H2 F3 (upd H2 t (.tup vs)) [] ∧ (jT T).r F3 (.ref t) x := by
  have s3 := (Step.nil s2).ice nt (.tup vs)
  exact ⟨_, s3.chunks trivial, t, vs, rfl, upd_same, T.m s3.f0 h⟩
theorem si_enum {fa : ρ → Option (List α × Unit)} (h : SA tA E (aC (jL A) aN) fa) : SI (iEnum K tA) E (jT (yC jI (y1 A))) (fun γ => ob (fa γ) fun x => some (penum x.1)) where
  run s0 hL he e k := by
    obtain ⟨x, e1, e⟩ := ob_some e
    cases e
    refine h s0 hL he e1 fun vs F1 H1 s1 ⟨v, r, z1, ⟨a, us, r1, r2, p⟩, z2⟩ => ?_
    subst z1 z2 r1
    have hq : SqL K F1 a us := .inl (.inl r2)
    refine ⟨a, us, rfl, s1.fh.seq hq, k _ _ _ s1 ⟨fun {i F2 H2 x} s1 s2 e => ?_, fun s1 s2 => ⟨us, s2.seq (s1.seq hq), by rw [penum_len, Paired.len p]; exact Nat.le_refl _⟩⟩⟩
    have hs := s2.seq (s1.seq hq)
    obtain ⟨g1, g2⟩ := penum_get e
    obtain ⟨v, h1, h2⟩ := Paired.at p g2
    refine ⟨⟨us, v, hs, h1⟩, fun u H3 hy => ?_⟩
    obtain ⟨t, v', rfl, nt, rfl, hv⟩ := hy
    have e2 := (hv us hs).symm.trans h1
    cases e2
    exact yieldT s2 nt ⟨_, _, rfl, by show V.int _ = V.int _; rw [g1], _, rfl, A.m s1 h2⟩
theorem si_zip {fa : ρ → Option (List α × List β × Unit)} (h : SA tA E (aC (jL A) (aC (jL B) aN)) fa) : SI (iZip K tA) E (jT (yC A (y1 B))) (fun γ => ob (fa γ) fun x => some (x.1.zip x.2.1)) where
  run s0 hL he e k := by
    obtain ⟨x, e1, e⟩ := ob_some e
    cases e
    refine h s0 hL he e1 fun vs F1 H1 s1 ⟨v, r, z1, ⟨a, us, r1, r2, p⟩, v', r', z2, ⟨b, ws, r3, r4, q⟩, z3⟩ => ?_
    subst z1 z2 z3 r1 r3
    have hq : SqL K F1 a us := .inl (.inl r2)
    have hq2 : SqL K F1 b ws := .inl (.inl r4)
    refine ⟨a, b, us, ws, rfl, s1.fh.seq hq, s1.fh.seq hq2, k _ _ _ s1 ⟨fun {i F2 H2 x} s1 s2 e => ?_, fun s1 s2 => ⟨us, ws, s2.seq (s1.seq hq), s2.seq (s1.seq hq2), by rw [Paired.len p, Paired.len q, List.length_zip]; omega⟩⟩⟩
    have hs := s2.seq (s1.seq hq)
    have hs2 := s2.seq (s1.seq hq2)
    obtain ⟨g1, g2⟩ := List.getElem?_zip_eq_some.mp e
    obtain ⟨v, h1, h2⟩ := Paired.at p g1
    obtain ⟨w, h3, h4⟩ := Paired.at q g2
    refine ⟨⟨us, ws, v, w, hs, hs2, h1, h3⟩, fun u H3 hy => ?_⟩
    obtain ⟨t, v', w', rfl, nt, rfl, hv, hw⟩ := hy
    have e2 := (hv us hs).symm.trans h1
    cases e2
    have e3 := (hw ws hs2).symm.trans h3
    cases e3
    exact yieldT s2 nt ⟨_, _, rfl, A.m s1 h2, _, rfl, B.m s1 h4⟩
/-! ### targets -/
/-- is: the names that the target sets -/
structure SG (g : TG) (is : List Nat) (E : En ρ) (R : Rp α) (E' : En ρ') (u : α → ρ → ρ') : Prop where
  run : ∀ {σ : L2.St} {F H : Hp} {L : List (Addr × HO)} {γ : ρ} {v : V} {x : α} {Q : L2.St → Hp → Prop}, Same F H → E.r σ F L γ → R.r F v x →
  (∀ σ' L', Sb L' L → E'.r σ' F L' (u x γ) → (∀ ws : List Nat, (∀ i ∈ is, i ∈ ws) → wipe σ' ws = wipe σ ws) → Q σ' H) → g v σ H Q
instance {g : TG} {is : List Nat} {E : En ρ} {R : Rp α} {E' : En ρ'} {u : α → ρ → ρ'} : CoeFun (SG g is E R E' u) (fun _ => ∀ {σ : L2.St} {F H : Hp} {L : List (Addr × HO)} {γ : ρ} {v : V} {x : α} {Q : L2.St → Hp → Prop}, Same F H → E.r σ F L γ → R.r F v x →
  (∀ σ' L', Sb L' L → E'.r σ' F L' (u x γ) → (∀ ws : List Nat, (∀ i ∈ is, i ∈ ws) → wipe σ' ws = wipe σ ws) → Q σ' H) → g v σ H Q) := ⟨fun h => h.run⟩
theorem wipe_comm (σ : L2.St) (i : Nat) (o : Option V) : ∀ ws : List Nat, i ∈ ws → wipe (σ.set i o) ws = wipe σ ws
  | [], h => nomatch h
  | w :: ws, h => by
    show (wipe (σ.set i o) ws).set w none = (wipe σ ws).set w none
    by_cases hw : i ∈ ws
    · rw [wipe_comm σ i o ws hw]
    · have e : i = w := by
        rcases List.mem_cons.mp h with e | e
        · exact e
        · exact absurd e hw
      subst e
      have : ∀ ws : List Nat, i ∉ ws → wipe (σ.set i o) ws = (wipe σ ws).set i o := by
        intro ws
        induction ws with
        | nil => intro _; rfl
        | cons v vs ih =>
          intro hn
          show (wipe (σ.set i o) vs).set v none = ((wipe σ vs).set v none).set i o
          rw [ih (fun z => hn (List.mem_cons_of_mem _ z)), List.set_comm]
          exact fun z => hn (by rw [z]; exact List.mem_cons_self)
      rw [this ws hw, List.set_set]
theorem sg_name {i : Nat} {u : α → ρ → ρ'} (h : Pt E i (sF A) E' u) : SG (gName i) [i] E A E' u := ⟨fun s0 he r k => by
  obtain ⟨L', h1, h2⟩ := h he ⟨rfl, r⟩
  exact k _ L' h2 h1 fun ws hw => wipe_comm _ _ _ ws (hw i List.mem_cons_self)⟩
/-- a name that is not read -/
structure Un (E : En ρ) (i : Nat) : Prop where
  run : ∀ {σ : L2.St} {F : Hp} {L : List (Addr × HO)} {γ : ρ} {o : Option V}, E.r σ F L γ → E.r (σ.set i o) F L γ
instance {E : En ρ} {i : Nat} : CoeFun (Un E i) (fun _ => ∀ {σ : L2.St} {F : Hp} {L : List (Addr × HO)} {γ : ρ} {o : Option V}, E.r σ F L γ → E.r (σ.set i o) F L γ) := ⟨fun h => h.run⟩
theorem n0 : Un (eU E) 0 := ⟨fun ⟨o, σ', e, t⟩ => by
  subst e
  exact ⟨_, σ', rfl, t⟩⟩
theorem nU {i : Nat} (h : Un E i) : Un (eU E) (i + 1) := ⟨fun ⟨o, σ', e, t⟩ => by
  subst e
  exact ⟨o, _, rfl, h t⟩⟩
theorem nS {s : Sl α} {i : Nat} (h : Un E i) : Un (eC s E) (i + 1) := ⟨fun ⟨v, σ', L1, L2, e1, e2, q, t⟩ => by
  subst e1
  exact ⟨v, _, L1, L2, rfl, e2, q, h t⟩⟩
theorem sg_skip {i : Nat} (h : Un E i) : SG (gName i) [i] E A E (fun _ γ => γ) := ⟨fun s0 he r k => k _ _ (Sb.refl _) (h he) fun ws hw => wipe_comm _ _ _ ws (hw i List.mem_cons_self)⟩
/-- the parts of a tuple, each to its name -/
structure SGs (g : TGs) (is : List Nat) (E : En ρ) (T : Tp α) (E' : En ρ') (u : α → ρ → ρ') : Prop where
  run : ∀ {σ : L2.St} {F H : Hp} {L : List (Addr × HO)} {γ : ρ} {vs : List V} {x : α} {Q : L2.St → Hp → Prop}, Same F H → E.r σ F L γ → T.r F vs x →
  (∀ σ' L', Sb L' L → E'.r σ' F L' (u x γ) → (∀ ws : List Nat, (∀ i ∈ is, i ∈ ws) → wipe σ' ws = wipe σ ws) → Q σ' H) → g vs σ H Q
instance {g : TGs} {is : List Nat} {E : En ρ} {T : Tp α} {E' : En ρ'} {u : α → ρ → ρ'} : CoeFun (SGs g is E T E' u) (fun _ => ∀ {σ : L2.St} {F H : Hp} {L : List (Addr × HO)} {γ : ρ} {vs : List V} {x : α} {Q : L2.St → Hp → Prop}, Same F H → E.r σ F L γ → T.r F vs x →
  (∀ σ' L', Sb L' L → E'.r σ' F L' (u x γ) → (∀ ws : List Nat, (∀ i ∈ is, i ∈ ws) → wipe σ' ws = wipe σ ws) → Q σ' H) → g vs σ H Q) := ⟨fun h => h.run⟩
theorem sgs_1 {g : TG} {is : List Nat} {u : α → ρ → ρ'} (h : SG g is E A E' u) : SGs (gCons g gNil) is E (y1 A) E' u := ⟨fun s0 he ⟨v, e, r⟩ k => by
  subst e
  exact ⟨v, [], rfl, h s0 he r fun σ' L' hb he' hw => ⟨rfl, k σ' L' hb he' hw⟩⟩⟩
theorem sgs_C {E'' : En ρ''} {g : TG} {gs : TGs} {is js : List Nat} {T : Tp β} {u : α → ρ → ρ'} {u' : β → ρ' → ρ''} (h : SG g is E A E' u) (h' : SGs gs js E' T E'' u') : SGs (gCons g gs) (is ++ js) E (yC A T) E'' (fun x γ => u' x.2 (u x.1 γ)) := ⟨fun s0 he ⟨v, r, e, r1, r2⟩ k => by
  subst e
  refine ⟨v, r, rfl, h s0 he r1 fun σ' L' hb he' hw => h' s0 he' r2 fun σ2 L2 hb2 he2 hw2 => k σ2 L2 (hb2.trans hb) he2 fun ws hws => ?_⟩
  rw [hw2 ws (fun i hi => hws i (List.mem_append_right _ hi)), hw ws (fun i hi => hws i (List.mem_append_left _ hi))]⟩
theorem sg_tup {gs : TGs} {is : List Nat} {T : Tp α} {n j : Nat} {R : Rp β} {g : α → β} {u : α → ρ → ρ'} (h : SGs gs is E T E' u) (hn : Tat T n j R g) : SG (gTup K n gs) is E (jT T) E' u := ⟨fun s0 he ⟨a, vs, e, r, t⟩ k =>
  ⟨a, vs, e, .inl (.inl (s0 _ _ r)), (hn t).1, h s0 he t k⟩⟩
/-! ### comprehensions -/
def lcM {α β : Type} (f : α → Option β) : List α → Option (List β)
  | [] => some []
  | x :: xs => ob (f x) fun y => ob (lcM f xs) fun r => some (y :: r)
def lcF {α β : Type} (p : α → Option Bool) (f : α → Option β) : List α → Option (List β)
  | [] => some []
  | x :: xs => ob (p x) fun b => if b = true then ob (f x) fun y => ob (lcF p f xs) fun r => some (y :: r) else lcF p f xs
theorem lcM_lcF {α β : Type} (f : α → Option β) : ∀ xs : List α, lcF (fun _ => some true) f xs = lcM f xs
  | [] => rfl
  | x :: xs => by
    show (ob (f x) fun y => ob (lcF (fun _ => some true) f xs) fun r => some (y :: r)) = _
    rw [lcM_lcF f xs]
    rfl
structure Wp (E : En ρ) (vs : List Nat) : Prop where
  run : ∀ {σ : L2.St} {F : Hp} {L : List (Addr × HO)} {γ : ρ}, E.r σ F L γ → E.r (wipe σ vs) F L γ
instance {E : En ρ} {vs : List Nat} : CoeFun (Wp E vs) (fun _ => ∀ {σ : L2.St} {F : Hp} {L : List (Addr × HO)} {γ : ρ}, E.r σ F L γ → E.r (wipe σ vs) F L γ) := ⟨fun h => h.run⟩
theorem wp_nil : Wp E [] := ⟨fun h => h⟩
theorem wp_cons {i : Nat} {vs : List Nat} (h : Un E i) (t : Wp E vs) : Wp E (i :: vs) := ⟨fun q => h (t q)⟩
theorem lc_core {wi : TI} {g : TG} {tt : TT} {is vs : List Nat} {fi : ρ → Option (List α)} {ft : ρ' → Option Bool} {fe : ρ' → Option β} {u : α → ρ → ρ'} (hi : SI wi E A fi) (hw : Wp E vs) (hg : SG g is E A E' u) (hv : ∀ i ∈ is, i ∈ vs) (ht : ST tt E' ft) (he : SE te E' (sF B) fe) :
    SE (tLc wi g tt te vs) E (sO B) (fun γ => ob (fi γ) fun xs => ob (lcF (fun x => ft (u x γ)) (fun x => fe (u x γ)) xs) fun r => pck (r.length ≤ sz) r) := ⟨fun {σ _ _ L γ res Q} s0 hL hE e k => by
  obtain ⟨xs, e1, e⟩ := ob_some e
  obtain ⟨rs, e2, e⟩ := ob_some e
  obtain ⟨p, e3⟩ := pck_some e
  subst e3
  refine hi.run s0 hL hE e1 fun J F1 H1 s1 it => ?_
  have hE1 := E.m s1.f0 hE
  have hL1 := hL.mono s1.hh
  intro D hD
  refine ⟨fun i m H' => m = xs.length - i ∧ i ≤ xs.length ∧ ∃ F' acc ys zs, Step F1 H1 F' H' [(D, .lst acc)] ∧ Paired (B.r F') acc ys ∧ lcF (fun x => ft (u x γ)) (fun x => fe (u x γ)) (xs.drop i) = some zs ∧ rs = ys ++ zs,
    ⟨xs.length, by omega, Nat.zero_le _, F1, [], [], rs, (Step.nil s1.fh).alloc hD _, .nil, e2, rfl⟩, ?_⟩
  rintro i m H' ⟨rfl, hi, F', acc, ys, zs, s2, pa, e4, e5⟩
  by_cases hlt : i < xs.length
  · obtain ⟨x, hx⟩ : ∃ x, xs[i]? = some x := ⟨_, List.getElem?_eq_getElem hlt⟩
    obtain ⟨go, yl⟩ := it.one s2.f0 s2.fh hx
    have ed : xs.drop i = x :: xs.drop (i + 1) := by
      rw [List.drop_eq_getElem_cons hlt]
      congr 1
      rw [List.getElem?_eq_getElem hlt] at hx
      exact Option.some.inj hx
    rw [ed] at e4
    obtain ⟨b, e6, e7⟩ := ob_some e4
    have hacc : acc.length < sz ∨ b = false := by
      cases b with
      | false => exact .inr rfl
      | true =>
        rw [if_pos rfl] at e7
        obtain ⟨y, e8, e9⟩ := ob_some e7
        obtain ⟨r, e10, e11⟩ := ob_some e9
        cases e11
        rw [Paired.len pa]
        rw [e5, List.length_append, List.length_cons] at p
        exact .inl (by omega)
    refine .inr ⟨go, fun H'' => ∃ F' acc ys zs, Step F1 H1 F' H'' [(D, .lst acc)] ∧ Paired (B.r F') acc ys ∧ lcF (fun x => ft (u x γ)) (fun x => fe (u x γ)) (xs.drop (i + 1)) = some zs ∧ rs = ys ++ zs, fun H'' h => ⟨xs.length - (i + 1), by omega, rfl, hlt, h⟩, fun v H3 hy => ?_⟩
    obtain ⟨F3, s3, r3⟩ := yl v H3 hy
    have s13 := Own.on s2 s3
    rw [List.nil_append] at s13
    refine hg s3.fh (hw (E.m s13.f0 hE1)) r3 fun σ4 L4 hb4 hE4 hw4 => ⟨?_, ?_⟩
    · rw [hw4 vs hv]
      have : ∀ (σ : L2.St) (vs : List Nat), wipe (wipe σ vs) vs = wipe σ vs := by
        intro σ vs
        have gen : ∀ (ws : List Nat), (∀ i ∈ ws, i ∈ vs) → wipe (wipe σ ws) vs = wipe σ vs := by
          intro ws
          induction ws with
          | nil => intro _; rfl
          | cons a as ih => intro h; show wipe ((wipe σ as).set a none) vs = _; rw [wipe_comm _ _ _ vs (h a List.mem_cons_self), ih fun i hi => h i (List.mem_cons_of_mem _ hi)]
        exact gen vs fun _ h => h
      exact this _ _
    have hL4 : Held H3 L4 := fun q hq => (hL1.mono s13.hh) q (hb4.mem hq)
    refine ht s3.fh hL4 hE4 e6 fun F5 H5 s5 => ?_
    have s15 := Own.on s13 s5
    rw [List.nil_append] at s15
    cases b with
    | false =>
      rw [if_neg Bool.false_ne_true] at e7 ⊢
      exact ⟨F5, acc, ys, zs, s15, Paired.mono (fun _ _ q => B.m (s3.f0.trans s5.f0) q) pa, e7, e5⟩
    | true =>
      rw [if_pos rfl] at e7 ⊢
      obtain ⟨y, e8, e9⟩ := ob_some e7
      obtain ⟨r, e10, e11⟩ := ob_some e9
      cases e11
      refine he s5.fh (hL4.mono s5.hh) (E'.m s5.f0 hE4) e8 fun w F6 H6 L6 s6 ⟨z6, r6⟩ => ?_
      subst z6
      have s16 := Own.on s15 s6
      rw [List.nil_append] at s16
      refine ⟨acc, s16.at_ 0, sz_lt (hacc.resolve_right (by decide)), F6, _, ys ++ [y], r, s16.set 0 rfl _, Paired.app (Paired.mono (fun _ _ q => B.m ((s3.f0.trans s5.f0).trans s6.f0) q) pa) (.cons r6 .nil), e10, ?_⟩
      rw [e5, List.append_assoc]
      rfl
  · have hi2 : i = xs.length := by omega
    subst hi2
    rw [List.drop_length] at e4
    cases e4
    rw [List.append_nil] at e5
    subst e5
    exact .inl ⟨it.stop s2.f0 s2.fh, k _ _ _ _ (by have := Own.on s1 s2; rwa [List.append_nil] at this) ⟨D, acc, rfl, rfl, pa⟩⟩⟩
theorem se_lcF {wi : TI} {g : TG} {tt : TT} {is vs : List Nat} {fi : ρ → Option (List α)} {ft : ρ' → Option Bool} {fe : ρ' → Option β} {u : α → ρ → ρ'} (hi : SI wi E A fi) (hw : Wp E vs) (hg : SG g is E A E' u) (ht : ST tt E' ft) (he : SE te E' (sF B) fe) (hv : ∀ i ∈ is, i ∈ vs := by decide) :
    SE (tLc wi g tt te vs) E (sO B) (fun γ => ob (fi γ) fun xs => ob (lcF (fun x => ft (u x γ)) (fun x => fe (u x γ)) xs) fun r => pck (r.length ≤ sz) r) := lc_core hi hw hg hv ht he
theorem se_lc {wi : TI} {g : TG} {is vs : List Nat} {fi : ρ → Option (List α)} {fe : ρ' → Option β} {u : α → ρ → ρ'} (hi : SI wi E A fi) (hw : Wp E vs) (hg : SG g is E A E' u) (he : SE te E' (sF B) fe) (hv : ∀ i ∈ is, i ∈ vs := by decide) :
    SE (tLc wi g tYes te vs) E (sO B) (fun γ => ob (fi γ) fun xs => ob (lcM (fun x => fe (u x γ)) xs) fun r => pck (r.length ≤ sz) r) := by
  have h : (fun γ => ob (fi γ) fun xs => ob (lcM (fun x => fe (u x γ)) xs) fun r => pck (r.length ≤ sz) r) = (fun γ => ob (fi γ) fun xs => ob (lcF (fun x => some true) (fun x => fe (u x γ)) xs) fun r => pck (r.length ≤ sz) r) := by
    funext γ
    simp only [lcM_lcF]
  rw [h]
  exact lc_core hi hw hg hv (ft := fun _ => some true) st_yes he
end
end Mi

namespace Mi
open PySem PySem.Spec PyProof.Rows L2 Fw
/-! ### statements -/
inductive Res (ρ κ β : Type) where
  | nxt (γ : ρ) | ret (b : β) | cnt (γ : κ) | brk (γ : κ)
section
variable {ρ ρ' ρ'' α β δ ε κ : Type} {E : En ρ} {E' : En ρ'} {E1 : En ρ''} {Ec : En κ} {ta tb tc te : TE} {tA : TA} {A : Rp α} {B : Rp β} {D : Rp δ} {s : Sl β} {K : PySem.W.Frag} {t u : TS}
def Fin (E' : En ρ') (Ec : En κ) (s : Sl β) (F0 H0 Fs : Hp) (D : Ends) : Res ρ' κ β → Prop
  | .nxt γ => ∀ σ F H L, Same Fs F → Own F0 H0 F H L [] → E'.r σ F L γ → D.nx σ H
  | .ret b => ∀ v F H L, Same Fs F → Own F0 H0 F H L [] → s.r v F L b → D.rt v H
  | .cnt γ => ∀ σ F H L, Same Fs F → Own F0 H0 F H L [] → Ec.r σ F L γ → D.ct σ H
  | .brk γ => ∀ σ F H L, Same Fs F → Own F0 H0 F H L [] → Ec.r σ F L γ → D.bk σ H
theorem Fin.mo {F0 H0 F F1 : Hp} {D : Ends} {r : Res ρ' κ β} (h : Fin E' Ec s F0 H0 F D r) (sF : Same F F1) : Fin E' Ec s F0 H0 F1 D r := by
  cases r with
  | nxt γ => exact fun σ F2 H L s2 => h σ F2 H L (sF.trans s2)
  | ret b => exact fun σ F2 H L s2 => h σ F2 H L (sF.trans s2)
  | cnt γ => exact fun σ F2 H L s2 => h σ F2 H L (sF.trans s2)
  | brk γ => exact fun σ F2 H L s2 => h σ F2 H L (sF.trans s2)
structure SS (t : TS) (E : En ρ) (E' : En ρ') (Ec : En κ) (s : Sl β) (m : ρ → Option (Res ρ' κ β)) : Prop where
  run : ∀ {σ : L2.St} {F0 H0 F H : Hp} {L : List (Addr × HO)} {γ : ρ} {r : Res ρ' κ β} {D : Ends}, Own F0 H0 F H L [] → E.r σ F L γ → m γ = some r → Fin E' Ec s F0 H0 F D r → t D σ H
theorem ss_conv {m m' : ρ → Option (Res ρ' κ β)} (h : SS t E E' Ec s m) (e : m = m') : SS t E E' Ec s m' := e ▸ h
/-- what follows -/
def rb (x : Option (Res ρ κ β)) (f : ρ → Option (Res ρ' κ β)) : Option (Res ρ' κ β) := ob x fun r => match r with
  | .nxt γ => f γ
  | .ret b => some (.ret b)
  | .cnt γ => some (.cnt γ)
  | .brk γ => some (.brk γ)
theorem ss_seq {m1 : ρ → Option (Res ρ'' κ β)} {m2 : ρ'' → Option (Res ρ' κ β)} (ht : SS t E E1 Ec s m1) (hu : SS u E1 E' Ec s m2) : SS (tSeq t u) E E' Ec s (fun γ => rb (m1 γ) m2) := ⟨fun {_ _ _ _ _ _ _ r D} O he e fin => by
  obtain ⟨r1, e1, e⟩ := ob_some e
  show t { D with nx := u D } _ _
  refine ht.run O he e1 ?_
  cases r1 with
  | nxt γ1 => exact fun σ F H L sF O' he' => hu.run O' he' e (fin.mo sF)
  | ret b => cases e; exact fin
  | cnt γ1 => cases e; exact fin
  | brk γ1 => cases e; exact fin⟩
theorem ss_nil : SS tNext E E Ec s (fun γ => some (.nxt γ)) := ⟨fun O he e fin => by
  cases e
  exact fin _ _ _ _ (Same.refl _) O he⟩
theorem ss_co {c : ρ → ρ'} (h : Co E E' c) : SS tNext E E' Ec s (fun γ => some (.nxt (c γ))) := ⟨fun O he e fin => by
  cases e
  obtain ⟨F', L', O', sF, he'⟩ := h (by rw [List.append_nil]; exact O) he
  rw [List.append_nil] at O'
  exact fin _ _ _ _ sF O' he'⟩
theorem ss_pre {c : ρ → ρ''} {m : ρ'' → Option (Res ρ' κ β)} (h : Co E E1 c) (hu : SS u E1 E' Ec s m) : SS u E E' Ec s (fun γ => m (c γ)) := ⟨fun O he e fin => by
  obtain ⟨F', L', O', sF, he'⟩ := h (by rw [List.append_nil]; exact O) he
  rw [List.append_nil] at O'
  exact hu.run O' he' e (fin.mo sF)⟩
variable {m : ρ'' → Option (Res ρ' κ β)}
theorem ss_asg {i : Nat} {s1 : Sl α} {fe : ρ → Option α} {p : α → ρ → ρ''} (he : SE te E s1 fe) (hp : Pt E i s1 E1 p) (hu : SS u E1 E' Ec s m) : SS (tSeq (tAsg te (gName i)) u) E E' Ec s (fun γ => ob (fe γ) fun x => m (p x γ)) := ⟨fun O hE e fin => by
  obtain ⟨x, e1, e⟩ := ob_some e
  refine he O.fh (Held.of O) hE e1 fun v F1 H1 L1 s1 r1 => ?_
  obtain ⟨L', h1, h2⟩ := hp (E.m s1.f0 hE) r1
  exact hu.run (OwnSb (Own.on O s1) h2) h1 e (fin.mo s1.f0)⟩
theorem ss_asgG {g : TG} {is : List Nat} {fe : ρ → Option α} {p : α → ρ → ρ''} (he : SE te E (sF A) fe) (hp : SG g is E A E1 p) (hu : SS u E1 E' Ec s m) : SS (tSeq (tAsg te g) u) E E' Ec s (fun γ => ob (fe γ) fun x => m (p x γ)) := ⟨fun O hE e fin => by
  obtain ⟨x, e1, e⟩ := ob_some e
  refine he O.fh (Held.of O) hE e1 fun v F1 H1 L1 s1 ⟨z1, r1⟩ => ?_
  subst z1
  have O1 := Own.on O s1
  rw [List.nil_append] at O1
  exact hp O1.fh (E.m s1.f0 hE) r1 fun σ' L' hb he' _ => hu.run (OwnSb O1 hb) he' e (fin.mo s1.f0)⟩
theorem ss_aug {i : Nat} {f : Int → Int → Int} {g : ρ → Int} {fe : ρ → Option Int} {p : Int → ρ → ρ''} (hg : Gt E i (sF jI) g) (he : SE te E (sF jI) fe) (hp : Pt E i (sF jI) E1 p) (hu : SS u E1 E' Ec s m) :
    SS (tSeq (tAug i te (ipI f)) u) E E' Ec s (fun γ => ob (fe γ) fun y => m (p (f (g γ) y) γ)) := ⟨fun O hE e fin => by
  obtain ⟨x, e1, e⟩ := ob_some e
  obtain ⟨v, L1, h1, _, _, h3⟩ := hg hE
  refine ⟨v, h1, he O.fh (Held.of O) hE e1 fun w F1 H1 L1 s1 ⟨z1, r1⟩ => ?_⟩
  subst z1
  have O1 := Own.on O s1
  rw [List.nil_append] at O1
  refine ⟨_, _, h3, r1, ?_⟩
  obtain ⟨L', h1, h2⟩ := hp.run (v := .int (f _ x)) (L1 := []) (x := f _ x) (E.m s1.f0 hE) ⟨rfl, rfl⟩
  exact hu.run (OwnSb O1 h2) h1 e (fin.mo s1.f0)⟩
theorem ss_par {i j : Nat} {C : Rp δ} {E2 : En ε} {fa : ρ → Option α} {fb : ρ → Option δ} {p : α → ρ → ρ''} {p' : δ → ρ'' → ε} {m : ε → Option (Res ρ' κ β)} (ha : SE ta E (sF A) fa) (hb : SE tb E (sF C) fb) (hp : Pt E i (sF A) E1 p) (hp' : Pt E1 j (sF C) E2 p') (hu : SS u E2 E' Ec s m) :
    SS (tSeq (tPar i j (tCons ta (tCons tb tNil))) u) E E' Ec s (fun γ => ob (fa γ) fun x => ob (fb γ) fun y => m (p' y (p x γ))) := ⟨fun O hE e fin => by
  obtain ⟨x, e1, e⟩ := ob_some e
  obtain ⟨y, e2, e⟩ := ob_some e
  refine ha O.fh (Held.of O) hE e1 fun v F1 H1 L1 s1 ⟨z1, r1⟩ => ?_
  subst z1
  have O1 := Own.on O s1
  rw [List.nil_append] at O1
  refine hb O1.fh (Held.of O1) (E.m s1.f0 hE) e2 fun w F2 H2 L2 s2 ⟨z2, r2⟩ => ?_
  subst z2
  have O2 := Own.on O1 s2
  rw [List.nil_append] at O2
  refine ⟨v, w, rfl, ?_⟩
  obtain ⟨L', h1, h2⟩ := hp.run (L1 := []) (E.m (s1.f0.trans s2.f0) hE) ⟨rfl, A.m s2.f0 r1⟩
  obtain ⟨L'', h3, h4⟩ := hp'.run (L1 := []) h1 ⟨rfl, r2⟩
  exact hu.run (OwnSb (OwnSb O2 h2) h4) h3 e (fin.mo (s1.f0.trans s2.f0))⟩
theorem ss_expr {s1 : Sl α} {fe : ρ → Option α} {m : ρ → Option (Res ρ' κ β)} (he : SE te E s1 fe) (hu : SS u E E' Ec s m) : SS (tSeq (tDrop te) u) E E' Ec s (fun γ => ob (fe γ) fun _ => m γ) := ⟨fun O hE e fin => by
  obtain ⟨x, e1, e⟩ := ob_some e
  refine he O.fh (Held.of O) hE e1 fun v F1 H1 L1 s1 r1 => ?_
  exact hu.run (OwnSb (Own.on O s1) (Sb.dropL _ _)) (E.m s1.f0 hE) e (fin.mo s1.f0)⟩
/-! own lists -/
theorem tyL {P : Prop} {p : Addr} {vs : List V} {H : Hp} (e : H p = some (.lst vs)) (h : P) : tyV K "list" (.ref p) H ∧ P := w_tyL h (.inl (.inl e))
theorem ss_app {i : Nat} {R : Rp α} {g : ρ → List α} {up : List α → ρ → ρ} {fe : ρ → Option α} {m : ρ → Option (Res ρ' κ β)} (hu' : Up E i R g up) (he : SE te E (sF R) fe) (hu : SS u E E' Ec s m) :
    SS (tSeq (tDrop (tBM K "list" rAppend (tVar i) (tCons te tNil))) u) E E' Ec s (fun γ => ob (fe γ) fun y => ob (pck ((g γ).length < sz) (g γ ++ [y])) fun ys => m (up ys γ)) := ⟨fun O hE e fin => by
  obtain ⟨x, e1, e⟩ := ob_some e
  obtain ⟨ys, e2, e⟩ := ob_some e
  obtain ⟨pz, rfl⟩ := pck_some e2
  obtain ⟨p, vs, j, h1, h2, h3, h4⟩ := hu' hE
  refine ⟨.ref p, h1, tyL (O.at_ j h2) ?_⟩
  refine he O.fh (Held.of O) hE e1 fun v F1 H1 L1 s1 ⟨z1, r1⟩ => ?_
  subst z1
  have O1 := Own.on O s1
  rw [List.nil_append] at O1
  exact w_app (Q := fun _ H' => u _ _ H') O1 h2 (fun H' O2 => hu.run O2 (h4 F1 _ _ s1.f0 (Paired.app (Paired.mono (fun _ _ q => R.m s1.f0 q) h3) (.cons r1 .nil))) e (fin.mo s1.f0)) (sz_lt (by rw [Paired.len h3]; exact pz))⟩
theorem ss_ext {i : Nat} {R : Rp α} {g : ρ → List α} {up : List α → ρ → ρ} {fe : ρ → Option (List α)} {m : ρ → Option (Res ρ' κ β)} (hu' : Up E i R g up) (he : SE te E (sF (jL R)) fe) (hu : SS u E E' Ec s m) :
    SS (tSeq (tDrop (tBM K "list" rExtend (tVar i) (tCons te tNil))) u) E E' Ec s (fun γ => ob (fe γ) fun y => ob (pck ((g γ).length + y.length ≤ sz) (g γ ++ y)) fun ys => m (up ys γ)) := ⟨fun O hE e fin => by
  obtain ⟨x, e1, e⟩ := ob_some e
  obtain ⟨ys, e2, e⟩ := ob_some e
  obtain ⟨pz, rfl⟩ := pck_some e2
  obtain ⟨p, vs, j, h1, h2, h3, h4⟩ := hu' hE
  refine ⟨.ref p, h1, tyL (O.at_ j h2) ?_⟩
  refine he O.fh (Held.of O) hE e1 fun v F1 H1 L1 s1 ⟨z1, a, us, z2, r1, q1⟩ => ?_
  subst z1 z2
  have O1 := Own.on O s1
  rw [List.nil_append] at O1
  exact w_ext (Q := fun _ H' => u _ _ H') O1 h2 (O1.fh _ _ r1) (fun H' O2 => hu.run O2 (h4 F1 _ _ s1.f0 (Paired.app (Paired.mono (fun _ _ q => R.m s1.f0 q) h3) q1)) e (fin.mo s1.f0)) (sz_le (by rw [Paired.len h3, Paired.len q1]; exact pz))⟩
theorem ss_rev {i : Nat} {R : Rp α} {g : ρ → List α} {up : List α → ρ → ρ} {m : ρ → Option (Res ρ' κ β)} (hu' : Up E i R g up) (hu : SS u E E' Ec s m) :
    SS (tSeq (tDrop (tBM0 K "list" rReverse (tVar i))) u) E E' Ec s (fun γ => m (up (g γ).reverse γ)) := ⟨fun O hE e fin => by
  obtain ⟨p, vs, j, h1, h2, h3, h4⟩ := hu' hE
  refine ⟨.ref p, h1, tyL (O.at_ j h2) ⟨p, vs, rfl, rfl, O.at_ j h2, ?_⟩⟩
  exact hu.run (O.set j h2 _) (h4 _ _ _ (Same.refl _) (Paired.rev h3)) e fin⟩
theorem ss_pop {i : Nat} {R : Rp α} {g : ρ → List α} {up : List α → ρ → ρ} {m : ρ → Option (Res ρ' κ β)} (hu' : Up E i R g up) (hu : SS u E E' Ec s m) :
    SS (tSeq (tDrop (tBM0 K "list" rPop (tVar i))) u) E E' Ec s (fun γ => ob (pck (0 < (g γ).length) (g γ).dropLast) fun ys => m (up ys γ)) := ⟨fun O hE e fin => by
  obtain ⟨ys, e2, e⟩ := ob_some e
  obtain ⟨pz, rfl⟩ := pck_some e2
  obtain ⟨p, vs, j, h1, h2, h3, h4⟩ := hu' hE
  have hl := Paired.len h3
  refine ⟨.ref p, h1, tyL (O.at_ j h2) ⟨p, vs, _, rfl, rfl, O.at_ j h2, List.getElem?_eq_getElem (by omega), ?_⟩⟩
  refine hu.run (O.set j h2 _) (h4 _ _ _ (Same.refl _) ?_) e fin
  rw [List.dropLast_eq_take, List.dropLast_eq_take, hl]
  exact Paired.tk _ h3⟩
/-- xs with the item at i set -/
def pset {τ : Type} (xs : List τ) (i : Int) (x : τ) : Option (List τ) := (ixN xs.length i).map fun j => xs.set j x
theorem ss_setI {i : Nat} {R : Rp α} {g : ρ → List α} {up : List α → ρ → ρ} {fe : ρ → Option α} {fi : ρ → Option Int} {m : ρ → Option (Res ρ' κ β)} (hu' : Up E i R g up) (he : SE te E (sF R) fe) (hi : SE ta E (sF jI) fi) (hu : SS u E E' Ec s m) :
    SS (tSeq (tAsg te (gSub (tVar i) ta rSetL)) u) E E' Ec s (fun γ => ob (fe γ) fun y => ob (fi γ) fun j => ob (pset (g γ) j y) fun ys => m (up ys γ)) := ⟨fun O hE e fin => by
  obtain ⟨x, e1, e⟩ := ob_some e
  obtain ⟨k, e2, e⟩ := ob_some e
  obtain ⟨ys, e3, e⟩ := ob_some e
  refine he O.fh (Held.of O) hE e1 fun v F1 H1 L1 s1 ⟨z1, r1⟩ => ?_
  subst z1
  have O1 := Own.on O s1
  rw [List.nil_append] at O1
  obtain ⟨p, vs, j, h1, h2, h3, h4⟩ := hu' (E.m s1.f0 hE)
  refine ⟨.ref p, h1, ?_⟩
  refine hi O1.fh (Held.of O1) (E.m s1.f0 hE) e2 fun w F2 H2 L2 s2 ⟨z2, r2⟩ => ?_
  subst z2
  have O2 := Own.on O1 s2
  rw [List.nil_append] at O2
  unfold pset at e3
  rw [← Paired.len h3] at e3
  cases hj : ixN vs.length k with
  | none => rw [hj] at e3; cases e3
  | some n =>
    rw [hj] at e3
    cases e3
    refine ⟨p, vs, k, n, rfl, r2, O2.at_ j h2, hj, ?_⟩
    exact hu.run (O2.set j h2 _) (h4 F2 _ _ s2.f0 (Paired.upd (R.m s2.f0 r1) n (Paired.mono (fun _ _ q => R.m s2.f0 q) h3))) e (fin.mo (s1.f0.trans s2.f0))⟩
/-- xs[i] op= e, 0 ≤ i -/
def pget {τ : Type} (xs : List τ) (i : Int) : Option τ := if 0 ≤ i then xs[i.toNat]? else none
theorem ss_augI {i : Nat} {f : Int → Int → Int} {g : ρ → List Int} {up : List Int → ρ → ρ} {fe fi : ρ → Option Int} {m : ρ → Option (Res ρ' κ β)} (hu' : Up E i jI g up) (hi : SE ta E (sF jI) fi) (he : SE te E (sF jI) fe) (hu : SS u E E' Ec s m) :
    SS (tSeq (tAugS (tVar i) ta te (rGetL K) (ipI f) rSetL) u) E E' Ec s (fun γ => ob (fi γ) fun j => ob (pget (g γ) j) fun a => ob (fe γ) fun y => m (up ((g γ).set j.toNat (f a y)) γ)) := ⟨fun O hE e fin => by
  obtain ⟨k, e1, e⟩ := ob_some e
  obtain ⟨a, e2, e⟩ := ob_some e
  obtain ⟨y, e3, e⟩ := ob_some e
  obtain ⟨p, vs, j, h1, h2, h3, h4⟩ := hu' hE
  refine ⟨.ref p, h1, ?_⟩
  refine hi O.fh (Held.of O) hE e1 fun v F1 H1 L1 s1 ⟨z1, r1⟩ => ?_
  subst z1
  have O1 := Own.on O s1
  rw [List.nil_append] at O1
  unfold pget at e2
  split at e2
  · next h0 =>
    obtain ⟨w, w1, w2⟩ := Paired.at h3 e2
    refine ⟨p, vs, k, w, rfl, r1, .inl (.inl (O1.at_ j h2)), h0, w1, ?_⟩
    refine he O1.fh (Held.of O1) (E.m s1.f0 hE) e3 fun z F2 H2 L2 s2 ⟨z2, r2⟩ => ?_
    subst z2
    have O2 := Own.on O1 s2
    rw [List.nil_append] at O2
    refine ⟨a, y, w2, r2, ?_⟩
    have hlt := (List.getElem?_eq_some_iff.mp w1).1
    refine ⟨p, vs, k, k.toNat, rfl, r1, O2.at_ j h2, ixN_pos ⟨h0, by omega⟩, ?_⟩
    exact hu.run (O2.set j h2 _) (h4 F2 _ _ (s1.f0.trans s2.f0) (Paired.upd (A := jI.r F2) rfl _ (Paired.mono (A := jI.r _) (fun _ _ q => q) h3))) e (fin.mo (s1.f0.trans s2.f0))
  · cases e2⟩
/-! ways -/
theorem ss_if {t1 t2 : TS} {c : TT} {fc : ρ → Option Bool} {ma mb : ρ → Option (Res ρ' κ β)} (hc : ST c E fc) (ha : SS t1 E E' Ec s ma) (hb : SS t2 E E' Ec s mb) : SS (tIfS c t1 t2) E E' Ec s (fun γ => ob (fc γ) fun b => if b = true then ma γ else mb γ) := ⟨fun O hE e fin => by
  obtain ⟨b, e1, e⟩ := ob_some e
  refine hc O.fh (Held.of O) hE e1 fun F1 H1 s1 => ?_
  have O1 := Own.on O s1
  rw [List.nil_append] at O1
  cases b with
  | true =>
    show if true = true then _ else _
    rw [if_pos rfl] at e ⊢
    exact ha.run O1 (E.m s1.f0 hE) e (fin.mo s1.f0)
  | false =>
    show if false = true then _ else _
    rw [if_neg Bool.false_ne_true] at e ⊢
    exact hb.run O1 (E.m s1.f0 hE) e (fin.mo s1.f0)⟩
theorem ss_ret {fe : ρ → Option β} (he : SE te E s fe) : SS (tRet te) E E' Ec s (fun γ => ob (fe γ) fun x => some (.ret x)) := ⟨fun O hE e fin => by
  obtain ⟨x, e1, e⟩ := ob_some e
  cases e
  refine he O.fh (Held.of O) hE e1 fun v F1 H1 L1 s1 r1 => ?_
  exact fin v F1 H1 L1 s1.f0 (OwnSb (Own.on O s1) (Sb.dropR _ _)) r1⟩
theorem ss_retO {i : Nat} {R : Rp α} {g : ρ → List α} (hg : Gt E i (sO R) g) : SS (tRet (tVar i)) E E' Ec (sO R) (fun γ => some (.ret (g γ))) := ⟨fun {_ _ _ F H L _ _ _} O hE e fin => by
  cases e
  obtain ⟨v, L1, h1, h2, p, vs, h3, h4, h5⟩ := hg hE
  subst h3 h4
  obtain ⟨a, b, hab⟩ := List.append_of_mem (h2 _ List.mem_cons_self)
  refine ⟨_, h1, fin _ F H [(p, .lst vs)] (Same.refl _) (OwnSb O ?_) ⟨p, vs, rfl, rfl, h5⟩⟩
  rw [hab]
  exact ⟨a ++ b, (List.perm_middle (l₁ := a) (l₂ := b)).symm⟩⟩
theorem ss_retN : SS tRetN E E' Ec (sF jN) (fun _ => some (.ret ())) := ⟨fun O _ e fin => by
  cases e
  exact fin _ _ _ [] (Same.refl _) (OwnSb O (Sb.nil _)) ⟨rfl, rfl⟩⟩
theorem ss_never : SS tNever E E' Ec s (fun _ => none) := ⟨fun _ _ e _ => nomatch e⟩
theorem ss_cont : SS tCont E E' E s (fun γ => some (.cnt γ)) := ⟨fun O hE e fin => by
  cases e
  exact fin _ _ _ _ (Same.refl _) O hE⟩
theorem ss_contC {c : ρ → κ} (h : Co E Ec c) : SS tCont E E' Ec s (fun γ => some (.cnt (c γ))) := ⟨fun O hE e fin => by
  cases e
  obtain ⟨F', L', O', sF, he'⟩ := h (by rw [List.append_nil]; exact O) hE
  rw [List.append_nil] at O'
  exact fin _ _ _ _ sF O' he'⟩
/-! loops -/
def forR {κ : Type} (step : α → ρ → Option (Res ρ ρ β)) : List α → ρ → Option (Res ρ κ β)
  | [], γ => some (.nxt γ)
  | x :: xs, γ => ob (step x γ) fun r => match r with
    | .nxt γ' => forR step xs γ'
    | .cnt γ' => forR step xs γ'
    | .brk γ' => some (.nxt γ')
    | .ret b => some (.ret b)
theorem ss_for {wi : TI} {g : TG} {is : List Nat} {tb : TS} {fi : ρ → Option (List α)} {p : α → ρ → ρ''} {mb : ρ'' → Option (Res ρ ρ β)} (hi : SI wi E A fi) (hg : SG g is E A E1 p) (hb : SS tb E1 E E s mb) :
    SS (tFor wi g tb) E E Ec s (fun γ => ob (fi γ) fun xs => forR (fun x γ => mb (p x γ)) xs γ) := ⟨fun {σ F0 H0 F H L γ r D} O hE e fin => by
  obtain ⟨xs, e1, e⟩ := ob_some e
  refine hi.run O.fh (Held.of O) hE e1 fun J F1 H1 s1 it => ?_
  have O1 := Own.on O s1
  rw [List.nil_append] at O1
  refine ⟨fun i m σ' H' => m = xs.length - i ∧ i ≤ xs.length ∧ ∃ F' L' γ', Same F1 F' ∧ Own F0 H0 F' H' L' [] ∧ E.r σ' F' L' γ' ∧ forR (fun x γ => mb (p x γ)) (xs.drop i) γ' = some r,
    ⟨xs.length, by omega, Nat.zero_le _, F1, L, γ, Same.refl _, O1, E.m s1.f0 hE, e⟩, ?_⟩
  rintro i m σ' H' ⟨rfl, hi, F', L', γ', sF', O', hE', e'⟩
  by_cases hlt : i < xs.length
  · obtain ⟨x, hx⟩ : ∃ x, xs[i]? = some x := ⟨_, List.getElem?_eq_getElem hlt⟩
    obtain ⟨go, yl⟩ := it.one sF' O'.fh hx
    have ed : xs.drop i = x :: xs.drop (i + 1) := by
      rw [List.drop_eq_getElem_cons hlt]
      congr 1
      rw [List.getElem?_eq_getElem hlt] at hx
      exact Option.some.inj hx
    rw [ed] at e'
    obtain ⟨r1, e2, e3⟩ := ob_some e'
    refine .inr ⟨go, fun σ2 H2 => ∃ F' L' γ', Same F1 F' ∧ Own F0 H0 F' H2 L' [] ∧ E.r σ2 F' L' γ' ∧ forR (fun x γ => mb (p x γ)) (xs.drop (i + 1)) γ' = some r, fun σ2 H2 h => ⟨xs.length - (i + 1), by omega, rfl, hlt, h⟩, fun v H3 hy => ?_⟩
    obtain ⟨F3, s3, r3⟩ := yl v H3 hy
    have O3 := Own.on O' s3
    rw [List.nil_append] at O3
    refine hg O3.fh (E.m s3.f0 hE') r3 fun σ4 L4 hb4 hE4 _ => ?_
    have O4 := OwnSb O3 hb4
    refine hb.run O4 hE4 e2 ?_
    have sF3 := sF'.trans s3.f0
    cases r1 with
    | nxt γ2 => exact fun σ5 F5 H5 L5 s5 O5 hE5 => ⟨F5, L5, γ2, sF3.trans s5, O5, hE5, e3⟩
    | cnt γ2 => exact fun σ5 F5 H5 L5 s5 O5 hE5 => ⟨F5, L5, γ2, sF3.trans s5, O5, hE5, e3⟩
    | brk γ2 =>
      cases e3
      exact fun σ5 F5 H5 L5 s5 O5 hE5 => fin σ5 F5 H5 L5 (s1.f0.trans (sF3.trans s5)) O5 hE5
    | ret b =>
      cases e3
      exact fun v F5 H5 L5 s5 O5 r5 => fin v F5 H5 L5 (s1.f0.trans (sF3.trans s5)) O5 r5
  · have hi2 : i = xs.length := by omega
    subst hi2
    rw [List.drop_length] at e'
    cases e'
    exact .inl ⟨it.stop sF' O'.fh, fin _ _ _ _ (s1.f0.trans sF') O' hE'⟩⟩
def whileN {κ : Type} (c : ρ → Option Bool) (step : ρ → Option (Res ρ ρ β)) : Nat → ρ → Option (Res ρ κ β)
  | 0, _ => none
  | n + 1, γ => ob (c γ) fun b => if b = true then ob (step γ) fun r => match r with
    | .nxt γ' => whileN c step n γ'
    | .cnt γ' => whileN c step n γ'
    | .brk γ' => some (.nxt γ')
    | .ret b => some (.ret b) else some (.nxt γ)
theorem whileN_more {κ : Type} {c : ρ → Option Bool} {step : ρ → Option (Res ρ ρ β)} : ∀ {n : Nat} {γ : ρ} {r : Res ρ κ β}, whileN c step n γ = some r → whileN c step (n + 1) γ = some r
  | 0, _, _, h => nomatch h
  | n + 1, γ, r, h => by
    obtain ⟨b, e1, e⟩ := ob_some h
    rw [whileN, e1]
    show (if b = true then _ else _) = _
    cases b with
    | false => rw [if_neg Bool.false_ne_true] at e ⊢; exact e
    | true =>
      rw [if_pos rfl] at e ⊢
      obtain ⟨q, e2, e⟩ := ob_some e
      rw [e2]
      show (match q with | .nxt γ' => _ | .cnt γ' => _ | .brk γ' => _ | .ret b => _) = _
      cases q with
      | nxt γ' => exact whileN_more e
      | cnt γ' => exact whileN_more e
      | brk γ' => exact e
      | ret b => exact e
theorem whileN_le {κ : Type} {c : ρ → Option Bool} {step : ρ → Option (Res ρ ρ β)} {n m : Nat} {γ : ρ} {r : Res ρ κ β} (h : whileN c step n γ = some r) (l : n ≤ m) : whileN c step m γ = some r := by
  obtain ⟨k, rfl⟩ : ∃ k, m = n + k := ⟨m - n, by omega⟩
  induction k with
  | zero => exact h
  | succ k ih => exact whileN_more (ih (by omega))
open Classical in
noncomputable def whileR {κ : Type} (c : ρ → Option Bool) (step : ρ → Option (Res ρ ρ β)) (γ : ρ) : Option (Res ρ κ β) := if h : ∃ n r, whileN (κ := κ) c step n γ = some r then some h.choose_spec.choose else none
theorem whileR_some {κ : Type} {c : ρ → Option Bool} {step : ρ → Option (Res ρ ρ β)} {γ : ρ} {r : Res ρ κ β} (h : whileR c step γ = some r) : ∃ n, whileN c step n γ = some r := by
  unfold whileR at h
  split at h
  · next q =>
    cases h
    exact ⟨_, q.choose_spec.choose_spec⟩
  · cases h
theorem whileR_of {κ : Type} {c : ρ → Option Bool} {step : ρ → Option (Res ρ ρ β)} {γ : ρ} {r : Res ρ κ β} {n : Nat} (h : whileN c step n γ = some r) : whileR c step γ = some r := by
  unfold whileR
  have q : ∃ n r, whileN (κ := κ) c step n γ = some r := ⟨n, r, h⟩
  rw [dif_pos q]
  have h2 := q.choose_spec.choose_spec
  rcases Nat.le_total n q.choose with l | l
  · exact h2.symm.trans (whileN_le h l)
  · rw [whileN_le h2 l] at h
    exact h
theorem ss_while {c : TT} {tb : TS} {fc : ρ → Option Bool} {mb : ρ → Option (Res ρ ρ β)} (hc : ST c E fc) (hb : SS tb E E E s mb) : SS (tWhile c tb) E E Ec s (fun γ => whileR fc mb γ) := ⟨fun {σ F0 H0 F H L γ r D} O hE e fin => by
  obtain ⟨n, e⟩ := whileR_some e
  refine ⟨fun m σ' H' => ∃ F' L' γ', Same F F' ∧ Own F0 H0 F' H' L' [] ∧ E.r σ' F' L' γ' ∧ whileN fc mb m γ' = some r, ⟨n, F, L, γ, Same.refl _, O, hE, e⟩, ?_⟩
  rintro m σ' H' ⟨F', L', γ', sF', O', hE', e'⟩
  cases m with
  | zero => cases e'
  | succ m =>
    obtain ⟨b, e1, e2⟩ := ob_some e'
    refine hc O'.fh (Held.of O') hE' e1 fun F1 H1 s1 => ?_
    have O1 := Own.on O' s1
    rw [List.nil_append] at O1
    have sF1 := sF'.trans s1.f0
    cases b with
    | false =>
      rw [if_neg Bool.false_ne_true] at e2 ⊢
      cases e2
      exact fin _ _ _ _ sF1 O1 (E.m s1.f0 hE')
    | true =>
      rw [if_pos rfl] at e2 ⊢
      obtain ⟨r1, e3, e4⟩ := ob_some e2
      refine ⟨fun σ2 H2 => ∃ F' L' γ', Same F F' ∧ Own F0 H0 F' H2 L' [] ∧ E.r σ2 F' L' γ' ∧ whileN fc mb m γ' = some r, fun σ2 H2 h => ⟨m, by omega, h⟩, ?_⟩
      refine hb.run O1 (E.m s1.f0 hE') e3 ?_
      cases r1 with
      | nxt γ2 => exact fun σ5 F5 H5 L5 s5 O5 hE5 => ⟨F5, L5, γ2, sF1.trans s5, O5, hE5, e4⟩
      | cnt γ2 => exact fun σ5 F5 H5 L5 s5 O5 hE5 => ⟨F5, L5, γ2, sF1.trans s5, O5, hE5, e4⟩
      | brk γ2 =>
        cases e4
        exact fun σ5 F5 H5 L5 s5 O5 hE5 => fin σ5 F5 H5 L5 (sF1.trans s5) O5 hE5
      | ret b =>
        cases e4
        exact fun v F5 H5 L5 s5 O5 r5 => fin v F5 H5 L5 (sF1.trans s5) O5 r5⟩
/-! ### defs -/
/-- called with such arguments, it hands back what the mirror tells -/
def spM (A : Ar ρ) (s : Sl β) (m : ρ → Option β) : Sp := fun vs H Q _ => ∃ F γ b, Same F H ∧ A.r F vs γ ∧ m γ = some b ∧ ∀ v F' H' L, Step F H F' H' L → s.r v F' L b → Q v H'
theorem se_call {a : Ar α} {f : ρ → Option α} {m : α → Option β} {Ex : XK} (h : SA tA E a f) : SE (tCall (spM a s m) [] Ex tA) E s (fun γ => ob (f γ) m) := ⟨fun s0 hL he e k => by
  obtain ⟨x, e1, e⟩ := ob_some e
  rw [q_call]
  exact h s0 hL he e1 fun vs F1 H1 s1 r1 => ⟨F1, x, _, s1.fh, r1, e, fun v F' H' L s2 r2 => k v F' H' L (s1.tr s2) r2⟩⟩
/-- arguments and the names of a def at its start -/
structure AE (a : Ar ρ) (E : En ρ) (n : Nat) : Prop where
  run : ∀ {F : Hp} {vs : List V} {γ : ρ}, a.r F vs γ → E.r (vs.map some ++ List.replicate n none) F [] γ
theorem ae_0 : AE aN eN 0 := ⟨fun e => by
  have e : _ = [] := e
  subst e
  exact ⟨rfl, rfl⟩⟩
theorem ae_U {a : Ar Unit} {E : En Unit} {n : Nat} (ha : a = aN) (h : AE a E n) : AE a (eU E) (n + 1) := ⟨fun {F vs γ} e => by
  have h2 := h.run e
  subst ha
  have e2 : vs = [] := e
  subst e2
  exact ⟨none, List.replicate n none, rfl, h2⟩⟩
theorem ae_C {a : Ar ρ} {n : Nat} (h : AE a E n) : AE (aC A a) (eC (sF A) E) n := ⟨fun ⟨v, r, e, r1, r2⟩ => by
  subst e
  exact ⟨v, _, [], [], rfl, rfl, ⟨rfl, r1⟩, h.run r2⟩⟩
structure AN (a : Ar ρ) (n : Nat) : Prop where
  run : ∀ {F : Hp} {vs : List V} {γ : ρ}, a.r F vs γ → vs.length = n
theorem an_0 : AN aN 0 := ⟨fun e => by rw [show _ = [] from e]; rfl⟩
theorem an_C {a : Ar ρ} {n : Nat} (h : AN a n) : AN (aC A a) (n + 1) := ⟨fun ⟨v, r, e, r1, r2⟩ => by rw [e, List.length_cons, h.run r2]⟩
/-- what a def hands back -/
def fin (x : Option (Res ρ κ β)) : Option β := ob x fun r => match r with | .ret b => some b | _ => none
def finN (x : Option (Res ρ κ Unit)) : Option Unit := ob x fun r => match r with | .ret b => some b | .nxt _ => some () | _ => none
theorem fin_run {a : Ar ρ} {n k : Nat} {N : List Str} {m : ρ → Option (Res ρ' Unit β)} {mm : ρ → Option β} (hA : AE a E n) (hn : AN a k) (hN : N.length = k + n) (h : SS t E E' eN s m) (hm : mm = fun γ => fin (m γ)) {vs : List V} {H : Hp} {Q : VK} {Ex : XK} (q : spM a s mm vs H Q Ex) {D : Ends} (hD : D.rt = Q) : t D (L2.start N vs) H := by
  obtain ⟨F, γ, b, s0, r, e, k⟩ := q
  subst hm
  obtain ⟨r1, e1, e2⟩ := ob_some e
  have hl := hn.run r
  have hs : L2.start N vs = vs.map some ++ List.replicate n none := by
    unfold L2.start
    rw [show N.length - vs.length = n by omega]
  rw [hs]
  refine h.run (Own.start s0 trivial) (hA.run r) e1 ?_
  cases r1 with
  | ret b => cases e2; rw [← hD] at k; exact fun v F' H' L _ O r' => k v F' H' L O r'
  | nxt _ => cases e2
  | cnt _ => cases e2
  | brk _ => cases e2
theorem finN_run {a : Ar ρ} {n k : Nat} {N : List Str} {m : ρ → Option (Res ρ' Unit Unit)} {mm : ρ → Option Unit} (hA : AE a E n) (hn : AN a k) (hN : N.length = k + n) (h : SS t E E' eN (sF jN) m) (hm : mm = fun γ => finN (m γ)) {vs : List V} {H : Hp} {Q : VK} {Ex : XK} (q : spM a (sF jN) mm vs H Q Ex) {D : Ends} (hD : D.rt = Q) (hD2 : D.nx = fun _ H' => Q .non H') : t D (L2.start N vs) H := by
  obtain ⟨F, γ, b, s0, r, e, k⟩ := q
  subst hm
  obtain ⟨r1, e1, e2⟩ := ob_some e
  have hl := hn.run r
  have hs : L2.start N vs = vs.map some ++ List.replicate n none := by
    unfold L2.start
    rw [show N.length - vs.length = n by omega]
  rw [hs]
  refine h.run (Own.start s0 trivial) (hA.run r) e1 ?_
  cases r1 with
  | ret b => cases e2; rw [← hD] at k; exact fun v F' H' L _ O r' => k v F' H' L O r'
  | nxt _ => exact fun σ F' H' L _ O r' => by rw [hD2]; exact k .non F' H' [] (OwnSb O (Sb.nil _)) ⟨rfl, rfl⟩
  | cnt _ => cases e2
  | brk _ => cases e2
theorem spM_len {a : Ar ρ} {m : ρ → Option β} {n : Nat} (h : AN a n) : ∀ vs H Q E, spM a s m vs H Q E → vs.length = n := fun _ _ _ _ ⟨_, _, _, _, r, _⟩ => h.run r
end
end Mi

namespace Mi
open PySem PySem.Spec PyProof.Rows L2 Fw
section
variable {ρ ρ' ρ'' α β δ ε κ : Type} {E : En ρ} {E' : En ρ'} {E1 : En ρ''} {Ec : En κ} {ta tb tc te : TE} {tA : TA} {A : Rp α} {B : Rp β} {D : Rp δ} {fa : ρ → Option α} {fb : ρ → Option β} {fc : ρ → Option δ} {K : PySem.W.Frag} {s : Sl β} {t u : TS}
/-! ### things read as they stand -/
structure SR (t : TE) (E : En ρ) (R : Rp α) (f : ρ → Option α) : Prop where
  run : ∀ {σ : L2.St} {F H : Hp} {L : List (Addr × HO)} {γ : ρ} {x : α} {Q : VK}, Same F H → Held H L → E.r σ F L γ → f γ = some x → (∀ v F' H', Step F H F' H' [] → R.r H' v x → Q v H') → t σ H Q
theorem sr_var {i : Nat} {R : Rp α} {g : ρ → List α} (hg : Gt E i (sO R) g) : SR (tVar i) E (jL R) (fun γ => some (g γ)) := ⟨fun s0 hL hE e k => by
  cases e
  obtain ⟨v, L1, h1, h2, p, vs, h3, h4, h5⟩ := hg hE
  subst h3 h4
  exact ⟨_, h1, k _ _ _ (Step.nil s0) ⟨p, vs, rfl, hL _ (h2 _ List.mem_cons_self), Paired.mono (fun _ _ q => R.m s0 q) h5⟩⟩⟩
theorem sr_of (h : SE ta E (sF A) fa) : SR ta E A fa := ⟨fun s0 hL hE e k => h s0 hL hE e fun v F' H' L1 s1 ⟨z, r⟩ => by
  subst z
  exact k _ _ _ s1 (A.m s1.fh r)⟩
theorem sb_var {i : Nat} {R : Rp α} {g : ρ → List α} (hg : Gt E i (sO R) g) : SB (tVar i) E R (fun γ => some (g γ)) := ⟨fun s0 hL hE e k => by
  cases e
  obtain ⟨v, L1, h1, h2, p, vs, h3, h4, h5⟩ := hg hE
  subst h3 h4
  exact ⟨_, h1, k _ _ _ _ (Step.nil s0) (hL _ (h2 _ List.mem_cons_self)) h5⟩⟩
/-- no heap in it -/
structure Scal (R : Rp α) : Prop where
  run : ∀ {F F' : Hp} {v : V} {x : α}, R.r F v x → R.r F' v x
theorem scI : Scal jI := ⟨fun h => h⟩
theorem scB : Scal jB := ⟨fun h => h⟩
theorem scS : Scal jS := ⟨fun h => h⟩
theorem scN : Scal jN := ⟨fun h => h⟩
theorem scO {R : Rp α} (h : Scal R) : Scal (jO R) := ⟨fun {_ _ _ x} q => by
  cases x with
  | none => exact q
  | some y => exact h.run q⟩
theorem Step.of {F H F' H' : Hp} (s0 : Same F H) (s : Step H H F' H' []) : Step F H F H' [] := (Step.nil s0).more s.hh
theorem Step.scal {F H F' H' : Hp} {L : List (Addr × HO)} (s0 : Same F H) (s : Step H H F' H' L) : Step F H F H' [] := (Step.nil s0).more s.hh
theorem se_opR {r : R2} {g : α → β → Option δ} (ha : SR ta E A fa) (hb : SR tb E B fb) (hs : S2 r A B (sF D) g) (hd : Scal D) : SE (tOp r ta tb) E (sF D) (fun γ => ob (fa γ) fun x => ob (fb γ) fun y => g x y) := ⟨fun s0 hL hE e k => by
  obtain ⟨x, e1, e⟩ := ob_some e
  obtain ⟨y, e2, e⟩ := ob_some e
  refine ha.run s0 hL hE e1 fun v F1 H1 s1 r1 => ?_
  refine hb.run s1.fh (hL.mono s1.hh) (E.m s1.f0 hE) e2 fun u F2 H2 s2 r2 => ?_
  exact hs (Same.refl H2) (A.m s2.hh r1) r2 e fun z F3 H3 L3 s3 ⟨_, r3⟩ => k z F2 H3 [] ((s1.tr s2).tr (Step.scal s2.fh s3)) ⟨rfl, hd.run r3⟩⟩
structure SRA (t : TA) (E : En ρ) (A : Ar α) (f : ρ → Option α) : Prop where
  run : ∀ {σ : L2.St} {F H : Hp} {L : List (Addr × HO)} {γ : ρ} {x : α} {Q : List V → Hp → Prop}, Same F H → Held H L → E.r σ F L γ → f γ = some x → (∀ vs F' H', Step F H F' H' [] → A.r H' vs x → Q vs H') → t σ H Q
theorem sra_nil : SRA tNil E aN (fun _ => some ()) := ⟨fun s0 _ _ e k => k _ _ _ (Step.nil s0) rfl⟩
theorem sra_cons {tr : TA} {T : Ar β} {fr : ρ → Option β} (ha : SR ta E A fa) (hr : SRA tr E T fr) : SRA (tCons ta tr) E (aC A T) (fun γ => ob (fa γ) fun x => ob (fr γ) fun y => some (x, y)) := ⟨fun s0 hL hE e k => by
  obtain ⟨x, e1, e⟩ := ob_some e
  obtain ⟨y, e2, e⟩ := ob_some e
  cases e
  refine ha.run s0 hL hE e1 fun v F1 H1 s1 r1 => ?_
  exact hr.run s1.fh (hL.mono s1.hh) (E.m s1.f0 hE) e2 fun vs F2 H2 s2 r2 => k _ _ _ (s1.tr s2) ⟨v, vs, rfl, A.m s2.hh r1, r2⟩⟩
theorem se_cbR {r : List V → Hp → VK → Prop} {a : Ar α} {g : α → Option δ} {f : ρ → Option α} (h : SRA tA E a f) (hs : SC r a (sF D) g) (hd : Scal D) : SE (tCB r tA) E (sF D) (fun γ => ob (f γ) g) := ⟨fun s0 hL he e k => by
  obtain ⟨x, e1, e⟩ := ob_some e
  refine h.run s0 hL he e1 fun vs F1 H1 s1 r1 => ?_
  exact hs.run (Same.refl H1) r1 e fun z F5 H5 L5 s5 ⟨_, r5⟩ => k z F1 H5 [] (s1.tr (Step.scal s1.fh s5)) ⟨rfl, hd.run r5⟩⟩
theorem se_callR {a : Ar α} {f : ρ → Option α} {m : α → Option δ} {Ex : XK} (h : SRA tA E a f) (hd : Scal D) : SE (tCall (spM a (sF D) m) [] Ex tA) E (sF D) (fun γ => ob (f γ) m) := ⟨fun s0 hL he e k => by
  obtain ⟨x, e1, e⟩ := ob_some e
  rw [q_call]
  exact h.run s0 hL he e1 fun vs F1 H1 s1 r1 => ⟨H1, x, _, Same.refl _, r1, e, fun v F' H' L s2 ⟨_, r2⟩ => k v F1 H' [] (s1.tr (Step.scal s1.fh s2)) ⟨rfl, hd.run r2⟩⟩⟩
/-- an own list's item -/
theorem se_ixB {fa : ρ → Option (List α)} {fi : ρ → Option Int} (ha : SB ta E A fa) (hb : SE tb E (sF jI) fi) : SE (tOp (rIxL K) ta tb) E (sF A) (fun γ => ob (fa γ) fun x => ob (fi γ) fun y => pat x y) := ⟨fun s0 hL hE e k => by
  obtain ⟨x, e1, e⟩ := ob_some e
  obtain ⟨y, e2, e⟩ := ob_some e
  refine ha s0 hL hE e1 fun a vs F1 H1 s1 h1 p => ?_
  refine hb s1.fh (hL.mono s1.hh) (E.m s1.f0 hE) e2 fun u F2 H2 L2 s2 ⟨z2, r2⟩ => ?_
  subst z2
  obtain ⟨v, h2, h3⟩ := pat_paired p e
  exact ⟨a, vs, y, v, rfl, r2, .inl (.inl (s2.hh _ _ h1)), h2, k _ _ _ [] (s1.tr s2) ⟨rfl, A.m s2.f0 h3⟩⟩⟩
/-! truth of a list -/
theorem st_truR {fa : ρ → Option (List α)} (ha : SR ta E (jL A) fa) : ST (fun σ H Q => ta σ H fun x H' => ∃ k, TruV K x H' k ∧ Q k H') E (fun γ => ob (fa γ) fun x => some (!x.isEmpty)) := ⟨fun s0 hL hE e k => by
  obtain ⟨x, e1, e⟩ := ob_some e
  cases e
  refine ha.run s0 hL hE e1 fun v F1 H1 s1 ⟨a, vs, r1, r2, p⟩ => ?_
  subst r1
  refine ⟨_, .inl ⟨vs, .inl (.inl r2), rfl⟩, ?_⟩
  have : vs.isEmpty = x.isEmpty := by
    have := Paired.len p
    cases vs <;> cases x <;> first | rfl | cases this
  rw [this]
  exact k _ _ s1⟩
/-! ### equality of data -/
structure Eqr (R : Rp α) (n : Nat) (dt : α → PyData) [DecidableEq α] : Prop where
  dp : ∀ {K : PySem.W.Frag} {F : Hp} {v : V} {x : α}, R.r F v x → Dp K F v (dt x)
  sh : ∀ {F : Hp} {v : V} {x : α}, R.r F v x → PyData.canLay0 (dt x) = true
  dep : ∀ x, (dt x).depth ≤ n
  eq : ∀ x y, PyData.eqv (dt x) (dt y) = decide (x = y)
theorem qI : Eqr jI 0 PyData.int := ⟨fun {_ _ v x} h => by rw [show v = .int x from h]; exact .int x, fun _ => rfl, fun _ => Nat.le_refl _, fun x y => by
  show (x == y) = _
  rw [Bool.eq_iff_iff, beq_iff_eq, decide_eq_true_iff]⟩
theorem qB : Eqr jB 0 PyData.bool := ⟨fun {_ _ v x} h => by rw [show v = .bl x from h]; exact .bl x, fun _ => rfl, fun _ => Nat.le_refl _, fun x y => by
  show (x == y) = _
  rw [Bool.eq_iff_iff, beq_iff_eq, decide_eq_true_iff]⟩
theorem qS : Eqr jS 0 (fun l => PyData.str (S l)) := ⟨fun {_ _ v x} h => by rw [show v = vS x from h.1]; exact .str _, fun {_ _ x} h => by
  show PyData.strOk (S x) = true
  unfold PyData.strOk
  rw [Array.all_eq_true']
  intro c hc
  exact decide_eq_true (h.2 c (by simpa [S] using hc)), fun _ => Nat.le_refl _, fun x y => by
  show (S x == S y) = _
  rw [Bool.eq_iff_iff, beq_iff_eq, decide_eq_true_iff]
  exact S_inj⟩
theorem qN : Eqr jN 0 (fun _ => PyData.none) := ⟨fun {_ _ v x} h => by rw [show v = .non from h]; exact .non, fun _ => rfl, fun _ => Nat.le_refl _, fun x y => by
  show true = _
  rw [Bool.eq_iff_iff, decide_eq_true_iff]
  exact ⟨fun _ => rfl, fun _ => rfl⟩⟩
section
variable [DecidableEq α] [DecidableEq ρ'] {n m : Nat} {dt : α → PyData} {R : Rp α}
theorem q_all (h : Eqr R n dt) : ∀ xs ys : List α, PyData.eqvAll (xs.map dt) (ys.map dt) = decide (xs = ys)
  | [], [] => rfl
  | [], y :: ys => rfl
  | x :: xs, [] => rfl
  | x :: xs, y :: ys => by
    show (PyData.eqv (dt x) (dt y) && PyData.eqvAll (xs.map dt) (ys.map dt)) = _
    rw [h.eq, q_all h xs ys]
    rw [Bool.eq_iff_iff, Bool.and_eq_true, decide_eq_true_iff, decide_eq_true_iff, decide_eq_true_iff, List.cons.injEq]
theorem q_can (h : Eqr R n dt) {F : Hp} : ∀ {vs : List V} {xs : List α}, Paired (R.r F) vs xs → PyData.canLayAll0 (xs.map dt) = true
  | _, _, .nil => rfl
  | _, x :: xs, .cons r t => by
    show (PyData.canLay0 (dt x) && PyData.canLayAll0 (xs.map dt)) = true
    rw [h.sh r, q_can h t]
    rfl
theorem q_dep (h : Eqr R n dt) : ∀ xs : List α, PyData.depthAll (xs.map dt) ≤ n
  | [] => Nat.zero_le _
  | x :: xs => by
    show max (dt x).depth (PyData.depthAll (xs.map dt)) ≤ n
    have := h.dep x
    have := q_dep h xs
    omega
theorem q_dps (h : Eqr R n dt) {K : PySem.W.Frag} {F : Hp} : ∀ {vs : List V} {xs : List α}, Paired (R.r F) vs xs → DpAll K F vs (xs.map dt)
  | _, _, .nil => .nil
  | _, _, .cons r t => .cons (h.dp r) (q_dps h t)
theorem qL (h : Eqr R n dt) : Eqr (jL R) (n + 1) (fun xs => PyData.list (xs.map dt)) := ⟨fun ⟨a, vs, e, h1, p⟩ => by
  rw [e]
  exact .lst (.inl (.inl h1)) (q_dps h p), fun ⟨_, _, _, _, p⟩ => q_can h p, fun xs => by
    show PyData.depthAll (xs.map dt) + 1 ≤ n + 1
    have := q_dep h xs
    omega, q_all h⟩
structure EqT (T : Tp ρ') (n : Nat) (dt : ρ' → List PyData) : Prop where
  dp : ∀ {K : PySem.W.Frag} {F : Hp} {vs : List V} {x : ρ'}, T.r F vs x → DpAll K F vs (dt x)
  sh : ∀ {F : Hp} {vs : List V} {x : ρ'}, T.r F vs x → PyData.canLayAll0 (dt x) = true
  dep : ∀ x, PyData.depthAll (dt x) ≤ n
  eq : ∀ x y, PyData.eqvAll (dt x) (dt y) = decide (x = y)
theorem q1 (h : Eqr R n dt) : EqT (y1 R) n (fun x => [dt x]) := ⟨fun ⟨v, e, r⟩ => by rw [e]; exact .cons (h.dp r) .nil, fun {_ _ x} ⟨v, e, r⟩ => by
  show (PyData.canLay0 (dt x) && true) = true
  rw [h.sh r]; rfl, fun x => by
  show max (dt x).depth 0 ≤ n
  have := h.dep x
  omega, fun x y => by
  show (PyData.eqv (dt x) (dt y) && true) = _
  rw [h.eq, Bool.and_true]⟩
theorem qC {T : Tp ρ'} {dts : ρ' → List PyData} (h : Eqr R n dt) (ht : EqT T m dts) : EqT (yC R T) (max n m) (fun x => dt x.1 :: dts x.2) := ⟨fun ⟨v, r, e, r1, r2⟩ => by rw [e]; exact .cons (h.dp r1) (ht.dp r2), fun {_ _ x} ⟨v, r, e, r1, r2⟩ => by
  show (PyData.canLay0 (dt x.1) && PyData.canLayAll0 (dts x.2)) = true
  rw [h.sh r1, ht.sh r2]; rfl, fun x => by
  show max (dt x.1).depth (PyData.depthAll (dts x.2)) ≤ max n m
  have := h.dep x.1
  have := ht.dep x.2
  omega, fun x y => by
  show (PyData.eqv (dt x.1) (dt y.1) && PyData.eqvAll (dts x.2) (dts y.2)) = _
  rw [h.eq, ht.eq, Bool.eq_iff_iff, Bool.and_eq_true, decide_eq_true_iff, decide_eq_true_iff, decide_eq_true_iff]
  exact ⟨fun ⟨a, b⟩ => Prod.ext a b, fun a => by rw [a]; exact ⟨rfl, rfl⟩⟩⟩
theorem qT {T : Tp ρ'} {dts : ρ' → List PyData} (ht : EqT T m dts) : Eqr (jT T) (m + 1) (fun x => PyData.tuple (dts x)) := ⟨fun ⟨a, vs, e, h1, p⟩ => by
  rw [e]
  exact .tup (.inl (.inl h1)) (ht.dp p), fun ⟨_, _, _, _, p⟩ => ht.sh p, fun x => by
    show PyData.depthAll (dts x) + 1 ≤ m + 1
    have := ht.dep x
    omega, ht.eq⟩
/-- none against data that is no none -/
structure NoN (R : Rp α) (n : Nat) (dt : α → PyData) [DecidableEq α] : Prop extends Eqr R n dt where
  nn : ∀ x, PyData.eqv PyData.none (dt x) = false ∧ PyData.eqv (dt x) PyData.none = false
theorem qO (h : NoN R n dt) : Eqr (jO R) n (fun x => match x with | none => PyData.none | some y => dt y) := ⟨fun {_ _ _ x} r => by
  cases x with
  | none => rw [show _ = V.non from r]; exact .non
  | some y => exact h.dp r, fun {_ _ x} r => by
    cases x with
    | none => rfl
    | some y => exact h.sh r, fun x => by
    cases x with
    | none => exact Nat.zero_le _
    | some y => exact h.dep y, fun x y => by
    cases x with
    | none => cases y with
      | none => rfl
      | some y => rw [show decide (none = some y) = false from rfl]; exact (h.nn y).1
    | some x => cases y with
      | none => rw [show decide (some x = none) = false from rfl]; exact (h.nn x).2
      | some y =>
        show PyData.eqv (dt x) (dt y) = _
        rw [h.eq, Bool.eq_iff_iff, decide_eq_true_iff, decide_eq_true_iff, Option.some.injEq]⟩
theorem nnI : NoN jI 0 PyData.int := ⟨qI, fun _ => ⟨rfl, rfl⟩⟩
theorem nnT {T : Tp ρ'} {dts : ρ' → List PyData} (ht : EqT T m dts) : NoN (jT T) (m + 1) (fun x => PyData.tuple (dts x)) := ⟨qT ht, fun _ => ⟨rfl, rfl⟩⟩
theorem shp (h : Eqr R n dt) (hn : n ≤ 64) {F : Hp} {v : V} {x : α} (r : R.r F v x) : SeqAt.shaped (dt x) = true := by
  unfold SeqAt.shaped
  refine Bool.and_eq_true_iff.mpr ⟨h.sh r, decide_eq_true ?_⟩
  have := h.dep x
  omega
theorem s2_eqD (h : Eqr R n dt) (hn : n ≤ 64 := by decide) : S2 (rEqD K) R R (sF jB) (fun x y => some (decide (x = y))) := ⟨fun s0 r1 r2 e k => by
  cases e
  exact ⟨_, _, Dp.mono s0 _ _ (h.dp r1), Dp.mono s0 _ _ (h.dp r2), shp h hn r1, shp h hn r2, by rw [h.eq]; exact k _ _ _ [] (Step.nil s0) ⟨rfl, rfl⟩⟩⟩
theorem s2_neD (h : Eqr R n dt) (hn : n ≤ 64 := by decide) : S2 (rNeD K) R R (sF jB) (fun x y => some (!decide (x = y))) := ⟨fun s0 r1 r2 e k => by
  cases e
  exact ⟨_, _, Dp.mono s0 _ _ (h.dp r1), Dp.mono s0 _ _ (h.dp r2), shp h hn r1, shp h hn r2, by rw [h.eq]; exact k _ _ _ [] (Step.nil s0) ⟨rfl, rfl⟩⟩⟩
theorem any_dec (h : Eqr R n dt) (x : α) : ∀ ys : List α, ((ys.map dt).any fun z => PyData.eqv z (dt x)) = decide (x ∈ ys)
  | [] => rfl
  | y :: ys => by
    rw [List.map_cons, List.any_cons, any_dec h x ys, h.eq, Bool.eq_iff_iff, Bool.or_eq_true, decide_eq_true_iff, decide_eq_true_iff, decide_eq_true_iff, List.mem_cons]
    exact ⟨fun q => q.elim (fun a => .inl a.symm) .inr, fun q => q.elim (fun a => .inl a.symm) .inr⟩
theorem s2_inD (h : Eqr R n dt) (hn : n ≤ 63 := by decide) : S2 (rInD K) R (jL R) (sF jB) (fun x ys => some (decide (x ∈ ys))) := ⟨fun s0 r1 r2 e k => by
  cases e
  exact ⟨_, _, Dp.mono s0 _ _ (h.dp r1), Dp.mono s0 _ _ ((qL h).dp r2), shp h (by omega) r1, shp (qL h) (by omega) r2, by rw [any_dec h]; exact k _ _ _ [] (Step.nil s0) ⟨rfl, rfl⟩⟩⟩
theorem s2_notInD (h : Eqr R n dt) (hn : n ≤ 63 := by decide) : S2 (rNotInD K) R (jL R) (sF jB) (fun x ys => some (!decide (x ∈ ys))) := ⟨fun s0 r1 r2 e k => by
  cases e
  exact ⟨_, _, Dp.mono s0 _ _ (h.dp r1), Dp.mono s0 _ _ ((qL h).dp r2), shp h (by omega) r1, shp (qL h) (by omega) r2, by rw [any_dec h]; exact k _ _ _ [] (Step.nil s0) ⟨rfl, rfl⟩⟩⟩
end
/-! none -/
/-- never none -/
structure NN (R : Rp α) : Prop where
  run : ∀ {F : Hp} {v : V} {x : α}, R.r F v x → v ≠ .non
theorem oI : NN jI := ⟨fun h e => by rw [show _ = V.int _ from h] at e; cases e⟩
theorem oS : NN jS := ⟨fun h e => by rw [show _ = V.str _ from h.1] at e; cases e⟩
theorem oT {T : Tp α} : NN (jT T) := ⟨fun ⟨_, _, h, _⟩ e => by rw [h] at e; cases e⟩
theorem oL : NN (jL A) := ⟨fun ⟨_, _, h, _⟩ e => by rw [h] at e; cases e⟩
theorem s2_isN (h : NN A) : S2 rIsN (jO A) jN (sF jB) (fun x _ => some x.isNone) := ⟨fun {_ _ v _ x _ _ _} s0 r1 r2 e k => by
  cases e
  refine ⟨r2, ?_⟩
  have : decide (v = V.non) = x.isNone := by
    cases x with
    | none => exact decide_eq_true r1
    | some y => exact decide_eq_false (h.run r1)
  rw [this]
  exact k _ _ _ [] (Step.nil s0) ⟨rfl, rfl⟩⟩
theorem s2_notN (h : NN A) : S2 rNotN (jO A) jN (sF jB) (fun x _ => some x.isSome) := ⟨fun {_ _ v _ x _ _ _} s0 r1 r2 e k => by
  cases e
  refine ⟨r2, ?_⟩
  have : (!decide (v = V.non)) = x.isSome := by
    cases x with
    | none => rw [show v = V.non from r1]; rfl
    | some y => rw [decide_eq_false (h.run r1)]; rfl
  rw [this]
  exact k _ _ _ [] (Step.nil s0) ⟨rfl, rfl⟩⟩
/-! numbers -/
abbrev PShl (i j : Int) : Prop := 0 ≤ j ∧ (Builtin.Int.intBits i : Int) + j ≤ 134217728
theorem s2_shl : S2 (rI CShl fun i j => .int (i * 2 ^ j.toNat)) jI jI (sF jI) (fun x y => pck (PShl x y) (x * 2 ^ y.toNat)) := s2_I (P := PShl) (f := fun i j => i * 2 ^ j.toNat) fun _ _ h => h
/-- the text of a number -/
def pstr (i : Int) : Option (List Nat) := pck (0 ≤ i ∧ i < 100000000000000000000) (TL.numL i.toNat)
theorem sc_strN : SC rStr (aC jI aN) (sF jS) (fun x => pstr x.1) := ⟨fun {_ _ _ a _ _} s0 ⟨v, r, e1, r1, e2⟩ e k => by
  subst e1 e2
  unfold pstr at e
  obtain ⟨p, rfl⟩ := pck_some e
  have : v = V.int ((a.1.toNat : Nat) : Int) := by rw [show v = .int a.1 from r1, Int.toNat_of_nonneg p.1]
  subst this
  exact w_strN (k _ _ _ [] (Step.nil s0) ⟨rfl, rfl, fun c hc => by have := TL.numL_digits _ c hc; omega⟩) (by omega)⟩
/-- xs.index(y), numbers -/
def plidx (xs : List Int) (y : Int) : Option Int := pck (y ∈ xs) (xs.idxOf y : Int)
theorem flat_ints (ys : List Int) : (ys.map V.int).all flatV = true := by
  induction ys with
  | nil => rfl
  | cons y ys ih => exact ih
theorem s2_lidx : S2 (fun x y => rIndex K x [y]) (jL jI) jI (sF jI) (fun x y => plidx x y) := ⟨fun {_ _ _ _ xs y _ _} s0 ⟨a, vs, e1, h, p⟩ r2 e k => by
  unfold plidx at e
  obtain ⟨hm, rfl⟩ := pck_some e
  have ev := ints_of p
  subst e1 ev
  have hlt : xs.idxOf y < xs.length := List.idxOf_lt_length_of_mem hm
  refine ⟨a, xs.map V.int, .int y, xs.idxOf y, .int y, rfl, by rw [show _ = V.int y from r2], .inl (.inl (s0 _ _ h)), rfl, flat_ints _, ?_, ?_, fun m z' hm' hz => ?_, k _ _ _ [] (Step.nil s0) ⟨rfl, rfl⟩⟩
  · rw [List.getElem?_map, List.getElem?_eq_getElem hlt, List.getElem_idxOf hlt]
    rfl
  · show (decide (y = y)) = true
    exact decide_eq_true rfl
  · rw [List.getElem?_map] at hz
    cases hx : xs[m]? with
    | none => rw [hx] at hz; cases hz
    | some w =>
      rw [hx] at hz
      cases hz
      show decide (w = y) = false
      have := List.not_of_lt_findIdx (p := (· == y)) (xs := xs) (i := m) hm'
      obtain ⟨hl, hg⟩ := List.getElem?_eq_some_iff.mp hx
      simp only [hg] at this
      exact decide_eq_false fun z => by rw [z, beq_self_eq_true] at this; cases this⟩
/-- a list's method with one argument, by value -/
theorem se_bm {T : String} {r : V → List V → Hp → VK → Prop} {g : α → β → Option δ} {s : Sl δ} (ha : SE ta E (sF A) fa) (hb : SE tb E (sF B) fb) (hs : S2 (fun x y => r x [y]) A B s g) (ht : ∀ {F H v x}, Same F H → A.r F v x → tyV K T v H) : SE (tBM K T r ta (tCons tb tNil)) E s (fun γ => ob (fa γ) fun x => ob (fb γ) fun y => g x y) := ⟨fun s0 hL he e k => by
  obtain ⟨x, e1, e⟩ := ob_some e
  obtain ⟨y, e2, e⟩ := ob_some e
  refine ha s0 hL he e1 fun v F1 H1 L1 s1 ⟨z1, r1⟩ => ?_
  subst z1
  refine ⟨ht s1.fh r1, ?_⟩
  refine hb s1.fh (hL.mono s1.hh) (E.m s1.f0 he) e2 fun u F2 H2 L2 s2 ⟨z2, r2⟩ => ?_
  subst z2
  exact hs s2.fh (A.m s2.f0 r1) r2 e fun z F3 H3 L3 s3 r3 => k z F3 H3 L3 (s1.tr (s2.tr s3)) r3⟩
theorem tyV_L {F H : Hp} {v : V} {x : List α} (s0 : Same F H) (h : (jL A).r F v x) : tyV K "list" v H := by
  obtain ⟨a, vs, e, h, _⟩ := h
  rw [e]
  exact .inl ⟨rfl, vs, .inl (.inl (s0 _ _ h))⟩
theorem se_lidx {fa : ρ → Option (List Int)} {fb : ρ → Option Int} (ha : SE ta E (sF (jL jI)) fa) (hb : SE tb E (sF jI) fb) : SE (tBM K "list" (rIndex K) ta (tCons tb tNil)) E (sF jI) (fun γ => ob (fa γ) fun x => ob (fb γ) fun y => plidx x y) := se_bm ha hb s2_lidx tyV_L
theorem s2_lcount : S2 (fun x y => rCntI K x [y]) (jL jI) jI (sF jI) (fun x y => some ((x.count y : Nat) : Int)) := ⟨fun {_ _ _ _ xs y _ _} s0 ⟨a, vs, e1, h, p⟩ r2 e k => by
  cases e
  have ev := ints_of p
  subst e1 ev
  exact ⟨a, xs, y, rfl, by rw [show _ = V.int y from r2], .inl (.inl (s0 _ _ h)), k _ _ _ [] (Step.nil s0) ⟨rfl, rfl⟩⟩⟩
theorem se_lcount {fa : ρ → Option (List Int)} {fb : ρ → Option Int} (ha : SE ta E (sF (jL jI)) fa) (hb : SE tb E (sF jI) fb) : SE (tBM K "list" (rCntI K) ta (tCons tb tNil)) E (sF jI) (fun γ => ob (fa γ) fun x => ob (fb γ) fun y => some ((x.count y : Nat) : Int)) := se_bm ha hb s2_lcount tyV_L
end
end Mi

namespace Mi
open PySem PySem.Spec PyProof.Rows L2 Fw
/-! ### own rows behind a list that stays -/
def rowsL : List Addr → List (List V) → List (Addr × HO)
  | p :: ps, r :: rs => (p, .lst r) :: rowsL ps rs
  | _, _ => []
theorem rowsL_len : ∀ {ps : List Addr} {rs : List (List V)}, ps.length = rs.length → (rowsL ps rs).length = rs.length
  | [], [], _ => rfl
  | p :: ps, r :: rs, h => by
    show (rowsL ps rs).length + 1 = rs.length + 1
    rw [rowsL_len (Nat.succ.inj h)]
  | [], _ :: _, h => nomatch h
  | _ :: _, [], h => nomatch h
theorem rowsL_get : ∀ {ps : List Addr} {rs : List (List V)} {k : Nat} {p : Addr} {r : List V}, ps[k]? = some p → rs[k]? = some r → (rowsL ps rs)[k]? = some (p, .lst r)
  | p :: ps, r :: rs, 0, _, _, h1, h2 => by
    have e1 := Option.some.inj h1
    have e2 := Option.some.inj h2
    rw [← e1, ← e2]
    rfl
  | p :: ps, r :: rs, k + 1, _, _, h1, h2 => rowsL_get (k := k) h1 h2
  | [], _, _, _, _, h1, _ => by simp at h1
  | _ :: _, [], _, _, _, _, h2 => by simp at h2
theorem rowsL_set : ∀ {ps : List Addr} {rs : List (List V)} {k : Nat} {p : Addr} {r : List V}, ps[k]? = some p → (rowsL ps rs).set k (p, .lst r) = rowsL ps (rs.set k r)
  | p :: ps, r :: rs, 0, _, _, h1 => by
    have e1 := Option.some.inj h1
    rw [← e1]
    rfl
  | p :: ps, r :: rs, k + 1, _, r', h1 => by
    show _ :: (rowsL ps rs).set k _ = _ :: rowsL ps (rs.set k r')
    rw [rowsL_set (k := k) h1]
  | [], _, _, _, _, h1 => by simp at h1
  | _ :: _, [], _, _, _, _ => rfl
def sG {α : Type} (R : Rp α) : Sl (List (List α)) := ⟨fun v F L xss => ∃ (p : Addr) (ps : List Addr) (rows : List (List V)), v = .ref p ∧ F p = some (.lst (ps.map V.ref)) ∧ ps.length = rows.length ∧ L = rowsL ps rows ∧ Paired (Paired (R.r F)) rows xss,
  fun s ⟨p, ps, rows, h1, h2, h3, h4, h5⟩ => ⟨p, ps, rows, h1, s _ _ h2, h3, h4, Paired.mono (fun _ _ q => Paired.mono (fun _ _ q => R.m s q) q) h5⟩⟩
section
variable {ρ ρ' ρ'' α β δ ε κ : Type} {E : En ρ} {E' : En ρ'} {E1 : En ρ''} {Ec : En κ} {ta tb tc te ti tj : TE} {tA : TA} {R : Rp α} {B : Rp β} {D : Rp δ} {K : PySem.W.Frag} {s : Sl β} {s' : Sl δ} {t u : TS}
/-- xss[i][j] -/
def pcell {τ : Type} (xss : List (List τ)) (i j : Int) : Option τ := ob (pat xss i) fun xs => pat xs j
/-- xss with the cell set -/
def pcset {τ : Type} (xss : List (List τ)) (i j : Int) (x : τ) : Option (List (List τ)) := ob (pat xss i) fun xs => ob (pset xs j x) fun ys => pset xss i ys
theorem pat_ix {τ : Type} {xs : List τ} {i : Int} {x : τ} (h : pat xs i = some x) : ∃ k, ixN xs.length i = some k ∧ xs[k]? = some x := by
  unfold pat atI at h
  cases hj : ixN xs.length i with
  | none => rw [hj] at h; cases h
  | some j => rw [hj] at h; exact ⟨j, rfl, h⟩
theorem paired_left {A : α → β → Prop} : ∀ {xs : List α} {ys : List β} {i : Nat} {x : α}, Paired A xs ys → xs[i]? = some x → ∃ y, ys[i]? = some y ∧ A x y
  | _, _, _, _, .nil, e => by simp at e
  | _, _, 0, _, .cons r _, e => by
    have e2 := Option.some.inj e
    rw [← e2]
    exact ⟨_, rfl, r⟩
  | _, _, i + 1, _, .cons _ t, e => paired_left (i := i) t e
theorem row_at {F H : Hp} {ps : List Addr} {rows : List (List V)} {xss : List (List α)} {i : Int} {xs : List α} (hl : ps.length = rows.length) (hp : Paired (Paired (R.r F)) rows xss) (h : pat xss i = some xs) :
    ∃ k q row, ixN xss.length i = some k ∧ ps[k]? = some q ∧ rows[k]? = some row ∧ atI (ps.map V.ref) i = some (.ref q) ∧ Paired (R.r F) row xs := by
  obtain ⟨k, h1, h2⟩ := pat_ix h
  obtain ⟨row, h3, h4⟩ := Paired.at hp h2
  have hk : k < ps.length := by
    have := (List.getElem?_eq_some_iff.mp h3).1
    omega
  refine ⟨k, ps[k], row, h1, List.getElem?_eq_getElem hk, h3, ?_, h4⟩
  unfold atI
  rw [List.length_map, hl, Paired.len hp, h1]
  show (ps.map V.ref)[k]? = _
  rw [List.getElem?_map, List.getElem?_eq_getElem hk]
  rfl
theorem se_cell {i : Nat} {g : ρ → List (List α)} {fi fj : ρ → Option Int} (hg : Gt E i (sG R) g) (hi : SE ti E (sF jI) fi) (hj : SE tj E (sF jI) fj) : SE (tOp (rIxL K) (tOp (rIxL K) (tVar i) ti) tj) E (sF R) (fun γ => ob (fi γ) fun x => ob (fj γ) fun y => pcell (g γ) x y) := ⟨fun s0 hL hE e k => by
  obtain ⟨x, e1, e⟩ := ob_some e
  obtain ⟨y, e2, e⟩ := ob_some e
  obtain ⟨xs, e3, e4⟩ := ob_some e
  obtain ⟨v, L1, h1, h2, p, ps, rows, h3, h4, h5, h6, h7⟩ := hg hE
  subst h3 h6
  obtain ⟨kk, q, row, z1, z2, z3, z4, z5⟩ := row_at (H := (fun _ => none)) h5 h7 e3
  refine ⟨_, h1, ?_⟩
  refine hi s0 hL hE e1 fun w F1 H1 L1 s1 ⟨y1, r1⟩ => ?_
  subst y1
  refine ⟨p, ps.map V.ref, x, .ref q, rfl, r1, .inl (.inl (s1.fh _ _ (s1.f0 _ _ h4))), z4, ?_⟩
  refine hj s1.fh (hL.mono s1.hh) (E.m s1.f0 hE) e2 fun w2 F2 H2 L2 s2 ⟨y2, r2⟩ => ?_
  subst y2
  obtain ⟨c, c1, c2⟩ := pat_paired z5 e4
  have hq := hL _ (h2 _ (List.mem_of_getElem? (rowsL_get z2 z3)))
  exact ⟨q, row, y, c, rfl, r2, .inl (.inl (s2.hh _ _ (s1.hh _ _ hq))), c1, k _ _ _ [] (s1.tr s2) ⟨rfl, R.m (s1.f0.trans s2.f0) c2⟩⟩⟩
/-- own rows are changed -/
structure UpG (E : En ρ) (i : Nat) (R : Rp α) (g : ρ → List (List α)) (up : List (List α) → ρ → ρ) : Prop where
  run : ∀ {σ : L2.St} {F : Hp} {L : List (Addr × HO)} {γ : ρ}, E.r σ F L γ → ∃ (p : Addr) (ps : List Addr) (rows : List (List V)) (off : Nat), σ[i]? = some (some (.ref p)) ∧ F p = some (.lst (ps.map V.ref)) ∧ ps.length = rows.length ∧ Paired (Paired (R.r F)) rows (g γ) ∧
    (∀ (k : Nat) (q : Addr) (row : List V), ps[k]? = some q → rows[k]? = some row → L[off + k]? = some (q, .lst row)) ∧
    ∀ (F' : Hp) (k : Nat) (q : Addr) (row' : List V) (xs' : List α), Same F F' → ps[k]? = some q → Paired (R.r F') row' xs' → E.r σ F' (L.set (off + k) (q, .lst row')) (up ((g γ).set k xs') γ)
theorem v0 : UpG (eC (sG R) E) 0 R (fun γ => γ.1) (fun xs γ => (xs, γ.2)) := ⟨fun ⟨v', σ', La, L2, e1, e2, ⟨p, ps, rows, h1, h2, h3, h4, h5⟩, t⟩ => by
  subst e1 e2 h1 h4
  refine ⟨p, ps, rows, 0, rfl, h2, h3, h5, fun k q row a b => ?_, fun F' k q row' xs' sF a b => ?_⟩
  · rw [Nat.zero_add, List.getElem?_append_left (by rw [rowsL_len h3]; exact (List.getElem?_eq_some_iff.mp b).1)]
    exact rowsL_get a b
  · have hk : k < (rowsL ps rows).length := by rw [rowsL_len h3, ← h3]; exact (List.getElem?_eq_some_iff.mp a).1
    rw [Nat.zero_add, List.set_append_left _ _ hk, rowsL_set a]
    exact ⟨.ref p, σ', _, L2, rfl, rfl, ⟨p, ps, rows.set k row', rfl, sF _ _ h2, by rw [List.length_set, h3], rfl, Paired.upd b k (Paired.mono (fun _ _ q => Paired.mono (fun _ _ q => R.m sF q) q) h5)⟩, E.m sF t⟩⟩
theorem vU {i : Nat} {g : ρ → List (List α)} {up : List (List α) → ρ → ρ} (h : UpG E i R g up) : UpG (eU E) (i + 1) R g up := ⟨fun ⟨o, σ', e, t⟩ => by
  subst e
  obtain ⟨p, ps, rows, off, h1, h2, h3, h4, h5, h6⟩ := h.run t
  exact ⟨p, ps, rows, off, h1, h2, h3, h4, h5, fun F' k q row' xs' sF a b => ⟨o, σ', rfl, h6 F' k q row' xs' sF a b⟩⟩⟩
theorem vS {i : Nat} {g : ρ → List (List α)} {up : List (List α) → ρ → ρ} (h : UpG E i R g up) : UpG (eC s' E) (i + 1) R (fun γ => g γ.2) (fun xs γ => (γ.1, up xs γ.2)) := ⟨fun ⟨v', σ', La, L2, e1, e2, q0, t⟩ => by
  subst e1 e2
  obtain ⟨p, ps, rows, off, h1, h2, h3, h4, h5, h6⟩ := h.run t
  refine ⟨p, ps, rows, La.length + off, h1, h2, h3, h4, fun k q row a b => ?_, fun F' k q row' xs' sF a b => ?_⟩
  · rw [List.getElem?_append_right (by omega), show La.length + off + k - La.length = off + k by omega]
    exact h5 k q row a b
  · rw [List.set_append_right _ _ (by omega), show La.length + off + k - La.length = off + k by omega]
    exact ⟨v', σ', La, _, rfl, rfl, s'.m sF q0, h6 F' k q row' xs' sF a b⟩⟩
theorem ss_cell {i : Nat} {g : ρ → List (List α)} {up : List (List α) → ρ → ρ} {fe : ρ → Option α} {fi fj : ρ → Option Int} {m : ρ → Option (Res ρ' κ β)} (hu' : UpG E i R g up) (he : SE te E (sF R) fe) (hi : SE ti E (sF jI) fi) (hj : SE tj E (sF jI) fj) (hu : SS u E E' Ec s m) :
    SS (tSeq (tAsg te (gSub (tOp (rIxL K) (tVar i) ti) tj rSetL)) u) E E' Ec s (fun γ => ob (fe γ) fun y => ob (fi γ) fun a => ob (fj γ) fun b => ob (pcset (g γ) a b y) fun ys => m (up ys γ)) := ⟨fun O hE e fin => by
  obtain ⟨x, e1, e⟩ := ob_some e
  obtain ⟨a, e2, e⟩ := ob_some e
  obtain ⟨b, e3, e⟩ := ob_some e
  obtain ⟨yss, e4, e⟩ := ob_some e
  obtain ⟨xs, e5, e6⟩ := ob_some e4
  obtain ⟨ys, e7, e8⟩ := ob_some e6
  refine he O.fh (Held.of O) hE e1 fun v F1 H1 L1 s1 ⟨z1, r1⟩ => ?_
  subst z1
  have O1 := Own.on O s1
  rw [List.nil_append] at O1
  obtain ⟨p, ps, rows, off, h1, h2, h3, h4, h5, h6⟩ := hu'.run (E.m s1.f0 hE)
  obtain ⟨kk, q, row, y1, y2, y3, y4, y5⟩ := row_at (H := fun _ => none) h3 h4 e5
  refine ⟨_, h1, ?_⟩
  refine hi O1.fh (Held.of O1) (E.m s1.f0 hE) e2 fun w F2 H2 L2 s2 ⟨z2, r2⟩ => ?_
  subst z2
  have O2 := Own.on O1 s2
  rw [List.nil_append] at O2
  refine ⟨p, ps.map V.ref, a, .ref q, rfl, r2, .inl (.inl (O2.fh _ _ (s2.f0 _ _ h2))), y4, ?_⟩
  refine hj O2.fh (Held.of O2) (E.m (s1.f0.trans s2.f0) hE) e3 fun w2 F3 H3 L3 s3 ⟨z3, r3⟩ => ?_
  subst z3
  have O3 := Own.on O2 s3
  rw [List.nil_append] at O3
  unfold pset at e7 e8
  rw [y1] at e8
  cases e8
  cases hj : ixN xs.length b with
  | none => rw [hj] at e7; cases e7
  | some n =>
    rw [hj] at e7
    cases e7
    have s23 := s2.f0.trans s3.f0
    have g5 := h5 kk q row y2 y3
    refine ⟨q, row, b, n, rfl, r3, O3.at_ _ g5, by rw [Paired.len y5]; exact hj, ?_⟩
    exact hu.run (O3.set _ g5 _) (h6 F3 kk q _ _ s23 y2 (Paired.upd (R.m s23 r1) n (Paired.mono (fun _ _ q => R.m s23 q) y5))) e (fin.mo (s1.f0.trans s23))⟩
/-- the rows are frozen -/
theorem ice_rows {F0 H0 H : Hp} {Z : List (Addr × HO)} : ∀ {ps : List Addr} {rows : List (List V)} {F : Hp}, ps.length = rows.length → Own F0 H0 F H (rowsL ps rows ++ Z) [] → ∃ F', Same F F' ∧ Own F0 H0 F' H Z [] ∧ Paired (fun v r => ∃ q, v = V.ref q ∧ F' q = some (.lst r)) (ps.map V.ref) rows
  | [], [], F, _, O => ⟨F, Same.refl _, O, .nil⟩
  | p :: ps, r :: rs, F, h, O => by
    have O1 := (show Own F0 H0 F H ((p, HO.lst r) :: (rowsL ps rs ++ Z)) [] from O)
    have sF : Same F (upd F p (.lst r)) := fun b u e => by rw [upd_ne (ne_of_none e ((O1.own (p, .lst r) List.mem_cons_self)).1)]; exact e
    obtain ⟨F', s1, O2, h2⟩ := ice_rows (Nat.succ.inj h) (O1.freeze.chunks (C' := []) trivial)
    exact ⟨F', sF.trans s1, O2, .cons ⟨p, rfl, s1 _ _ upd_same⟩ h2⟩
  | [], _ :: _, _, h, _ => nomatch h
  | _ :: _, [], _, h, _ => nomatch h
theorem Paired.trans2 {A : α → β → Prop} {C : β → δ → Prop} {G : α → δ → Prop} (h : ∀ a b c, A a b → C b c → G a c) : ∀ {xs : List α} {ys : List β} {zs : List δ}, Paired A xs ys → Paired C ys zs → Paired G xs zs
  | _, _, _, .nil, .nil => .nil
  | _, _, _, .cons r t, .cons r' t' => .cons (h _ _ _ r r') (Paired.trans2 h t t')
theorem cG {c : ρ → ρ'} (h : Co E E' c) : Co (eC (sG R) E) (eC (sF (jL (jL R))) E') (fun γ => (γ.1, c γ.2)) := ⟨fun {_ _ _ F _ _ Z _} O ⟨v, σ', L1, L2, e1, e2, ⟨p, ps, rows, h1, h2, h3, h4, h5⟩, t⟩ => by
  subst e1 e2 h1 h4
  rw [List.append_assoc] at O
  obtain ⟨F1, s1, O1, q1⟩ := ice_rows h3 O
  obtain ⟨F', L', O', sF, t'⟩ := h O1 (E.m s1 t)
  have s2 := s1.trans sF
  refine ⟨F', L', O', s2, _, σ', [], L', rfl, rfl, ⟨rfl, p, ps.map V.ref, rfl, s2 _ _ h2, ?_⟩, t'⟩
  exact Paired.trans2 (fun a b c ⟨q, e, f⟩ g => ⟨q, b, e, sF _ _ f, Paired.mono (fun _ _ z => R.m s2 z) g⟩) q1 h5⟩
end
end Mi

namespace Mi
open PySem PyProof.Rows L2 Fw
/-! ### what a mirror tells -/
section
variable {α β δ ρ ρ' κ κ' : Type}
def W (x : Option α) (Q : α → Prop) : Prop := ∃ y, x = some y ∧ Q y
theorem W_some {y : α} {Q : α → Prop} : W (some y) Q = Q y := propext ⟨fun ⟨_, e, q⟩ => by cases e; exact q, fun q => ⟨y, rfl, q⟩⟩
theorem W_none {Q : α → Prop} : W none Q = False := propext ⟨fun ⟨_, e, _⟩ => (nomatch e), False.elim⟩
theorem W_ob {x : Option α} {f : α → Option β} {Q : β → Prop} : W (ob x f) Q = W x fun y => W (f y) Q := propext ⟨fun ⟨z, e, q⟩ => by
  obtain ⟨y, e1, e2⟩ := ob_some e
  exact ⟨y, e1, z, e2, q⟩, fun ⟨y, e1, z, e2, q⟩ => ⟨z, by rw [e1]; exact e2, q⟩⟩
theorem W_bind {x : Option α} {f : α → Option β} {Q : β → Prop} : W (Option.bind x f) Q = W x fun y => W (f y) Q := W_ob
theorem W_pck {P : Prop} [Decidable P] {y : α} {Q : α → Prop} : W (pck P y) Q = (P ∧ Q y) := propext ⟨fun ⟨_, e, q⟩ => by
  obtain ⟨p, rfl⟩ := pck_some e
  exact ⟨p, q⟩, fun ⟨p, q⟩ => ⟨y, pck_of p, q⟩⟩
/-- of a way's end -/
def Rw (Q : Res ρ κ β → Prop) (f : ρ' → Option (Res ρ κ β)) : Res ρ' κ β → Prop
  | .nxt γ => W (f γ) Q
  | .ret b => Q (.ret b)
  | .cnt γ => Q (.cnt γ)
  | .brk γ => Q (.brk γ)
theorem Rw_nxt {Q : Res ρ κ β → Prop} {f : ρ' → Option (Res ρ κ β)} {γ : ρ'} : Rw Q f (.nxt γ) = W (f γ) Q := rfl
theorem Rw_ret {Q : Res ρ κ β → Prop} {f : ρ' → Option (Res ρ κ β)} {b : β} : Rw Q f (.ret b) = Q (.ret b) := rfl
theorem Rw_cnt {Q : Res ρ κ β → Prop} {f : ρ' → Option (Res ρ κ β)} {b : κ} : Rw Q f (.cnt b) = Q (.cnt b) := rfl
theorem W_rb {x : Option (Res ρ' κ β)} {f : ρ' → Option (Res ρ κ β)} {Q : Res ρ κ β → Prop} : W (rb x f) Q = W x (Rw Q f) := by
  unfold rb
  rw [W_ob]
  congr 1
  funext r
  cases r with
  | nxt γ => rfl
  | ret b => exact W_some
  | cnt γ => exact W_some
  | brk γ => exact W_some
def Rf (Q : β → Prop) : Res ρ κ β → Prop
  | .ret b => Q b
  | _ => False
theorem Rf_ret {Q : β → Prop} {b : β} : Rf (ρ := ρ) (κ := κ) Q (.ret b) = Q b := rfl
theorem Rf_nxt {Q : β → Prop} {γ : ρ} : Rf (κ := κ) Q (.nxt γ) = False := rfl
theorem W_fin {x : Option (Res ρ κ β)} {Q : β → Prop} : W (Mi.fin x) Q = W x (Rf Q) := by
  unfold Mi.fin
  rw [W_ob]
  congr 1
  funext r
  cases r with
  | ret b => exact W_some
  | nxt γ => exact W_none
  | cnt γ => exact W_none
  | brk γ => exact W_none
def RfN (Q : Unit → Prop) : Res ρ κ Unit → Prop
  | .ret b => Q b
  | .nxt _ => Q ()
  | _ => False
theorem RfN_ret {Q : Unit → Prop} {b : Unit} : RfN (ρ := ρ) (κ := κ) Q (.ret b) = Q b := rfl
theorem RfN_nxt {Q : Unit → Prop} {γ : ρ} : RfN (κ := κ) Q (.nxt γ) = Q () := rfl
theorem W_finN {x : Option (Res ρ κ Unit)} {Q : Unit → Prop} : W (Mi.finN x) Q = W x (RfN Q) := by
  unfold Mi.finN
  rw [W_ob]
  congr 1
  funext r
  cases r with
  | ret b => exact W_some
  | nxt γ => exact W_some
  | cnt γ => exact W_none
  | brk γ => exact W_none
theorem W_T {x y : Option α} {Q : α → Prop} : W (if true = true then x else y) Q = W x Q := by rw [if_pos rfl]
theorem W_F {x y : Option α} {Q : α → Prop} : W (if false = true then x else y) Q = W y Q := by rw [if_neg Bool.false_ne_true]
theorem W_ifD {c : Prop} [Decidable c] {x y : Option α} {Q : α → Prop} (h1 : c → W x Q) (h2 : ¬ c → W y Q) : W (if decide c = true then x else y) Q := by
  by_cases h : c
  · rw [if_pos (decide_eq_true h)]; exact h1 h
  · rw [if_neg (by rw [decide_eq_false h]; decide)]; exact h2 h
theorem W_ifN {c : Prop} [Decidable c] {x y : Option α} {Q : α → Prop} (h1 : ¬ c → W x Q) (h2 : c → W y Q) : W (if (!decide c) = true then x else y) Q := by
  by_cases h : c
  · rw [if_neg (by rw [decide_eq_true h]; decide)]; exact h2 h
  · rw [if_pos (by rw [decide_eq_false h]; rfl)]; exact h1 h
theorem W_ifB {c : Bool} {x y : Option α} {Q : α → Prop} (h1 : c = true → W x Q) (h2 : c = false → W y Q) : W (if c = true then x else y) Q := by
  cases c with
  | true => rw [if_pos rfl]; exact h1 rfl
  | false => rw [if_neg Bool.false_ne_true]; exact h2 rfl
theorem W.mono {x : Option α} {Q Q' : α → Prop} (h : W x Q) (k : ∀ y, Q y → Q' y) : W x Q' := let ⟨y, e, q⟩ := h; ⟨y, e, k y q⟩
theorem W.and {x : Option α} {Q Q' : α → Prop} (h : W x Q) (k : W x Q') : W x fun y => Q y ∧ Q' y := by
  obtain ⟨y, e, q⟩ := h
  obtain ⟨y', e', q'⟩ := k
  rw [e] at e'
  cases e'
  exact ⟨y, e, q, q'⟩
theorem W.eq {x : Option α} {y : α} (h : W x fun z => z = y) : x = some y := let ⟨_, e, q⟩ := h; q ▸ e
theorem W_of {x : Option α} {y : α} {Q : α → Prop} (e : x = some y) (q : Q y) : W x Q := ⟨y, e, q⟩
theorem W_ret {x : Option β} {Q : Res ρ κ β → Prop} : W (ob x fun r => some (.ret r)) Q = W x fun r => Q (.ret r) := by
  rw [W_ob]
  simp only [W_some]
/-! loops -/
theorem W_for {step : α → ρ → Option (Res ρ ρ β)} {xs : List α} {γ : ρ} {Q : Res ρ κ β → Prop} (I : Nat → ρ → Prop) (h0 : I 0 γ)
    (hs : ∀ i x γ, xs[i]? = some x → I i γ → W (step x γ) fun r => match r with | .nxt γ' => I (i + 1) γ' | .cnt γ' => I (i + 1) γ' | .brk γ' => Q (.nxt γ') | .ret b => Q (.ret b))
    (hd : ∀ γ, I xs.length γ → Q (.nxt γ)) : W (forR step xs γ) Q := by
  have key : ∀ k i γ, xs.length - i = k → i ≤ xs.length → I i γ → W (forR (κ := κ) step (xs.drop i) γ) Q := by
    intro k
    induction k with
    | zero =>
      intro i γ hk hi h
      have : i = xs.length := by omega
      subst this
      rw [List.drop_length]
      exact ⟨_, rfl, hd γ h⟩
    | succ k ih =>
      intro i γ hk hi h
      have hlt : i < xs.length := by omega
      rw [List.drop_eq_getElem_cons hlt]
      obtain ⟨r, e, q⟩ := hs i _ γ (List.getElem?_eq_getElem hlt) h
      show W (ob (step xs[i] γ) _) Q
      rw [e]
      cases r with
      | nxt γ' => exact ih (i + 1) γ' (by omega) hlt q
      | cnt γ' => exact ih (i + 1) γ' (by omega) hlt q
      | brk γ' => exact ⟨_, rfl, q⟩
      | ret b => exact ⟨_, rfl, q⟩
  have := key xs.length 0 γ (by omega) (Nat.zero_le _) h0
  rwa [List.drop_zero] at this
theorem W_while {c : ρ → Option Bool} {step : ρ → Option (Res ρ ρ β)} {γ : ρ} {Q : Res ρ κ β → Prop} (I : Nat → ρ → Prop) (m : Nat) (h0 : I m γ)
    (hs : ∀ m γ, I m γ → W (c γ) fun b => if b = true then W (step γ) fun r => match r with | .nxt γ' => ∃ m', m' < m ∧ I m' γ' | .cnt γ' => ∃ m', m' < m ∧ I m' γ' | .brk γ' => Q (.nxt γ') | .ret b => Q (.ret b) else Q (.nxt γ)) : W (whileR c step γ) Q := by
  have key : ∀ m γ, I m γ → ∃ n r, whileN (κ := κ) c step n γ = some r ∧ Q r := by
    intro m
    induction m using Nat.strongRecOn with
    | ind m ih =>
      intro γ h
      obtain ⟨b, e, q⟩ := hs m γ h
      cases b with
      | false =>
        rw [if_neg Bool.false_ne_true] at q
        refine ⟨1, .nxt γ, ?_, q⟩
        rw [whileN, e]
        rfl
      | true =>
        rw [if_pos rfl] at q
        obtain ⟨r, e2, q2⟩ := q
        cases r with
        | nxt γ' =>
          obtain ⟨m', hm, h'⟩ := q2
          obtain ⟨n, r, e3, q3⟩ := ih m' hm γ' h'
          refine ⟨n + 1, r, ?_, q3⟩
          rw [whileN, e]
          show (ob (step γ) _) = _
          rw [e2]
          exact e3
        | cnt γ' =>
          obtain ⟨m', hm, h'⟩ := q2
          obtain ⟨n, r, e3, q3⟩ := ih m' hm γ' h'
          refine ⟨n + 1, r, ?_, q3⟩
          rw [whileN, e]
          show (ob (step γ) _) = _
          rw [e2]
          exact e3
        | brk γ' =>
          refine ⟨1, .nxt γ', ?_, q2⟩
          rw [whileN, e]
          show (ob (step γ) _) = _
          rw [e2]
          rfl
        | ret b =>
          refine ⟨1, .ret b, ?_, q2⟩
          rw [whileN, e]
          show (ob (step γ) _) = _
          rw [e2]
          rfl
  obtain ⟨n, r, e, q⟩ := key m γ h0
  exact ⟨r, whileR_of e, q⟩
/-! comprehensions -/
theorem W_lcM {f : α → Option β} {xs : List α} {Q : List β → Prop} (P : α → β → Prop) (h : ∀ x ∈ xs, W (f x) (P x)) (k : ∀ ys, Paired P xs ys → Q ys) : W (lcM f xs) Q := by
  have key : ∀ xs : List α, (∀ x ∈ xs, W (f x) (P x)) → ∃ ys, lcM f xs = some ys ∧ Paired P xs ys := by
    intro xs
    induction xs with
    | nil => intro _; exact ⟨[], rfl, .nil⟩
    | cons x xs ih =>
      intro h
      obtain ⟨y, e, q⟩ := h x List.mem_cons_self
      obtain ⟨ys, e2, q2⟩ := ih fun z hz => h z (List.mem_cons_of_mem _ hz)
      refine ⟨y :: ys, ?_, .cons q q2⟩
      show ob (f x) _ = _
      rw [e]
      show ob (lcM f xs) _ = _
      rw [e2]
      rfl
  obtain ⟨ys, e, q⟩ := key xs h
  exact ⟨ys, e, k ys q⟩
theorem lcM_map {f : α → Option β} {g : α → β} : ∀ {xs : List α}, (∀ x ∈ xs, f x = some (g x)) → lcM f xs = some (xs.map g)
  | [], _ => rfl
  | x :: xs, h => by
    show ob (f x) _ = _
    rw [h x List.mem_cons_self]
    show ob (lcM f xs) _ = _
    rw [lcM_map fun z hz => h z (List.mem_cons_of_mem _ hz)]
    rfl
theorem lcF_map {p : α → Option Bool} {q : α → Bool} {f : α → Option β} {g : α → β} : ∀ {xs : List α}, (∀ x ∈ xs, p x = some (q x)) → (∀ x ∈ xs, q x = true → f x = some (g x)) → lcF p f xs = some ((xs.filter q).map g)
  | [], _, _ => rfl
  | x :: xs, h, k => by
    show ob (p x) _ = _
    rw [h x List.mem_cons_self]
    have ih := lcF_map (xs := xs) (fun z hz => h z (List.mem_cons_of_mem _ hz)) (fun z hz => k z (List.mem_cons_of_mem _ hz))
    show (if q x = true then _ else _) = _
    cases hq : q x with
    | true =>
      rw [if_pos rfl, k x List.mem_cons_self hq, List.filter_cons_of_pos hq, List.map_cons]
      show ob (lcF p f xs) _ = _
      rw [ih]
      rfl
    | false =>
      rw [if_neg Bool.false_ne_true, ih, List.filter_cons_of_neg (by rw [hq]; exact Bool.false_ne_true)]
theorem W_lcMap {f : α → Option β} {g : α → β} {xs : List α} {Q : List β → Prop} (h : ∀ x ∈ xs, f x = some (g x)) (k : Q (xs.map g)) : W (lcM f xs) Q := ⟨_, lcM_map h, k⟩
/-! places -/
theorem pat_nat {xs : List α} {k : Nat} {x : α} (h : xs[k]? = some x) : pat xs (k : Int) = some x := by
  have hk := (List.getElem?_eq_some_iff.mp h).1
  unfold pat L2.atI
  rw [ixN_pos (i := (k : Int)) ⟨by omega, by omega⟩]
  exact h
theorem W_pat {xs : List α} {i : Int} {Q : α → Prop} (h : 0 ≤ i ∧ i < xs.length) (k : ∀ x, xs[i.toNat]? = some x → Q x) : W (pat xs i) Q := by
  have hk : i.toNat < xs.length := by omega
  refine ⟨xs[i.toNat], ?_, k _ (List.getElem?_eq_getElem hk)⟩
  have e : ((i.toNat : Nat) : Int) = i := by omega
  have := pat_nat (xs := xs) (k := i.toNat) (List.getElem?_eq_getElem hk)
  rwa [e] at this
theorem W_patN {xs : List α} {i : Nat} {x : α} {Q : α → Prop} (h : xs[i]? = some x) (q : Q x) : W (pat xs (i : Int)) Q := ⟨x, pat_nat h, q⟩
theorem W_pixS {xs : List Nat} {i : Int} {Q : List Nat → Prop} (hz : xs.length ≤ sz) (h : 0 ≤ i ∧ i < xs.length) (k : ∀ x, xs[i.toNat]? = some x → Q [x]) : W (pixS xs i) Q := by
  unfold pixS
  rw [W_ob, W_pck]
  refine ⟨hz, ?_⟩
  obtain ⟨x, e, q⟩ := W_pat (Q := fun x => Q [x]) h k
  rw [e]
  exact ⟨[x], rfl, q⟩
theorem pset_nat {xs : List α} {k : Nat} {x : α} (h : k < xs.length) : pset xs (k : Int) x = some (xs.set k x) := by
  unfold pset
  rw [ixN_pos (i := (k : Int)) ⟨by omega, by omega⟩]
  rfl
theorem W_pset {xs : List α} {i : Int} {x : α} {Q : List α → Prop} (h : 0 ≤ i ∧ i < xs.length) (q : Q (xs.set i.toNat x)) : W (pset xs i x) Q := by
  unfold pset
  rw [ixN_pos h]
  exact ⟨_, rfl, q⟩
theorem W_pget {xs : List α} {i : Int} {Q : α → Prop} (h : 0 ≤ i ∧ i < xs.length) (k : ∀ x, xs[i.toNat]? = some x → Q x) : W (pget xs i) Q := by
  unfold pget
  rw [if_pos h.1]
  exact ⟨_, List.getElem?_eq_getElem (by omega), k _ (List.getElem?_eq_getElem (by omega))⟩
theorem prange_len (n : Int) : (prange n).length = n.toNat := by unfold prange; rw [List.length_map, List.length_range]
theorem prange_get {n : Int} {i : Nat} {x : Int} (h : (prange n)[i]? = some x) : x = (i : Int) ∧ (i : Int) < n := by
  unfold prange at h
  rw [List.getElem?_map] at h
  by_cases hi : i < n.toNat
  · rw [List.getElem?_range hi] at h
    cases h
    exact ⟨rfl, by omega⟩
  · rw [List.getElem?_eq_none (by rw [List.length_range]; omega)] at h
    cases h
theorem prange2_len (a b : Int) : (prange2 a b).length = (b - a).toNat := by unfold prange2; rw [List.length_map, List.length_range]
theorem prange2_get {a b : Int} {i : Nat} {x : Int} (h : (prange2 a b)[i]? = some x) : x = a + (i : Int) ∧ a + (i : Int) < b := by
  unfold prange2 at h
  rw [List.getElem?_map] at h
  by_cases hi : i < (b - a).toNat
  · rw [List.getElem?_range hi] at h
    cases h
    exact ⟨rfl, by omega⟩
  · rw [List.getElem?_eq_none (by rw [List.length_range]; omega)] at h
    cases h
theorem prangeC_len (a c : Int) (n : Nat) : (prangeC a c n).length = n := by unfold prangeC; rw [List.length_map, List.length_range]
theorem prangeC_get {a c : Int} {n i : Nat} {x : Int} (h : (prangeC a c n)[i]? = some x) : x = a + (i : Int) * c ∧ i < n := by
  unfold prangeC at h
  rw [List.getElem?_map] at h
  by_cases hi : i < n
  · rw [List.getElem?_range hi] at h
    cases h
    exact ⟨rfl, hi⟩
  · rw [List.getElem?_eq_none (by rw [List.length_range]; omega)] at h
    cases h
theorem sing_get {l : List Nat} {i : Nat} {x : List Nat} (h : (l.map fun c => [c])[i]? = some x) : ∃ c, l[i]? = some c ∧ x = [c] := by
  rw [List.getElem?_map] at h
  cases e : l[i]? with
  | none => rw [e] at h; cases h
  | some c => rw [e] at h; exact ⟨c, rfl, (Option.some.inj h).symm⟩
end
/-! one step of a reading -/
local macro_rules | `(tactic| walk_at "m") => `(tactic| simp only [W_some, W_none, W_ob, W_pck, W_rb, W_fin, W_finN, W_T, W_F, Rw_nxt, Rw_ret, Rw_cnt, Rf_ret, Rf_nxt, RfN_ret, RfN_nxt, decide_true, decide_false, Bool.not_true, Bool.not_false])
end Mi

namespace Mi
open PySem PyProof.Rows L2 Fw
section
variable {α β : Type}
theorem pcut_nat (l : List α) (a b : Nat) : pcut l (some (a : Int)) (some (b : Int)) = (l.drop a).take (b - a) := by
  unfold pcut
  rw [HT.sIx_nat, HT.sIx_nat]
  by_cases h : a ≤ l.length
  · rw [Nat.min_eq_left h]
    by_cases h2 : b ≤ l.length
    · rw [Nat.min_eq_left h2]
    · rw [Nat.min_eq_right (show l.length ≤ b by omega), List.take_of_length_le (by rw [List.length_drop]; exact Nat.le_refl _), List.take_of_length_le (by rw [List.length_drop]; omega)]
  · rw [Nat.min_eq_right (show l.length ≤ a by omega), List.drop_length, List.drop_eq_nil_of_le (show l.length ≤ a by omega)]
    simp
theorem pcut_to (l : List α) (b : Nat) : pcut l none (some (b : Int)) = l.take b := by
  unfold pcut
  rw [HT.sIx_nat, HT.sIx_none]
  show List.take (min b l.length - 0) (l.drop 0) = _
  rw [Nat.sub_zero, List.drop_zero]
  by_cases h : b ≤ l.length
  · rw [Nat.min_eq_left h]
  · rw [Nat.min_eq_right (show l.length ≤ b by omega), List.take_length, List.take_of_length_le (show l.length ≤ b by omega)]
theorem pcut_from (l : List α) (a : Nat) : pcut l (some (a : Int)) none = l.drop a := by
  unfold pcut
  rw [HT.sIx_nat, HT.sIx_none]
  by_cases h : a ≤ l.length
  · rw [Nat.min_eq_left h, List.take_of_length_le (by rw [List.length_drop]; exact Nat.le_refl _)]
  · rw [Nat.min_eq_right (show l.length ≤ a by omega), List.drop_length, List.drop_eq_nil_of_le (show l.length ≤ a by omega)]
    simp
theorem pcut_mem {l : List α} {lo hi : Option Int} {x : α} (h : x ∈ pcut l lo hi) : x ∈ l := List.mem_of_mem_drop (List.mem_of_mem_take h)
theorem pcut_len (l : List α) (lo hi : Option Int) : (pcut l lo hi).length ≤ l.length := by
  unfold pcut
  rw [List.length_take, List.length_drop]
  omega
theorem pixS_nat {l : List Nat} {k c : Nat} (h : l[k]? = some c) (hz : l.length ≤ sz) : pixS l (k : Int) = some [c] := by
  unfold pixS
  rw [pck_of hz]
  show (pat l (k : Int)).map _ = _
  rw [pat_nat h]
  rfl
/-- a text of letters -/
def Ltr (l : List Nat) : Prop := ∀ c ∈ l, c ∈ ([65, 67, 71, 84, 78] : List Nat)
theorem Ltr.app {l m : List Nat} (h : Ltr l) (k : Ltr m) : Ltr (l ++ m) := fun c hc => (List.mem_append.mp hc).elim (h c) (k c)
theorem Ltr.sub {l m : List Nat} (h : Ltr l) (k : ∀ c ∈ m, c ∈ l) : Ltr m := fun c hc => h c (k c hc)
/-- the opposite letter -/
def opp (c : Nat) : Nat := ([84, 71, 67, 65, 78] : List Nat).getD (([65, 67, 71, 84, 78] : List Nat).idxOf c) 0
def trn (l : List Nat) : List Nat := (l.map opp).reverse
theorem trn_len (l : List Nat) : (trn l).length = l.length := by simp [trn]
theorem opp_ltr : ∀ c ∈ ([65, 67, 71, 84, 78] : List Nat), opp c ∈ ([65, 67, 71, 84, 78] : List Nat) := by decide
theorem opp_opp : ∀ c ∈ ([65, 67, 71, 84, 78] : List Nat), opp (opp c) = c := by decide
theorem trn_ltr {l : List Nat} (h : Ltr l) : Ltr (trn l) := fun c hc => by
  obtain ⟨d, hd, rfl⟩ := List.mem_map.mp (List.mem_reverse.mp hc)
  exact opp_ltr d (h d hd)
theorem trn_trn {l : List Nat} (h : Ltr l) : trn (trn l) = l := by
  unfold trn
  rw [List.map_reverse, List.reverse_reverse, List.map_map]
  refine (List.map_congr_left fun c hc => ?_).trans (List.map_id l)
  exact opp_opp c (h c hc)
/-- letters agree -/
def agr (a b : Nat) : Bool := decide (a = b) && !decide (a = 78)
theorem sing_eq (a b : Nat) : decide (([a] : List Nat) = [b]) = decide (a = b) := decide_eq_decide.mpr ⟨fun h => (List.cons.inj h).1, fun h => by rw [h]⟩
def pick3 {τ : Type} (k : Nat) (x y z : τ) : τ := match k with
  | 0 => x
  | 1 => y
  | _ => z
/-- a row of n numbers -/
def rowf (n : Nat) (f : Nat → Int) : List Int := (List.range n).map f
theorem rowf_len (n : Nat) (f : Nat → Int) : (rowf n f).length = n := by simp [rowf]
theorem rowf_get {n j : Nat} {f : Nat → Int} (h : j < n) : (rowf n f)[j]? = some (f j) := by
  unfold rowf
  rw [List.getElem?_map, List.getElem?_range h]
  rfl
theorem pat_rowf {n j : Nat} {f : Nat → Int} (h : j < n) : pat (rowf n f) (j : Int) = some (f j) := pat_nat (rowf_get h)
theorem W_rowf {n j : Nat} {f : Nat → Int} {Q : Int → Prop} (h : j < n) (q : Q (f j)) : W (pat (rowf n f) (j : Int)) Q := ⟨_, pat_rowf h, q⟩
def upd1 (f : Nat → Int) (j : Nat) (v : Int) : Nat → Int := fun k => if k = j then v else f k
theorem upd1_same (f : Nat → Int) (j : Nat) (v : Int) : upd1 f j v j = v := if_pos rfl
theorem upd1_ne {f : Nat → Int} {j k : Nat} {v : Int} (h : k ≠ j) : upd1 f j v k = f k := if_neg h
theorem pset_rowf {n j : Nat} {f : Nat → Int} {v : Int} (h : j < n) : pset (rowf n f) (j : Int) v = some (rowf n (upd1 f j v)) := by
  rw [pset_nat (by rw [rowf_len]; exact h)]
  congr 1
  refine List.ext_getElem? fun k => ?_
  by_cases hk : k < n
  · rw [rowf_get hk]
    by_cases e : j = k
    · subst e
      rw [List.getElem?_set_self (by rw [rowf_len]; exact h), upd1_same]
    · rw [List.getElem?_set_ne e, rowf_get hk, upd1_ne (by omega)]
  · rw [List.getElem?_eq_none (by rw [List.length_set, rowf_len]; omega), List.getElem?_eq_none (by rw [rowf_len]; omega)]
theorem W_rset {n j : Nat} {f : Nat → Int} {v : Int} {Q : List Int → Prop} (h : j < n) (q : Q (rowf n (upd1 f j v))) : W (pset (rowf n f) (j : Int) v) Q := ⟨_, pset_rowf h, q⟩
theorem prep_row (c : Int) (k : Nat) : prep [c] (k : Int) = rowf k fun _ => c := by
  unfold prep rowf
  rw [Int.toNat_natCast]
  induction k with
  | zero => rfl
  | succ k ih => rw [List.replicate_succ', List.flatten_append, ih, List.range_succ, List.map_append]; rfl
theorem W_Tr {x y : Option α} {Q : α → Prop} : W (if True then x else y) Q = W x Q := by rw [if_pos trivial]
theorem W_Fa {x y : Option α} {Q : α → Prop} : W (if False then x else y) Q = W y Q := by rw [if_neg id]
theorem pidx_one (l : List Nat) (c : Nat) : pidx l [c] = pck (c ∈ l) (l.idxOf c : Int) := rfl
theorem pinS_one (l : List Nat) (c : Nat) : pinS [c] l = some (decide (c ∈ l)) := rfl
theorem pninS_one (l : List Nat) (c : Nat) : pninS [c] l = some (!decide (c ∈ l)) := rfl
/-! grids -/
def grid (n e : Nat) (f : Nat → Nat → Int) : List (List Int) := (List.range n).map fun i => (List.range e).map fun j => f i j
theorem grid_len (n e : Nat) (f : Nat → Nat → Int) : (grid n e f).length = n := by simp [grid]
theorem grid_row {n e i : Nat} {f : Nat → Nat → Int} (h : i < n) : (grid n e f)[i]? = some ((List.range e).map fun j => f i j) := by
  unfold grid
  rw [List.getElem?_map, List.getElem?_range h]
  rfl
theorem rowi_get {e i j : Nat} {f : Nat → Nat → Int} (h : j < e) : ((List.range e).map fun j => f i j)[j]? = some (f i j) := by
  rw [List.getElem?_map, List.getElem?_range h]
  rfl
theorem pcell_grid {n e i j : Nat} {f : Nat → Nat → Int} (h : i < n) (k : j < e) : pcell (grid n e f) (i : Int) (j : Int) = some (f i j) := by
  unfold pcell
  rw [pat_nat (grid_row h)]
  exact pat_nat (rowi_get k)
theorem rowi_set {e i j : Nat} {f : Nat → Nat → Int} {v : Int} : ((List.range e).map fun j => f i j).set j v = (List.range e).map fun j' => upd2 f i j v i j' := by
  refine List.ext_getElem? fun k => ?_
  by_cases hk : k < e
  · by_cases e2 : j = k
    · subst e2
      rw [List.getElem?_set_self (by simp; exact hk), List.getElem?_map, List.getElem?_range hk]
      show _ = some (upd2 f i j v i j)
      rw [upd2_same]
    · rw [List.getElem?_set_ne e2, List.getElem?_map, List.getElem?_map, List.getElem?_range hk]
      show some (f i k) = some (upd2 f i j v i k)
      rw [upd2_ne (by omega)]
  · rw [List.getElem?_eq_none (by simp; omega), List.getElem?_eq_none (by simp; omega)]
theorem pcset_grid {n e i j : Nat} {f : Nat → Nat → Int} {v : Int} (h : i < n) (k : j < e) : pcset (grid n e f) (i : Int) (j : Int) v = some (grid n e (upd2 f i j v)) := by
  unfold pcset
  rw [pat_nat (grid_row h)]
  show ob (pset _ _ _) _ = _
  rw [pset_nat (by simp; exact k)]
  show pset _ _ _ = _
  rw [pset_nat (by rw [grid_len]; exact h), rowi_set]
  congr 1
  refine List.ext_getElem? fun a => ?_
  by_cases ha : a < n
  · rw [grid_row ha]
    by_cases e2 : i = a
    · subst e2
      rw [List.getElem?_set_self (by rw [grid_len]; exact h)]
    · rw [List.getElem?_set_ne e2, grid_row ha]
      congr 1
      refine List.map_congr_left fun b _ => ?_
      rw [upd2_ne (by omega)]
  · rw [List.getElem?_eq_none (by rw [List.length_set, grid_len]; omega), List.getElem?_eq_none (by rw [grid_len]; omega)]
theorem W_cell {n e i j : Nat} {f : Nat → Nat → Int} {Q : Int → Prop} (h : i < n) (k : j < e) (q : Q (f i j)) : W (pcell (grid n e f) (i : Int) (j : Int)) Q := ⟨_, pcell_grid h k, q⟩
theorem W_cset {n e i j : Nat} {f : Nat → Nat → Int} {v : Int} {Q : List (List Int) → Prop} (h : i < n) (k : j < e) (q : Q (grid n e (upd2 f i j v))) : W (pcset (grid n e f) (i : Int) (j : Int) v) Q := ⟨_, pcset_grid h k, q⟩
theorem joinN_nil' (ys : List (List Nat)) : joinN [] ys = ys.flatten := joinN_nil ys
theorem Paired.get {A : α → β → Prop} : ∀ {xs : List α} {ys : List β} {i : Nat} {x : α}, Paired A xs ys → xs[i]? = some x → ∃ y, ys[i]? = some y ∧ A x y := paired_left
end
end Mi

namespace Mi
open PySem PySem.Spec PyProof.Rows L2 Fw
section
variable {α β δ : Type} {A : Rp α} {K : PySem.W.Frag}
/-- a list of three as a tuple -/
def ptup3 {τ : Type} (xs : List τ) : Option (τ × τ × τ) := match xs with
  | [a, b, c] => some (a, b, c)
  | _ => none
theorem sc_tup3 : SC (fun xs H Q => ∃ p ys, xs = [.ref p] ∧ ((SqL K H p ys ∧ ∀ l, H l = none → Q (.ref l) (upd H l (.tup ys))) ∨ (SqT K H p ys ∧ Q (.ref p) H))) (aC (jL A) aN) (sF (jT (yC A (yC A (y1 A))))) (fun x => ptup3 x.1) := ⟨fun {F H vs a c Q} s0 ⟨v, r, e1, ⟨p, us, e3, h, q⟩, e2⟩ e k => by
  subst e1 e2 e3
  obtain ⟨xs, u⟩ := a
  match xs, q, e with
  | [x, y, z], q, e =>
    cases e
    cases q with
    | @cons v1 _ _ _ r1 q => cases q with
      | @cons v2 _ _ _ r2 q => cases q with
        | @cons v3 _ _ _ r3 q => cases q with
          | nil =>
            refine ⟨p, _, rfl, .inl ⟨.inl (.inl (s0 _ _ h)), fun l nl => ?_⟩⟩
            have s3 := (Step.nil s0).ice nl (.tup [v1, v2, v3])
            exact k _ _ _ [] (s3.chunks trivial) ⟨rfl, l, _, rfl, upd_same, _, _, rfl, A.m s3.f0 r1, _, _, rfl, A.m s3.f0 r2, _, rfl, A.m s3.f0 r3⟩⟩
end
section
variable {ρ ρ'' κ α β : Type} {E : En ρ} {E1 : En ρ''} {Ec : En κ} {A : Rp α} {s : Sl β}
theorem ss_forN {wi : TI} {g : TG} {is : List Nat} {tb : TS} {fi : ρ → Option (List α)} {p : α → ρ → ρ''} {mb : ρ'' → Option (Res ρ ρ β)} {f : α → ρ → Option (Res ρ ρ β)} (hi : SI wi E A fi) (hg : SG g is E A E1 p) (hb : SS tb E1 E E s mb) (hf : ∀ x γ, mb (p x γ) = f x γ) :
    SS (tFor wi g tb) E E Ec s (fun γ => ob (fi γ) fun xs => forR f xs γ) := by
  have e : f = fun x γ => mb (p x γ) := by
    funext x γ
    exact (hf x γ).symm
  rw [e]
  exact ss_for hi hg hb
end
section
variable {ρ ρ' β : Type} {E : En ρ} {E' : En ρ'} {s : Sl β} {t : TS}
theorem fin_runX {a : Ar ρ} {n k : Nat} {N : List Str} {mm : ρ → Option β} {vs : List V} {H : Hp} {Q : VK} {Ex : XK} {D : Ends} (hA : AE a E n) (hn : AN a k) (hN : N.length = k + n) (h : ∃ m : ρ → Option (Res ρ' Unit β), SS t E E' eN s m ∧ mm = fun γ => Mi.fin (m γ)) (q : spM a s mm vs H Q Ex) (hD : D.rt = Q) : t D (L2.start N vs) H := by
  obtain ⟨m, h, e⟩ := h
  exact fin_run hA hn hN h e q hD
theorem finN_runX {a : Ar ρ} {n k : Nat} {N : List Str} {mm : ρ → Option Unit} {vs : List V} {H : Hp} {Q : VK} {Ex : XK} {D : Ends} (hA : AE a E n) (hn : AN a k) (hN : N.length = k + n) (h : ∃ m : ρ → Option (Res ρ' Unit Unit), SS t E E' eN (sF jN) m ∧ mm = fun γ => finN (m γ)) (q : spM a (sF jN) mm vs H Q Ex) (hD : D.rt = Q) (hD2 : D.nx = fun _ H' => Q .non H') : t D (L2.start N vs) H := by
  obtain ⟨m, h, e⟩ := h
  exact finN_run hA hn hN h e q hD hD2
end
end Mi

namespace Mi
open PySem PySem.Spec PyProof.Rows L2 Fw
/-! ### own lists of own things -/
theorem set_id {τ : Type} {l : List τ} {k : Nat} {x : τ} (h : l[k]? = some x) : l.set k x = l := by
  obtain ⟨hk, e⟩ := List.getElem?_eq_some_iff.mp h
  rw [← e]
  exact List.set_getElem_self hk
inductive Dq {α : Type} (s : Sl α) (F : Hp) : List V → List (Addr × HO) → List α → Prop
  | nil : Dq s F [] [] []
  | cons {v : V} {x : α} {vs : List V} {xs : List α} {L1 L2 : List (Addr × HO)} : s.r v F L1 x → Dq s F vs L2 xs → Dq s F (v :: vs) (L1 ++ L2) (x :: xs)
section
variable {α : Type} {s : Sl α} {F F' : Hp}
theorem Dq.mono (z : Same F F') : ∀ {vs : List V} {L : List (Addr × HO)} {xs : List α}, Dq s F vs L xs → Dq s F' vs L xs
  | _, _, _, .nil => .nil
  | _, _, _, .cons h t => .cons (s.m z h) (Dq.mono z t)
theorem Dq.len : ∀ {vs : List V} {L : List (Addr × HO)} {xs : List α}, Dq s F vs L xs → vs.length = xs.length
  | _, _, _, .nil => rfl
  | _, _, _, .cons _ t => by rw [List.length_cons, List.length_cons, Dq.len t]
theorem Dq.app {ws : List V} {M : List (Addr × HO)} {ys : List α} (k : Dq s F ws M ys) : ∀ {vs : List V} {L : List (Addr × HO)} {xs : List α}, Dq s F vs L xs → Dq s F (vs ++ ws) (L ++ M) (xs ++ ys)
  | _, _, _, .nil => k
  | _, _, _, .cons h t => by
    rw [List.append_assoc]
    exact .cons h (Dq.app k t)
theorem Dq.one {v : V} {L : List (Addr × HO)} {x : α} (h : s.r v F L x) : Dq s F [v] L [x] := by
  have := Dq.cons h Dq.nil
  rwa [List.append_nil] at this
theorem Dq.focus : ∀ {vs : List V} {L : List (Addr × HO)} {xs : List α} {k : Nat} {x : α}, Dq s F vs L xs → xs[k]? = some x →
    ∃ v pre Lk post, vs[k]? = some v ∧ L = pre ++ (Lk ++ post) ∧ s.r v F Lk x ∧ ∀ F' v' Lk' x', Same F F' → s.r v' F' Lk' x' → Dq s F' (vs.set k v') (pre ++ (Lk' ++ post)) (xs.set k x')
  | _, _, _, _, _, .nil, e => by simp at e
  | _, _, _, 0, _, .cons (L1 := L1) (L2 := L2) h t, e => by
    cases Option.some.inj e
    exact ⟨_, [], L1, L2, rfl, rfl, h, fun F' v' Lk' x' z h' => (Dq.cons (L1 := Lk') (L2 := L2) h' (t.mono z) :)⟩
  | _, _, _, k + 1, _, .cons (L1 := L1) (L2 := L2) h t, e => by
    obtain ⟨v, pre, Lk, post, h1, h2, h3, h4⟩ := Dq.focus (k := k) t e
    refine ⟨v, L1 ++ pre, Lk, post, h1, by rw [h2, List.append_assoc], h3, fun F' v' Lk' x' z h' => ?_⟩
    rw [List.append_assoc]
    exact .cons (s.m z h) (h4 F' v' Lk' x' z h')
theorem Dq.tk : ∀ (n : Nat) {vs : List V} {L : List (Addr × HO)} {xs : List α}, Dq s F vs L xs → ∃ L1 L2, L = L1 ++ L2 ∧ Dq s F (vs.take n) L1 (xs.take n)
  | 0, _, L, _, _ => ⟨[], L, rfl, .nil⟩
  | _ + 1, _, _, _, .nil => ⟨[], [], rfl, .nil⟩
  | n + 1, _, _, _, .cons (L1 := L1) h t => by
    obtain ⟨M1, M2, e, d⟩ := Dq.tk n t
    exact ⟨L1 ++ M1, M2, by rw [e, List.append_assoc], .cons h d⟩
end
def sD {α : Type} (s : Sl α) : Sl (List α) := ⟨fun v F L xs => ∃ p vs M, v = .ref p ∧ L = (p, .lst vs) :: M ∧ Dq s F vs M xs, fun z ⟨p, vs, M, h1, h2, h3⟩ => ⟨p, vs, M, h1, h2, h3.mono z⟩⟩
theorem Dq.ofP {α : Type} {R : Rp α} {F : Hp} : ∀ {vs : List V} {xs : List α}, Paired (R.r F) vs xs → Dq (sF R) F vs [] xs
  | _, _, .nil => .nil
  | _, _, .cons h t => (Dq.cons (s := sF R) (L1 := []) (L2 := []) ⟨rfl, h⟩ (Dq.ofP t) :)
theorem Dq.toP {α : Type} {R : Rp α} {F : Hp} : ∀ {vs : List V} {L : List (Addr × HO)} {xs : List α}, Dq (sF R) F vs L xs → L = [] ∧ Paired (R.r F) vs xs
  | _, _, _, .nil => ⟨rfl, .nil⟩
  | _, _, _, .cons ⟨h0, h⟩ t => by
    obtain ⟨e, p⟩ := Dq.toP t
    subst h0 e
    exact ⟨rfl, .cons h p⟩
/-- an own thing is frozen -/
structure Fz {α : Type} (s : Sl α) (R : Rp α) : Prop where
  run : ∀ {F0 H0 F H : Hp} {L Z : List (Addr × HO)} {v : V} {x : α}, Own F0 H0 F H (L ++ Z) [] → s.r v F L x → ∃ F', Same F F' ∧ Own F0 H0 F' H Z [] ∧ R.r F' v x
theorem fzF {α : Type} {R : Rp α} : Fz (sF R) R := ⟨fun {_ _ F _ _ _ _ _} O ⟨e, h⟩ => by
  subst e
  exact ⟨F, Same.refl _, O, h⟩⟩
theorem fzDq {α : Type} {s : Sl α} {R : Rp α} (h : Fz s R) {F0 H0 H : Hp} {Z : List (Addr × HO)} : ∀ {F : Hp} {vs : List V} {L : List (Addr × HO)} {xs : List α}, Dq s F vs L xs → Own F0 H0 F H (L ++ Z) [] → ∃ F', Same F F' ∧ Own F0 H0 F' H Z [] ∧ Paired (R.r F') vs xs
  | F, _, _, _, .nil, O => ⟨F, Same.refl _, O, .nil⟩
  | F, _, _, _, .cons a t, O => by
    rw [List.append_assoc] at O
    obtain ⟨F1, s1, O1, r1⟩ := h.run O a
    obtain ⟨F2, s2, O2, r2⟩ := fzDq h (t.mono s1) O1
    exact ⟨F2, s1.trans s2, O2, .cons (R.m s2 r1) r2⟩
theorem fzD {α : Type} {s : Sl α} {R : Rp α} (h : Fz s R) : Fz (sD s) (jL R) := ⟨fun {_ _ F _ _ _ _ _} O ⟨p, vs, M, e1, e2, d⟩ => by
  subst e1 e2
  have O1 := (show Own _ _ _ _ ((p, HO.lst vs) :: (M ++ _)) [] from O).freeze
  have s1 : Same F (upd F p (.lst vs)) := fun b u e => by rw [upd_ne (ne_of_none e ((O.own (p, .lst vs) List.mem_cons_self)).1)]; exact e
  obtain ⟨F2, s2, O2, r2⟩ := fzDq h (d.mono s1) (O1.chunks trivial)
  exact ⟨F2, s1.trans s2, O2, p, vs, rfl, s2 _ _ upd_same, r2⟩⟩
section
variable {ρ ρ' ρ'' α β δ ε κ : Type} {E : En ρ} {E' : En ρ'} {E1 : En ρ''} {Ec : En κ} {ta tb tc te ti t : TE} {R : Rp α} {K : PySem.W.Frag} {s : Sl β} {s1 : Sl α} {s' : Sl δ} {u : TS}
theorem cD {c : ρ → ρ'} (hz : Fz s1 R) (h : Co E E' c) : Co (eC s1 E) (eC (sF R) E') (fun γ => (γ.1, c γ.2)) := ⟨fun {_ _ _ F _ _ Z _} O ⟨v, σ', L1, L2, e1, e2, q, t⟩ => by
  subst e1 e2
  rw [List.append_assoc] at O
  obtain ⟨F1, z1, O1, r1⟩ := hz.run O q
  obtain ⟨F', L', O', sF, t'⟩ := h O1 (E.m z1 t)
  exact ⟨F', L', O', z1.trans sF, v, σ', [], L', rfl, rfl, ⟨rfl, R.m sF r1⟩, t'⟩⟩
theorem se_fzD {f : ρ → Option α} (hz : Fz s1 R) (h : SE t E s1 f) : SE t E (sF R) f := ⟨fun s0 hL hE e k => by
  refine h s0 hL hE e fun v F1 H1 L1 st r => ?_
  obtain ⟨F2, z, O2, q⟩ := hz.run (Z := []) (by rw [List.append_nil]; exact st) r
  exact k _ _ _ [] O2 ⟨rfl, q⟩⟩
theorem se_toD {f : ρ → Option (List α)} (h : SE t E (sO R) f) : SE t E (sD (sF R)) f := ⟨fun s0 hL hE e k => h s0 hL hE e fun v F1 H1 L1 st ⟨p, vs, e1, e2, q⟩ => k _ _ _ _ st ⟨p, vs, [], e1, e2, .ofP q⟩⟩
theorem se_nilD {f : ρ → Option (List Unit)} (h : SE t E (sO jN) f) (h0 : ∀ γ, f γ = some []) : SE t E (sD s1) (fun _ => some []) := ⟨fun {_ _ _ _ γ _ _} s0 hL hE e k => by
  cases e
  refine h s0 hL hE (h0 γ) fun v F1 H1 L1 st ⟨p, vs, e1, e2, q⟩ => k _ _ _ _ st ⟨p, vs, [], e1, e2, ?_⟩
  cases q
  exact .nil⟩
theorem nilU : pck (([] : List Unit).length ≤ sz) [] = some ([] : List Unit) := if_pos (Nat.zero_le _)
/-- a name's own thing -/
structure Fx (E : En ρ) (i : Nat) (s : Sl α) (g : ρ → α) (up : α → ρ → ρ) : Prop where
  run : ∀ {σ : L2.St} {F : Hp} {L : List (Addr × HO)} {γ : ρ}, E.r σ F L γ → ∃ v pre L1 post, σ[i]? = some (some v) ∧ L = pre ++ (L1 ++ post) ∧ s.r v F L1 (g γ) ∧ ∀ F' L1' x', Same F F' → s.r v F' L1' x' → E.r σ F' (pre ++ (L1' ++ post)) (up x' γ)
theorem k0 : Fx (eC s1 E) 0 s1 (fun γ => γ.1) (fun x γ => (x, γ.2)) := ⟨fun ⟨v, σ', L1, L2, e1, e2, h, t⟩ => by
  subst e1 e2
  exact ⟨v, [], L1, L2, rfl, rfl, h, fun F' L1' x' z h' => ⟨v, σ', L1', L2, rfl, rfl, h', E.m z t⟩⟩⟩
theorem kU {i : Nat} {g : ρ → α} {up : α → ρ → ρ} (h : Fx E i s1 g up) : Fx (eU E) (i + 1) s1 g up := ⟨fun ⟨o, σ', e, t⟩ => by
  subst e
  obtain ⟨v, pre, L1, post, h1, h2, h3, h4⟩ := h.run t
  exact ⟨v, pre, L1, post, h1, h2, h3, fun F' L1' x' z h' => ⟨o, σ', rfl, h4 F' L1' x' z h'⟩⟩⟩
theorem kS {i : Nat} {g : ρ → α} {up : α → ρ → ρ} (h : Fx E i s1 g up) : Fx (eC s' E) (i + 1) s1 (fun γ => g γ.2) (fun x γ => (γ.1, up x γ.2)) := ⟨fun ⟨v', σ', La, L2, e1, e2, q, t⟩ => by
  subst e1 e2
  obtain ⟨v, pre, L1, post, h1, h2, h3, h4⟩ := h.run t
  subst h2
  exact ⟨v, La ++ pre, L1, post, h1, by rw [List.append_assoc], h3, fun F' L1' x' z h' => ⟨v', σ', La, _, rfl, by rw [List.append_assoc], s'.m z q, h4 F' L1' x' z h'⟩⟩⟩
/-- a place within own things -/
structure SPl {τ : Type} (t : TE) (E : En ρ) (s : Sl α) (f : ρ → Option α) (up : ρ → α → Option τ) (pt : τ → ρ → ρ) : Prop where
  run : ∀ {σ : L2.St} {F H : Hp} {L : List (Addr × HO)} {γ : ρ} {y : α} {Q : VK}, Same F H → Held H L → E.r σ F L γ → f γ = some y →
    (∀ v F' H', Step F H F' H' [] → (∃ pre L1 post, L = pre ++ (L1 ++ post) ∧ s.r v F' L1 y ∧ ∀ F2 L2 y2 γ2, Same F' F2 → s.r v F2 L2 y2 → up γ y2 = some γ2 → E.r σ F2 (pre ++ (L2 ++ post)) (pt γ2 γ)) → Q v H') → t σ H Q
theorem pl_var {i : Nat} {g : ρ → α} {up : α → ρ → ρ} (h : Fx E i s1 g up) : SPl (tVar i) E s1 (fun γ => some (g γ)) (fun _ y => some y) up := ⟨fun s0 hL hE e k => by
  cases e
  obtain ⟨v, pre, L1, post, h1, h2, h3, h4⟩ := h.run hE
  exact ⟨v, h1, k v _ _ (Step.nil s0) ⟨pre, L1, post, h2, h3, fun F2 L2 y2 γ2 z q e => by cases e; exact h4 F2 L2 y2 z q⟩⟩⟩
theorem pl_ix {τ : Type} {f : ρ → Option (List α)} {up : ρ → List α → Option τ} {pt : τ → ρ → ρ} {fi : ρ → Option Int} (ht : SPl t E (sD s1) f up pt) (hi : SE ti E (sF jI) fi) :
    SPl (tOp (rIxL K) t ti) E s1 (fun γ => ob (f γ) fun xs => ob (fi γ) fun i => pat xs i) (fun γ y => ob (f γ) fun xs => ob (fi γ) fun i => ob (pset xs i y) fun ys => up γ ys) pt := ⟨fun {σ F H L γ y Q} s0 hL hE e k => by
  obtain ⟨xs, e1, e⟩ := ob_some e
  obtain ⟨i, e2, e3⟩ := ob_some e
  refine ht.run s0 hL hE e1 fun v F1 H1 st1 ⟨pre, L1, post, h1, ⟨p, vs, M, h2, h3, h4⟩, h5⟩ => ?_
  subst h2 h3
  refine hi st1.fh (hL.mono st1.hh) (E.m st1.f0 hE) e2 fun w F2 H2 L2 st2 ⟨z, r⟩ => ?_
  subst z
  obtain ⟨kk, g1, g2⟩ := pat_ix e3
  obtain ⟨x, pre2, Lk, post2, q1, q2, q3, q4⟩ := Dq.focus (h4.mono st2.f0) g2
  have hp := st2.hh _ _ (st1.hh _ _ (hL (p, .lst vs) (by rw [h1]; simp)))
  refine ⟨p, vs, i, x, rfl, r, .inl (.inl hp), ?_, k _ _ _ (st1.tr st2) ⟨pre ++ (p, .lst vs) :: pre2, Lk, post2 ++ post, ?_, q3, fun F3 L3 y3 γ3 z h e => ?_⟩⟩
  · unfold atI
    rw [h4.len, g1]
    exact q1
  · rw [h1, q2]
    simp
  · have e5 : up γ (xs.set kk y3) = some γ3 := by
      obtain ⟨_, a1, e⟩ := ob_some e
      rw [e1] at a1
      cases a1
      obtain ⟨_, a2, e⟩ := ob_some e
      rw [e2] at a2
      cases a2
      unfold pset at e
      rw [g1] at e
      exact e
    have d := q4 F3 x L3 y3 z h
    have ev : vs.set kk x = vs := set_id q1
    rw [ev] at d
    have := h5 F3 ((p, .lst vs) :: (pre2 ++ (L3 ++ post2))) (xs.set kk y3) γ3 (st2.f0.trans z) ⟨p, vs, _, rfl, rfl, d⟩ e5
    simpa using this⟩
theorem pm1 {a : Addr × HO} {A B C D : List (Addr × HO)} : (a :: (A ++ (B ++ (C ++ D)))).Perm (C ++ (A ++ ((a :: B) ++ D))) := by
  have h1 : (C ++ (A ++ ((a :: B) ++ D))).Perm (a :: (C ++ (A ++ (B ++ D)))) := by
    rw [← List.append_assoc, ← List.append_assoc C A]
    exact List.perm_middle
  refine List.Perm.trans ?_ h1.symm
  refine List.Perm.cons a ?_
  rw [← List.append_assoc, ← List.append_assoc A B D]
  exact List.perm_append_comm_assoc _ _ _
theorem pm2 {a : Addr × HO} {A B D : List (Addr × HO)} : (A ++ ((a :: B) ++ D)).Perm (a :: (A ++ (B ++ D))) := List.perm_middle
theorem pm3 {a : Addr × HO} {A B C D : List (Addr × HO)} : (A ++ ((a :: (B ++ C)) ++ D)).Perm (a :: (A ++ (B ++ (C ++ D)))) := by
  rw [← List.append_assoc B C D]
  exact List.perm_middle
variable {m : ρ → Option (Res ρ' κ β)}
theorem ss_plApp {τ : Type} {f : ρ → Option (List α)} {up : ρ → List α → Option τ} {pt : τ → ρ → ρ} {fe : ρ → Option α} (hp : SPl t E (sD s1) f up pt) (he : SE te E s1 fe) (hu : SS u E E' Ec s m) :
    SS (tSeq (tDrop (tBM K "list" rAppend t (tCons te tNil))) u) E E' Ec s (fun γ => ob (f γ) fun xs => ob (fe γ) fun y => ob (pck (xs.length < sz) (xs ++ [y])) fun ys => ob (up γ ys) fun γ' => m (pt γ' γ)) := ⟨fun O hE e fin => by
  obtain ⟨xs, e1, e⟩ := ob_some e
  obtain ⟨y, e2, e⟩ := ob_some e
  obtain ⟨ys, e3, e⟩ := ob_some e
  obtain ⟨pz, rfl⟩ := pck_some e3
  obtain ⟨γ', e4, e⟩ := ob_some e
  refine hp.run O.fh (Held.of O) hE e1 fun v F1 H1 st1 ⟨pre, L1, post, h1, ⟨p, vs, M, h2, h3, h4⟩, h5⟩ => ?_
  subst h2 h3 h1
  have O1 := Own.on O st1
  rw [List.nil_append] at O1
  refine tyL (Held.of O1 (p, .lst vs) (by simp)) ?_
  refine he O1.fh (Held.of O1) (E.m st1.f0 hE) e2 fun w F2 H2 Lw st2 r2 => ?_
  have O3 := (Own.on O1 st2).perm (pm1 (a := (p, .lst vs)) (A := pre) (B := M) (C := Lw) (D := post))
  exact w_app (j := 0) (Q := fun _ H' => u _ _ H') O3 rfl (fun H' O4 => hu.run (O4.perm pm3) (h5 F2 ((p, .lst (vs ++ [w])) :: (M ++ Lw)) _ γ' st2.f0 ⟨p, _, _, rfl, rfl, Dq.app (.one r2) (h4.mono st2.f0)⟩ e4) e (fin.mo (st1.f0.trans st2.f0))) (sz_lt (by rw [h4.len]; exact pz))⟩
theorem ss_plPop {τ : Type} {f : ρ → Option (List α)} {up : ρ → List α → Option τ} {pt : τ → ρ → ρ} (hp : SPl t E (sD s1) f up pt) (hu : SS u E E' Ec s m) :
    SS (tSeq (tDrop (tBM0 K "list" rPop t)) u) E E' Ec s (fun γ => ob (f γ) fun xs => ob (pck (0 < xs.length) xs.dropLast) fun ys => ob (up γ ys) fun γ' => m (pt γ' γ)) := ⟨fun O hE e fin => by
  obtain ⟨xs, e1, e⟩ := ob_some e
  obtain ⟨ys, e3, e⟩ := ob_some e
  obtain ⟨pz, rfl⟩ := pck_some e3
  obtain ⟨γ', e4, e⟩ := ob_some e
  refine hp.run O.fh (Held.of O) hE e1 fun v F1 H1 st1 ⟨pre, L1, post, h1, ⟨p, vs, M, h2, h3, h4⟩, h5⟩ => ?_
  subst h2 h3 h1
  have O1 := Own.on O st1
  rw [List.nil_append] at O1
  have hl := h4.len
  have O2 := O1.perm (pm2 (a := (p, .lst vs)) (A := pre) (B := M) (D := post)).symm
  refine tyL (O2.at_ 0) ⟨p, vs, _, rfl, rfl, O2.at_ 0, List.getElem?_eq_getElem (by omega), ?_⟩
  obtain ⟨M1, M2, hM, hd⟩ := Dq.tk (vs.length - 1) h4
  subst hM
  have O3 := O2.set 0 rfl (.lst vs.dropLast)
  refine hu.run (L := pre ++ (((p, .lst vs.dropLast) :: M1) ++ post)) (OwnSb O3 ⟨M2, ?_⟩) (h5 F1 _ _ γ' (Same.refl _) ⟨p, _, _, rfl, rfl, ?_⟩ e4) e (fin.mo st1.f0)
  · show List.Perm _ ((p, HO.lst vs.dropLast) :: (pre ++ ((M1 ++ M2) ++ post)))
    have h1 : (((p, HO.lst vs.dropLast) :: (pre ++ (M1 ++ post))) ++ M2).Perm ((p, HO.lst vs.dropLast) :: (pre ++ ((M1 ++ M2) ++ post))) := by
      refine List.Perm.cons _ ?_
      show List.Perm ((pre ++ (M1 ++ post)) ++ M2) _
      rw [List.append_assoc, List.append_assoc, List.append_assoc]
      exact ((List.perm_append_comm).append_left M1).append_left pre
    exact (pm2.append_right M2).trans h1
  · rw [List.dropLast_eq_take, List.dropLast_eq_take, ← hl]
    exact hd⟩
theorem ss_plSet {τ : Type} {f : ρ → Option (List α)} {up : ρ → List α → Option τ} {pt : τ → ρ → ρ} {fe : ρ → Option α} {fi : ρ → Option Int} (hp : SPl t E (sD s1) f up pt) (he : SE te E s1 fe) (hi : SE ti E (sF jI) fi) (hu : SS u E E' Ec s m) :
    SS (tSeq (tAsg te (gSub t ti rSetL)) u) E E' Ec s (fun γ => ob (fe γ) fun y => ob (f γ) fun xs => ob (fi γ) fun i => ob (pset xs i y) fun ys => ob (up γ ys) fun γ' => m (pt γ' γ)) := ⟨fun {σ F0 H0 F H L γ r D} O hE e fin => by
  obtain ⟨y, e2, e⟩ := ob_some e
  obtain ⟨xs, e1, e⟩ := ob_some e
  obtain ⟨i, e5, e⟩ := ob_some e
  obtain ⟨ys, e3, e⟩ := ob_some e
  obtain ⟨γ', e4, ez⟩ := ob_some e
  refine he O.fh (Held.of O) hE e2 fun w F1 H1 Lw st1 r1 => ?_
  have O1 := Own.on O st1
  have hL1 : Held H1 L := fun q hq => Held.of O1 q (List.mem_append_right _ hq)
  refine hp.run O1.fh hL1 (E.m st1.f0 hE) e1 fun v F2 H2 st2 ⟨pre, L1, post, h1, ⟨p, vs, M, h2, h3, h4⟩, h5⟩ => ?_
  subst h2 h3
  have O2 := Own.on O1 st2
  rw [List.nil_append] at O2
  refine hi O2.fh (hL1.mono st2.hh) (E.m (st1.f0.trans st2.f0) hE) e5 fun z F3 H3 L3 st3 ⟨z3, r3⟩ => ?_
  subst z3
  have O3 := Own.on O2 st3
  rw [List.nil_append] at O3
  unfold pset at e3
  cases hj : ixN xs.length i with
  | none => rw [hj] at e3; cases e3
  | some n =>
    rw [hj] at e3
    have e3 : xs.set n y = ys := Option.some.inj e3
    subst e3
    subst h1
    have O4 := O3.perm (pm1 (a := (p, .lst vs)) (A := pre) (B := M) (C := Lw) (D := post))
    refine ⟨p, vs, i, n, rfl, r3, O4.at_ 0, by rw [h4.len]; exact hj, ?_⟩
    have O5 := O4.set 0 rfl (.lst (vs.set n w))
    cases hx : xs[n]? with
    | none =>
      have hn : xs.length ≤ n := List.getElem?_eq_none_iff.mp hx
      refine hu.run (L := pre ++ (((p, .lst (vs.set n w)) :: M) ++ post)) (OwnSb O5 ⟨Lw, ?_⟩) (h5 F3 _ _ γ' st3.f0 ⟨p, _, _, rfl, rfl, ?_⟩ e4) ez (fin.mo (st1.f0.trans (st2.f0.trans st3.f0)))
      · exact (List.perm_append_comm).trans pm1.symm
      · rw [List.set_eq_of_length_le hn, List.set_eq_of_length_le (by rw [h4.len]; exact hn)]
        exact h4.mono st3.f0
    | some x =>
      obtain ⟨x', pre2, Lk, post2, q1, q2, q3, q4⟩ := Dq.focus (h4.mono st3.f0) hx
      subst q2
      refine hu.run (L := pre ++ (((p, .lst (vs.set n w)) :: (pre2 ++ (Lw ++ post2))) ++ post)) (OwnSb O5 ⟨Lk, ?_⟩) (h5 F3 _ _ γ' st3.f0 ⟨p, _, _, rfl, rfl, q4 F3 w Lw y (Same.refl _) (s1.m (st2.f0.trans st3.f0) r1)⟩ e4) ez (fin.mo (st1.f0.trans (st2.f0.trans st3.f0)))
      refine (pm2.append_right Lk).trans (List.Perm.cons _ ?_)
      show List.Perm ((pre ++ ((pre2 ++ (Lw ++ post2)) ++ post)) ++ Lk) _
      rw [List.append_assoc, List.append_assoc, List.append_assoc, List.append_assoc, List.append_assoc]
      refine List.Perm.append_left pre (List.Perm.append_left pre2 ?_)
      have a1 : (Lw ++ (post2 ++ (post ++ Lk))).Perm (Lk ++ (post2 ++ (Lw ++ post))) := by
        have b1 : (Lw ++ (post2 ++ (post ++ Lk))).Perm (post2 ++ (Lw ++ (post ++ Lk))) := List.perm_append_comm_assoc _ _ _
        have b2 : (post2 ++ (Lw ++ (post ++ Lk))) = (post2 ++ (Lw ++ post)) ++ Lk := by simp
        rw [b2] at b1
        exact b1.trans List.perm_append_comm
      simpa using a1⟩
/-- row = place; row[c] = e -/
theorem ss_alias {τ : Type} {f : ρ → Option (List Int)} {up : ρ → List Int → Option τ} {pt : τ → ρ → ρ} {j : Nat} {p : List Int → ρ → ρ''} {g : ρ'' → List Int} {fe fc : ρ'' → Option Int} (hp : SPl t E (sD (sF jI)) f up pt) (hpt : Pt E j (sF (jL jI)) E1 p) (hg : Gt E1 j (sF (jL jI)) g) (hn : Un E j) (he : SE te E1 (sF jI) fe) (hc : SE tc E1 (sF jI) fc) (hu : SS u E E' Ec s m) :
    SS (tSeq (tAsg t (gName j)) (tSeq (tAsg te (gSub (tVar j) tc rSetL)) u)) E E' Ec s (fun γ => ob (f γ) fun row => ob (fe (p row γ)) fun y => ob (fc (p row γ)) fun c => ob (pset row c y) fun row' => ob (up γ row') fun γ' => m (pt γ' γ)) := ⟨fun {σ F0 H0 F H L γ r D} O hE e fin => by
  obtain ⟨row, e1, e⟩ := ob_some e
  obtain ⟨y, e2, e⟩ := ob_some e
  obtain ⟨c, e3, e⟩ := ob_some e
  obtain ⟨row', e4, e⟩ := ob_some e
  obtain ⟨γ', e5, ez⟩ := ob_some e
  refine hp.run O.fh (Held.of O) hE e1 fun v F1 H1 st1 ⟨pre, L1, post, h1, ⟨q, vs, M, h2, h3, h4⟩, h5⟩ => ?_
  obtain ⟨hM, h6⟩ := h4.toP
  subst h2 h3 h1 hM
  have O1 := Own.on O st1
  rw [List.nil_append] at O1
  have hq : H1 q = some (.lst vs) := Held.of O1 (q, .lst vs) (by simp)
  have hF : F1 q = none := (O1.own (q, .lst vs) (by simp)).1
  have zF : Same F1 (upd F1 q (.lst vs)) := fun b u e => by rw [upd_ne (ne_of_none e hF)]; exact e
  have zH : Same (upd F1 q (.lst vs)) H1 := fun b u e => by
    by_cases hb : b = q
    · subst hb
      rw [upd_same] at e
      cases e
      exact hq
    · rw [upd_ne hb] at e
      exact O1.fh b u e
  obtain ⟨L', hE1, hS⟩ := hpt.run (L1 := []) (E.m (st1.f0.trans zF) hE) (show (sF (jL jI)).r (.ref q) (upd F1 q (.lst vs)) [] row from ⟨rfl, q, vs, rfl, upd_same, Paired.mono (fun _ _ w => w) h6⟩)
  rw [List.nil_append] at hS
  have hL' : Held H1 L' := fun z hz => Held.of O1 z (hS.mem hz)
  show te _ _ _
  refine he zH hL' hE1 e2 fun wv F2 H2 L2 st2 ⟨z2, r2⟩ => ?_
  subst z2
  have r2 : wv = .int y := r2
  subst r2
  obtain ⟨v', La, w1, _, _, a', vs', w2, _, _⟩ := hg.run hE1
  have hj : (σ.set j (some (V.ref q)))[j]? = some (some (.ref q)) := by
    rw [w1]
    rw [List.getElem?_set] at w1
    simp only [if_true] at w1
    split at w1
    · exact w1.symm
    · cases w1
  refine ⟨.ref q, hj, ?_⟩
  refine hc (st2.fh) (hL'.mono st2.hh) (E1.m st2.f0 hE1) e3 fun w F3 H3 L3 st3 ⟨z3, r3⟩ => ?_
  subst z3
  have O3 := O1.more (st2.hh.trans st3.hh)
  have O4 := O3.perm (pm2 (a := (q, .lst vs)) (A := pre) (B := []) (D := post)).symm
  unfold pset at e4
  cases hi : ixN row.length c with
  | none => rw [hi] at e4; cases e4
  | some n =>
    rw [hi] at e4
    have e4 : row.set n y = row' := Option.some.inj e4
    subst e4
    refine ⟨q, vs, c, n, rfl, r3, O4.at_ 0, by rw [Paired.len h6]; exact hi, ?_⟩
    have O5 := O4.set 0 rfl (.lst (vs.set n (.int y)))
    refine hu.run (O5.perm pm2) (hn.run (h5 F1 [(q, .lst (vs.set n (.int y)))] _ γ' (Same.refl _) ⟨q, _, [], rfl, rfl, .ofP (Paired.upd (A := jI.r F1) rfl n h6)⟩ e5)) ez (fin.mo st1.f0)⟩
/-- [own thing for x in xs] -/
theorem se_lcD {A : Rp δ} {wi : TI} {g : TG} {is vs : List Nat} {fi : ρ → Option (List δ)} {fe : ρ' → Option α} {p : δ → ρ → ρ'} (hi : SI wi E A fi) (hw : Wp E vs) (hg : SG g is E A E' p) (he : SE te E' s1 fe) (hv : ∀ i ∈ is, i ∈ vs := by decide) :
    SE (tLc wi g tYes te vs) E (sD s1) (fun γ => ob (fi γ) fun xs => ob (lcM (fun x => fe (p x γ)) xs) fun r => pck (r.length ≤ sz) r) := ⟨fun {σ _ _ L γ res Q} s0 hL hE e k => by
  obtain ⟨xs, e1, e⟩ := ob_some e
  obtain ⟨rs, e2, e⟩ := ob_some e
  obtain ⟨pz, e3⟩ := pck_some e
  subst e3
  refine hi.run s0 hL hE e1 fun J F1 H1 st1 it => ?_
  have hE1 := E.m st1.f0 hE
  have hL1 := hL.mono st1.hh
  intro D hD
  refine ⟨fun i m H' => m = xs.length - i ∧ i ≤ xs.length ∧ ∃ F' acc M ys zs, Step F1 H1 F' H' ((D, .lst acc) :: M) ∧ Dq s1 F' acc M ys ∧ lcM (fun x => fe (p x γ)) (xs.drop i) = some zs ∧ rs = ys ++ zs,
    ⟨xs.length, by omega, Nat.zero_le _, F1, [], [], [], rs, (Step.nil st1.fh).alloc hD _, .nil, e2, rfl⟩, ?_⟩
  rintro i m H' ⟨rfl, hi, F', acc, M, ys, zs, st2, pa, e4, e5⟩
  by_cases hlt : i < xs.length
  · obtain ⟨x, hx⟩ : ∃ x, xs[i]? = some x := ⟨_, List.getElem?_eq_getElem hlt⟩
    obtain ⟨go, yl⟩ := it.one st2.f0 st2.fh hx
    have ed : xs.drop i = x :: xs.drop (i + 1) := by
      rw [List.drop_eq_getElem_cons hlt]
      congr 1
      rw [List.getElem?_eq_getElem hlt] at hx
      exact Option.some.inj hx
    rw [ed] at e4
    obtain ⟨y, e8, e9⟩ := ob_some e4
    obtain ⟨r, e10, e11⟩ := ob_some e9
    cases e11
    have hacc : acc.length < sz := by
      rw [pa.len]
      rw [e5, List.length_append, List.length_cons] at pz
      omega
    refine .inr ⟨go, fun H'' => ∃ F' acc M ys zs, Step F1 H1 F' H'' ((D, .lst acc) :: M) ∧ Dq s1 F' acc M ys ∧ lcM (fun x => fe (p x γ)) (xs.drop (i + 1)) = some zs ∧ rs = ys ++ zs, fun H'' h => ⟨xs.length - (i + 1), by omega, rfl, hlt, h⟩, fun v H3 hy => ?_⟩
    obtain ⟨F3, s3, r3⟩ := yl v H3 hy
    have s13 := Own.on st2 s3
    rw [List.nil_append] at s13
    refine hg s3.fh (hw (E.m s13.f0 hE1)) r3 fun σ4 L4 hb4 hE4 hw4 => ⟨?_, ?_⟩
    · rw [hw4 vs hv]
      have gen : ∀ (ws : List Nat), (∀ i ∈ ws, i ∈ vs) → wipe (wipe σ ws) vs = wipe σ vs := by
        intro ws
        induction ws with
        | nil => intro _; rfl
        | cons a as ih => intro h; show wipe ((wipe σ as).set a none) vs = _; rw [wipe_comm _ _ _ vs (h a List.mem_cons_self), ih fun i hi => h i (List.mem_cons_of_mem _ hi)]
      exact gen vs fun _ h => h
    have hL4 : Held H3 L4 := fun q hq => (hL1.mono s13.hh) q (hb4.mem hq)
    show te _ _ _
    refine he s3.fh hL4 hE4 e8 fun w F6 H6 L6 s6 r6 => ?_
    have s16 := Own.on s13 s6
    have O7 := s16.perm (L' := (D, .lst acc) :: (M ++ L6)) ((List.Perm.cons _ List.perm_append_comm).trans List.perm_middle.symm)
    exact ⟨acc, O7.at_ 0, sz_lt hacc, F6, _, M ++ L6, ys ++ [y], r, O7.set 0 rfl _, Dq.app (.one r6) (pa.mono (s3.f0.trans s6.f0)), e10, by rw [e5, List.append_assoc]; rfl⟩
  · have hi2 : i = xs.length := by omega
    subst hi2
    rw [List.drop_length] at e4
    cases e4
    rw [List.append_nil] at e5
    subst e5
    exact .inl ⟨it.stop st2.f0 st2.fh, k _ _ _ _ (by have := Own.on st1 st2; rwa [List.append_nil] at this) ⟨D, acc, M, rfl, rfl, pa⟩⟩⟩
end
end Mi

namespace Mi
open PySem PySem.Spec PyProof.Rows L2 Fw
theorem W_add {ρ κ β : Type} {c c' : Prop} [Decidable c] [Decidable c'] {e : Option Int} {x : Int} {l : List Int} {mk : List Int → Option (Res ρ κ β)} {Q : Res ρ κ β → Prop} (hc : c ↔ c') (he : c' → e = some x) (hl : l.length < sz) (q : W (mk (l ++ if c' then [x] else [])) Q) :
    W (if decide c = true then (ob e fun x => ob (pck (l.length < sz) (l ++ [x])) fun w => mk w) else mk l) Q := by
  refine W_ifD (fun h => ?_) (fun h => ?_)
  · rw [he (hc.mp h), W_ob, W_some, W_ob, W_pck]
    rw [if_pos (hc.mp h)] at q
    exact ⟨hl, q⟩
  · rw [if_neg fun z => h (hc.mpr z), List.append_nil] at q
    exact q
theorem one_le1 {c : Prop} [Decidable c] (x : Int) : (if c then [x] else ([] : List Int)).length ≤ 1 := by
  split
  · exact Nat.le_refl 1
  · exact Nat.zero_le 1
theorem cell_add {n m a b : Nat} {M : Nat → Nat → Int} {v : Int} (ha : a ≤ n) (hb : b ≤ m) : (ob (ob (pat (grid (n + 1) (m + 1) M) (a : Int)) fun x => pat x (b : Int)) fun x => some (x + v)) = some (M a b + v) := by
  have : (ob (pat (grid (n + 1) (m + 1) M) (a : Int)) fun x => pat x (b : Int)) = some (M a b) := pcell_grid (by omega) (by omega)
  rw [this]
  rfl
theorem cell_add2 {n m a b : Nat} {M : Nat → Nat → Int} {v v' : Int} (ha : a ≤ n) (hb : b ≤ m) : (ob (ob (ob (pat (grid (n + 1) (m + 1) M) (a : Int)) fun x => pat x (b : Int)) fun x => some (x + v)) fun x => some (x + v')) = some (M a b + (v + v')) := by
  rw [cell_add ha hb]
  show some (M a b + v + v') = _
  rw [Int.add_assoc]
end Mi

namespace Lw
open PySem PySem.Spec PyProof.Rows L2 Fw
/-! ### the text by places -/
def top (i : Nat) : Stmt := PySem.Challenge.pw_homereads_k30_whole_papers_never_show_to.main.body.getD i (.Pass ⟨0, 0, 0, 0⟩)
abbrev s_agree : Stmt := top 2
abbrev s_first_tables : Stmt := top 5
abbrev s_least_costs : Stmt := top 6
abbrev s_paper : Stmt := top 8
abbrev s_sized : Stmt := top 9
abbrev s_bounded : Stmt := top 10
abbrev s_pair_bounds : Stmt := top 11
abbrev s_extra_bounds : Stmt := top 12
abbrev s_gap_bounds : Stmt := top 13
abbrev s_cell_holds : Stmt := top 14
abbrev s_shown : Stmt := top 15
abbrev s_law_cell : Stmt := top 17
abbrev s_law_row : Stmt := top 18
abbrev s_law_integer : Stmt := top 19
abbrev s_law_text : Stmt := top 20
abbrev s_law_turned : Stmt := top 21
abbrev s_law_read : Stmt := top 22
abbrev s_law_agree : Stmt := top 24
abbrev s_law_least : Stmt := top 25
abbrev s_law_costs : Stmt := top 28
abbrev s_law_cell_bounds : Stmt := top 29
abbrev s_law_judged : Stmt := top 30
abbrev s_law_paper : Stmt := top 31
abbrev s_law : Stmt := top 32
theorem sc_agree : FnScope ["first", "second"] ["first", "second"] (defScope s_agree) := ⟨rfl, rfl, rfl, by decide +kernel, rfl, by decide +kernel, by decide +kernel⟩
theorem sc_first_tables : FnScope ["count", "end", "pairs", "_", "extra", "gaps"] ["count", "end"] (defScope s_first_tables) := ⟨rfl, rfl, rfl, by decide +kernel, rfl, by decide +kernel, by decide +kernel⟩
theorem sc_least_costs : FnScope ["read", "text", "end", "costs", "replace", "start", "each", "pairs", "extra", "gaps", "i", "j", "weight", "before", "opened"] ["read", "text", "end", "costs"] (defScope s_least_costs) := ⟨rfl, rfl, rfl, by decide +kernel, rfl, by decide +kernel, by decide +kernel⟩
theorem sc_paper : FnScope ["read", "text", "end", "costs", "result", "table", "cell", "row"] ["read", "text", "end", "costs"] (defScope s_paper) := ⟨rfl, rfl, rfl, by decide +kernel, rfl, by decide +kernel, by decide +kernel⟩
theorem sc_sized : FnScope ["table", "count", "end", "row"] ["table", "count", "end"] (defScope s_sized) := ⟨rfl, rfl, rfl, by decide +kernel, rfl, by decide +kernel, by decide +kernel⟩
theorem sc_bounded : FnScope ["table", "i", "j", "others", "other"] ["table", "i", "j", "others"] (defScope s_bounded) := ⟨rfl, rfl, rfl, by decide +kernel, rfl, by decide +kernel, by decide +kernel⟩
theorem sc_pair_bounds : FnScope ["tables", "i", "j", "weight", "pairs", "extra", "gaps", "found"] ["tables", "i", "j", "weight"] (defScope s_pair_bounds) := ⟨rfl, rfl, rfl, by decide +kernel, rfl, by decide +kernel, by decide +kernel⟩
theorem sc_extra_bounds : FnScope ["tables", "i", "j", "costs", "pairs", "extra", "gaps", "_", "start", "each", "found"] ["tables", "i", "j", "costs"] (defScope s_extra_bounds) := ⟨rfl, rfl, rfl, by decide +kernel, rfl, by decide +kernel, by decide +kernel⟩
theorem sc_gap_bounds : FnScope ["tables", "i", "j", "costs", "pairs", "extra", "gaps", "_", "start", "each", "found"] ["tables", "i", "j", "costs"] (defScope s_gap_bounds) := ⟨rfl, rfl, rfl, by decide +kernel, rfl, by decide +kernel, by decide +kernel⟩
theorem sc_cell_holds : FnScope ["tables", "read", "text", "i", "j", "costs", "pairs", "extra", "gaps", "weight"] ["tables", "read", "text", "i", "j", "costs"] (defScope s_cell_holds) := ⟨rfl, rfl, rfl, by decide +kernel, rfl, by decide +kernel, by decide +kernel⟩
theorem sc_shown : FnScope ["read", "text", "end", "costs", "told", "count", "table", "i", "j"] ["read", "text", "end", "costs", "told"] (defScope s_shown) := ⟨rfl, rfl, rfl, by decide +kernel, rfl, by decide +kernel, by decide +kernel⟩
theorem sc_law_cell : FnScope ["_law_script", "_law_k"] ["_law_script", "_law_k"] (defScope s_law_cell) := ⟨rfl, rfl, rfl, by decide +kernel, rfl, by decide +kernel, by decide +kernel⟩
theorem sc_law_row : FnScope ["_law_cell_here", "_law_count", "_law_bound", "_law_rest", "_law_mixed", "_law_row_here", "_law_k"] ["_law_cell_here", "_law_count", "_law_bound"] (defScope s_law_row) := ⟨rfl, rfl, rfl, by decide +kernel, rfl, by decide +kernel, by decide +kernel⟩
theorem sc_law_integer : FnScope ["_law_value"] ["_law_value"] (defScope s_law_integer) := ⟨rfl, rfl, rfl, by decide +kernel, rfl, by decide +kernel, by decide +kernel⟩
theorem sc_law_text : FnScope ["_law_cell_here", "_law_size", "_law_drawn", "_law_kind", "_law_text_here", "_law_k", "_law_letter"] ["_law_cell_here", "_law_size"] (defScope s_law_text) := ⟨rfl, rfl, rfl, by decide +kernel, rfl, by decide +kernel, by decide +kernel⟩
theorem sc_law_turned : FnScope ["_law_text_here", "_law_news", "_law_letter"] ["_law_text_here"] (defScope s_law_turned) := ⟨rfl, rfl, rfl, by decide +kernel, rfl, by decide +kernel, by decide +kernel⟩
theorem sc_law_read : FnScope ["_law_cell_here", "_law_text_here", "_law_size", "_law_x", "_law_start", "_law_read_here", "_law_k", "_law_y", "_law_at", "_law_letter"] ["_law_cell_here", "_law_text_here", "_law_size"] (defScope s_law_read) := ⟨rfl, rfl, rfl, by decide +kernel, rfl, by decide +kernel, by decide +kernel⟩
theorem sc_law_agree : FnScope ["_law_a", "_law_b"] ["_law_a", "_law_b"] (defScope s_law_agree) := ⟨rfl, rfl, rfl, by decide +kernel, rfl, by decide +kernel, by decide +kernel⟩
theorem sc_law_least : FnScope ["_law_read_here", "_law_text_here", "_law_end", "_law_costs_here", "_law_replace", "_law_start", "_law_each", "_law_far", "_law_p", "_law_q", "_law_r", "_law_j", "_law_letter", "_law_news", "_law_extra", "_law_gaps"] ["_law_read_here", "_law_text_here", "_law_end", "_law_costs_here"] (defScope s_law_least) := ⟨rfl, rfl, rfl, by decide +kernel, rfl, by decide +kernel, by decide +kernel⟩
theorem sc_law_costs : FnScope ["_law_cell_here", "_law_row_here"] ["_law_cell_here"] (defScope s_law_costs) := ⟨rfl, rfl, rfl, by decide +kernel, rfl, by decide +kernel, by decide +kernel⟩
theorem sc_law_cell_bounds : FnScope ["_law_p", "_law_q", "_law_r", "_law_i", "_law_j", "_law_w", "_law_open_cost", "_law_each", "_law_pair", "_law_extra", "_law_gap", "_law_k"] ["_law_p", "_law_q", "_law_r", "_law_i", "_law_j", "_law_w", "_law_open_cost", "_law_each"] (defScope s_law_cell_bounds) := ⟨rfl, rfl, rfl, by decide +kernel, rfl, by decide +kernel, by decide +kernel⟩
theorem sc_law_judged : FnScope ["_law_read_here", "_law_text_here", "_law_end", "_law_costs_here", "_law_told", "_law_p", "_law_q", "_law_r", "_law_table", "_law_row_here", "_law_i", "_law_j", "_law_w", "_law_pair", "_law_extra", "_law_gap", "_law_n"] ["_law_read_here", "_law_text_here", "_law_end", "_law_costs_here", "_law_told"] (defScope s_law_judged) := ⟨rfl, rfl, rfl, by decide +kernel, rfl, by decide +kernel, by decide +kernel⟩
theorem sc_law_paper : FnScope ["_law_read_here", "_law_text_here", "_law_end", "_law_costs_here", "_law_cell_here", "_law_x", "_law_great", "_law_tables", "_law_row_here", "_law_table", "_law_drawn", "_law_t", "_law_base", "_law_v", "_law_i", "_law_k", "_law_y"] ["_law_read_here", "_law_text_here", "_law_end", "_law_costs_here", "_law_cell_here"] (defScope s_law_paper) := ⟨rfl, rfl, rfl, by decide +kernel, rfl, by decide +kernel, by decide +kernel⟩
theorem sc_law : FnScope ["_law_script", "_law_first", "_law_text_here", "_law_read_here", "_law_end", "_law_costs_here", "_law_told", "_law_before", "_law_row_here", "_law_table", "_law_actual", "_law_expected"] ["_law_script"] (defScope s_law) := ⟨rfl, rfl, rfl, by decide +kernel, rfl, by decide +kernel, by decide +kernel⟩
structure Tx (w : World) (K : PySem.W.Frag) (mg : Str → Option Value) : Prop where
  g_agree : mg "agree" = some (.ref (He.ga K "agree"))
  g_first_tables : mg "first_tables" = some (.ref (He.ga K "first_tables"))
  g_least_costs : mg "least_costs" = some (.ref (He.ga K "least_costs"))
  g_paper : mg "paper" = some (.ref (He.ga K "paper"))
  g_sized : mg "sized" = some (.ref (He.ga K "sized"))
  g_bounded : mg "bounded" = some (.ref (He.ga K "bounded"))
  g_pair_bounds : mg "pair_bounds" = some (.ref (He.ga K "pair_bounds"))
  g_extra_bounds : mg "extra_bounds" = some (.ref (He.ga K "extra_bounds"))
  g_gap_bounds : mg "gap_bounds" = some (.ref (He.ga K "gap_bounds"))
  g_cell_holds : mg "cell_holds" = some (.ref (He.ga K "cell_holds"))
  g_shown : mg "shown" = some (.ref (He.ga K "shown"))
  g_law_cell : mg "_law_cell" = some (.ref (He.ga K "_law_cell"))
  g_law_row : mg "_law_row" = some (.ref (He.ga K "_law_row"))
  g_law_integer : mg "_law_integer" = some (.ref (He.ga K "_law_integer"))
  g_law_text : mg "_law_text" = some (.ref (He.ga K "_law_text"))
  g_law_turned : mg "_law_turned" = some (.ref (He.ga K "_law_turned"))
  g_law_read : mg "_law_read" = some (.ref (He.ga K "_law_read"))
  g_law_agree : mg "_law_agree" = some (.ref (He.ga K "_law_agree"))
  g_law_least : mg "_law_least" = some (.ref (He.ga K "_law_least"))
  g_law_costs : mg "_law_costs" = some (.ref (He.ga K "_law_costs"))
  g_law_cell_bounds : mg "_law_cell_bounds" = some (.ref (He.ga K "_law_cell_bounds"))
  g_law_judged : mg "_law_judged" = some (.ref (He.ga K "_law_judged"))
  g_law_paper : mg "_law_paper" = some (.ref (He.ga K "_law_paper"))
  g_law : mg "law" = some (.ref (He.ga K "law"))
  z_range : mg "range" = none
  z_len : mg "len" = none
  z_min : mg "min" = none
  z_tuple : mg "tuple" = none
  z_all : mg "all" = none
  z_int : mg "int" = none
  z_abs : mg "abs" = none
  z_isinstance : mg "isinstance" = none
  z_bool : mg "bool" = none
  z_list : mg "list" = none
  k_UNKNOWN : ∃ t, mg "UNKNOWN" = some (.str (S [78]) t)
  k_NEVER : ∃ t, mg "NEVER" = some (.int 1152921504606846976 t)
  d_agree : ∃ fd, FnP K "agree" "agree" s_agree (He.ga K "agree") fd
  d_first_tables : ∃ fd, FnP K "first_tables" "first_tables" s_first_tables (He.ga K "first_tables") fd
  d_least_costs : ∃ fd, FnP K "least_costs" "least_costs" s_least_costs (He.ga K "least_costs") fd
  d_paper : ∃ fd, FnP K "paper" "paper" s_paper (He.ga K "paper") fd
  d_sized : ∃ fd, FnP K "sized" "sized" s_sized (He.ga K "sized") fd
  d_bounded : ∃ fd, FnP K "bounded" "bounded" s_bounded (He.ga K "bounded") fd
  d_pair_bounds : ∃ fd, FnP K "pair_bounds" "pair_bounds" s_pair_bounds (He.ga K "pair_bounds") fd
  d_extra_bounds : ∃ fd, FnP K "extra_bounds" "extra_bounds" s_extra_bounds (He.ga K "extra_bounds") fd
  d_gap_bounds : ∃ fd, FnP K "gap_bounds" "gap_bounds" s_gap_bounds (He.ga K "gap_bounds") fd
  d_cell_holds : ∃ fd, FnP K "cell_holds" "cell_holds" s_cell_holds (He.ga K "cell_holds") fd
  d_shown : ∃ fd, FnP K "shown" "shown" s_shown (He.ga K "shown") fd
  d_law_cell : ∃ fd, FnP K "_law_cell" "_law_cell" s_law_cell (He.ga K "_law_cell") fd
  d_law_row : ∃ fd, FnP K "_law_row" "_law_row" s_law_row (He.ga K "_law_row") fd
  d_law_integer : ∃ fd, FnP K "_law_integer" "_law_integer" s_law_integer (He.ga K "_law_integer") fd
  d_law_text : ∃ fd, FnP K "_law_text" "_law_text" s_law_text (He.ga K "_law_text") fd
  d_law_turned : ∃ fd, FnP K "_law_turned" "_law_turned" s_law_turned (He.ga K "_law_turned") fd
  d_law_read : ∃ fd, FnP K "_law_read" "_law_read" s_law_read (He.ga K "_law_read") fd
  d_law_agree : ∃ fd, FnP K "_law_agree" "_law_agree" s_law_agree (He.ga K "_law_agree") fd
  d_law_least : ∃ fd, FnP K "_law_least" "_law_least" s_law_least (He.ga K "_law_least") fd
  d_law_costs : ∃ fd, FnP K "_law_costs" "_law_costs" s_law_costs (He.ga K "_law_costs") fd
  d_law_cell_bounds : ∃ fd, FnP K "_law_cell_bounds" "_law_cell_bounds" s_law_cell_bounds (He.ga K "_law_cell_bounds") fd
  d_law_judged : ∃ fd, FnP K "_law_judged" "_law_judged" s_law_judged (He.ga K "_law_judged") fd
  d_law_paper : ∃ fd, FnP K "_law_paper" "_law_paper" s_law_paper (He.ga K "_law_paper") fd
  d_law : ∃ fd, FnP K "law" "law" s_law (He.ga K "law") fd
end Lw
namespace Lw
open PySem PySem.Spec PyProof.Rows L2 Fw Mi
section
variable {P : Program} {w : World} {K : PySem.W.Frag} {mg : Str → Option Value} {base : Heap}
noncomputable def m_law_cell (script : (List Int)) (k : Int) : Option Int := fin (κ := Unit) (ρ := Unit) (rb (if (decide (k < (script.length : Int))) = true then (rb (ob (ob (ob (pat script k) fun x4 => some (x4, ())) fun z5 => some z5.1) fun r6 => some (.ret r6)) fun γ => some (.nxt γ)) else (some (.nxt (script, k, ())))) fun γ => rb (some (.ret (0 : Int))) fun γ => some (.nxt γ))
abbrev sp_law_cell (K : PySem.W.Frag) : Sp := spM (aC (jQ K jI) (aC jI aN)) (sF jI) (fun γ => m_law_cell γ.1 γ.2.1)
theorem ok_law_cell (T : Tx w K mg) : Dn P w K mg base 1 (He.ga K "_law_cell") ["_law_script", "_law_k"] (sp_law_cell K) := by
  refine dn_mk T.d_law_cell sc_law_cell (fun _ _ _ _ _ _ us hl => match us, hl with | [_, _], _ => rfl) (spM_len (an_C (an_C an_0))) fun cdv A outer s H vs Q E hr h => ?_
  refine ⟨_, (pss_cons (ps_if (pt_cmpR op_lt (pv 1) (pe_callB (lenQ_ (K := K)) (by rfl) T.z_len (by decide +kernel) (pa_cons (pv 0) pa_nil)) (nomark _))
      (pss_cons (ps_ret (pe_callTy k_int (by rfl) T.z_int (by decide +kernel) (pa_cons (pe_ix (ixL_ (K := K)) (pv 0) (pv 1) (fun _ _ => rfl)) pa_nil)))
      pss_nil)
      pss_nil)
      (pss_cons (ps_ret pe_int)
      pss_nil)), ?_⟩
  refine fin_runX (E := (eC (sF (jQ K jI)) (eC (sF jI) eN))) (E' := eN) (ae_C (ae_C ae_0)) (an_C (an_C an_0)) rfl ?S h rfl
  exact ⟨_, (ss_seq (ss_if (st_test (se_op (se_var (gS g0)) (se_cb (sa_cons (se_var g0) sa_nil) (sc_lenQ (K := K))) (s2_C0 (f := fun i j => decide (i < j))))) (ss_seq (ss_ret (se_cb (sa_cons (se_op (se_var g0) (se_var (gS g0)) s2_ixQ) sa_nil) sc_int)) ss_nil) ss_nil) (ss_seq (ss_ret se_int) ss_nil)), by exact rfl⟩
end
end Lw
namespace Lw
open PySem PySem.Spec PyProof.Rows L2 Fw Mi
local macro_rules | `(tactic| walk_at "m") => `(tactic| simp only [pidx_one, pinS_one, pninS_one, W_some, W_none, W_ob, W_bind, W_pck, W_rb, W_fin, W_finN, W_T, W_F, W_Tr, W_Fa, Rw_nxt, Rw_ret, Rw_cnt, Rf_ret, Rf_nxt, RfN_ret, RfN_nxt, decide_true, decide_false, Bool.not_true, Bool.not_false])
theorem w_cell {ns : List Int} {k : Int} {Q : Int → Prop} (hk : 0 ≤ k) (q : ∀ c, Q c) : W (m_law_cell ns k) Q := by
  unfold m_law_cell
  walk_at "m"
  refine W_ifD (fun h => ?_) (fun h => ?_)
  · walk_at "m"
    exact W_pat ⟨hk, h⟩ fun c _ => q c
  · walk_at "m"
    exact q _

end Lw
namespace Lw
open PySem PySem.Spec PyProof.Rows L2 Fw Mi
section
variable {P : Program} {w : World} {K : PySem.W.Frag} {mg : Str → Option Value} {base : Heap}
noncomputable def m_law_row (cell : Int) (count : Int) (bound : Int) : Option (List Int) := fin (κ := Unit) (ρ := Unit) (ob (ob (pck (PMod cell (1000003 : Int)) (cell % (1000003 : Int))) fun x1 => some (x1 + (1 : Int))) fun mixed => ob (pck (([] : List Int).length ≤ sz) []) fun row => rb (ob (pck (-4611686018427387904 ≤ count ∧ count < 4611686018427387904) (prange count)) fun xs16 => (forR (fun (x_ : Int) (γ : (Int × Int × Int × Int × Int × (List Int) × Unit)) => let k := x_; let cell := γ.1; let count := γ.2.1; let bound := γ.2.2.1; let rest := γ.2.2.2.1; let mixed := γ.2.2.2.2.1; let row := γ.2.2.2.2.2.1; rb (if (decide (bound ≤ rest)) = true then ((ob (pck (PMod rest bound) (rest % bound)) fun x3 => ob (pck (row.length < sz) (row ++ [x3])) fun w2 => ob (pck (PDiv rest bound) (rest / bound)) fun rest => some (.nxt (cell, count, bound, rest, mixed, w2, k, ())))) else (ob (ob (ob (ob (ob (ob (pck (PMul mixed (48271 : Int)) (mixed * (48271 : Int))) fun x4 => (ob (pck (PMul (11 : Int) k) ((11 : Int) * k)) fun y5 => some (x4 + y5))) fun x6 => some (x6 + (7 : Int))) fun x7 => some (x7, ())) fun z8 => some z8.1) fun x9 => (pck (PMod x9 (2147483647 : Int)) (x9 % (2147483647 : Int)))) fun mixed => (ob (ob (ob (ob (ob (pck (PMul mixed (2862933555777941757 : Int)) (mixed * (2862933555777941757 : Int))) fun x10 => (pck (PDiv x10 (1024 : Int)) (x10 / (1024 : Int)))) fun x11 => some (x11, ())) fun z12 => some z12.1) fun x13 => (pck (PMod x13 bound) (x13 % bound))) fun x15 => ob (pck (row.length < sz) (row ++ [x15])) fun w14 => some (.nxt (cell, count, bound, rest, mixed, w14, k, ()))))) fun γ => let cell := γ.1; let count := γ.2.1; let bound := γ.2.2.1; let rest := γ.2.2.2.1; let mixed := γ.2.2.2.2.1; let row := γ.2.2.2.2.2.1; some (.nxt (cell, count, bound, rest, mixed, row, ()))) xs16 (cell, count, bound, (cell.natAbs : Int), mixed, row, ()))) fun γ => let row := γ.2.2.2.2.2.1; rb (some (.ret row)) fun γ => some (.nxt γ))
abbrev sp_law_row (K : PySem.W.Frag) : Sp := spM (aC jI (aC jI (aC jI aN))) (sO jI) (fun γ => m_law_row γ.1 γ.2.1 γ.2.2.1)
theorem ok_law_row (T : Tx w K mg) : Dn P w K mg base 1 (He.ga K "_law_row") ["_law_cell_here", "_law_count", "_law_bound"] (sp_law_row K) := by
  refine dn_mk T.d_law_row sc_law_row (fun _ _ _ _ _ _ us hl => match us, hl with | [_, _, _], _ => rfl) (spM_len (an_C (an_C (an_C an_0)))) fun cdv A outer s H vs Q E hr h => ?_
  refine ⟨_, (pss_cons (ps_set (i := 3) sc_law_row.nd rfl (.inl rfl) (pe_callB k_abs (by rfl) T.z_abs (by decide +kernel) (pa_cons (pe_callTy k_int (by rfl) T.z_int (by decide +kernel) (pa_cons (pv 0) pa_nil)) pa_nil)))
      (pss_cons (ps_set (i := 4) sc_law_row.nd rfl (.inl rfl) (pe_op op_add (pe_op op_mod (pe_callTy k_int (by rfl) T.z_int (by decide +kernel) (pa_cons (pv 0) pa_nil)) pe_int) pe_int))
      (pss_cons (ps_set (i := 5) sc_law_row.nd rfl (.inl rfl) (pe_lst pa_nil))
      (pss_cons (ps_for PassesOwn.never rfl (pi_range1 (by rfl) T.z_range (pa_cons (pv 1) pa_nil)) (pg_name (i := 6) sc_law_row.nd rfl (.inl rfl))
      (pss_cons (ps_if (pt_cmpR op_ge (pv 3) (pv 2) (nomark _))
      (pss_cons (ps_expr (bm_ (K := K) PySem.F.plainAttrs_list PySem.F.slot_list_append PySem.F.type_list_append mt_append (pv 5) (pa_cons (pe_op op_mod (pe_callTy k_int (by rfl) T.z_int (by decide +kernel) (pa_cons (pv 3) pa_nil)) (pv 2)) pa_nil)))
      (pss_cons (ps_set (i := 3) sc_law_row.nd rfl (.inl rfl) (pe_op op_fdiv (pv 3) (pv 2)))
      pss_nil))
      (pss_cons (ps_set (i := 4) sc_law_row.nd rfl (.inl rfl) (pe_op op_mod (pe_callTy k_int (by rfl) T.z_int (by decide +kernel) (pa_cons (pe_op op_add (pe_op op_add (pe_op op_mul (pv 4) pe_int) (pe_op op_mul pe_int (pv 6))) pe_int) pa_nil)) pe_int))
      (pss_cons (ps_expr (bm_ (K := K) PySem.F.plainAttrs_list PySem.F.slot_list_append PySem.F.type_list_append mt_append (pv 5) (pa_cons (pe_op op_mod (pe_callTy k_int (by rfl) T.z_int (by decide +kernel) (pa_cons (pe_op op_fdiv (pe_op op_mul (pv 4) pe_int) pe_int) pa_nil)) (pv 2)) pa_nil)))
      pss_nil)))
      pss_nil))
      (pss_cons (ps_ret (pv 5))
      pss_nil))))), ?_⟩
  refine fin_runX (E := (eC (sF jI) (eC (sF jI) (eC (sF jI) (eU (eU (eU (eU eN)))))))) (E' := eN) (ae_C (ae_C (ae_C (ae_U rfl (ae_U rfl (ae_U rfl (ae_U rfl ae_0))))))) (an_C (an_C (an_C an_0))) rfl ?S h rfl
  exact ⟨_, (ss_asg (se_cb (sa_cons (se_cb (sa_cons (se_var g0) sa_nil) sc_int) sa_nil) sc_abs) (pS (pS (pS p0U))) (ss_asg (se_op (se_op (se_cb (sa_cons (se_var g0) sa_nil) sc_int) se_int s2_mod) se_int (s2_I0 (f := fun i j => i + j))) (pS (pS (pS (pS p0U)))) (ss_asg (se_lst (A := jI) sl_nil) (pS (pS (pS (pS (pS p0U))))) (ss_seq (ss_for (si_r1 (sa_cons (se_var (gS g0)) sa_nil)) (sg_name (pS (pS (pS (pS (pS (pS p0U))))))) (ss_seq (ss_if (st_test (se_op (se_var (gS (gS (gS g0)))) (se_var (gS (gS g0))) (s2_C0 (f := fun i j => decide (j ≤ i))))) (ss_app (K := K) (uS (uS (uS (uS (uS u0))))) (se_op (se_cb (sa_cons (se_var (gS (gS (gS g0)))) sa_nil) sc_int) (se_var (gS (gS g0))) s2_mod) (ss_asg (se_op (se_var (gS (gS (gS g0)))) (se_var (gS (gS g0))) s2_div) (pS (pS (pS p0))) ss_nil)) (ss_asg (se_op (se_cb (sa_cons (se_op (se_op (se_op (se_var (gS (gS (gS (gS g0))))) se_int s2_mul) (se_op se_int (se_var (gS (gS (gS (gS (gS (gS g0))))))) s2_mul) (s2_I0 (f := fun i j => i + j))) se_int (s2_I0 (f := fun i j => i + j))) sa_nil) sc_int) se_int s2_mod) (pS (pS (pS (pS p0)))) (ss_app (K := K) (uS (uS (uS (uS (uS u0))))) (se_op (se_cb (sa_cons (se_op (se_op (se_var (gS (gS (gS (gS g0))))) se_int s2_mul) se_int s2_div) sa_nil) sc_int) (se_var (gS (gS g0))) s2_mod) ss_nil))) (ss_co (cK (cK (cK (cK (cK (cK (cF cId)))))))))) (ss_seq (ss_retO (gS (gS (gS (gS (gS g0)))))) ss_nil))))), by exact rfl⟩
end
end Lw
namespace Lw
open PySem PySem.Spec PyProof.Rows L2 Fw Mi
local macro_rules | `(tactic| walk_at "m") => `(tactic| simp only [pidx_one, pinS_one, pninS_one, W_some, W_none, W_ob, W_bind, W_pck, W_rb, W_fin, W_finN, W_T, W_F, W_Tr, W_Fa, Rw_nxt, Rw_ret, Rw_cnt, Rf_ret, Rf_nxt, RfN_ret, RfN_nxt, decide_true, decide_false, Bool.not_true, Bool.not_false])
theorem w_row {c n b : Int} {Q : List Int → Prop} (hn : 0 ≤ n ∧ n < 1000000) (hb : 0 < b ∧ b < 1073741824) (q : ∀ ns : List Int, ns.length = n.toNat → (∀ x ∈ ns, 0 ≤ x ∧ x < b) → Q ns) : W (m_law_row c n b) Q := by
  unfold m_law_row
  walk_at "m"
  refine ⟨by omega, by simp, by omega, ?_⟩
  refine W_for (fun i γ => ∃ rest mixed row, γ = (c, n, b, rest, mixed, row, ()) ∧ 0 ≤ rest ∧ (0 ≤ mixed ∧ mixed < 2147483648) ∧ row.length = i ∧ ∀ x ∈ row, 0 ≤ x ∧ x < b) ⟨_, _, [], rfl, by omega, by omega, rfl, by simp⟩ ?_ ?_
  · rintro i k γ hk ⟨rest, mixed, row, rfl, h1, h2, h3, h4⟩
    obtain ⟨rfl, hi⟩ := prange_get hk
    walk_at "m"
    have hm : ∀ y : Int, 0 ≤ y % b ∧ y % b < b := fun y => ⟨Int.emod_nonneg _ (by omega), Int.emod_lt_of_pos _ hb.1⟩
    have hap : ∀ y, (0 ≤ y ∧ y < b) → ∀ x ∈ row ++ [y], 0 ≤ x ∧ x < b := fun y hy x hx => by
      rcases List.mem_append.mp hx with hx | hx
      · exact h4 x hx
      · rw [List.mem_singleton.mp hx]; exact hy
    refine W_ifD (fun h => ?_) (fun h => ?_)
    · walk_at "m"
      refine ⟨hb.1, by unfold sz; omega, ⟨hb.1, hb.2⟩, _, _, _, rfl, Int.ediv_nonneg h1 (by omega), h2, by simp [h3], hap _ (hm _)⟩
    · walk_at "m"
      refine ⟨by omega, by omega, by omega, by omega, by omega, hb.1, by unfold sz; omega, _, _, _, rfl, h1, by omega, by simp [h3], hap _ (hm _)⟩
  · rintro γ ⟨rest, mixed, row, rfl, h1, h2, h3, h4⟩
    walk_at "m"
    exact q _ (by rw [h3, prange_len]) h4

end Lw
namespace Lw
open PySem PySem.Spec PyProof.Rows L2 Fw Mi
section
variable {P : Program} {w : World} {K : PySem.W.Frag} {mg : Str → Option Value} {base : Heap}
noncomputable def m_law_text (cell : Int) (size : Int) : Option (List Nat) := fin (κ := Unit) (ρ := Unit) (ob (m_law_row cell size (97 : Int)) fun drawn => ob (ob (pck (PDiv (cell.natAbs : Int) (7 : Int)) ((cell.natAbs : Int) / (7 : Int))) fun x1 => (pck (PMod x1 (4 : Int)) (x1 % (4 : Int)))) fun kind => let text := ([] : List Nat); rb (ob (pck (-4611686018427387904 ≤ size ∧ size < 4611686018427387904) (prange size)) fun xs11 => (forR (fun (x_ : Int) (γ : (Int × Int × (List Int) × Int × (List Nat) × Unit)) => let k := x_; let cell := γ.1; let size := γ.2.1; let drawn := γ.2.2.1; let kind := γ.2.2.2.1; let text := γ.2.2.2.2.1; ob (ob (ob (pat drawn k) fun x2 => (pck (PMod x2 (4 : Int)) (x2 % (4 : Int)))) fun y3 => (pixS ([65, 67, 71, 84] : List Nat) y3)) fun letter => rb ((ob (if (decide (kind = (1 : Int))) = true then (if (decide ((4 : Int) < k)) = true then (ob (ob (pat drawn k) fun x4 => (pck (PMod x4 (11 : Int)) (x4 % (11 : Int)))) fun x5 => some (decide ((0 : Int) < x5))) else some false) else some false) fun b6 => if b6 = true then (ob (pixS text (k - (5 : Int))) fun letter => some (.nxt (cell, size, drawn, kind, text, k, letter, ()))) else (some (.nxt (cell, size, drawn, kind, text, k, letter, ()))))) fun γ => let cell := γ.1; let size := γ.2.1; let drawn := γ.2.2.1; let kind := γ.2.2.2.1; let text := γ.2.2.2.2.1; let k := γ.2.2.2.2.2.1; let letter := γ.2.2.2.2.2.2.1; rb (if (decide (kind = (2 : Int))) = true then (ob (ob (ob (pat drawn k) fun x7 => (pck (PMod x7 (2 : Int)) (x7 % (2 : Int)))) fun y8 => (pixS ([65, 67] : List Nat) y8)) fun letter => some (.nxt (cell, size, drawn, kind, text, k, letter, ()))) else (some (.nxt (cell, size, drawn, kind, text, k, letter, ())))) fun γ => let cell := γ.1; let size := γ.2.1; let drawn := γ.2.2.1; let kind := γ.2.2.2.1; let text := γ.2.2.2.2.1; let k := γ.2.2.2.2.2.1; let letter := γ.2.2.2.2.2.2.1; rb ((ob (if (decide (kind = (3 : Int))) = true then (ob (pat drawn k) fun x9 => some (decide ((88 : Int) < x9))) else some false) fun b10 => if b10 = true then (let letter := ([78] : List Nat); some (.nxt (cell, size, drawn, kind, text, k, letter, ()))) else (some (.nxt (cell, size, drawn, kind, text, k, letter, ()))))) fun γ => let cell := γ.1; let size := γ.2.1; let drawn := γ.2.2.1; let kind := γ.2.2.2.1; let text := γ.2.2.2.2.1; let letter := γ.2.2.2.2.2.2.1; ob (pck (text.length + letter.length ≤ sz) (text ++ letter)) fun text => some (.nxt (cell, size, drawn, kind, text, ()))) xs11 (cell, size, drawn, kind, text, ()))) fun γ => let text := γ.2.2.2.2.1; rb (some (.ret text)) fun γ => some (.nxt γ))
abbrev sp_law_text (K : PySem.W.Frag) : Sp := spM (aC jI (aC jI aN)) (sF jS) (fun γ => m_law_text γ.1 γ.2.1)
theorem ok_law_text (T : Tx w K mg) : Dn P w K mg base 2 (He.ga K "_law_text") ["_law_cell_here", "_law_size"] (sp_law_text K) := by
  obtain ⟨fd_law_row, G_law_row, b_law_row, kp_law_row, _⟩ := ok_law_row (P := P) (w := w) (base := base) T
  refine dn_mk T.d_law_text sc_law_text (fun _ _ _ _ _ _ us hl => match us, hl with | [_, _], _ => rfl) (spM_len (an_C (an_C an_0))) fun cdv A outer s H vs Q E hr h => ?_
  refine ⟨_, (pss_cons (ps_set (i := 2) sc_law_text.nd rfl (.inl rfl) (pe_call G_law_row (hr.mono (by decide)) (by rfl) T.g_law_row kp_law_row b_law_row .nil pass0 (pa_cons (pv 0) (pa_cons (pv 1) (pa_cons pe_int pa_nil)))))
      (pss_cons (ps_set (i := 3) sc_law_text.nd rfl (.inl rfl) (pe_op op_mod (pe_op op_fdiv (pe_callB k_abs (by rfl) T.z_abs (by decide +kernel) (pa_cons (pe_callTy k_int (by rfl) T.z_int (by decide +kernel) (pa_cons (pv 0) pa_nil)) pa_nil)) pe_int) pe_int))
      (pss_cons (ps_set (i := 4) sc_law_text.nd rfl (.inl rfl) (pe_strL (l := []) (by decide +kernel)))
      (pss_cons (ps_for PassesOwn.never rfl (pi_range1 (by rfl) T.z_range (pa_cons (pv 1) pa_nil)) (pg_name (i := 5) sc_law_text.nd rfl (.inl rfl))
      (pss_cons (ps_set (i := 6) sc_law_text.nd rfl (.inl rfl) (pe_ix k_ixS (pe_strL (l := [65, 67, 71, 84]) (by decide +kernel)) (pe_op op_mod (pe_ix (ixL_ (K := K)) (pv 2) (pv 5) (fun _ _ => rfl)) pe_int) (fun _ _ => rfl)))
      (pss_cons (ps_if (PW.pt (pw_and (pt_cmpR op_eq (pv 3) pe_int (nomark _)) (pw_and (pt_cmpR op_gt (pv 5) pe_int (nomark _)) (pw_and1 (pt_cmpR op_gt (pe_op op_mod (pe_ix (ixL_ (K := K)) (pv 2) (pv 5) (fun _ _ => rfl)) pe_int) pe_int (nomark _))))))
      (pss_cons (ps_set (i := 6) sc_law_text.nd rfl (.inl rfl) (pe_ix k_ixS (pv 4) (pe_op op_sub (pv 5) pe_int) (fun _ _ => rfl)))
      pss_nil)
      pss_nil)
      (pss_cons (ps_if (pt_cmpR op_eq (pv 3) pe_int (nomark _))
      (pss_cons (ps_set (i := 6) sc_law_text.nd rfl (.inl rfl) (pe_ix k_ixS (pe_strL (l := [65, 67]) (by decide +kernel)) (pe_op op_mod (pe_ix (ixL_ (K := K)) (pv 2) (pv 5) (fun _ _ => rfl)) pe_int) (fun _ _ => rfl)))
      pss_nil)
      pss_nil)
      (pss_cons (ps_if (PW.pt (pw_and (pt_cmpR op_eq (pv 3) pe_int (nomark _)) (pw_and1 (pt_cmpR op_gt (pe_ix (ixL_ (K := K)) (pv 2) (pv 5) (fun _ _ => rfl)) pe_int (nomark _)))))
      (pss_cons (ps_set (i := 6) sc_law_text.nd rfl (.inl rfl) (pe_strL (l := [78]) (by decide +kernel)))
      pss_nil)
      pss_nil)
      (pss_cons (ps_set (i := 4) sc_law_text.nd rfl (.inl rfl) (pe_op k_addS (pv 4) (pv 6)))
      pss_nil))))))
      (pss_cons (ps_ret (pv 4))
      pss_nil))))), ?_⟩
  refine fin_runX (E := (eC (sF jI) (eC (sF jI) (eU (eU (eU (eU (eU eN)))))))) (E' := eN) (ae_C (ae_C (ae_U rfl (ae_U rfl (ae_U rfl (ae_U rfl (ae_U rfl ae_0))))))) (an_C (an_C an_0)) rfl ?S h rfl
  exact ⟨_, (ss_asg (se_call (sa_cons (se_var g0) (sa_cons (se_var (gS g0)) (sa_cons se_int sa_nil)))) (pS (pS p0U)) (ss_asg (se_op (se_op (se_cb (sa_cons (se_cb (sa_cons (se_var g0) sa_nil) sc_int) sa_nil) sc_abs) se_int s2_div) se_int s2_mod) (pS (pS (pS p0U))) (ss_asg (se_str (l := [])) (pS (pS (pS (pS p0U)))) (ss_seq (ss_for (si_r1 (sa_cons (se_var (gS g0)) sa_nil)) (sg_name (pS (pS (pS (pS (pS p0U)))))) (ss_asg (se_op (se_str (l := [65, 67, 71, 84])) (se_op (se_ixB (K := K) (sb_var (gS (gS g0))) (se_var (gS (gS (gS (gS (gS g0))))))) se_int s2_mod) s2_ixS) (pS (pS (pS (pS (pS (pS p0U)))))) (ss_seq (ss_if (st_and (st_test (se_op (se_var (gS (gS (gS g0)))) se_int (s2_eqI))) (st_and (st_test (se_op (se_var (gS (gS (gS (gS (gS g0)))))) se_int (s2_C0 (f := fun i j => decide (j < i))))) (st_test (se_op (se_op (se_ixB (K := K) (sb_var (gS (gS g0))) (se_var (gS (gS (gS (gS (gS g0))))))) se_int s2_mod) se_int (s2_C0 (f := fun i j => decide (j < i))))))) (ss_asg (se_op (se_var (gS (gS (gS (gS g0))))) (se_op (se_var (gS (gS (gS (gS (gS g0)))))) se_int (s2_I0 (f := fun i j => i - j))) s2_ixS) (pS (pS (pS (pS (pS (pS p0)))))) ss_nil) ss_nil) (ss_seq (ss_if (st_test (se_op (se_var (gS (gS (gS g0)))) se_int (s2_eqI))) (ss_asg (se_op (se_str (l := [65, 67])) (se_op (se_ixB (K := K) (sb_var (gS (gS g0))) (se_var (gS (gS (gS (gS (gS g0))))))) se_int s2_mod) s2_ixS) (pS (pS (pS (pS (pS (pS p0)))))) ss_nil) ss_nil) (ss_seq (ss_if (st_and (st_test (se_op (se_var (gS (gS (gS g0)))) se_int (s2_eqI))) (st_test (se_op (se_ixB (K := K) (sb_var (gS (gS g0))) (se_var (gS (gS (gS (gS (gS g0))))))) se_int (s2_C0 (f := fun i j => decide (j < i)))))) (ss_asg (se_str (l := [78])) (pS (pS (pS (pS (pS (pS p0)))))) ss_nil) ss_nil) (ss_asg (se_op (se_var (gS (gS (gS (gS g0))))) (se_var (gS (gS (gS (gS (gS (gS g0))))))) s2_addS) (pS (pS (pS (pS p0)))) (ss_co (cK (cK (cK (cK (cK (cF (cF cId)))))))))))))) (ss_seq (ss_ret (se_var (gS (gS (gS (gS g0)))))) ss_nil))))), by exact rfl⟩
end
end Lw
namespace Lw
open PySem PySem.Spec PyProof.Rows L2 Fw Mi
local macro_rules | `(tactic| walk_at "m") => `(tactic| simp only [pidx_one, pinS_one, pninS_one, W_some, W_none, W_ob, W_bind, W_pck, W_rb, W_fin, W_finN, W_T, W_F, W_Tr, W_Fa, Rw_nxt, Rw_ret, Rw_cnt, Rf_ret, Rf_nxt, RfN_ret, RfN_nxt, decide_true, decide_false, Bool.not_true, Bool.not_false])
theorem w_text {c s : Int} {Q : List Nat → Prop} (hs : 0 ≤ s ∧ s < 1000000) (q : ∀ l : List Nat, l.length = s.toNat → Ltr l → Q l) : W (m_law_text c s) Q := by
  unfold m_law_text
  walk_at "m"
  refine w_row hs (by omega) fun ns hl hx => ?_
  refine ⟨by omega, by omega, by omega, ?_⟩
  generalize (c.natAbs : Int) / 7 % 4 = kind
  refine W_for (fun i γ => ∃ l, γ = (c, s, ns, kind, l, ()) ∧ l.length = i ∧ Ltr l) ⟨[], rfl, rfl, fun _ h => (nomatch h)⟩ ?_ ?_
  · rintro i k γ hk ⟨l, rfl, hll, hlt⟩
    obtain ⟨rfl, hi⟩ := prange_get hk
    walk_at "m"
    have hin : 0 ≤ (i : Int) ∧ (i : Int) < ns.length := by omega
    refine W_pat hin fun d hd => ⟨by omega, ?_⟩
    have hd0 := hx d (List.mem_of_getElem? hd)
    refine W_pixS (by decide) (by show 0 ≤ d % 4 ∧ d % 4 < 4; omega) fun x1 hx1 => ?_
    have l1 : Ltr [x1] := fun c hc => by
      rw [List.mem_singleton.mp hc]
      have := List.mem_of_getElem? hx1
      simp only [List.mem_cons, List.not_mem_nil, or_false] at this ⊢
      omega
    have fin : ∀ x2, Ltr [x2] → l.length + [x2].length ≤ sz ∧ ∃ l', (c, s, ns, kind, l ++ [x2], ()) = (c, s, ns, kind, l', ()) ∧ l'.length = i + 1 ∧ Ltr l' := fun x2 h2 =>
      ⟨by unfold sz; simp; omega, _, rfl, by simp [hll], hlt.app h2⟩
    rw [← W_ob]
    refine W.mono (Q := fun r => ∃ x2, r = .nxt (c, s, ns, kind, l, (i : Int), [x2], ()) ∧ Ltr [x2]) ?_ ?_
    · walk_at "m"
      refine W.mono (Q := fun y => y = true → 4 < (i : Int)) ?_ fun y hy => W_ifB (fun h => ?_) (fun h => ?_)
      · refine W_ifD (fun h => ?_) (fun h => ?_)
        · refine W_ifD (fun h => ?_) (fun h => ?_)
          · walk_at "m"
            exact W_pat hin fun d hd => ⟨by omega, fun _ => h⟩
          · walk_at "m"
            exact fun h => nomatch h
        · walk_at "m"
          exact fun h => nomatch h
      · have := hy h
        walk_at "m"
        exact W_pixS (by unfold sz; omega) (by omega) fun x2 hx2 => ⟨x2, rfl, hlt.sub fun c hc => by rw [List.mem_singleton.mp hc]; exact List.mem_of_getElem? hx2⟩
      · walk_at "m"
        exact ⟨x1, rfl, l1⟩
    rintro _ ⟨x2, rfl, l2⟩
    walk_at "m"
    refine W.mono (Q := fun r => ∃ x3, r = .nxt (c, s, ns, kind, l, (i : Int), [x3], ()) ∧ Ltr [x3]) ?_ ?_
    · refine W_ifD (fun h => ?_) (fun h => ?_)
      · walk_at "m"
        refine W_pat hin fun d hd => ⟨by omega, ?_⟩
        refine W_pixS (by decide) (by show 0 ≤ d % 2 ∧ d % 2 < 2; omega) fun x3 hx3 => ⟨x3, rfl, fun c hc => ?_⟩
        rw [List.mem_singleton.mp hc]
        have := List.mem_of_getElem? hx3
        simp only [List.mem_cons, List.not_mem_nil, or_false] at this ⊢
        omega
      · walk_at "m"
        exact ⟨x2, rfl, l2⟩
    rintro _ ⟨x3, rfl, l3⟩
    walk_at "m"
    rw [← W_ob]
    refine W.mono (Q := fun r => ∃ x4, r = .nxt (c, s, ns, kind, l, (i : Int), [x4], ()) ∧ Ltr [x4]) ?_ ?_
    · walk_at "m"
      refine W.mono (Q := fun y => True) ?_ fun y hy => W_ifB (fun h => ?_) (fun h => ?_)
      · refine W_ifD (fun h => ?_) (fun h => ?_)
        · walk_at "m"
          exact W_pat hin fun d hd => trivial
        · walk_at "m"
      · walk_at "m"
        exact ⟨78, rfl, fun c hc => by rw [List.mem_singleton.mp hc]; decide⟩
      · walk_at "m"
        exact ⟨x3, rfl, l3⟩
    rintro _ ⟨x4, rfl, l4⟩
    walk_at "m"
    exact ⟨by unfold sz; simp; omega, _, rfl, by simp [hll], hlt.app l4⟩
  · rintro γ ⟨l, rfl, hll, hlt⟩
    walk_at "m"
    exact q _ (by rw [hll, prange_len]) hlt

end Lw
namespace Lw
open PySem PySem.Spec PyProof.Rows L2 Fw Mi
section
variable {P : Program} {w : World} {K : PySem.W.Frag} {mg : Str → Option Value} {base : Heap}
noncomputable def m_law_costs (cell : Int) : Option (Int × Int × Int) := fin (κ := Unit) (ρ := Unit) (ob (m_law_row cell (4 : Int) (1000003 : Int)) fun row => rb ((ob (ob (ob (pat row (3 : Int)) fun x1 => (pck (PMod x1 (4 : Int)) (x1 % (4 : Int)))) fun x2 => some (decide (x2 = (0 : Int)))) fun b19 => if b19 = true then (rb (ob (ob (ob (pat row (0 : Int)) fun x11 => (pck (PMod x11 (3 : Int)) (x11 % (3 : Int)))) fun x16 => (ob (ob (ob (pat row (1 : Int)) fun x12 => (pck (PMod x12 (3 : Int)) (x12 % (3 : Int)))) fun x14 => (ob (ob (pat row (2 : Int)) fun x13 => (pck (PMod x13 (2 : Int)) (x13 % (2 : Int)))) fun r15 => some (x14, r15))) fun r17 => some (x16, r17))) fun r18 => some (.ret r18)) fun γ => some (.nxt γ)) else (some (.nxt (cell, row, ()))))) fun γ => let row := γ.2.1; rb (ob (ob (ob (pat row (0 : Int)) fun x28 => (pck (PMod x28 (101 : Int)) (x28 % (101 : Int)))) fun x33 => (ob (ob (ob (pat row (1 : Int)) fun x29 => (pck (PMod x29 (101 : Int)) (x29 % (101 : Int)))) fun x31 => (ob (ob (pat row (2 : Int)) fun x30 => (pck (PMod x30 (101 : Int)) (x30 % (101 : Int)))) fun r32 => some (x31, r32))) fun r34 => some (x33, r34))) fun r35 => some (.ret r35)) fun γ => some (.nxt γ))
abbrev sp_law_costs (K : PySem.W.Frag) : Sp := spM (aC jI aN) (sF (jT (yC jI (yC jI (y1 jI))))) (fun γ => m_law_costs γ.1)
theorem ok_law_costs (T : Tx w K mg) : Dn P w K mg base 2 (He.ga K "_law_costs") ["_law_cell_here"] (sp_law_costs K) := by
  obtain ⟨fd_law_row, G_law_row, b_law_row, kp_law_row, _⟩ := ok_law_row (P := P) (w := w) (base := base) T
  refine dn_mk T.d_law_costs sc_law_costs (fun _ _ _ _ _ _ us hl => match us, hl with | [_], _ => rfl) (spM_len (an_C an_0)) fun cdv A outer s H vs Q E hr h => ?_
  refine ⟨_, (pss_cons (ps_set (i := 1) sc_law_costs.nd rfl (.inl rfl) (pe_call G_law_row (hr.mono (by decide)) (by rfl) T.g_law_row kp_law_row b_law_row .nil pass0 (pa_cons (pv 0) (pa_cons pe_int (pa_cons pe_int pa_nil)))))
      (pss_cons (ps_if (pt_cmpR op_eq (pe_op op_mod (pe_ix (ixL_ (K := K)) (pv 1) pe_int (fun _ _ => rfl)) pe_int) pe_int (nomark _))
      (pss_cons (ps_ret (pe_tup (pa_cons (pe_op op_mod (pe_ix (ixL_ (K := K)) (pv 1) pe_int (fun _ _ => rfl)) pe_int) (pa_cons (pe_op op_mod (pe_ix (ixL_ (K := K)) (pv 1) pe_int (fun _ _ => rfl)) pe_int) (pa_cons (pe_op op_mod (pe_ix (ixL_ (K := K)) (pv 1) pe_int (fun _ _ => rfl)) pe_int) pa_nil)))))
      pss_nil)
      pss_nil)
      (pss_cons (ps_ret (pe_tup (pa_cons (pe_op op_mod (pe_ix (ixL_ (K := K)) (pv 1) pe_int (fun _ _ => rfl)) pe_int) (pa_cons (pe_op op_mod (pe_ix (ixL_ (K := K)) (pv 1) pe_int (fun _ _ => rfl)) pe_int) (pa_cons (pe_op op_mod (pe_ix (ixL_ (K := K)) (pv 1) pe_int (fun _ _ => rfl)) pe_int) pa_nil)))))
      pss_nil))), ?_⟩
  refine fin_runX (E := (eC (sF jI) (eU eN))) (E' := eN) (ae_C (ae_U rfl ae_0)) (an_C an_0) rfl ?S h rfl
  exact ⟨_, (ss_asg (se_call (sa_cons (se_var g0) (sa_cons se_int (sa_cons se_int sa_nil)))) (pS p0U) (ss_seq (ss_if (st_test (se_op (se_op (se_ixB (K := K) (sb_var (gS g0)) se_int) se_int s2_mod) se_int (s2_eqI))) (ss_seq (ss_ret (se_tup (stC (se_op (se_ixB (K := K) (sb_var (gS g0)) se_int) se_int s2_mod) (stC (se_op (se_ixB (K := K) (sb_var (gS g0)) se_int) se_int s2_mod) (st1 (se_op (se_ixB (K := K) (sb_var (gS g0)) se_int) se_int s2_mod)))) (tz (tz tz1)))) ss_nil) ss_nil) (ss_seq (ss_ret (se_tup (stC (se_op (se_ixB (K := K) (sb_var (gS g0)) se_int) se_int s2_mod) (stC (se_op (se_ixB (K := K) (sb_var (gS g0)) se_int) se_int s2_mod) (st1 (se_op (se_ixB (K := K) (sb_var (gS g0)) se_int) se_int s2_mod)))) (tz (tz tz1)))) ss_nil))), by exact rfl⟩
end
end Lw
namespace Lw
open PySem PySem.Spec PyProof.Rows L2 Fw Mi
local macro_rules | `(tactic| walk_at "m") => `(tactic| simp only [pidx_one, pinS_one, pninS_one, W_some, W_none, W_ob, W_bind, W_pck, W_rb, W_fin, W_finN, W_T, W_F, W_Tr, W_Fa, Rw_nxt, Rw_ret, Rw_cnt, Rf_ret, Rf_nxt, RfN_ret, RfN_nxt, decide_true, decide_false, Bool.not_true, Bool.not_false])
theorem w_costs {c : Int} {Q : Int × Int × Int → Prop} (q : ∀ x y z : Nat, x ≤ 100 → y ≤ 100 → z ≤ 100 → Q ((x : Int), (y : Int), (z : Int))) : W (m_law_costs c) Q := by
  unfold m_law_costs
  walk_at "m"
  refine w_row (by omega) (by omega) fun ns hl hx => ?_
  have hl4 : ns.length = 4 := hl
  have q' : ∀ x y z : Int, (0 ≤ x ∧ x ≤ 100) → (0 ≤ y ∧ y ≤ 100) → (0 ≤ z ∧ z ≤ 100) → Q (x, y, z) := fun x y z h1 h2 h3 => by
    have := q x.toNat y.toNat z.toNat (by omega) (by omega) (by omega)
    rwa [Int.toNat_of_nonneg h1.1, Int.toNat_of_nonneg h2.1, Int.toNat_of_nonneg h3.1] at this
  refine W_pat (by omega) fun d hd => ⟨by omega, ?_⟩
  refine W_ifD (fun h => ?_) (fun h => ?_)
  all_goals
    walk_at "m"
    refine W_pat (by omega) fun d0 h0 => ⟨by omega, ?_⟩
    refine W_pat (by omega) fun d1 h1 => ⟨by omega, ?_⟩
    refine W_pat (by omega) fun d2 h2 => ⟨by omega, ?_⟩
    exact q' _ _ _ (by omega) (by omega) (by omega)

end Lw
/-! ### tables of least costs -/
namespace Tb
/-- least of two, none is never -/
def mn : Option Nat → Option Nat → Option Nat
  | none, b => b
  | a, none => a
  | some a, some b => some (min a b)
def ad (x : Option Nat) (k : Nat) : Option Nat := x.map (· + k)
structure T3 where
  p : Option Nat
  q : Option Nat
  r : Option Nat
/-- the cells of the first i letters of the read and an end j of the text; w is the cost of a pair -/
def T (w : Nat → Nat → Nat) (s e : Nat) : Nat → Nat → T3
  | 0, 0 => ⟨some 0, none, none⟩
  | 0, j + 1 => let t := T w s e 0 j; ⟨some 0, none, ad (mn (ad (mn t.p t.q) s) t.r) e⟩
  | i + 1, 0 => let u := T w s e i 0; ⟨none, ad (mn (ad (mn u.p u.r) s) u.q) e, none⟩
  | i + 1, j + 1 =>
    let d := T w s e i j
    let u := T w s e i (j + 1)
    let l := T w s e (i + 1) j
    ⟨ad (mn (mn d.p d.q) d.r) (w i j), ad (mn (ad (mn u.p u.r) s) u.q) e, ad (mn (ad (mn l.p l.q) s) l.r) e⟩
  termination_by i j => (i, j)
section
variable {w : Nat → Nat → Nat} {s e : Nat}
theorem p0 : ∀ j, (T w s e 0 j).p = some 0
  | 0 => by rw [T]
  | j + 1 => by rw [T]
theorem q0 : ∀ j, (T w s e 0 j).q = none
  | 0 => by rw [T]
  | j + 1 => by rw [T]
theorem r0 : ∀ i, (T w s e i 0).r = none
  | 0 => by rw [T]
  | i + 1 => by rw [T]
theorem p10 (i : Nat) : (T w s e (i + 1) 0).p = none := by rw [T]
theorem p11 (i j : Nat) : (T w s e (i + 1) (j + 1)).p = ad (mn (mn (T w s e i j).p (T w s e i j).q) (T w s e i j).r) (w i j) := by rw [T]
theorem q1 (i : Nat) : ∀ j, (T w s e (i + 1) j).q = ad (mn (ad (mn (T w s e i j).p (T w s e i j).r) s) (T w s e i j).q) e
  | 0 => by rw [T]
  | j + 1 => by rw [T]
theorem r1 (j : Nat) : ∀ i, (T w s e i (j + 1)).r = ad (mn (ad (mn (T w s e i j).p (T w s e i j).q) s) (T w s e i j).r) e
  | 0 => by rw [T]
  | i + 1 => by rw [T]
end
/-- a finite value is at most b -/
def Bd (b : Nat) (x : Option Nat) : Prop := ∀ n, x = some n → n ≤ b
theorem Bd.non (b : Nat) : Bd b none := fun _ h => (nomatch h)
theorem Bd.som {b n : Nat} (h : n ≤ b) : Bd b (some n) := fun m e => by cases e; exact h
theorem Bd.mono {b c : Nat} {x : Option Nat} (h : Bd b x) (l : b ≤ c) : Bd c x := fun n e => Nat.le_trans (h n e) l
theorem Bd.mn {b : Nat} {x y : Option Nat} (hx : Bd b x) (hy : Bd b y) : Bd b (mn x y) := by
  intro n e
  cases x with
  | none => exact hy n e
  | some a => cases y with
    | none => exact hx n e
    | some c =>
      have e2 : min a c = n := Option.some.inj e
      have := hx a rfl
      omega
theorem Bd.ad {b k : Nat} {x : Option Nat} (hx : Bd b x) : Bd (b + k) (ad x k) := by
  intro n e
  cases x with
  | none => cases e
  | some a =>
    have e2 : a + k = n := Option.some.inj e
    have := hx a rfl
    omega
theorem bd {w : Nat → Nat → Nat} {s e : Nat} (hw : ∀ i j, w i j ≤ 100) (hs : s ≤ 100) (he : e ≤ 100) : ∀ i j, Bd (200 * (i + j)) (T w s e i j).p ∧ Bd (200 * (i + j)) (T w s e i j).q ∧ Bd (200 * (i + j)) (T w s e i j).r
  | 0, 0 => by rw [T]; exact ⟨.som (Nat.zero_le _), .non _, .non _⟩
  | 0, j + 1 => by
    have ⟨h1, h2, h3⟩ := bd hw hs he 0 j
    refine ⟨by rw [p0]; exact .som (Nat.zero_le _), by rw [q0]; exact .non _, ?_⟩
    rw [r1]
    exact (Bd.ad (k := e) (Bd.mn (Bd.ad (k := s) (h1.mn h2)) (h3.mono (show _ ≤ 200 * (0 + j) + s by omega)))).mono (by omega)
  | i + 1, 0 => by
    have ⟨h1, h2, h3⟩ := bd hw hs he i 0
    refine ⟨by rw [p10]; exact .non _, ?_, by rw [r0]; exact .non _⟩
    rw [q1]
    exact (Bd.ad (k := e) (Bd.mn (Bd.ad (k := s) (h1.mn h3)) (h2.mono (show _ ≤ 200 * (i + 0) + s by omega)))).mono (by omega)
  | i + 1, j + 1 => by
    have ⟨d1, d2, d3⟩ := bd hw hs he i j
    have ⟨u1, u2, u3⟩ := bd hw hs he i (j + 1)
    have ⟨l1, l2, l3⟩ := bd hw hs he (i + 1) j
    refine ⟨?_, ?_, ?_⟩
    · rw [p11]
      have := hw i j
      exact (Bd.ad (k := w i j) ((d1.mn d2).mn d3)).mono (by omega)
    · rw [q1]
      exact (Bd.ad (k := e) (Bd.mn (Bd.ad (k := s) (u1.mn u3)) (u2.mono (show _ ≤ 200 * (i + (j + 1)) + s by omega)))).mono (by omega)
    · rw [r1]
      exact (Bd.ad (k := e) (Bd.mn (Bd.ad (k := s) (l1.mn l2)) (l3.mono (show _ ≤ 200 * (i + 1 + j) + s by omega)))).mono (by omega)
  termination_by i j => (i, j)
/-- a cell that stands for a value; N and more is never -/
def Rep (N : Int) (x : Option Nat) (c : Int) : Prop := match x with
  | some n => c = (n : Int)
  | none => N ≤ c
theorem Rep.mn {N : Int} {b : Nat} {x y : Option Nat} {c d : Int} (hb : (b : Int) < N) (h1 : Rep N x c) (h2 : Rep N y d) (b1 : Bd b x) (b2 : Bd b y) : Rep N (mn x y) (min c d) := by
  cases x with
  | none => cases y with
    | none => have h1 : N ≤ c := h1; have h2 : N ≤ d := h2; show N ≤ min c d; omega
    | some m => have h1 : N ≤ c := h1; have h2 : d = (m : Int) := h2; have := b2 m rfl; show min c d = (m : Int); omega
  | some n => cases y with
    | none => have h1 : c = (n : Int) := h1; have h2 : N ≤ d := h2; have := b1 n rfl; show min c d = (n : Int); omega
    | some m => have h1 : c = (n : Int) := h1; have h2 : d = (m : Int) := h2; show min c d = ((min n m : Nat) : Int); omega
theorem Rep.ad {N : Int} {k : Nat} {x : Option Nat} {c : Int} (h : Rep N x c) : Rep N (ad x k) (c + k) := by
  cases x with
  | none => have h : N ≤ c := h; show N ≤ c + k; omega
  | some n => have h : c = (n : Int) := h; show c + k = ((n + k : Nat) : Int); omega
theorem Rep.som {N : Int} {n : Nat} {c : Int} (h : Rep N (some n) c) : c = (n : Int) := h
/-- a read's letters, all left out, reach every end -/
theorem q_fin {w : Nat → Nat → Nat} {s e : Nat} : ∀ i j, ∃ n, (T w s e (i + 1) j).q = some n
  | 0, j => by
    rw [q1, p0, q0]
    cases (T w s e 0 j).r with
    | none => exact ⟨_, rfl⟩
    | some n => exact ⟨_, rfl⟩
  | i + 1, j => by
    obtain ⟨n, h⟩ := q_fin (w := w) (s := s) (e := e) i j
    rw [q1, h]
    cases ad (mn (T w s e (i + 1) j).p (T w s e (i + 1) j).r) s with
    | none => exact ⟨_, rfl⟩
    | some m => exact ⟨_, rfl⟩
theorem mn_r {x : Option Nat} {m : Nat} : ∃ n, mn x (some m) = some n := by
  cases x with
  | none => exact ⟨_, rfl⟩
  | some a => exact ⟨_, rfl⟩
theorem mn_l {x : Option Nat} {m : Nat} : ∃ n, mn (some m) x = some n := by
  cases x with
  | none => exact ⟨_, rfl⟩
  | some a => exact ⟨_, rfl⟩
/-- the least cost at an end -/
def best (t : T3) : Option Nat := mn (mn t.p t.q) t.r
theorem best_fin {w : Nat → Nat → Nat} {s e : Nat} (i j : Nat) : ∃ n, best (T w s e i j) = some n := by
  unfold best
  cases i with
  | zero =>
    rw [p0, q0]
    exact mn_l
  | succ i =>
    obtain ⟨n, h⟩ := q_fin (w := w) (s := s) (e := e) i j
    rw [h]
    obtain ⟨m, h2⟩ := mn_r (x := (T w s e (i + 1) j).p) (m := n)
    rw [h2]
    exact mn_l
end Tb

namespace Lw
open PySem PySem.Spec PyProof.Rows L2 Fw Mi
section
variable {P : Program} {w : World} {K : PySem.W.Frag} {mg : Str → Option Value} {base : Heap}
/-! ### steps as one tactic -/
local macro_rules | `(tactic| walk_at "sq") => `(tactic| first
  | with_reducible assumption
  | exact Own.ofH (by assumption) (by assumption)
  | exact Own.lst (by assumption) 0 | exact Own.lst (by assumption) 1 | exact Own.lst (by assumption) 2 | exact Own.lst (by assumption) 3 | exact Own.lst (by assumption) 4 | exact Own.lst (by assumption) 5
  | exact Own.tS (by assumption) 0 | exact Own.tS (by assumption) 1 | exact Own.tS (by assumption) 2 | exact Own.tS (by assumption) 3 | exact Own.tS (by assumption) 4 | exact Own.tS (by assumption) 5 | exact Own.tS (by assumption) 6 | exact Own.tS (by assumption) 7
  | exact .inl (.inl (Own.tO (by assumption) 0)) | exact .inl (.inl (Own.tO (by assumption) 1)) | exact .inl (.inl (Own.tO (by assumption) 2)) | exact .inl (.inl (Own.tO (by assumption) 3)) | exact .inl (.inl (Own.tO (by assumption) 4))
  | exact .inl (.inl (Own.tL (by assumption) 0)) | exact .inl (.inl (Own.tL (by assumption) 1)) | exact .inl (.inl (Own.tL (by assumption) 2)) | exact .inl (.inl (Own.tL (by assumption) 3)))
local macro_rules | `(tactic| walk_at "at") => `(tactic| first
  | with_reducible assumption
  | exact Own.ofHO (by assumption) (by assumption)
  | exact Own.at_ (by assumption) 0 | exact Own.at_ (by assumption) 1 | exact Own.at_ (by assumption) 2 | exact Own.at_ (by assumption) 3 | exact Own.at_ (by assumption) 4 | exact Own.at_ (by assumption) 5
  | exact Own.tO (by assumption) 0 | exact Own.tO (by assumption) 1 | exact Own.tO (by assumption) 2 | exact Own.tO (by assumption) 3 | exact Own.tO (by assumption) 4 | exact Own.tO (by assumption) 5
  | exact Own.tL (by assumption) 0 | exact Own.tL (by assumption) 1 | exact Own.tL (by assumption) 2 | exact Own.tL (by assumption) 3 | exact Own.tT (by assumption) 0 | exact Own.tT (by assumption) 1 | exact Own.tT (by assumption) 2 | exact Own.tT (by assumption) 3)
local macro_rules | `(tactic| walk_at "st") => `(tactic| first
  | with_reducible assumption
  | exact Own.ofHT (by assumption) (by assumption)
  | exact Own.tU (by assumption) 0 | exact Own.tU (by assumption) 1 | exact Own.tU (by assumption) 2 | exact Own.tU (by assumption) 3 | exact Own.tU (by assumption) 4 | exact Own.tU (by assumption) 5
  | exact .inl (.inl (Own.tO (by assumption) 0)) | exact .inl (.inl (Own.tO (by assumption) 1)) | exact .inl (.inl (Own.tO (by assumption) 2)) | exact .inl (.inl (Own.tO (by assumption) 3)) | exact .inl (.inl (Own.tO (by assumption) 4)) | exact .inl (.inl (Own.tO (by assumption) 5))
  | exact .inl (.inl (Own.tT (by assumption) 0)) | exact .inl (.inl (Own.tT (by assumption) 1)) | exact .inl (.inl (Own.tT (by assumption) 2)) | exact .inl (.inl (Own.tT (by assumption) 3)))
local macro_rules | `(tactic| walk_at "side") => `(tactic| first
  | with_reducible assumption
  | (with_reducible refine w_cdiv ?_ ?_ <;> omega)
  | (with_reducible refine w_cmul1 ?_ ?_ <;> first | omega | (simp only [List.length_append, List.length_cons, List.length_nil, List.length_map, List.length_reverse, List.length_range]; omega))
  | (with_reducible refine w_cmul2 ?_ ?_ <;> first | omega | (simp only [List.length_append, List.length_cons, List.length_nil, List.length_map, List.length_reverse, List.length_range]; omega))
  | (with_reducible refine And.intro ?_ ?_ <;> first | omega | (simp only [↓q_ckw, List.length_append, List.length_cons, List.length_nil, List.length_map, List.length_reverse, List.length_range]; omega))
  | (with_reducible refine w_size ?_; first | omega | (simp only [↓q_ckw, List.length_append, List.length_cons, List.length_nil, List.length_map, List.length_reverse, List.length_range]; omega))
  | (with_reducible refine w_sizel ?_; first | omega | (simp only [↓q_ckw, List.length_append, List.length_cons, List.length_nil, List.length_map, List.length_reverse, List.length_range]; omega))
  | with_reducible exact True.intro
  | with_reducible rfl
  | omega)
local macro_rules | `(tactic| walk_at "qs") => `(tactic| simp only [List.length_map, ↓q_inSg, ↓q_notInSg, ↓q_min2, ↓q_min3, ↓q_max2, ↓q_gsub, ↓q_asgG, ↓q_asgT, ↓q_gnil, ↓q_gcons, ↓q_par, ↓q_two, ↓q_chain, ↓q_m1, ↓q_isS, ↓q_augS, ↓q_ipI, ↓q_starts, decide_S, q_dec1, ↓q_iteNT, ↓q_iteNF, decide_true, decide_false, ↓q_wipe1, ↓q_wipe2, ↓q_wipe3, ↓q_wipe4, List.set_cons_succ, List.set_cons_zero, ↓q_ckw, ↓q_var0, ↓q_asg0, ↓q_gn0, ↓q_aug0, ↓q_var1, ↓q_asg1, ↓q_gn1, ↓q_aug1, ↓q_var2, ↓q_asg2, ↓q_gn2, ↓q_aug2, ↓q_var3, ↓q_asg3, ↓q_gn3, ↓q_aug3, ↓q_var4, ↓q_asg4, ↓q_gn4, ↓q_aug4, ↓q_var5, ↓q_asg5, ↓q_gn5, ↓q_aug5, ↓q_var6, ↓q_asg6, ↓q_gn6, ↓q_aug6, ↓q_var7, ↓q_asg7, ↓q_gn7, ↓q_aug7, ↓q_var8, ↓q_asg8, ↓q_gn8, ↓q_aug8, ↓q_var9, ↓q_asg9, ↓q_gn9, ↓q_aug9, ↓q_var10, ↓q_asg10, ↓q_gn10, ↓q_aug10, ↓q_var11, ↓q_asg11, ↓q_gn11, ↓q_aug11, ↓q_var12, ↓q_asg12, ↓q_gn12, ↓q_aug12, ↓q_var13, ↓q_asg13, ↓q_gn13, ↓q_aug13, ↓q_var14, ↓q_asg14, ↓q_gn14, ↓q_aug14, ↓q_var15, ↓q_asg15, ↓q_gn15, ↓q_aug15, ↓q_var16, ↓q_asg16, ↓q_gn16, ↓q_aug16, ↓q_var17, ↓q_asg17, ↓q_gn17, ↓q_aug17, ↓q_var18, ↓q_asg18, ↓q_gn18, ↓q_aug18, ↓q_var19, ↓q_asg19, ↓q_gn19, ↓q_aug19, ↓q_var20, ↓q_asg20, ↓q_gn20, ↓q_aug20, ↓q_var21, ↓q_asg21, ↓q_gn21, ↓q_aug21, ↓q_var22, ↓q_asg22, ↓q_gn22, ↓q_aug22, ↓q_var23, ↓q_asg23, ↓q_gn23, ↓q_aug23, ↓q_seq, ↓q_next, ↓q_brk, ↓q_cont, ↓q_ret, ↓q_retN, ↓q_drop, ↓q_if, ↓q_c, ↓q_op, ↓q_un, ↓q_cb, ↓q_nil, ↓q_cons, ↓q_call, ↓q_test, ↓q_tB, ↓q_bl, ↓q_int, ↓q_and, ↓q_or, ↓q_not, ↓q_andV, ↓q_orV, ↓q_notV, ↓q_ifE, ↓q_I0, ↓q_I, ↓q_U, ↓q_eqI, ↓q_neI, ↓q_eqS, ↓q_neS, ↓q_eqB, ↓q_neB, ↓q_abs, ↓q_toint, ↓q_tointB, ↓q_lenS, ↓q_addS, ↓q_slS, ↓q_sl, ↓q_noP, ↓q_part, ↓q_lst, ↓q_tup, ↓q_bm, ↓q_bm0, ↓q_for, ↓q_iRng1, ↓q_iRng2, ↓q_iRng3, ↓q_iList, ↓q_iTup, ↓q_iStr, ↓q_iRev, ↓q_iEnum, ↓q_yes, ↓q_lc, ↓q_iteT, ↓q_iteF])
local macro_rules | `(tactic| walk_at "h1") => `(tactic| first
  | ((with_reducible refine h_NewL ?_); first | refine w_newL (by assumption) (fun _ _ _ => ?_) ?_)
  | ((with_reducible refine h_NewT ?_); first | refine w_newT (by assumption) (fun _ _ _ _ => ?_) ?_)
  | ((with_reducible refine h_Ty ?_); first | refine w_tyL ?_ (by walk_at "sq"))
  | ((with_reducible refine h_App ?_); first | refine w_app0 (by assumption) (fun _ _ => ?_) ?_ | refine w_app1 (by assumption) (fun _ _ => ?_) ?_ | refine w_app2 (by assumption) (fun _ _ => ?_) ?_ | refine w_app3 (by assumption) (fun _ _ => ?_) ?_ | refine w_app4 (by assumption) (fun _ _ => ?_) ?_)
  | ((with_reducible refine h_Len ?_); first | refine w_lenL ?_ (by walk_at "sq") | refine w_lenT ?_ (by walk_at "st"))
  | ((with_reducible refine h_Ix ?_); first | refine w_ixN ?_ (by walk_at "sq") ?_)
  | ((with_reducible refine h_IxS ?_); first | refine w_ixC ?_ ?_ ?_)
  | ((with_reducible refine h_MulS ?_); first | refine w_mulS ?_ ?_ ?_)
  | ((with_reducible refine h_Isi ?_); first | with_reducible refine w_isiII ?_ | with_reducible refine w_isiIB ?_ | with_reducible refine w_isiBB ?_ | with_reducible refine w_isiSS ?_ | refine w_isiLL ?_ (by walk_at "at") | refine w_isiTT ?_ (by walk_at "at"))
  | ((with_reducible refine h_Set ?_); first | refine w_set0 (by assumption) (fun _ _ => ?_) ?_ | refine w_set1 (by assumption) (fun _ _ => ?_) ?_ | refine w_set2 (by assumption) (fun _ _ => ?_) ?_ | refine w_set3 (by assumption) (fun _ _ => ?_) ?_)
  | ((with_reducible refine h_Get ?_); first | refine w_getN ?_ (by walk_at "sq") ?_)
  | ((with_reducible refine h_ListQ ?_); first | refine w_listL (by assumption) (by walk_at "sq") (fun _ _ _ => ?_) ?_)
  | ((with_reducible refine h_ListS ?_); first | refine w_listS (by assumption) (fun _ _ _ => ?_) ?_)
  | ((with_reducible refine h_Rep ?_); first | refine w_rep (by assumption) (by walk_at "at") (fun _ _ _ => ?_) ?_ ?_)
  | ((with_reducible refine h_SlL ?_); first | refine w_slL (by assumption) (by walk_at "sq") (fun _ _ _ => ?_))
  | ((with_reducible refine h_Cat ?_); first | refine w_cat (by assumption) (by walk_at "at") (by walk_at "at") (fun _ _ _ => ?_) ?_)
  | ((with_reducible refine h_Ext ?_); first | refine w_ext0 (by assumption) (by walk_at "at") (fun _ _ => ?_) ?_ | refine w_ext1 (by assumption) (by walk_at "at") (fun _ _ => ?_) ?_)
  | ((with_reducible refine h_Rev ?_); first | refine w_rev0 (by assumption) (fun _ _ => ?_))
  | ((with_reducible refine h_Idx ?_); first | refine w_idxS ?_ ?_)
  | ((with_reducible refine h_Gtup ?_); first | refine w_gtup ?_ (by walk_at "st"))
  | ((with_reducible refine h_EqD ?_); first | refine w_eqDI ?_ (by walk_at "sq") (by walk_at "sq"))
  | ((with_reducible refine h_NeD ?_); first | refine w_neDI ?_ (by walk_at "sq") (by walk_at "sq"))
  | (with_reducible refine w_conj ?_ ?_))
local macro_rules | `(tactic| walk_at "1") => `(tactic| first | walk_at "qs" | walk_at "h1")
local macro_rules | `(tactic| walk_at "go") => `(tactic| ((repeat (walk_at "1")); (try (all_goals try (walk_at "side")))))
/-! #### first_tables -/
def never : Int := 1152921504606846976
def Mn : Nat → Nat → Int := fun _ _ => never
def Mz : Nat → Nat → Int := fun i _ => if i = 0 then 0 else never
def outV (A : Nat → Addr) (n : Nat) : List V := (List.range n).map fun k => .ref (A k)
theorem rep_row (c : Int) {M : Nat → Nat → Int} {i : Nat} (h : ∀ j, M i j = c) : ∀ e : Nat, row M e i = (List.replicate e [V.int c]).flatten
  | 0 => rfl
  | e + 1 => by
    rw [List.replicate_succ', List.flatten_append, ← rep_row c h e, List.flatten_singleton, row, List.range_succ, List.map_append]
    show _ ++ [V.int (M i e)] = _
    rw [h]
    rfl
theorem rep_never (e : Nat) {i : Nat} : row Mn e i = (List.replicate e [V.int never]).flatten := rep_row never (fun _ => rfl) e
theorem grid_add {A : Nat → Addr} {M : List (Addr × HO)} {i e : Nat} {p : Addr} {xs : List V} (h : M.Perm (fam A Mn i e)) (hx : row Mn e i = xs) : ((p, HO.lst xs) :: M).Perm (fam (fun k => if k = i then p else A k) Mn (i + 1) e) := by
  have e1 : fam (fun k => if k = i then p else A k) Mn (i + 1) e = fam A Mn i e ++ [(p, HO.lst xs)] := by
    rw [fam, List.range_succ, List.map_append, List.map_cons, List.map_nil]
    show _ ++ [(if i = i then p else A i, HO.lst (row Mn e i))] = _
    rw [if_pos rfl, hx]
    congr 1
    refine List.map_congr_left fun k hk => ?_
    show (if k = i then p else A k, _) = _
    rw [if_neg (by have := List.mem_range.mp hk; omega)]
  rw [e1]
  exact (h.cons _).trans (List.perm_append_singleton _ _).symm
theorem perm3 {α : Type} (a b c : List α) : (a ++ (b ++ c)).Perm (c ++ (b ++ (a ++ []))) := by
  rw [List.append_nil, ← List.append_assoc]
  exact List.perm_append_comm.trans (List.perm_append_comm.append_left c)
def frest (A : Nat → Addr) (n e : Nat) : List (Addr × HO) := (List.range n).map fun i => (A (i + 1), .lst (row Mn e (i + 1)))
theorem fam_head (A : Nat → Addr) (n e : Nat) : fam A Mn (n + 1) e = (A 0, .lst (row Mn e 0)) :: frest A n e := by
  rw [fam, List.range_succ_eq_map, List.map_cons, List.map_map]
  rfl
theorem fam_zero (A : Nat → Addr) (n e : Nat) {p : Addr} {xs : List V} (hx : row Mz e 0 = xs) : fam (fun k => if k = 0 then p else A k) Mz (n + 1) e = (p, .lst xs) :: frest A n e := by
  rw [fam, List.range_succ_eq_map, List.map_cons, List.map_map, hx]
  rfl
theorem outV_set (A : Nat → Addr) (n : Nat) (p : Addr) : (outV A (n + 1)).set 0 (.ref p) = outV (fun k => if k = 0 then p else A k) (n + 1) := by
  rw [outV, outV, List.range_succ_eq_map, List.map_cons, List.map_cons, List.map_map, List.map_map]
  rfl
def sp_first_tables (K : PySem.W.Frag) : Sp := fun vs H Q _ => ∃ (n e : Nat), vs = [.int (n : Nat), .int (e : Nat)] ∧ n ≤ 1000 ∧ e ≤ 1000 ∧
  SpN (fun v L F => ∃ (t P Q R : Addr) (A B G : Nat → Addr), v = .ref t ∧ L = fam A Mz (n + 1) (e + 1) ++ (fam B Mn (n + 1) (e + 1) ++ fam G Mn (n + 1) (e + 1)) ∧ F t = some (.tup [.ref P, .ref Q, .ref R]) ∧ F P = some (.lst (outV A (n + 1))) ∧ F Q = some (.lst (outV B (n + 1))) ∧ F R = some (.lst (outV G (n + 1)))) H Q
theorem len_first_tables : ∀ vs H Q E, sp_first_tables K vs H Q E → vs.length = ["count", "end"].length := by
  rintro _ _ _ _ ⟨_, _, rfl, _⟩
  rfl
theorem c_first_tables {F0 H0 F H : Hp} {L : List (Addr × HO)} {C : List Ck} {Q : VK} {E : XK} {n e : Nat} (O : Own F0 H0 F H L C) (hn : n ≤ 1000) (he : e ≤ 1000)
    (q : ∀ t X Y Z A B G F' H', Own F0 H0 F' H' (fam A Mz (n + 1) (e + 1) ++ (fam B Mn (n + 1) (e + 1) ++ (fam G Mn (n + 1) (e + 1) ++ L))) (cO t (.tup [.ref X, .ref Y, .ref Z]) :: cO X (.lst (outV A (n + 1))) :: cO Y (.lst (outV B (n + 1))) :: cO Z (.lst (outV G (n + 1))) :: C) → Q (.ref t) H') :
    sp_first_tables K [.int (n : Nat), .int (e : Nat)] H Q E := ⟨n, e, rfl, hn, he, O.callN fun v L' F' H' r O' => by
  obtain ⟨t, X, Y, Z, A, B, G, rfl, rfl, h1, h2, h3, h4⟩ := r
  rw [List.append_assoc, List.append_assoc] at O'
  exact q t X Y Z A B G F' H' ((((O'.push (cO Z _) h4).push (cO Y _) h3).push (cO X _) h2).push (cO t _) h1)⟩
theorem ok_first_tables (T : Tx w K mg) : Dn P w K mg base 1 (He.ga K "first_tables") ["count", "end"] (sp_first_tables K) := by
  refine dn_mk T.d_first_tables sc_first_tables (fun _ _ _ _ _ _ us hl => match us, hl with | [_, _], _ => rfl) len_first_tables fun cdv A outer s H vs Q E hr h => ?_
  refine ⟨_, (pss_cons (ps_setLc (i := 2) (own := [("_", 3)]) rfl sc_first_tables.nd rfl rfl (sw_true rfl rfl rfl (by decide +kernel)) (pi_range1 (by rfl) T.z_range (pa_cons (pe_op op_add (pv 0) pe_int) pa_nil)) (blkOk_by (own := [("_", 3)]) (N := ["count", "end", "pairs", "_", "extra", "gaps"]) (sc := defScope s_first_tables) (by decide +kernel)) (fun _ _ _ _ _ => (pg_name (i := 3) sc_first_tables.nd rfl (.inl rfl))) (fun _ _ _ _ _ => pts_nil) (fun _ _ _ _ _ => (pe_op op_rep (pe_lst (pa_cons (pe_globI (by rfl) T.k_NEVER) pa_nil)) (pe_op op_add (pv 1) pe_int))))
      (pss_cons (ps_setLc (i := 4) (own := [("_", 3)]) rfl sc_first_tables.nd rfl rfl (sw_true rfl rfl rfl (by decide +kernel)) (pi_range1 (by rfl) T.z_range (pa_cons (pe_op op_add (pv 0) pe_int) pa_nil)) (blkOk_by (own := [("_", 3)]) (N := ["count", "end", "pairs", "_", "extra", "gaps"]) (sc := defScope s_first_tables) (by decide +kernel)) (fun _ _ _ _ _ => (pg_name (i := 3) sc_first_tables.nd rfl (.inl rfl))) (fun _ _ _ _ _ => pts_nil) (fun _ _ _ _ _ => (pe_op op_rep (pe_lst (pa_cons (pe_globI (by rfl) T.k_NEVER) pa_nil)) (pe_op op_add (pv 1) pe_int))))
      (pss_cons (ps_setLc (i := 5) (own := [("_", 3)]) rfl sc_first_tables.nd rfl rfl (sw_true rfl rfl rfl (by decide +kernel)) (pi_range1 (by rfl) T.z_range (pa_cons (pe_op op_add (pv 0) pe_int) pa_nil)) (blkOk_by (own := [("_", 3)]) (N := ["count", "end", "pairs", "_", "extra", "gaps"]) (sc := defScope s_first_tables) (by decide +kernel)) (fun _ _ _ _ _ => (pg_name (i := 3) sc_first_tables.nd rfl (.inl rfl))) (fun _ _ _ _ _ => pts_nil) (fun _ _ _ _ _ => (pe_op op_rep (pe_lst (pa_cons (pe_globI (by rfl) T.k_NEVER) pa_nil)) (pe_op op_add (pv 1) pe_int))))
      (pss_cons (ps_asg (pe_op op_rep (pe_lst (pa_cons pe_int pa_nil)) (pe_op op_add (pv 1) pe_int)) (pg_sub (pv 2) pe_int set_list))
      (pss_one (ps_ret (pe_tup (pa_cons (pv 2) (pa_cons (pv 4) (pa_cons (pv 5) pa_nil)))))))))), ?_⟩
  obtain ⟨n, e, rfl, hn, he, F, sF, _, q⟩ := h
  have O := Own.start (C := []) sF trivial
  refine cut [some (.int (n : Nat)), some (.int (e : Nat)), none, none, none, none] rfl ?_
  walk_at "go"
  refine w_lcR1G O (by omega) (fun i acc M F' => ∃ A : Nat → Addr, acc = (List.range i).map (fun k => .ref (A k)) ∧ M.Perm (fam A Mn i (e + 1))) ⟨fun _ => 0, rfl, List.Perm.refl _⟩ ?_ ?_
  · rintro i acc M D F' H8 hi ⟨A, rfl, hM⟩ sF O8
    walk_at "go"
    rename_i p1 Ha Oa p2 Hb Ob
    have Oc := (Ob.sub (.cons₂ _ (.cons _ (List.Sublist.refl _)))).swap
    refine w_putG (M := (p2, _) :: M) Oc sF ⟨fun k => if k = i then p2 else A k, ?_, ?_⟩ ?_
    · rw [List.range_succ, List.map_append, List.map_cons, List.map_nil]
      show _ = _ ++ [V.ref (if i = i then p2 else A i)]
      rw [if_pos rfl]
      congr 1
      refine List.map_congr_left fun k hk => ?_
      show _ = V.ref (if k = i then p2 else A k)
      rw [if_neg (by have := List.mem_range.mp hk; omega)]
    · exact grid_add hM (by rw [show ((e : Int) + 1).toNat = e + 1 by omega]; exact rep_never _)
    · rw [sizeLine_eq, List.length_map, List.length_range]
      omega
  rintro acc M D1 F1 H8 ⟨A1, rfl, hM⟩ sF O8
  rw [show ((n : Int) + 1).toNat = n + 1 by omega] at hM O8
  have O1 := O8.perm (L' := (D1, .lst (outV A1 (n + 1))) :: (fam A1 Mn (n + 1) (e + 1) ++ [])) (List.Perm.cons _ (List.Perm.append_right _ hM.symm))
  clear O8 hM
  walk_at "go"
  refine w_lcR1G O1 (by omega) (fun i acc M F' => ∃ A : Nat → Addr, acc = (List.range i).map (fun k => .ref (A k)) ∧ M.Perm (fam A Mn i (e + 1))) ⟨fun _ => 0, rfl, List.Perm.refl _⟩ ?_ ?_
  · rintro i acc M D F' H8 hi ⟨A, rfl, hM⟩ sF O8
    walk_at "go"
    rename_i p1 Ha Oa p2 Hb Ob
    have Oc := (Ob.sub (.cons₂ _ (.cons _ (List.Sublist.refl _)))).swap
    refine w_putG (M := (p2, _) :: M) Oc sF ⟨fun k => if k = i then p2 else A k, ?_, ?_⟩ ?_
    · rw [List.range_succ, List.map_append, List.map_cons, List.map_nil]
      show _ = _ ++ [V.ref (if i = i then p2 else A i)]
      rw [if_pos rfl]
      congr 1
      refine List.map_congr_left fun k hk => ?_
      show _ = V.ref (if k = i then p2 else A k)
      rw [if_neg (by have := List.mem_range.mp hk; omega)]
    · exact grid_add hM (by rw [show ((e : Int) + 1).toNat = e + 1 by omega]; exact rep_never _)
    · rw [sizeLine_eq, List.length_map, List.length_range]
      omega
  rintro acc M D2 F2 H8 ⟨A2, rfl, hM⟩ sF O8
  rw [show ((n : Int) + 1).toNat = n + 1 by omega] at hM O8
  have O2 := O8.perm (L' := (D2, .lst (outV A2 (n + 1))) :: (D1, .lst (outV A1 (n + 1))) :: (fam A2 Mn (n + 1) (e + 1) ++ (fam A1 Mn (n + 1) (e + 1) ++ []))) (List.Perm.cons _ (List.perm_middle.symm.trans (List.Perm.append_right _ hM.symm)))
  clear O8 hM
  walk_at "go"
  refine w_lcR1G O2 (by omega) (fun i acc M F' => ∃ A : Nat → Addr, acc = (List.range i).map (fun k => .ref (A k)) ∧ M.Perm (fam A Mn i (e + 1))) ⟨fun _ => 0, rfl, List.Perm.refl _⟩ ?_ ?_
  · rintro i acc M D F' H8 hi ⟨A, rfl, hM⟩ sF O8
    walk_at "go"
    rename_i p1 Ha Oa p2 Hb Ob
    have Oc := (Ob.sub (.cons₂ _ (.cons _ (List.Sublist.refl _)))).swap
    refine w_putG (M := (p2, _) :: M) Oc sF ⟨fun k => if k = i then p2 else A k, ?_, ?_⟩ ?_
    · rw [List.range_succ, List.map_append, List.map_cons, List.map_nil]
      show _ = _ ++ [V.ref (if i = i then p2 else A i)]
      rw [if_pos rfl]
      congr 1
      refine List.map_congr_left fun k hk => ?_
      show _ = V.ref (if k = i then p2 else A k)
      rw [if_neg (by have := List.mem_range.mp hk; omega)]
    · exact grid_add hM (by rw [show ((e : Int) + 1).toNat = e + 1 by omega]; exact rep_never _)
    · rw [sizeLine_eq, List.length_map, List.length_range]
      omega
  rintro acc M D3 F3 H8 ⟨A3, rfl, hM⟩ sF O8
  rw [show ((n : Int) + 1).toNat = n + 1 by omega] at hM O8
  have O3 := O8.perm (L' := (D3, .lst (outV A3 (n + 1))) :: (D2, .lst (outV A2 (n + 1))) :: (D1, .lst (outV A1 (n + 1))) :: (fam A3 Mn (n + 1) (e + 1) ++ (fam A2 Mn (n + 1) (e + 1) ++ (fam A1 Mn (n + 1) (e + 1) ++ [])))) (List.Perm.cons _ ((((List.perm_middle (a := (D1, HO.lst (outV A1 (n + 1))))).cons (D2, HO.lst (outV A2 (n + 1)))).symm.trans List.perm_middle.symm).trans (List.Perm.append_right _ hM.symm)))
  clear O8 hM
  walk_at "go"
  rename_i z1 Ha Oa z2 Hb Ob
  refine w_set (j := 4) Ob rfl (by rw [outV, List.length_map, List.length_range]; omega) fun Hc Oc => ?_
  have Od := Oc.perm (L' := [(D1, HO.lst ((outV A1 (n + 1)).set 0 (.ref z2))), (D2, .lst (outV A2 (n + 1))), (D3, .lst (outV A3 (n + 1))), (z1, .lst [.int 0]), (z2, .lst (List.replicate (Int.toNat ((e : Int) + 1)) [V.int 0]).flatten)] ++ (fam A1 Mn (n + 1) (e + 1) ++ (fam A2 Mn (n + 1) (e + 1) ++ fam A3 Mn (n + 1) (e + 1)))) ((List.reverse_perm [(z2, HO.lst (List.replicate (Int.toNat ((e : Int) + 1)) [V.int 0]).flatten), (z1, .lst [.int 0]), (D3, .lst (outV A3 (n + 1))), (D2, .lst (outV A2 (n + 1))), (D1, HO.lst ((outV A1 (n + 1)).set 0 (.ref z2)))]).append (perm3 _ _ _))
  rw [fam_head A1, outV_set] at Od
  have Oe := ((Od.sub (L' := (D1, HO.lst (outV (fun k => if k = 0 then z2 else A1 k) (n + 1))) :: (D2, .lst (outV A2 (n + 1))) :: (D3, .lst (outV A3 (n + 1))) :: (((z2, .lst (List.replicate (Int.toNat ((e : Int) + 1)) [V.int 0]).flatten) :: frest A1 n (e + 1)) ++ (fam A2 Mn (n + 1) (e + 1) ++ fam A3 Mn (n + 1) (e + 1)))) (.cons₂ _ (.cons₂ _ (.cons₂ _ (.cons _ (.cons₂ _ (.cons _ (List.Sublist.refl _)))))))).freeze.freeze.freeze)
  clear Oa Ob Oc Od O1 O2 O3
  have hx0 := fam_zero A1 n (e + 1) (p := z2) (xs := (List.replicate (Int.toNat ((e : Int) + 1)) [V.int 0]).flatten) (by rw [show Int.toNat ((e : Int) + 1) = e + 1 by omega]; exact rep_row 0 (fun _ => rfl) _)
  have Of := Oe
  rw [← hx0] at Of
  refine w_newT Of (fun t F4 H4 O4 => ?_) (by rw [sizeLine_eq]; show 3 ≤ _; decide)
  exact O4.ret q ⟨t, D1, D2, D3, _, A2, A3, rfl, rfl, O4.ck 0, O4.ck 3, O4.ck 2, O4.ck 1⟩

/-! by value -/
def m_first_tables (count end_ : Int) : Option (List (List Int) × List (List Int) × List (List Int)) := pck (0 ≤ count ∧ count ≤ 1000 ∧ 0 ≤ end_ ∧ end_ ≤ 1000) (grid (count.toNat + 1) (end_.toNat + 1) Mz, grid (count.toNat + 1) (end_.toNat + 1) Mn, grid (count.toNat + 1) (end_.toNat + 1) Mn)
theorem rowsL_map {A : Nat → Addr} {f : Nat → List V} : ∀ l : List Nat, rowsL (l.map A) (l.map f) = l.map fun i => (A i, HO.lst (f i))
  | [] => rfl
  | x :: l => by
    show _ :: rowsL (l.map A) (l.map f) = _ :: _
    rw [rowsL_map l]
theorem row_ints {M : Nat → Nat → Int} {F : Hp} (e i : Nat) : Paired (jI.r F) (row M e i) ((List.range e).map fun j => M i j) := by
  unfold row
  generalize List.range e = l
  induction l with
  | nil => exact .nil
  | cons i l ih => exact .cons rfl ih
theorem sG_fam {A : Nat → Addr} {M : Nat → Nat → Int} {n e : Nat} {F : Hp} {p : Addr} (h : F p = some (.lst (outV A n))) : (sG jI).r (.ref p) F (fam A M n e) (grid n e M) := by
  refine ⟨p, (List.range n).map A, (List.range n).map (row M e), rfl, ?_, by rw [List.length_map, List.length_map], (rowsL_map _).symm, ?_⟩
  · rw [h, outV, List.map_map]
    rfl
  · unfold grid
    generalize List.range n = l
    induction l with
    | nil => exact .nil
    | cons i l ih => exact .cons (row_ints e i) ih
theorem ss_first_tables {ρ ρ1 ρ2 ρ3 ρ' κ β : Type} {E : En ρ} {E1 : En ρ1} {E2 : En ρ2} {E3 : En ρ3} {E' : En ρ'} {Ec : En κ} {s : Sl β} {u : TS} {tA : TA} {Ex : XK} {i j k : Nat} {f : ρ → Option (Int × Int × Unit)} {u1 : List (List Int) → ρ → ρ1} {u2 : List (List Int) → ρ1 → ρ2} {u3 : List (List Int) → ρ2 → ρ3} {m : ρ3 → Option (Res ρ' κ β)}
    (hA : SA tA E (aC jI (aC jI aN)) f) (p1 : Pt E i (sG jI) E1 u1) (p2 : Pt E1 j (sG jI) E2 u2) (p3 : Pt E2 k (sG jI) E3 u3) (hu : SS u E3 E' Ec s m) :
    SS (tSeq (tAsg (tCall (sp_first_tables K) [] Ex tA) (gTup K 3 (gCons (gName i) (gCons (gName j) (gCons (gName k) gNil))))) u) E E' Ec s (fun γ => ob (ob (f γ) fun z => m_first_tables z.1 z.2.1) fun q => m (u3 q.2.2 (u2 q.2.1 (u1 q.1 γ)))) := ⟨fun O hE e fin => by
  obtain ⟨q, e0, e⟩ := ob_some e
  obtain ⟨z, e1, e2⟩ := ob_some e0
  obtain ⟨pz, rfl⟩ := pck_some e2
  show tCall _ _ _ _ _ _ _
  rw [q_call]
  refine hA O.fh (Held.of O) hE e1 fun vs F1 H1 s1 ⟨v, r, y1, r1, v2, r', y2, r2, y3⟩ => ?_
  subst y1 y2 y3
  have O1 := Own.on O s1
  rw [List.nil_append] at O1
  rw [show v = .int ((z.1.toNat : Nat) : Int) by rw [Int.toNat_of_nonneg pz.1]; exact r1, show v2 = .int ((z.2.1.toNat : Nat) : Int) by rw [Int.toNat_of_nonneg pz.2.2.1]; exact r2]
  refine c_first_tables (O1.push (cF F1) (Same.refl F1)) (by omega) (by omega) fun t X Y Z A B G F2 H2 O2 => ?_
  have hT : H2 t = some (.tup [.ref X, .ref Y, .ref Z]) := O2.tO 0
  have sF : Same F1 F2 := O2.ck 4
  refine ⟨t, _, rfl, .inl (.inl hT), rfl, _, _, rfl, _, _, rfl, _, _, rfl, rfl, ?_⟩
  obtain ⟨L1, a1, b1⟩ := p1 (E.m (s1.f0.trans sF) hE) (sG_fam (O2.ck 1))
  obtain ⟨L2, a2, b2⟩ := p2 a1 (sG_fam (O2.ck 2))
  obtain ⟨L3, a3, b3⟩ := p3 a2 (sG_fam (O2.ck 3))
  refine hu.run (OwnSb (O2.chunks (C' := []) trivial) (b3.trans (((b2.trans (b1.left _)).left _).trans (Sb.perm ?_)))) a3 e (fin.mo (s1.f0.trans sF))
  refine (List.perm_append_comm_assoc _ _ _).trans ?_
  refine ((List.perm_append_comm_assoc _ _ _).append_left _).trans ?_
  refine (List.perm_append_comm_assoc _ _ _).trans ?_
  exact List.Perm.refl _⟩

end
end Lw
namespace Lw
open PySem PySem.Spec PyProof.Rows L2 Fw Mi
section
variable {P : Program} {w : World} {K : PySem.W.Frag} {mg : Str → Option Value} {base : Heap}
noncomputable def m_agree (first : (List Nat)) (second : (List Nat)) : Option Bool := fin (κ := Unit) (ρ := Unit) (rb (ob (if (decide (first = second)) = true then (some (!decide (first = ([78] : List Nat)))) else some false) fun r2 => some (.ret r2)) fun γ => some (.nxt γ))
abbrev sp_agree (K : PySem.W.Frag) : Sp := spM (aC jS (aC jS aN)) (sF jB) (fun γ => m_agree γ.1 γ.2.1)
theorem ok_agree (T : Tx w K mg) : Dn P w K mg base 1 (He.ga K "agree") ["first", "second"] (sp_agree K) := by
  refine dn_mk T.d_agree sc_agree (fun _ _ _ _ _ _ us hl => match us, hl with | [_, _], _ => rfl) (spM_len (an_C (an_C an_0))) fun cdv A outer s H vs Q E hr h => ?_
  refine ⟨_, (pss_cons (ps_ret (pe_and (pe_cmpR op_eq (pv 0) (pv 1) (nomark _)) (pe_one (pe_cmpR op_ne (pv 0) (pe_globS (by rfl) T.k_UNKNOWN) (nomark _)))))
      pss_nil), ?_⟩
  refine fin_runX (E := (eC (sF jS) (eC (sF jS) eN))) (E' := eN) (ae_C (ae_C ae_0)) (an_C (an_C an_0)) rfl ?S h rfl
  exact ⟨_, (ss_seq (ss_ret (se_andV (se_op (se_var g0) (se_var (gS g0)) (s2_eqS)) (se_op (se_var g0) (se_str (l := [78])) (s2_neS)))) ss_nil), by exact rfl⟩
end
end Lw
namespace Lw
open PySem PySem.Spec PyProof.Rows L2 Fw Mi
local macro_rules | `(tactic| walk_at "m") => `(tactic| simp only [pidx_one, pinS_one, pninS_one, W_some, W_none, W_ob, W_bind, W_pck, W_rb, W_fin, W_finN, W_T, W_F, W_Tr, W_Fa, Rw_nxt, Rw_ret, Rw_cnt, Rf_ret, Rf_nxt, RfN_ret, RfN_nxt, decide_true, decide_false, Bool.not_true, Bool.not_false])
theorem m_agree_eq (a b : Nat) : m_agree [a] [b] = some (agr a b) := by
  refine W.eq ?_
  unfold m_agree
  simp only [sing_eq]
  walk_at "m"
  refine W_ifD (fun h => ?_) (fun h => ?_)
  · walk_at "m"
    unfold agr
    rw [decide_eq_true h]
    rfl
  · walk_at "m"
    unfold agr
    rw [decide_eq_false h]
    rfl

end Lw
namespace Lw
open PySem PySem.Spec PyProof.Rows L2 Fw Mi
section
variable {P : Program} {w : World} {K : PySem.W.Frag} {mg : Str → Option Value} {base : Heap}
noncomputable def m_least_costs (read : (List Nat)) (text : (List Nat)) (end_ : Int) (costs : (Int × Int × Int)) : Option ((List (List Int)) × (List (List Int)) × (List (List Int))) := fin (κ := Unit) (ρ := Unit) (ob (ob (ob (pck (read.length ≤ sz) (read.length : Int)) fun x45 => some (x45, (end_, ()))) fun z46 => (m_first_tables z46.1 z46.2.1)) fun q1 => rb (ob (ob (ob (ob (pck (read.length ≤ sz) (read.length : Int)) fun x41 => some (x41 + (1 : Int))) fun x42 => some (x42, ())) fun z43 => (pck (-4611686018427387904 ≤ z43.1 ∧ z43.1 < 4611686018427387904) (prange z43.1))) fun xs44 => (forR (fun (x_ : Int) (γ : ((List Nat) × (List Nat) × Int × (Int × Int × Int) × Int × Int × Int × (List (List Int)) × (List (List Int)) × (List (List Int)) × Unit)) => let i := x_; let read := γ.1; let text := γ.2.1; let end_ := γ.2.2.1; let costs := γ.2.2.2.1; let replace := γ.2.2.2.2.1; let start := γ.2.2.2.2.2.1; let each := γ.2.2.2.2.2.2.1; let pairs := γ.2.2.2.2.2.2.2.1; let extra := γ.2.2.2.2.2.2.2.2.1; let gaps := γ.2.2.2.2.2.2.2.2.2.1; rb (ob (pck (-4611686018427387904 ≤ (end_ + (1 : Int)) ∧ (end_ + (1 : Int)) < 4611686018427387904) (prange (end_ + (1 : Int)))) fun xs40 => (forR (fun (x_ : Int) (γ : ((List Nat) × (List Nat) × Int × (Int × Int × Int) × Int × Int × Int × (List (List Int)) × (List (List Int)) × (List (List Int)) × Int × Unit)) => let j := x_; let read := γ.1; let text := γ.2.1; let end_ := γ.2.2.1; let costs := γ.2.2.2.1; let replace := γ.2.2.2.2.1; let start := γ.2.2.2.2.2.1; let each := γ.2.2.2.2.2.2.1; let pairs := γ.2.2.2.2.2.2.2.1; let extra := γ.2.2.2.2.2.2.2.2.1; let gaps := γ.2.2.2.2.2.2.2.2.2.1; let i := γ.2.2.2.2.2.2.2.2.2.2.1; rb ((ob (if (decide ((0 : Int) < i)) = true then (some (decide ((0 : Int) < j))) else some false) fun b17 => if b17 = true then (ob ((ob (ob (ob (pixS read (i - (1 : Int))) fun x6 => (ob (ob (pixS text (j - (1 : Int))) fun x5 => some (x5, ())) fun r7 => some (x6, r7))) fun z8 => (m_agree z8.1 z8.2.1)) fun b9 => if b9 = true then (some (0 : Int)) else (some replace))) fun weight => ob (ob (ob (pcell pairs (i - (1 : Int)) (j - (1 : Int))) fun x13 => (ob (ob (pcell extra (i - (1 : Int)) (j - (1 : Int))) fun x11 => (ob (ob (pcell gaps (i - (1 : Int)) (j - (1 : Int))) fun x10 => some (x10, ())) fun r12 => some (x11, r12))) fun r14 => some (x13, r14))) fun z15 => some (min (min z15.1 z15.2.1) z15.2.2.1)) fun before => ob (pcset pairs i j (before + weight)) fun w16 => some (.nxt (read, text, end_, costs, replace, start, each, w16, extra, gaps, i, j, ()))) else (some (.nxt (read, text, end_, costs, replace, start, each, pairs, extra, gaps, i, j, ()))))) fun γ => let read := γ.1; let text := γ.2.1; let end_ := γ.2.2.1; let costs := γ.2.2.2.1; let replace := γ.2.2.2.2.1; let start := γ.2.2.2.2.2.1; let each := γ.2.2.2.2.2.2.1; let pairs := γ.2.2.2.2.2.2.2.1; let extra := γ.2.2.2.2.2.2.2.2.1; let gaps := γ.2.2.2.2.2.2.2.2.2.1; let i := γ.2.2.2.2.2.2.2.2.2.2.1; let j := γ.2.2.2.2.2.2.2.2.2.2.2.1; rb (if (decide ((0 : Int) < i)) = true then (ob (ob (ob (ob (pcell pairs (i - (1 : Int)) j) fun x19 => (ob (ob (pcell gaps (i - (1 : Int)) j) fun x18 => some (x18, ())) fun r20 => some (x19, r20))) fun z21 => some (min z21.1 z21.2.1)) fun x22 => some (x22 + start)) fun opened => (ob (ob (ob (ob (ob (pcell extra (i - (1 : Int)) j) fun x23 => some (x23, ())) fun r24 => some (opened, r24)) fun z25 => some (min z25.1 z25.2.1)) fun x26 => some (x26 + each)) fun x28 => ob (pcset extra i j x28) fun w27 => some (.nxt (read, text, end_, costs, replace, start, each, pairs, w27, gaps, i, j, ())))) else (some (.nxt (read, text, end_, costs, replace, start, each, pairs, extra, gaps, i, j, ())))) fun γ => let read := γ.1; let text := γ.2.1; let end_ := γ.2.2.1; let costs := γ.2.2.2.1; let replace := γ.2.2.2.2.1; let start := γ.2.2.2.2.2.1; let each := γ.2.2.2.2.2.2.1; let pairs := γ.2.2.2.2.2.2.2.1; let extra := γ.2.2.2.2.2.2.2.2.1; let gaps := γ.2.2.2.2.2.2.2.2.2.1; let i := γ.2.2.2.2.2.2.2.2.2.2.1; let j := γ.2.2.2.2.2.2.2.2.2.2.2.1; rb (if (decide ((0 : Int) < j)) = true then (ob (ob (ob (ob (pcell pairs i (j - (1 : Int))) fun x30 => (ob (ob (pcell extra i (j - (1 : Int))) fun x29 => some (x29, ())) fun r31 => some (x30, r31))) fun z32 => some (min z32.1 z32.2.1)) fun x33 => some (x33 + start)) fun opened => (ob (ob (ob (ob (ob (pcell gaps i (j - (1 : Int))) fun x34 => some (x34, ())) fun r35 => some (opened, r35)) fun z36 => some (min z36.1 z36.2.1)) fun x37 => some (x37 + each)) fun x39 => ob (pcset gaps i j x39) fun w38 => some (.nxt (read, text, end_, costs, replace, start, each, pairs, extra, w38, i, j, ())))) else (some (.nxt (read, text, end_, costs, replace, start, each, pairs, extra, gaps, i, j, ())))) fun γ => let read := γ.1; let text := γ.2.1; let end_ := γ.2.2.1; let costs := γ.2.2.2.1; let replace := γ.2.2.2.2.1; let start := γ.2.2.2.2.2.1; let each := γ.2.2.2.2.2.2.1; let pairs := γ.2.2.2.2.2.2.2.1; let extra := γ.2.2.2.2.2.2.2.2.1; let gaps := γ.2.2.2.2.2.2.2.2.2.1; let i := γ.2.2.2.2.2.2.2.2.2.2.1; some (.nxt (read, text, end_, costs, replace, start, each, pairs, extra, gaps, i, ()))) xs40 (read, text, end_, costs, replace, start, each, pairs, extra, gaps, i, ()))) fun γ => let read := γ.1; let text := γ.2.1; let end_ := γ.2.2.1; let costs := γ.2.2.2.1; let replace := γ.2.2.2.2.1; let start := γ.2.2.2.2.2.1; let each := γ.2.2.2.2.2.2.1; let pairs := γ.2.2.2.2.2.2.2.1; let extra := γ.2.2.2.2.2.2.2.2.1; let gaps := γ.2.2.2.2.2.2.2.2.2.1; some (.nxt (read, text, end_, costs, replace, start, each, pairs, extra, gaps, ()))) xs44 (read, text, end_, costs, costs.1, costs.2.1, costs.2.2, q1.1, q1.2.1, q1.2.2, ()))) fun γ => let pairs := γ.2.2.2.2.2.2.2.1; let extra := γ.2.2.2.2.2.2.2.2.1; let gaps := γ.2.2.2.2.2.2.2.2.2.1; rb (some (.ret (pairs, extra, gaps))) fun γ => some (.nxt γ))
abbrev sp_least_costs (K : PySem.W.Frag) : Sp := spM (aC jS (aC jS (aC jI (aC (jT (yC jI (yC jI (y1 jI)))) aN)))) (sF (jT (yC (jL (jL jI)) (yC (jL (jL jI)) (y1 (jL (jL jI))))))) (fun γ => m_least_costs γ.1 γ.2.1 γ.2.2.1 γ.2.2.2.1)
theorem ok_least_costs (T : Tx w K mg) : Dn P w K mg base 2 (He.ga K "least_costs") ["read", "text", "end", "costs"] (sp_least_costs K) := by
  obtain ⟨fd_first_tables, G_first_tables, b_first_tables, kp_first_tables, _⟩ := ok_first_tables (P := P) (w := w) (base := base) T
  obtain ⟨fd_agree, G_agree, b_agree, kp_agree, _⟩ := ok_agree (P := P) (w := w) (base := base) T
  refine dn_mk T.d_least_costs sc_least_costs (fun _ _ _ _ _ _ us hl => match us, hl with | [_, _, _, _], _ => rfl) (spM_len (an_C (an_C (an_C (an_C an_0))))) fun cdv A outer s H vs Q E hr h => ?_
  refine ⟨_, (pss_cons (ps_asg (pv 3) (gt_ (K := K) (n := 3) (by rfl) (pgs_cons (pg_name (i := 4) sc_least_costs.nd rfl (.inl rfl)) (pgs_cons (pg_name (i := 5) sc_least_costs.nd rfl (.inl rfl)) (pgs_cons (pg_name (i := 6) sc_least_costs.nd rfl (.inl rfl)) pgs_nil)))))
      (pss_cons (ps_asg (pe_call G_first_tables (hr.mono (by decide)) (by rfl) T.g_first_tables kp_first_tables b_first_tables .nil pass0 (pa_cons (pe_callB k_lenS (by rfl) T.z_len (by decide +kernel) (pa_cons (pv 0) pa_nil)) (pa_cons (pv 2) pa_nil))) (gt_ (K := K) (n := 3) (by rfl) (pgs_cons (pg_name (i := 7) sc_least_costs.nd rfl (.inl rfl)) (pgs_cons (pg_name (i := 8) sc_least_costs.nd rfl (.inl rfl)) (pgs_cons (pg_name (i := 9) sc_least_costs.nd rfl (.inl rfl)) pgs_nil)))))
      (pss_cons (ps_for PassesOwn.never rfl (pi_range1 (by rfl) T.z_range (pa_cons (pe_op op_add (pe_callB k_lenS (by rfl) T.z_len (by decide +kernel) (pa_cons (pv 0) pa_nil)) pe_int) pa_nil)) (pg_name (i := 10) sc_least_costs.nd rfl (.inl rfl))
      (pss_cons (ps_for PassesOwn.never rfl (pi_range1 (by rfl) T.z_range (pa_cons (pe_op op_add (pv 2) pe_int) pa_nil)) (pg_name (i := 11) sc_least_costs.nd rfl (.inl rfl))
      (pss_cons (ps_if (PW.pt (pw_and (pt_cmpR op_gt (pv 10) pe_int (nomark _)) (pw_and1 (pt_cmpR op_gt (pv 11) pe_int (nomark _)))))
      (pss_cons (ps_set (i := 12) sc_least_costs.nd rfl (.inl rfl) (pe_ifExp (pt_val (pe_call G_agree (hr.mono (by decide)) (by rfl) T.g_agree kp_agree b_agree .nil pass0 (pa_cons (pe_ix k_ixS (pv 0) (pe_op op_sub (pv 10) pe_int) (fun _ _ => rfl)) (pa_cons (pe_ix k_ixS (pv 1) (pe_op op_sub (pv 11) pe_int) (fun _ _ => rfl)) pa_nil)))) pe_int (pv 4)))
      (pss_cons (ps_set (i := 13) sc_least_costs.nd rfl (.inl rfl) (pe_callB (min3_ rfl) (by rfl) T.z_min (by decide +kernel) (pa_cons (pe_ix (ixL_ (K := K)) (pe_ix (ixL_ (K := K)) (pv 7) (pe_op op_sub (pv 10) pe_int) (fun _ _ => rfl)) (pe_op op_sub (pv 11) pe_int) (fun _ _ => rfl)) (pa_cons (pe_ix (ixL_ (K := K)) (pe_ix (ixL_ (K := K)) (pv 8) (pe_op op_sub (pv 10) pe_int) (fun _ _ => rfl)) (pe_op op_sub (pv 11) pe_int) (fun _ _ => rfl)) (pa_cons (pe_ix (ixL_ (K := K)) (pe_ix (ixL_ (K := K)) (pv 9) (pe_op op_sub (pv 10) pe_int) (fun _ _ => rfl)) (pe_op op_sub (pv 11) pe_int) (fun _ _ => rfl)) pa_nil)))))
      (pss_cons (ps_asg (pe_op op_add (pv 13) (pv 12)) (pg_sub (pe_ix (ixL_ (K := K)) (pv 7) (pv 10) (fun _ _ => rfl)) (pv 11) set_list))
      pss_nil)))
      pss_nil)
      (pss_cons (ps_if (pt_cmpR op_gt (pv 10) pe_int (nomark _))
      (pss_cons (ps_set (i := 14) sc_least_costs.nd rfl (.inl rfl) (pe_op op_add (pe_callB (min2_ rfl) (by rfl) T.z_min (by decide +kernel) (pa_cons (pe_ix (ixL_ (K := K)) (pe_ix (ixL_ (K := K)) (pv 7) (pe_op op_sub (pv 10) pe_int) (fun _ _ => rfl)) (pv 11) (fun _ _ => rfl)) (pa_cons (pe_ix (ixL_ (K := K)) (pe_ix (ixL_ (K := K)) (pv 9) (pe_op op_sub (pv 10) pe_int) (fun _ _ => rfl)) (pv 11) (fun _ _ => rfl)) pa_nil))) (pv 5)))
      (pss_cons (ps_asg (pe_op op_add (pe_callB (min2_ rfl) (by rfl) T.z_min (by decide +kernel) (pa_cons (pv 14) (pa_cons (pe_ix (ixL_ (K := K)) (pe_ix (ixL_ (K := K)) (pv 8) (pe_op op_sub (pv 10) pe_int) (fun _ _ => rfl)) (pv 11) (fun _ _ => rfl)) pa_nil))) (pv 6)) (pg_sub (pe_ix (ixL_ (K := K)) (pv 8) (pv 10) (fun _ _ => rfl)) (pv 11) set_list))
      pss_nil))
      pss_nil)
      (pss_cons (ps_if (pt_cmpR op_gt (pv 11) pe_int (nomark _))
      (pss_cons (ps_set (i := 14) sc_least_costs.nd rfl (.inl rfl) (pe_op op_add (pe_callB (min2_ rfl) (by rfl) T.z_min (by decide +kernel) (pa_cons (pe_ix (ixL_ (K := K)) (pe_ix (ixL_ (K := K)) (pv 7) (pv 10) (fun _ _ => rfl)) (pe_op op_sub (pv 11) pe_int) (fun _ _ => rfl)) (pa_cons (pe_ix (ixL_ (K := K)) (pe_ix (ixL_ (K := K)) (pv 8) (pv 10) (fun _ _ => rfl)) (pe_op op_sub (pv 11) pe_int) (fun _ _ => rfl)) pa_nil))) (pv 5)))
      (pss_cons (ps_asg (pe_op op_add (pe_callB (min2_ rfl) (by rfl) T.z_min (by decide +kernel) (pa_cons (pv 14) (pa_cons (pe_ix (ixL_ (K := K)) (pe_ix (ixL_ (K := K)) (pv 9) (pv 10) (fun _ _ => rfl)) (pe_op op_sub (pv 11) pe_int) (fun _ _ => rfl)) pa_nil))) (pv 6)) (pg_sub (pe_ix (ixL_ (K := K)) (pv 9) (pv 10) (fun _ _ => rfl)) (pv 11) set_list))
      pss_nil))
      pss_nil)
      pss_nil))))
      pss_nil))
      (pss_cons (ps_ret (pe_tup (pa_cons (pv 7) (pa_cons (pv 8) (pa_cons (pv 9) pa_nil)))))
      pss_nil)))), ?_⟩
  refine fin_runX (E := (eC (sF jS) (eC (sF jS) (eC (sF jI) (eC (sF (jT (yC jI (yC jI (y1 jI))))) (eU (eU (eU (eU (eU (eU (eU (eU (eU (eU (eU eN)))))))))))))))) (E' := eN) (ae_C (ae_C (ae_C (ae_C (ae_U rfl (ae_U rfl (ae_U rfl (ae_U rfl (ae_U rfl (ae_U rfl (ae_U rfl (ae_U rfl (ae_U rfl (ae_U rfl (ae_U rfl ae_0))))))))))))))) (an_C (an_C (an_C (an_C an_0)))) rfl ?S h rfl
  exact ⟨_, (ss_asgG (se_var (gS (gS (gS g0)))) (sg_tup (K := K) (sgs_C (sg_name (pS (pS (pS (pS p0U))))) (sgs_C (sg_name (pS (pS (pS (pS (pS p0U)))))) (sgs_1 (sg_name (pS (pS (pS (pS (pS (pS p0U)))))))))) (tz (tz tz1))) (ss_first_tables (sa_cons (se_cb (sa_cons (se_var g0) sa_nil) sc_lenS) (sa_cons (se_var (gS (gS g0))) sa_nil)) (pS (pS (pS (pS (pS (pS (pS p0U))))))) (pS (pS (pS (pS (pS (pS (pS (pS p0U)))))))) (pS (pS (pS (pS (pS (pS (pS (pS (pS p0U))))))))) (ss_seq (ss_for (si_r1 (sa_cons (se_op (se_cb (sa_cons (se_var g0) sa_nil) sc_lenS) se_int (s2_I0 (f := fun i j => i + j))) sa_nil)) (sg_name (pS (pS (pS (pS (pS (pS (pS (pS (pS (pS p0U))))))))))) (ss_seq (ss_for (si_r1 (sa_cons (se_op (se_var (gS (gS g0))) se_int (s2_I0 (f := fun i j => i + j))) sa_nil)) (sg_name (pS (pS (pS (pS (pS (pS (pS (pS (pS (pS (pS p0U)))))))))))) (ss_seq (ss_if (st_and (st_test (se_op (se_var (gS (gS (gS (gS (gS (gS (gS (gS (gS (gS g0))))))))))) se_int (s2_C0 (f := fun i j => decide (j < i))))) (st_test (se_op (se_var (gS (gS (gS (gS (gS (gS (gS (gS (gS (gS (gS g0)))))))))))) se_int (s2_C0 (f := fun i j => decide (j < i)))))) (ss_asg (se_ifE (st_B (se_call (sa_cons (se_op (se_var g0) (se_op (se_var (gS (gS (gS (gS (gS (gS (gS (gS (gS (gS g0))))))))))) se_int (s2_I0 (f := fun i j => i - j))) s2_ixS) (sa_cons (se_op (se_var (gS g0)) (se_op (se_var (gS (gS (gS (gS (gS (gS (gS (gS (gS (gS (gS g0)))))))))))) se_int (s2_I0 (f := fun i j => i - j))) s2_ixS) sa_nil)))) se_int (se_var (gS (gS (gS (gS g0)))))) (pS (pS (pS (pS (pS (pS (pS (pS (pS (pS (pS (pS p0U)))))))))))) (ss_asg (se_cb (sa_cons (se_cell (K := K) (gS (gS (gS (gS (gS (gS (gS g0))))))) (se_op (se_var (gS (gS (gS (gS (gS (gS (gS (gS (gS (gS g0))))))))))) se_int (s2_I0 (f := fun i j => i - j))) (se_op (se_var (gS (gS (gS (gS (gS (gS (gS (gS (gS (gS (gS g0)))))))))))) se_int (s2_I0 (f := fun i j => i - j)))) (sa_cons (se_cell (K := K) (gS (gS (gS (gS (gS (gS (gS (gS g0)))))))) (se_op (se_var (gS (gS (gS (gS (gS (gS (gS (gS (gS (gS g0))))))))))) se_int (s2_I0 (f := fun i j => i - j))) (se_op (se_var (gS (gS (gS (gS (gS (gS (gS (gS (gS (gS (gS g0)))))))))))) se_int (s2_I0 (f := fun i j => i - j)))) (sa_cons (se_cell (K := K) (gS (gS (gS (gS (gS (gS (gS (gS (gS g0))))))))) (se_op (se_var (gS (gS (gS (gS (gS (gS (gS (gS (gS (gS g0))))))))))) se_int (s2_I0 (f := fun i j => i - j))) (se_op (se_var (gS (gS (gS (gS (gS (gS (gS (gS (gS (gS (gS g0)))))))))))) se_int (s2_I0 (f := fun i j => i - j)))) sa_nil))) sc_min3) (pS (pS (pS (pS (pS (pS (pS (pS (pS (pS (pS (pS (pS p0U))))))))))))) (ss_cell (K := K) (vS (vS (vS (vS (vS (vS (vS v0))))))) (se_op (se_var (gS (gS (gS (gS (gS (gS (gS (gS (gS (gS (gS (gS (gS g0)))))))))))))) (se_var (gS (gS (gS (gS (gS (gS (gS (gS (gS (gS (gS (gS g0))))))))))))) (s2_I0 (f := fun i j => i + j))) (se_var (gS (gS (gS (gS (gS (gS (gS (gS (gS (gS g0))))))))))) (se_var (gS (gS (gS (gS (gS (gS (gS (gS (gS (gS (gS g0)))))))))))) (ss_co (cK (cK (cK (cK (cK (cK (cK (cK (cK (cK (cK (cK (cF (cF cId)))))))))))))))))) ss_nil) (ss_seq (ss_if (st_test (se_op (se_var (gS (gS (gS (gS (gS (gS (gS (gS (gS (gS g0))))))))))) se_int (s2_C0 (f := fun i j => decide (j < i))))) (ss_asg (se_op (se_cb (sa_cons (se_cell (K := K) (gS (gS (gS (gS (gS (gS (gS g0))))))) (se_op (se_var (gS (gS (gS (gS (gS (gS (gS (gS (gS (gS g0))))))))))) se_int (s2_I0 (f := fun i j => i - j))) (se_var (gS (gS (gS (gS (gS (gS (gS (gS (gS (gS (gS g0))))))))))))) (sa_cons (se_cell (K := K) (gS (gS (gS (gS (gS (gS (gS (gS (gS g0))))))))) (se_op (se_var (gS (gS (gS (gS (gS (gS (gS (gS (gS (gS g0))))))))))) se_int (s2_I0 (f := fun i j => i - j))) (se_var (gS (gS (gS (gS (gS (gS (gS (gS (gS (gS (gS g0))))))))))))) sa_nil)) sc_min2) (se_var (gS (gS (gS (gS (gS g0)))))) (s2_I0 (f := fun i j => i + j))) (pS (pS (pS (pS (pS (pS (pS (pS (pS (pS (pS (pS (pU (pU p0U)))))))))))))) (ss_cell (K := K) (vS (vS (vS (vS (vS (vS (vS (vS v0)))))))) (se_op (se_cb (sa_cons (se_var (gS (gS (gS (gS (gS (gS (gS (gS (gS (gS (gS (gS (gU (gU g0))))))))))))))) (sa_cons (se_cell (K := K) (gS (gS (gS (gS (gS (gS (gS (gS g0)))))))) (se_op (se_var (gS (gS (gS (gS (gS (gS (gS (gS (gS (gS g0))))))))))) se_int (s2_I0 (f := fun i j => i - j))) (se_var (gS (gS (gS (gS (gS (gS (gS (gS (gS (gS (gS g0))))))))))))) sa_nil)) sc_min2) (se_var (gS (gS (gS (gS (gS (gS g0))))))) (s2_I0 (f := fun i j => i + j))) (se_var (gS (gS (gS (gS (gS (gS (gS (gS (gS (gS g0))))))))))) (se_var (gS (gS (gS (gS (gS (gS (gS (gS (gS (gS (gS g0)))))))))))) (ss_co (cK (cK (cK (cK (cK (cK (cK (cK (cK (cK (cK (cK (cU (cU (cF cId)))))))))))))))))) ss_nil) (ss_seq (ss_if (st_test (se_op (se_var (gS (gS (gS (gS (gS (gS (gS (gS (gS (gS (gS g0)))))))))))) se_int (s2_C0 (f := fun i j => decide (j < i))))) (ss_asg (se_op (se_cb (sa_cons (se_cell (K := K) (gS (gS (gS (gS (gS (gS (gS g0))))))) (se_var (gS (gS (gS (gS (gS (gS (gS (gS (gS (gS g0))))))))))) (se_op (se_var (gS (gS (gS (gS (gS (gS (gS (gS (gS (gS (gS g0)))))))))))) se_int (s2_I0 (f := fun i j => i - j)))) (sa_cons (se_cell (K := K) (gS (gS (gS (gS (gS (gS (gS (gS g0)))))))) (se_var (gS (gS (gS (gS (gS (gS (gS (gS (gS (gS g0))))))))))) (se_op (se_var (gS (gS (gS (gS (gS (gS (gS (gS (gS (gS (gS g0)))))))))))) se_int (s2_I0 (f := fun i j => i - j)))) sa_nil)) sc_min2) (se_var (gS (gS (gS (gS (gS g0)))))) (s2_I0 (f := fun i j => i + j))) (pS (pS (pS (pS (pS (pS (pS (pS (pS (pS (pS (pS (pU (pU p0U)))))))))))))) (ss_cell (K := K) (vS (vS (vS (vS (vS (vS (vS (vS (vS v0))))))))) (se_op (se_cb (sa_cons (se_var (gS (gS (gS (gS (gS (gS (gS (gS (gS (gS (gS (gS (gU (gU g0))))))))))))))) (sa_cons (se_cell (K := K) (gS (gS (gS (gS (gS (gS (gS (gS (gS g0))))))))) (se_var (gS (gS (gS (gS (gS (gS (gS (gS (gS (gS g0))))))))))) (se_op (se_var (gS (gS (gS (gS (gS (gS (gS (gS (gS (gS (gS g0)))))))))))) se_int (s2_I0 (f := fun i j => i - j)))) sa_nil)) sc_min2) (se_var (gS (gS (gS (gS (gS (gS g0))))))) (s2_I0 (f := fun i j => i + j))) (se_var (gS (gS (gS (gS (gS (gS (gS (gS (gS (gS g0))))))))))) (se_var (gS (gS (gS (gS (gS (gS (gS (gS (gS (gS (gS g0)))))))))))) (ss_co (cK (cK (cK (cK (cK (cK (cK (cK (cK (cK (cK (cK (cU (cU (cF cId)))))))))))))))))) ss_nil) (ss_co (cK (cK (cK (cK (cK (cK (cK (cK (cK (cK (cK (cF cId))))))))))))))))) (ss_co (cK (cK (cK (cK (cK (cK (cK (cK (cK (cK (cF cId)))))))))))))) (ss_pre (cK (cK (cK (cK (cK (cK (cK (cG cId)))))))) (ss_pre (cK (cK (cK (cK (cK (cK (cK (cK (cG cId))))))))) (ss_pre (cK (cK (cK (cK (cK (cK (cK (cK (cK (cG cId)))))))))) (ss_seq (ss_ret (se_tup (stC (se_var (gS (gS (gS (gS (gS (gS (gS g0)))))))) (stC (se_var (gS (gS (gS (gS (gS (gS (gS (gS g0))))))))) (st1 (se_var (gS (gS (gS (gS (gS (gS (gS (gS (gS g0))))))))))))) (tz (tz tz1)))) ss_nil))))))), by exact rfl⟩
end
end Lw
namespace Lw
open PySem PySem.Spec PyProof.Rows L2 Fw Mi
local macro_rules | `(tactic| walk_at "m") => `(tactic| simp only [pidx_one, pinS_one, pninS_one, W_some, W_none, W_ob, W_bind, W_pck, W_rb, W_fin, W_finN, W_T, W_F, W_Tr, W_Fa, Rw_nxt, Rw_ret, Rw_cnt, Rf_ret, Rf_nxt, RfN_ret, RfN_nxt, decide_true, decide_false, Bool.not_true, Bool.not_false])
def wf (rd tx : List Nat) (rp : Nat) (i j : Nat) : Nat := if agr (rd.getD i 0) (tx.getD j 0) = true then 0 else rp
theorem wf_le {rd tx : List Nat} {rp : Nat} (h : rp ≤ 100) (i j : Nat) : wf rd tx rp i j ≤ 100 := by
  unfold wf
  split <;> omega
/-- the cells before (i, j) stand for T, the others are as they began -/
structure Cells (m : Nat) (w : Nat → Nat → Nat) (s e : Nat) (P Q R : Nat → Nat → Int) (i j : Nat) : Prop where
  done : ∀ i' j', j' ≤ m → i' < i ∨ (i' = i ∧ j' < j) → Tb.Rep never (Tb.T w s e i' j').p (P i' j') ∧ Tb.Rep never (Tb.T w s e i' j').q (Q i' j') ∧ Tb.Rep never (Tb.T w s e i' j').r (R i' j')
  rest : ∀ i' j', j' ≤ m → ¬ (i' < i ∨ (i' = i ∧ j' < j)) → P i' j' = Mz i' j' ∧ Q i' j' = never ∧ R i' j' = never
theorem bdN {w : Nat → Nat → Nat} {i j s e : Nat} (h : i + j ≤ 2100) : ((200 * (i + j) : Nat) : Int) < never := by
  show _ < (1152921504606846976 : Int)
  omega
theorem getD_of {l : List Nat} {i c : Nat} (h : l[i]? = some c) : l.getD i 0 = c := by rw [List.getD_eq_getElem?_getD, h]; rfl
theorem w_least {rd tx : List Nat} {m rp s e : Nat} {Q : List (List Int) × List (List Int) × List (List Int) → Prop} (hn : rd.length ≤ 1000) (hm : m ≤ tx.length) (ht : tx.length ≤ 1000) (h1 : rp ≤ 100) (h2 : s ≤ 100) (h3 : e ≤ 100)
    (q : ∀ X Y Z : Nat → Nat → Int, (∀ i j, i ≤ rd.length → j ≤ m → Tb.Rep never (Tb.T (wf rd tx rp) s e i j).p (X i j) ∧ Tb.Rep never (Tb.T (wf rd tx rp) s e i j).q (Y i j) ∧ Tb.Rep never (Tb.T (wf rd tx rp) s e i j).r (Z i j)) →
      Q (grid (rd.length + 1) (m + 1) X, grid (rd.length + 1) (m + 1) Y, grid (rd.length + 1) (m + 1) Z)) : W (m_least_costs rd tx (m : Int) ((rp : Int), (s : Int), (e : Int))) Q := by
  unfold m_least_costs m_first_tables
  walk_at "m"
  have hz : ∀ k : Nat, k ≤ 1000 → k ≤ sz := fun k h => by unfold sz; omega
  refine ⟨hz _ hn, by omega, hz _ hn, by omega, ?_⟩
  rw [show ((rd.length : Int)).toNat = rd.length from Int.toNat_natCast _, show ((m : Int)).toNat = m from Int.toNat_natCast _]
  refine W_for (fun i γ => ∃ P Q' R, γ = (rd, tx, (m : Int), ((rp : Int), (s : Int), (e : Int)), (rp : Int), (s : Int), (e : Int), grid (rd.length + 1) (m + 1) P, grid (rd.length + 1) (m + 1) Q', grid (rd.length + 1) (m + 1) R, ()) ∧ Cells m (wf rd tx rp) s e P Q' R i 0)
    ⟨Mz, Mn, Mn, rfl, ⟨fun _ _ _ h => by omega, fun _ _ _ _ => ⟨rfl, rfl, rfl⟩⟩⟩ ?_ ?_
  · rintro i x γ hx ⟨P, Q', R, rfl, hC⟩
    obtain ⟨rfl, hi⟩ := prange_get hx
    have hin : i < rd.length + 1 := by omega
    walk_at "m"
    refine ⟨by omega, ?_⟩
    refine W_for (fun j γ => ∃ P Q' R, γ = (rd, tx, (m : Int), ((rp : Int), (s : Int), (e : Int)), (rp : Int), (s : Int), (e : Int), grid (rd.length + 1) (m + 1) P, grid (rd.length + 1) (m + 1) Q', grid (rd.length + 1) (m + 1) R, (i : Int), ()) ∧ Cells m (wf rd tx rp) s e P Q' R i j) ⟨P, Q', R, rfl, hC⟩ ?_ ?_
    · rintro j x γ hx ⟨P, Q', R, rfl, hC⟩
      obtain ⟨rfl, hj⟩ := prange_get hx
      have hjm : j < m + 1 := by omega
      have hw := wf_le (rd := rd) (tx := tx) h1
      walk_at "m"
      refine W.mono (Q := fun y => y = (decide (0 < i) && decide (0 < j))) ?_ ?_
      · refine W_ifD (fun h => ?_) (fun h => ?_)
        · walk_at "m"
          rw [decide_eq_true (show 0 < i by omega), Bool.true_and]
          exact decide_eq_decide.mpr (by omega)
        · walk_at "m"
          rw [decide_eq_false (show ¬ 0 < i by omega)]
          rfl
      rintro _ rfl
      refine W.mono (Q := fun r => ∃ P', r = Res.nxt (rd, tx, (m : Int), ((rp : Int), (s : Int), (e : Int)), (rp : Int), (s : Int), (e : Int), grid (rd.length + 1) (m + 1) P', grid (rd.length + 1) (m + 1) Q', grid (rd.length + 1) (m + 1) R, (i : Int), (j : Int), ()) ∧ (∀ i' j', ¬ (i' = i ∧ j' = j) → P' i' j' = P i' j') ∧ Tb.Rep never (Tb.T (wf rd tx rp) s e i j).p (P' i j)) ?_ ?_
      · refine W_ifB (fun h => ?_) (fun h => ?_)
        · obtain ⟨i0, j0⟩ := (Bool.and_eq_true _ _).mp h
          have i0 := of_decide_eq_true i0
          have j0 := of_decide_eq_true j0
          obtain ⟨i1, rfl⟩ : ∃ i1, i = i1 + 1 := ⟨i - 1, by omega⟩
          obtain ⟨j1, rfl⟩ : ∃ j1, j = j1 + 1 := ⟨j - 1, by omega⟩
          rw [show ((i1 + 1 : Nat) : Int) - 1 = (i1 : Nat) by omega, show ((j1 + 1 : Nat) : Int) - 1 = (j1 : Nat) by omega]
          have g1 : rd[i1]? = some rd[i1] := List.getElem?_eq_getElem (by omega)
          have g2 : tx[j1]? = some tx[j1] := List.getElem?_eq_getElem (by omega)
          rw [pixS_nat g1 (hz _ hn), pixS_nat g2 (hz _ ht)]
          walk_at "m"
          rw [m_agree_eq]
          walk_at "m"
          have hbd := Tb.bd hw h2 h3 i1 j1
          have hbN : ((200 * (i1 + j1) : Nat) : Int) < never := bdN (w := wf rd tx rp) (s := s) (e := e) (by omega)
          have hd := hC.done i1 j1 (by omega) (by omega)
          have ew : wf rd tx rp i1 j1 = if agr rd[i1] tx[j1] = true then 0 else rp := by unfold wf; rw [getD_of g1, getD_of g2]
          have hr := Tb.Rep.ad (k := wf rd tx rp i1 j1) (((hd.1.mn hbN hd.2.1 hbd.1 hbd.2.1).mn hbN hd.2.2 (hbd.1.mn hbd.2.1) hbd.2.2))
          refine W_ifB (fun h => ?_) (fun h => ?_)
          all_goals
            rw [h] at ew
            walk_at "m"
            refine W_cell (by omega) (by omega) ?_
            refine W_cell (by omega) (by omega) ?_
            refine W_cell (by omega) (by omega) ?_
            refine W_cset (by omega) (by omega) ⟨_, rfl, fun i' j' h => upd2_ne h, ?_⟩
            rw [Tb.p11, upd2_same]
            rw [ew] at hr ⊢
            exact hr
        · walk_at "m"
          refine ⟨P, rfl, fun _ _ _ => rfl, ?_⟩
          have hr := hC.rest i j (by omega) (by omega)
          rw [hr.1]
          rcases Nat.eq_zero_or_pos i with e0 | e0
          · rw [e0, Tb.p0]
            rfl
          · have j0 : j = 0 := by
              rw [decide_eq_true e0, Bool.true_and] at h
              have := of_decide_eq_false h
              omega
            obtain ⟨i1, rfl⟩ : ∃ i1, i = i1 + 1 := ⟨i - 1, by omega⟩
            rw [j0, Tb.p10]
            exact Int.le_refl _
      rintro _ ⟨P', rfl, hPe, hPr⟩
      walk_at "m"
      refine W.mono (Q := fun r => ∃ Q2, r = Res.nxt (rd, tx, (m : Int), ((rp : Int), (s : Int), (e : Int)), (rp : Int), (s : Int), (e : Int), grid (rd.length + 1) (m + 1) P', grid (rd.length + 1) (m + 1) Q2, grid (rd.length + 1) (m + 1) R, (i : Int), (j : Int), ()) ∧ (∀ i' j', ¬ (i' = i ∧ j' = j) → Q2 i' j' = Q' i' j') ∧ Tb.Rep never (Tb.T (wf rd tx rp) s e i j).q (Q2 i j)) ?_ ?_
      · refine W_ifD (fun h => ?_) (fun h => ?_)
        · obtain ⟨i1, rfl⟩ : ∃ i1, i = i1 + 1 := ⟨i - 1, by omega⟩
          rw [show ((i1 + 1 : Nat) : Int) - 1 = (i1 : Nat) by omega]
          walk_at "m"
          have hbd := Tb.bd hw h2 h3 i1 j
          have hbN : ((200 * (i1 + j) + s : Nat) : Int) < never := by
            show _ < (1152921504606846976 : Int)
            omega
          have hd := hC.done i1 j (by omega) (by omega)
          have hp1 : P' i1 j = P i1 j := hPe _ _ (by omega)
          refine W_cell (by omega) (by omega) ?_
          refine W_cell (by omega) (by omega) ?_
          refine W_cell (by omega) (by omega) ?_
          refine W_cset (by omega) (by omega) ⟨_, rfl, fun i' j' h => upd2_ne h, ?_⟩
          rw [Tb.q1, upd2_same, hp1]
          exact Tb.Rep.ad (k := e) (Tb.Rep.mn (b := 200 * (i1 + j) + s) hbN (Tb.Rep.ad (k := s) (hd.1.mn (show ((200 * (i1 + j) : Nat) : Int) < never by omega) hd.2.2 hbd.1 hbd.2.2)) hd.2.1 (Tb.Bd.ad (hbd.1.mn hbd.2.2)) (hbd.2.1.mono (by omega)))
        · walk_at "m"
          refine ⟨Q', rfl, fun _ _ _ => rfl, ?_⟩
          have hr := hC.rest i j (by omega) (by omega)
          rw [hr.2.1, show i = 0 by omega, Tb.q0]
          exact Int.le_refl _
      rintro _ ⟨Q2, rfl, hQe, hQr⟩
      walk_at "m"
      refine W.mono (Q := fun r => ∃ R2, r = Res.nxt (rd, tx, (m : Int), ((rp : Int), (s : Int), (e : Int)), (rp : Int), (s : Int), (e : Int), grid (rd.length + 1) (m + 1) P', grid (rd.length + 1) (m + 1) Q2, grid (rd.length + 1) (m + 1) R2, (i : Int), (j : Int), ()) ∧ (∀ i' j', ¬ (i' = i ∧ j' = j) → R2 i' j' = R i' j') ∧ Tb.Rep never (Tb.T (wf rd tx rp) s e i j).r (R2 i j)) ?_ ?_
      · refine W_ifD (fun h => ?_) (fun h => ?_)
        · obtain ⟨j1, rfl⟩ : ∃ j1, j = j1 + 1 := ⟨j - 1, by omega⟩
          rw [show ((j1 + 1 : Nat) : Int) - 1 = (j1 : Nat) by omega]
          walk_at "m"
          have hbd := Tb.bd hw h2 h3 i j1
          have hbN : ((200 * (i + j1) + s : Nat) : Int) < never := by
            show _ < (1152921504606846976 : Int)
            omega
          have hd := hC.done i j1 (by omega) (by omega)
          have hp1 : P' i j1 = P i j1 := hPe _ _ (by omega)
          have hq1 : Q2 i j1 = Q' i j1 := hQe _ _ (by omega)
          refine W_cell (by omega) (by omega) ?_
          refine W_cell (by omega) (by omega) ?_
          refine W_cell (by omega) (by omega) ?_
          refine W_cset (by omega) (by omega) ⟨_, rfl, fun i' j' h => upd2_ne h, ?_⟩
          rw [Tb.r1, upd2_same, hp1, hq1]
          exact Tb.Rep.ad (k := e) (Tb.Rep.mn (b := 200 * (i + j1) + s) hbN (Tb.Rep.ad (k := s) (hd.1.mn (show ((200 * (i + j1) : Nat) : Int) < never by omega) hd.2.1 hbd.1 hbd.2.1)) hd.2.2 (Tb.Bd.ad (hbd.1.mn hbd.2.1)) (hbd.2.2.mono (by omega)))
        · walk_at "m"
          refine ⟨R, rfl, fun _ _ _ => rfl, ?_⟩
          have hr := hC.rest i j (by omega) (by omega)
          rw [hr.2.2, show j = 0 by omega, Tb.r0]
          exact Int.le_refl _
      rintro _ ⟨R2, rfl, hRe, hRr⟩
      walk_at "m"
      refine ⟨P', Q2, R2, rfl, fun i' j' h4 h => ?_, fun i' j' h4 h => ?_⟩
      · by_cases hc : i' = i ∧ j' = j
        · rw [hc.1, hc.2]
          exact ⟨hPr, hQr, hRr⟩
        · rw [hPe _ _ hc, hQe _ _ hc, hRe _ _ hc]
          exact hC.done i' j' h4 (by omega)
      · have hc : ¬ (i' = i ∧ j' = j) := by omega
        rw [hPe _ _ hc, hQe _ _ hc, hRe _ _ hc]
        exact hC.rest i' j' h4 (by omega)
    · rintro γ ⟨P, Q', R, rfl, hC⟩
      walk_at "m"
      rw [prange_len, show ((m : Int) + 1).toNat = m + 1 by omega] at hC
      exact ⟨P, Q', R, rfl, fun i' j' h4 h => hC.done i' j' h4 (by omega), fun i' j' h4 h => hC.rest i' j' h4 (by omega)⟩
  · rintro γ ⟨P, Q', R, rfl, hC⟩
    walk_at "m"
    rw [prange_len, show ((rd.length : Int) + 1).toNat = rd.length + 1 by omega] at hC
    exact q P Q' R fun i j hi hj => hC.done i j hj (by omega)

end Lw
/-! ### paths -/
namespace Pa
/-- what a step costs behind the sign c0 -/
def ct (rp s e : Nat) (c0 c : Nat) : Nat := if c = 88 then rp else if c = 73 ∨ c = 68 then e + (if c = c0 then 0 else s) else 0
/-- what a path costs behind the sign c0 -/
def pr (rp s e : Nat) : Nat → List Nat → Nat
  | _, [] => 0
  | c0, c :: r => ct rp s e c0 c + pr rp s e c r
theorem ct_open {rp s e c0 c0' c : Nat} (h : c0 ≠ 73 ∧ c0 ≠ 68) (h' : c0' ≠ 73 ∧ c0' ≠ 68) : ct rp s e c0 c = ct rp s e c0' c := by
  unfold ct
  by_cases h1 : c = 88
  · rw [if_pos h1, if_pos h1]
  · rw [if_neg h1, if_neg h1]
    by_cases h2 : c = 73 ∨ c = 68
    · rw [if_pos h2, if_pos h2, if_neg (by omega), if_neg (by omega)]
    · rw [if_neg h2, if_neg h2]
theorem pr_open {rp s e c0 c0' : Nat} {l : List Nat} (h : c0 ≠ 73 ∧ c0 ≠ 68) (h' : c0' ≠ 73 ∧ c0' ≠ 68) : pr rp s e c0 l = pr rp s e c0' l := by
  cases l with
  | nil => rfl
  | cons c r => show ct rp s e c0 c + _ = ct rp s e c0' c + _; rw [ct_open h h']
/-- the last sign, or c0 -/
def lst (c0 : Nat) (l : List Nat) : Nat := (l.getLast?).getD c0
theorem lst_app (c0 c : Nat) (l : List Nat) : lst c0 (l ++ [c]) = c := by unfold lst; rw [List.getLast?_append]; rfl
theorem pr_app (rp s e : Nat) : ∀ (c0 : Nat) (l : List Nat) (c : Nat), pr rp s e c0 (l ++ [c]) = pr rp s e c0 l + ct rp s e (lst c0 l) c
  | c0, [], c => by show ct rp s e c0 c + 0 = 0 + ct rp s e c0 c; omega
  | c0, d :: l, c => by
    show ct rp s e c0 d + pr rp s e d (l ++ [c]) = ct rp s e c0 d + pr rp s e d l + _
    rw [pr_app rp s e d l c]
    have : lst d l = lst c0 (d :: l) := by
      unfold lst
      cases l with
      | nil => rfl
      | cons x l => rw [List.getLast?_cons_cons]; cases h : (x :: l).getLast? with
        | none => simp at h
        | some y => rfl
    rw [this]
    omega
/-- the path leads from (i, j) to (n, m) -/
def Wk (rd tx : List Nat) (n m : Nat) : Nat → Nat → List Nat → Prop
  | i, j, [] => i = n ∧ j = m
  | i, j, c :: r => (c = 61 ∧ i < n ∧ j < m ∧ Mi.agr (rd.getD i 0) (tx.getD j 0) = true ∧ Wk rd tx n m (i + 1) (j + 1) r) ∨
    (c = 88 ∧ i < n ∧ j < m ∧ Mi.agr (rd.getD i 0) (tx.getD j 0) = false ∧ Wk rd tx n m (i + 1) (j + 1) r) ∨
    (c = 73 ∧ i < n ∧ Wk rd tx n m (i + 1) j r) ∨ (c = 68 ∧ j < m ∧ Wk rd tx n m i (j + 1) r)
theorem Wk.len {rd tx : List Nat} {n m : Nat} : ∀ {l : List Nat} {i j : Nat}, Wk rd tx n m i j l → i ≤ n ∧ j ≤ m ∧ l.length + i + j ≤ n + m
  | [], i, j, h => by obtain ⟨h1, h2⟩ := h; simp; omega
  | c :: r, i, j, h => by
    rw [List.length_cons]
    rcases h with ⟨_, h1, h2, _, h3⟩ | ⟨_, h1, h2, _, h3⟩ | ⟨_, h1, h3⟩ | ⟨_, h1, h3⟩ <;> have := Wk.len h3 <;> omega
theorem Wk.signs {rd tx : List Nat} {n m : Nat} : ∀ {l : List Nat} {i j : Nat}, Wk rd tx n m i j l → ∀ c ∈ l, c = 61 ∨ c = 88 ∨ c = 73 ∨ c = 68
  | [], _, _, _, _, hc => nomatch hc
  | c :: r, i, j, h, d, hd => by
    rcases List.mem_cons.mp hd with e | hd
    · subst e
      rcases h with ⟨h, _⟩ | ⟨h, _⟩ | ⟨h, _⟩ | ⟨h, _⟩
      · exact .inl h
      · exact .inr (.inl h)
      · exact .inr (.inr (.inl h))
      · exact .inr (.inr (.inr h))
    · rcases h with ⟨_, _, _, _, h3⟩ | ⟨_, _, _, _, h3⟩ | ⟨_, _, h3⟩ | ⟨_, _, h3⟩ <;> exact Wk.signs h3 d hd
/-- the sign that a state leaves: 0 a pair, 1 a left out letter of the read, 2 one of the text -/
def sg : Nat → Nat
  | 1 => 73
  | 2 => 68
  | _ => 0
/-- a state's value -/
def val (t : Tb.T3) : Nat → Option Nat
  | 0 => t.p
  | 1 => t.q
  | _ => t.r
end Pa

/-! ### papers -/
namespace Pp
section
variable (n m : Nat) (w : Nat → Nat → Int) (s e : Int) (P Q R : Nat → Nat → Int)
def bP (i j : Nat) : List Int := (if i = 1 ∨ 1 < j then [P (i - 1) (j - 1) + w (i - 1) (j - 1)] else []) ++ (if 1 < i then [Q (i - 1) (j - 1) + w (i - 1) (j - 1)] else []) ++ (if 1 < j then [R (i - 1) (j - 1) + w (i - 1) (j - 1)] else [])
def bQ (i j : Nat) : List Int := (if i = 1 ∨ 0 < j then [P (i - 1) j + (s + e)] else []) ++ (if 0 < j then [R (i - 1) j + (s + e)] else []) ++ (if 1 < i then [Q (i - 1) j + e] else [])
def bR (i j : Nat) : List Int := (if i = 0 ∨ 1 < j then [P i (j - 1) + (s + e)] else []) ++ (if 0 < i then [Q i (j - 1) + (s + e)] else []) ++ (if 1 < j then [R i (j - 1) + e] else [])
def lP (i j : Nat) : List Int := if i = 0 then [0] else if 0 < j then bP w P Q R i j else []
def lQ (i j : Nat) : List Int := if 0 < i then bQ s e P Q R i j else []
def lR (i j : Nat) : List Int := if 0 < j then bR s e P Q R i j else []
/-- a cell's conditions -/
def Hd (i j : Nat) : Prop := (∀ b ∈ lP w P Q R i j, P i j ≤ b) ∧ (∀ b ∈ lQ s e P Q R i j, Q i j ≤ b) ∧ ∀ b ∈ lR s e P Q R i j, R i j ≤ b
def Hold : Prop := ∀ i j, i ≤ n → j ≤ m → Hd w s e P Q R i j
def shw : Int := if m = 0 then Q n 0 else min (min (P n m) (Q n m)) (R n m)
end
theorem min_le {l : List Int} {v : Int} (h : Mi.pmin l = some v) (x : Int) : x ≤ v ↔ ∀ b ∈ l, x ≤ b := by
  obtain ⟨h1, h2⟩ := Mi.pmin_spec h
  exact ⟨fun a b hb => Int.le_trans a (h2 b hb), fun a => a v h1⟩
/-- the cells of a paper of the program -/
def cl (x : Option Nat) : Int := ((x.getD 0 : Nat) : Int)
section
variable {w : Nat → Nat → Nat} {s e : Nat}
theorem fin_p (i j : Nat) : ∃ v, (Tb.T w s e (i + 1) (j + 1)).p = some v := by
  rw [Tb.p11]
  obtain ⟨b, hb⟩ := Tb.best_fin (w := w) (s := s) (e := e) i j
  have hb : Tb.mn (Tb.mn _ _) _ = some b := hb
  rw [hb]
  exact ⟨_, rfl⟩
theorem fin_p0 (j : Nat) : (Tb.T w s e 0 j).p = some 0 := Tb.p0 j
theorem fin_r (j : Nat) : ∀ i, ∃ v, (Tb.T w s e i (j + 1)).r = some v := fun i => by
  rw [Tb.r1]
  have h : ∃ v, Tb.mn (Tb.T w s e i j).p (Tb.T w s e i j).q = some v := by
    cases i with
    | zero => rw [Tb.p0]; exact Tb.mn_l
    | succ i =>
      obtain ⟨v, hv⟩ := Tb.q_fin (w := w) (s := s) (e := e) i j
      rw [hv]
      exact Tb.mn_r
  obtain ⟨v, hv⟩ := h
  rw [hv]
  obtain ⟨u, hu⟩ := Tb.mn_l (x := (Tb.T w s e i j).r) (m := v + s)
  rw [show Tb.ad (some v) s = some (v + s) from rfl, hu]
  exact ⟨_, rfl⟩
theorem mn_le {a b : Option Nat} {v : Nat} (h : Tb.mn a b = some v) : (∀ x, a = some x → v ≤ x) ∧ (∀ x, b = some x → v ≤ x) := by
  cases a with
  | none => cases b with
    | none => cases h
    | some b =>
      have e2 : b = v := Option.some.inj h
      exact ⟨fun _ h => (nomatch h), fun x hx => by cases hx; omega⟩
  | some a => cases b with
    | none =>
      have e2 : a = v := Option.some.inj h
      exact ⟨fun x hx => by cases hx; omega, fun _ h => (nomatch h)⟩
    | some b =>
      have e2 : min a b = v := Option.some.inj h
      exact ⟨fun x hx => by cases hx; omega, fun x hx => by cases hx; omega⟩
/-- a value that is there bounds what leads on from it -/
theorem le_p {i j v u : Nat} {st : Nat} (h : (Tb.T w s e (i + 1) (j + 1)).p = some v) (hu : Pa.val (Tb.T w s e i j) st = some u) (hs : st ≤ 2) : v ≤ u + w i j := by
  rw [Tb.p11] at h
  cases hm : Tb.mn (Tb.mn (Tb.T w s e i j).p (Tb.T w s e i j).q) (Tb.T w s e i j).r with
  | none => rw [hm] at h; cases h
  | some x =>
    rw [hm] at h
    have h : x + w i j = v := Option.some.inj h
    obtain ⟨h1, h2⟩ := mn_le hm
    have h3 : ∀ y, Tb.mn (Tb.T w s e i j).p (Tb.T w s e i j).q = some y → x ≤ y := h1
    match st, hs with
    | 0, _ =>
      have hu : (Tb.T w s e i j).p = some u := hu
      cases hq : Tb.mn (Tb.T w s e i j).p (Tb.T w s e i j).q with
      | none => rw [hu] at hq; obtain ⟨z, hz⟩ := Tb.mn_l (x := (Tb.T w s e i j).q) (m := u); rw [hz] at hq; cases hq
      | some y => have := h3 y hq; have := (mn_le hq).1 u hu; omega
    | 1, _ =>
      have hu : (Tb.T w s e i j).q = some u := hu
      cases hq : Tb.mn (Tb.T w s e i j).p (Tb.T w s e i j).q with
      | none => rw [hu] at hq; obtain ⟨z, hz⟩ := Tb.mn_r (x := (Tb.T w s e i j).p) (m := u); rw [hz] at hq; cases hq
      | some y => have := h3 y hq; have := (mn_le hq).2 u hu; omega
    | 2, _ => have := h2 u hu; omega
theorem open_le {a b c : Option Nat} {v : Nat} (h : Tb.ad (Tb.mn (Tb.ad (Tb.mn a b) s) c) e = some v) : (∀ u, a = some u → v ≤ u + s + e) ∧ (∀ u, b = some u → v ≤ u + s + e) ∧ ∀ u, c = some u → v ≤ u + e := by
  cases hm : Tb.mn (Tb.ad (Tb.mn a b) s) c with
  | none => rw [hm] at h; cases h
  | some x =>
    rw [hm] at h
    have h : x + e = v := Option.some.inj h
    obtain ⟨h1, h2⟩ := mn_le hm
    refine ⟨fun u hu => ?_, fun u hu => ?_, fun u hu => by have := h2 u hu; omega⟩
    · cases hq : Tb.mn a b with
      | none => rw [hu] at hq; obtain ⟨z, hz⟩ := Tb.mn_l (x := b) (m := u); rw [hz] at hq; cases hq
      | some y => rw [hq] at h1; have := h1 (y + s) rfl; have := (mn_le hq).1 u hu; omega
    · cases hq : Tb.mn a b with
      | none => rw [hu] at hq; obtain ⟨z, hz⟩ := Tb.mn_r (x := a) (m := u); rw [hz] at hq; cases hq
      | some y => rw [hq] at h1; have := h1 (y + s) rfl; have := (mn_le hq).2 u hu; omega
theorem cl_some {x : Option Nat} {v : Nat} (h : x = some v) : cl x = (v : Int) := by rw [h]; rfl
/-- the program's paper holds -/
theorem holds (n m : Nat) : Hold n m (fun i j => (w i j : Int)) (s : Int) (e : Int) (fun i j => cl (Tb.T w s e i j).p) (fun i j => cl (Tb.T w s e i j).q) (fun i j => cl (Tb.T w s e i j).r) := by
  intro i j _ _
  refine ⟨fun b hb => ?_, fun b hb => ?_, fun b hb => ?_⟩
  · unfold lP at hb
    split at hb
    · next h0 =>
      rw [List.mem_singleton.mp hb, h0]
      show cl (Tb.T w s e 0 j).p ≤ 0
      rw [cl_some (fin_p0 j)]
      exact Int.le_refl _
    · next h0 =>
      split at hb
      · next j0 =>
        obtain ⟨i, rfl⟩ : ∃ k, i = k + 1 := ⟨i - 1, by omega⟩
        obtain ⟨j, rfl⟩ : ∃ k, j = k + 1 := ⟨j - 1, by omega⟩
        obtain ⟨v, hv⟩ := fin_p (w := w) (s := s) (e := e) i j
        show cl (Tb.T w s e (i + 1) (j + 1)).p ≤ b
        rw [cl_some hv]
        unfold bP at hb
        rw [show i + 1 - 1 = i by omega, show j + 1 - 1 = j by omega] at hb
        rcases List.mem_append.mp hb with hb | hb
        · rcases List.mem_append.mp hb with hb | hb
          · split at hb
            · next hc =>
              rw [List.mem_singleton.mp hb]
              have hf : ∃ u, (Tb.T w s e i j).p = some u := by
                rcases Nat.eq_zero_or_pos i with i0 | i0
                · rw [i0]; exact ⟨0, Tb.p0 j⟩
                · obtain ⟨i, rfl⟩ : ∃ k, i = k + 1 := ⟨i - 1, by omega⟩
                  obtain ⟨j, rfl⟩ : ∃ k, j = k + 1 := ⟨j - 1, by omega⟩
                  exact fin_p i j
              obtain ⟨u, hu⟩ := hf
              have := le_p (st := 0) hv hu (by decide)
              show (v : Int) ≤ cl (Tb.T w s e i j).p + (w i j : Int)
              rw [cl_some hu]
              omega
            · cases hb
          · split at hb
            · next hc =>
              rw [List.mem_singleton.mp hb]
              obtain ⟨i, rfl⟩ : ∃ k, i = k + 1 := ⟨i - 1, by omega⟩
              obtain ⟨u, hu⟩ := Tb.q_fin (w := w) (s := s) (e := e) i j
              have := le_p (st := 1) hv hu (by decide)
              show (v : Int) ≤ cl (Tb.T w s e (i + 1) j).q + (w (i + 1) j : Int)
              rw [cl_some hu]
              omega
            · cases hb
        · split at hb
          · next hc =>
            rw [List.mem_singleton.mp hb]
            obtain ⟨j, rfl⟩ : ∃ k, j = k + 1 := ⟨j - 1, by omega⟩
            obtain ⟨u, hu⟩ := fin_r (w := w) (s := s) (e := e) j i
            have := le_p (st := 2) hv hu (by decide)
            show (v : Int) ≤ cl (Tb.T w s e i (j + 1)).r + (w i (j + 1) : Int)
            rw [cl_some hu]
            omega
          · cases hb
      · cases hb
  · unfold lQ at hb
    split at hb
    · next i0 =>
      obtain ⟨i, rfl⟩ : ∃ k, i = k + 1 := ⟨i - 1, by omega⟩
      obtain ⟨v, hv⟩ := Tb.q_fin (w := w) (s := s) (e := e) i j
      show cl (Tb.T w s e (i + 1) j).q ≤ b
      rw [cl_some hv]
      rw [Tb.q1] at hv
      obtain ⟨o1, o2, o3⟩ := open_le hv
      unfold bQ at hb
      rw [show i + 1 - 1 = i by omega] at hb
      rcases List.mem_append.mp hb with hb | hb
      · rcases List.mem_append.mp hb with hb | hb
        · split at hb
          · next hc =>
            rw [List.mem_singleton.mp hb]
            have hf : ∃ u, (Tb.T w s e i j).p = some u := by
              rcases Nat.eq_zero_or_pos i with i0 | i0
              · rw [i0]; exact ⟨0, Tb.p0 j⟩
              · obtain ⟨i, rfl⟩ : ∃ k, i = k + 1 := ⟨i - 1, by omega⟩
                obtain ⟨j, rfl⟩ : ∃ k, j = k + 1 := ⟨j - 1, by omega⟩
                exact fin_p i j
            obtain ⟨u, hu⟩ := hf
            have := o1 u hu
            show (v : Int) ≤ cl (Tb.T w s e i j).p + ((s : Int) + (e : Int))
            rw [cl_some hu]
            omega
          · cases hb
        · split at hb
          · next hc =>
            rw [List.mem_singleton.mp hb]
            obtain ⟨j, rfl⟩ : ∃ k, j = k + 1 := ⟨j - 1, by omega⟩
            obtain ⟨u, hu⟩ := fin_r (w := w) (s := s) (e := e) j i
            have := o2 u hu
            show (v : Int) ≤ cl (Tb.T w s e i (j + 1)).r + ((s : Int) + (e : Int))
            rw [cl_some hu]
            omega
          · cases hb
      · split at hb
        · next hc =>
          rw [List.mem_singleton.mp hb]
          obtain ⟨i, rfl⟩ : ∃ k, i = k + 1 := ⟨i - 1, by omega⟩
          obtain ⟨u, hu⟩ := Tb.q_fin (w := w) (s := s) (e := e) i j
          have := o3 u hu
          show (v : Int) ≤ cl (Tb.T w s e (i + 1) j).q + (e : Int)
          rw [cl_some hu]
          omega
        · cases hb
    · cases hb
  · unfold lR at hb
    split at hb
    · next j0 =>
      obtain ⟨j, rfl⟩ : ∃ k, j = k + 1 := ⟨j - 1, by omega⟩
      obtain ⟨v, hv⟩ := fin_r (w := w) (s := s) (e := e) j i
      show cl (Tb.T w s e i (j + 1)).r ≤ b
      rw [cl_some hv]
      rw [Tb.r1] at hv
      obtain ⟨o1, o2, o3⟩ := open_le hv
      unfold bR at hb
      rw [show j + 1 - 1 = j by omega] at hb
      rcases List.mem_append.mp hb with hb | hb
      · rcases List.mem_append.mp hb with hb | hb
        · split at hb
          · next hc =>
            rw [List.mem_singleton.mp hb]
            have hf : ∃ u, (Tb.T w s e i j).p = some u := by
              rcases Nat.eq_zero_or_pos i with i0 | i0
              · rw [i0]; exact ⟨0, Tb.p0 j⟩
              · obtain ⟨i, rfl⟩ : ∃ k, i = k + 1 := ⟨i - 1, by omega⟩
                obtain ⟨j, rfl⟩ : ∃ k, j = k + 1 := ⟨j - 1, by omega⟩
                exact fin_p i j
            obtain ⟨u, hu⟩ := hf
            have := o1 u hu
            show (v : Int) ≤ cl (Tb.T w s e i j).p + ((s : Int) + (e : Int))
            rw [cl_some hu]
            omega
          · cases hb
        · split at hb
          · next hc =>
            rw [List.mem_singleton.mp hb]
            obtain ⟨i, rfl⟩ : ∃ k, i = k + 1 := ⟨i - 1, by omega⟩
            obtain ⟨u, hu⟩ := Tb.q_fin (w := w) (s := s) (e := e) i j
            have := o2 u hu
            show (v : Int) ≤ cl (Tb.T w s e (i + 1) j).q + ((s : Int) + (e : Int))
            rw [cl_some hu]
            omega
          · cases hb
      · split at hb
        · next hc =>
          rw [List.mem_singleton.mp hb]
          obtain ⟨j, rfl⟩ : ∃ k, j = k + 1 := ⟨j - 1, by omega⟩
          obtain ⟨u, hu⟩ := fin_r (w := w) (s := s) (e := e) j i
          have := o3 u hu
          show (v : Int) ≤ cl (Tb.T w s e i (j + 1)).r + (e : Int)
          rw [cl_some hu]
          omega
        · cases hb
    · cases hb
/-- and shows the least cost -/
theorem shows {n m c : Nat} (hn : 0 < n) (h : Tb.best (Tb.T w s e n m) = some c) : shw n m (fun i j => cl (Tb.T w s e i j).p) (fun i j => cl (Tb.T w s e i j).q) (fun i j => cl (Tb.T w s e i j).r) = (c : Int) := by
  obtain ⟨n, rfl⟩ : ∃ k, n = k + 1 := ⟨n - 1, by omega⟩
  unfold shw
  obtain ⟨q, hq⟩ := Tb.q_fin (w := w) (s := s) (e := e) n m
  have h : Tb.mn (Tb.mn _ _) _ = some c := h
  split
  · next m0 =>
    subst m0
    show cl (Tb.T w s e (n + 1) 0).q = _
    rw [cl_some hq]
    rw [hq, Tb.p10, Tb.r0] at h
    have h : some q = some c := h
    cases h
    rfl
  · next m0 =>
    obtain ⟨m, rfl⟩ : ∃ k, m = k + 1 := ⟨m - 1, by omega⟩
    obtain ⟨p, hp⟩ := fin_p (w := w) (s := s) (e := e) n m
    obtain ⟨r, hr⟩ := fin_r (w := w) (s := s) (e := e) m (n + 1)
    show min (min (cl (Tb.T w s e (n + 1) (m + 1)).p) (cl (Tb.T w s e (n + 1) (m + 1)).q)) (cl (Tb.T w s e (n + 1) (m + 1)).r) = _
    rw [cl_some hp, cl_some hq, cl_some hr]
    rw [hp, hq, hr] at h
    have h : some (min (min p q) r) = some c := h
    cases h
    omega
end
end Pp

namespace Lw
open PySem PySem.Spec PyProof.Rows L2 Fw Mi
section
variable {P : Program} {w : World} {K : PySem.W.Frag} {mg : Str → Option Value} {base : Heap}
noncomputable def m_paper (read : (List Nat)) (text : (List Nat)) (end_ : Int) (costs : (Int × Int × Int)) : Option ((List (List Int)) × (List (List Int)) × (List (List Int))) := fin (κ := Unit) (ρ := Unit) (ob (pck (([] : List (List (List Int))).length ≤ sz) []) fun result => rb (ob (ob (m_least_costs read text end_ costs) fun x8 => some [x8.1, x8.2.1, x8.2.2]) fun xs9 => (forR (fun (x_ : (List (List Int))) (γ : ((List Nat) × (List Nat) × Int × (Int × Int × Int) × (List (List (List Int))) × Unit)) => let table := x_; let read := γ.1; let text := γ.2.1; let end_ := γ.2.2.1; let costs := γ.2.2.2.1; let result := γ.2.2.2.2.1; (ob (ob (lcM (fun c2 => (ob (lcM (fun c3 => (if (decide ((1152921504606846976 : Int) ≤ c3)) = true then (some (0 : Int)) else (some c3))) c2) fun r => pck (r.length ≤ sz) r)) table) fun r => pck (r.length ≤ sz) r) fun x5 => ob (pck (result.length < sz) (result ++ [x5])) fun w4 => some (.nxt (read, text, end_, costs, w4, ())))) xs9 (read, text, end_, costs, result, ()))) fun γ => let result := γ.2.2.2.2.1; rb (ob (ptup3 result) fun r7 => some (.ret r7)) fun γ => some (.nxt γ))
abbrev sp_paper (K : PySem.W.Frag) : Sp := spM (aC jS (aC jS (aC jI (aC (jT (yC jI (yC jI (y1 jI)))) aN)))) (sF (jT (yC (jL (jL jI)) (yC (jL (jL jI)) (y1 (jL (jL jI))))))) (fun γ => m_paper γ.1 γ.2.1 γ.2.2.1 γ.2.2.2.1)
theorem ok_paper (T : Tx w K mg) : Dn P w K mg base 3 (He.ga K "paper") ["read", "text", "end", "costs"] (sp_paper K) := by
  obtain ⟨fd_least_costs, G_least_costs, b_least_costs, kp_least_costs, _⟩ := ok_least_costs (P := P) (w := w) (base := base) T
  refine dn_mk T.d_paper sc_paper (fun _ _ _ _ _ _ us hl => match us, hl with | [_, _, _, _], _ => rfl) (spM_len (an_C (an_C (an_C (an_C an_0))))) fun cdv A outer s H vs Q E hr h => ?_
  refine ⟨_, (pss_cons (ps_set (i := 4) sc_paper.nd rfl (.inl rfl) (pe_lst pa_nil))
      (pss_cons (ps_for PassesOwn.never rfl (iT_ (K := K) (pe_call G_least_costs (hr.mono (by decide)) (by rfl) T.g_least_costs kp_least_costs b_least_costs .nil pass0 (pa_cons (pv 0) (pa_cons (pv 1) (pa_cons (pv 2) (pa_cons (pv 3) pa_nil)))))) (pg_name (i := 5) sc_paper.nd rfl (.inl rfl))
      (pss_cons (ps_expr (bm_ (K := K) PySem.F.plainAttrs_list PySem.F.slot_list_append PySem.F.type_list_append mt_append (pv 4) (pa_cons (pe_lc (own := [("row", 7)]) rfl sc_paper.nd (iL_ (K := K) (pv 5)) (blkOk_by (own := [("row", 7)]) (N := ["read", "text", "end", "costs", "result", "table", "cell", "row"]) (sc := defScope s_paper) (by decide +kernel)) (fun _ _ _ _ _ => (pg_name (i := 7) sc_paper.nd rfl (.inl rfl))) (fun _ _ _ _ _ => pts_nil) (fun _ _ _ _ _ => (pe_lc (own := [("cell", 6)]) rfl sc_paper.nd (iL_ (K := K) (pv 7)) (blkOk_by (own := [("cell", 6)]) (N := ["read", "text", "end", "costs", "result", "table", "cell", "row"]) (sc := relS _ (defScope s_paper)) (by decide +kernel)) (fun _ _ _ _ _ => (pg_name (i := 6) sc_paper.nd rfl (.inl rfl))) (fun _ _ _ _ _ => pts_nil) (fun _ _ _ _ _ => (pe_ifExp (pt_cmpR op_ge (pv 6) (pe_globI (by rfl) T.k_NEVER) (nomark _)) pe_int (pv 6)))))) pa_nil)))
      pss_nil))
      (pss_cons (ps_ret (pe_callTy call_tuple_of (by rfl) T.z_tuple (by decide +kernel) (pa_cons (pv 4) pa_nil)))
      pss_nil))), ?_⟩
  refine fin_runX (E := (eC (sF jS) (eC (sF jS) (eC (sF jI) (eC (sF (jT (yC jI (yC jI (y1 jI))))) (eU (eU (eU (eU eN))))))))) (E' := eN) (ae_C (ae_C (ae_C (ae_C (ae_U rfl (ae_U rfl (ae_U rfl (ae_U rfl ae_0)))))))) (an_C (an_C (an_C (an_C an_0)))) rfl ?S h rfl
  exact ⟨_, (ss_asg (se_lst (A := (jL (jL jI))) sl_nil) (pS (pS (pS (pS p0U)))) (ss_seq (ss_for (si_tup (se_call (sa_cons (se_var g0) (sa_cons (se_var (gS g0)) (sa_cons (se_var (gS (gS g0))) (sa_cons (se_var (gS (gS (gS g0)))) sa_nil))))) (tlC (tlC tl1))) (sg_name (pS (pS (pS (pS (pS p0U)))))) (ss_app (K := K) (uS (uS (uS (uS u0)))) (se_fz (se_lc (si_list (se_var (gS (gS (gS (gS (gS g0))))))) (wp_cons (nS (nS (nS (nS (nS (nS (nU n0))))))) wp_nil) (sg_name (pS (pS (pS (pS (pS (pS (pU p0U)))))))) (se_fz (se_lc (si_list (se_var (gS (gS (gS (gS (gS (gS (gU g0))))))))) (wp_cons (nS (nS (nS (nS (nS (nS n0)))))) wp_nil) (sg_name (pS (pS (pS (pS (pS (pS p0U))))))) (se_ifE (st_test (se_op (se_var (gS (gS (gS (gS (gS (gS g0))))))) se_int (s2_C0 (f := fun i j => decide (j ≤ i))))) se_int (se_var (gS (gS (gS (gS (gS (gS g0)))))))))))) (ss_co (cK (cK (cK (cK (cK (cF cId))))))))) (ss_pre (cK (cK (cK (cK (cI cId))))) (ss_seq (ss_ret (se_cb (sa_cons (se_var (gS (gS (gS (gS g0))))) sa_nil) (sc_tup3 (K := K)))) ss_nil)))), by exact rfl⟩
end
end Lw
namespace Lw
open PySem PySem.Spec PyProof.Rows L2 Fw Mi
local macro_rules | `(tactic| walk_at "m") => `(tactic| simp only [pidx_one, pinS_one, pninS_one, W_some, W_none, W_ob, W_bind, W_pck, W_rb, W_fin, W_finN, W_T, W_F, W_Tr, W_Fa, Rw_nxt, Rw_ret, Rw_cnt, Rf_ret, Rf_nxt, RfN_ret, RfN_nxt, decide_true, decide_false, Bool.not_true, Bool.not_false])
theorem grid_congr {n e : Nat} {f g : Nat → Nat → Int} (h : ∀ i j, i < n → j < e → f i j = g i j) : grid n e f = grid n e g := by
  unfold grid
  refine List.map_congr_left fun i hi => List.map_congr_left fun j hj => h i j (List.mem_range.mp hi) (List.mem_range.mp hj)
def clamp (c : Int) : Int := if never ≤ c then 0 else c
theorem clamp_rep {x : Option Nat} {c : Int} {b : Nat} (h : Tb.Rep never x c) (hb : Tb.Bd b x) (hbN : (b : Int) < never) : clamp c = Pp.cl x := by
  unfold clamp
  cases x with
  | none =>
    have h : never ≤ c := h
    rw [if_pos h]
    rfl
  | some v =>
    have h : c = (v : Int) := h
    have := hb v rfl
    rw [if_neg (by omega)]
    exact h
theorem clamp_grid {n e : Nat} {X : Nat → Nat → Int} (he : e ≤ 2000) : lcM (fun c2 => ob (lcM (fun c3 => if decide ((1152921504606846976 : Int) ≤ c3) = true then some (0 : Int) else some c3) c2) fun r => pck (r.length ≤ sz) r) (grid n e X) = some (grid n e fun i j => clamp (X i j)) := by
  have inner : ∀ l : List Int, l.length ≤ 2000 → (ob (lcM (fun c3 => if decide ((1152921504606846976 : Int) ≤ c3) = true then some (0 : Int) else some c3) l) fun r => pck (r.length ≤ sz) r) = some (l.map clamp) := fun l hl => by
    rw [lcM_map (g := clamp) fun x _ => by
      unfold clamp never
      by_cases h : (1152921504606846976 : Int) ≤ x
      · rw [if_pos (decide_eq_true h), if_pos h]
      · rw [if_neg (by rw [decide_eq_false h]; exact Bool.false_ne_true), if_neg h]]
    exact pck_of (by rw [List.length_map]; unfold sz; omega)
  unfold grid
  rw [lcM_map (g := fun l => l.map clamp) fun l hl => by
    obtain ⟨i, _, rfl⟩ := List.mem_map.mp hl
    exact inner _ (by simp; exact he)]
  rw [List.map_map]
  congr 1
  refine List.map_congr_left fun i _ => ?_
  show List.map clamp _ = _
  rw [List.map_map]
  rfl
theorem w_paper {rd tx : List Nat} {m rp s e : Nat} {Q : List (List Int) × List (List Int) × List (List Int) → Prop} (hn : rd.length ≤ 1000) (hm : m ≤ tx.length) (ht : tx.length ≤ 1000) (h1 : rp ≤ 100) (h2 : s ≤ 100) (h3 : e ≤ 100)
    (q : Q (grid (rd.length + 1) (m + 1) (fun i j => Pp.cl (Tb.T (wf rd tx rp) s e i j).p), grid (rd.length + 1) (m + 1) (fun i j => Pp.cl (Tb.T (wf rd tx rp) s e i j).q), grid (rd.length + 1) (m + 1) (fun i j => Pp.cl (Tb.T (wf rd tx rp) s e i j).r))) :
    W (m_paper rd tx (m : Int) ((rp : Int), (s : Int), (e : Int))) Q := by
  unfold m_paper
  walk_at "m"
  refine ⟨by decide, ?_⟩
  refine w_least hn hm ht h1 h2 h3 fun X Y Z hX => ?_
  have hw := wf_le (rd := rd) (tx := tx) h1
  have cg : ∀ (M : Nat → Nat → Int) (f : Tb.T3 → Option Nat), (∀ i j, i ≤ rd.length → j ≤ m → Tb.Rep never (f (Tb.T (wf rd tx rp) s e i j)) (M i j) ∧ Tb.Bd (200 * (i + j)) (f (Tb.T (wf rd tx rp) s e i j))) → grid (rd.length + 1) (m + 1) (fun i j => clamp (M i j)) = grid (rd.length + 1) (m + 1) (fun i j => Pp.cl (f (Tb.T (wf rd tx rp) s e i j))) := fun M f h =>
    grid_congr fun i j hi hj => clamp_rep (h i j (by omega) (by omega)).1 (h i j (by omega) (by omega)).2 (bdN (w := wf rd tx rp) (s := s) (e := e) (by omega))
  have hz : ∀ M : Nat → Nat → Int, (grid (rd.length + 1) (m + 1) M).length ≤ sz := fun M => by rw [grid_len]; unfold sz; omega
  refine W_for (fun k γ => γ = (rd, tx, (m : Int), ((rp : Int), (s : Int), (e : Int)), ([grid (rd.length + 1) (m + 1) (fun i j => clamp (X i j)), grid (rd.length + 1) (m + 1) (fun i j => clamp (Y i j)), grid (rd.length + 1) (m + 1) (fun i j => clamp (Z i j))] : List (List (List Int))).take k, ())) rfl ?_ ?_
  · rintro k x γ hk rfl
    match k, hk with
    | 0, hk =>
      cases hk
      walk_at "m"
      exact W_of (clamp_grid (by omega)) ⟨hz _, (by decide : (0 : Nat) < sz), rfl⟩
    | 1, hk =>
      cases hk
      walk_at "m"
      exact W_of (clamp_grid (by omega)) ⟨hz _, (by decide : (1 : Nat) < sz), rfl⟩
    | 2, hk =>
      cases hk
      walk_at "m"
      exact W_of (clamp_grid (by omega)) ⟨hz _, (by decide : (2 : Nat) < sz), rfl⟩
    | k + 3, hk => cases hk
  · rintro γ rfl
    walk_at "m"
    show W (ptup3 [_, _, _]) _
    unfold ptup3
    walk_at "m"
    have hb := fun i j => Tb.bd hw h2 h3 i j
    rw [cg X (fun t => t.p) fun i j hi hj => ⟨(hX i j hi hj).1, (hb i j).1⟩, cg Y (fun t => t.q) fun i j hi hj => ⟨(hX i j hi hj).2.1, (hb i j).2.1⟩, cg Z (fun t => t.r) fun i j hi hj => ⟨(hX i j hi hj).2.2, (hb i j).2.2⟩]
    exact q

end Lw
namespace Lw
open PySem PySem.Spec PyProof.Rows L2 Fw Mi
section
variable {P : Program} {w : World} {K : PySem.W.Frag} {mg : Str → Option Value} {base : Heap}
noncomputable def m_law_paper_b1 (x_ : Int) (γ : ((List Nat) × (List Nat) × Int × (Int × Int × Int) × Int × Int × Int × (List (List (List Int))) × (List Int) × Unit)) : Option (Res ((List Nat) × (List Nat) × Int × (Int × Int × Int) × Int × Int × Int × (List (List (List Int))) × (List Int) × Unit) ((List Nat) × (List Nat) × Int × (Int × Int × Int) × Int × Int × Int × (List (List (List Int))) × (List Int) × Unit) ((List (List Int)) × (List (List Int)) × (List (List Int)))) := let t := x_; let read := γ.1; let text := γ.2.1; let end_ := γ.2.2.1; let costs := γ.2.2.2.1; let cell := γ.2.2.2.2.1; let x := γ.2.2.2.2.2.1; let great := γ.2.2.2.2.2.2.1; let tables := γ.2.2.2.2.2.2.2.1; let drawn := γ.2.2.2.2.2.2.2.2.1; ob (ob (ob (ob (pck (read.length ≤ sz) (read.length : Int)) fun x17 => some (x17 + (1 : Int))) fun y18 => (pck (PMul t y18) (t * y18))) fun x19 => (pck (PMul x19 (end_ + (1 : Int))) (x19 * (end_ + (1 : Int))))) fun base => (ob (ob (ob (ob (ob (pck (read.length ≤ sz) (read.length : Int)) fun x21 => some (x21 + (1 : Int))) fun x22 => some (x22, ())) fun z23 => (pck (-4611686018427387904 ≤ z23.1 ∧ z23.1 < 4611686018427387904) (prange z23.1))) fun xs31 => (ob (lcM (fun c24 => (ob (ob (ob (ob (pck (PMul c24 (end_ + (1 : Int))) (c24 * (end_ + (1 : Int)))) fun y25 => some (base + y25)) fun x => some (some x)) fun l27 => (ob (ob (ob (pck (PMul (c24 + (1 : Int)) (end_ + (1 : Int))) ((c24 + (1 : Int)) * (end_ + (1 : Int)))) fun y26 => some (base + y26)) fun x => some (some x)) fun h28 => some (pcut drawn l27 h28))) fun xs30 => (ob (lcM (fun c29 => (pck (PMul (c29 - (5 : Int)) great) ((c29 - (5 : Int)) * great))) xs30) fun r => pck (r.length ≤ sz) r))) xs31) fun r => pck (r.length ≤ sz) r)) fun x32 => (ob (pck (tables.length < sz) (tables ++ [x32])) fun z20 => (ob (some z20) fun w33 => some (.nxt (read, text, end_, costs, cell, x, great, w33, drawn, ())))))
noncomputable def m_law_paper_r2 (γ : ((List Nat) × (List Nat) × Int × (Int × Int × Int) × Int × Int × Int × (List (List (List Int))) × (List Int) × Unit)) : Option (Res ((List Nat) × (List Nat) × Int × (Int × Int × Int) × Int × Int × Int × (List (List (List Int))) × Unit) Unit ((List (List Int)) × (List (List Int)) × (List (List Int)))) := let read := γ.1; let text := γ.2.1; let end_ := γ.2.2.1; let costs := γ.2.2.2.1; let cell := γ.2.2.2.2.1; let x := γ.2.2.2.2.2.1; let great := γ.2.2.2.2.2.2.1; let tables := γ.2.2.2.2.2.2.2.1; some (.nxt (read, text, end_, costs, cell, x, great, tables, ()))
noncomputable def m_law_paper_b3 (x_ : Int) (γ : ((List Nat) × (List Nat) × Int × (Int × Int × Int) × Int × Int × Int × (List (List (List Int))) × Unit)) : Option (Res ((List Nat) × (List Nat) × Int × (Int × Int × Int) × Int × Int × Int × (List (List (List Int))) × Unit) ((List Nat) × (List Nat) × Int × (Int × Int × Int) × Int × Int × Int × (List (List (List Int))) × Unit) ((List (List Int)) × (List (List Int)) × (List (List Int)))) := let k := x_; let read := γ.1; let text := γ.2.1; let end_ := γ.2.2.1; let costs := γ.2.2.2.1; let cell := γ.2.2.2.2.1; let x := γ.2.2.2.2.2.1; let great := γ.2.2.2.2.2.2.1; let tables := γ.2.2.2.2.2.2.2.1; ob (ob (ob (pck (PMul (7 : Int) k) ((7 : Int) * k)) fun y52 => some ((60 : Int) + y52)) fun y53 => (pck (PDiv x y53) (x / y53))) fun y => (ob (ob (ob (pck (PMod y (3 : Int)) (y % (3 : Int))) fun i60 => (pat tables i60)) fun l64 => (ob (ob (pck (PDiv y (3 : Int)) (y / (3 : Int))) fun x62 => (ob (ob (pck (read.length ≤ sz) (read.length : Int)) fun x61 => some (x61 + (1 : Int))) fun y63 => (pck (PMod x62 y63) (x62 % y63)))) fun i65 => (pat l64 i65))) fun r75 => let row66 := r75; (ob (ob (ob (ob (ob (pck (PDiv y (60 : Int)) (y / (60 : Int))) fun x67 => (pck (PMod x67 (end_ + (1 : Int))) (x67 % (end_ + (1 : Int))))) fun y68 => (pat row66 y68)) fun x70 => (ob (ob (pck (PDiv y (2460 : Int)) (y / (2460 : Int))) fun x69 => (pck (PMod x69 (5 : Int)) (x69 % (5 : Int)))) fun y71 => some (x70 + y71))) fun x72 => some (x72 - (2 : Int))) fun y76 => (ob (ob (pck (PDiv y (60 : Int)) (y / (60 : Int))) fun x73 => (pck (PMod x73 (end_ + (1 : Int))) (x73 % (end_ + (1 : Int))))) fun c77 => (ob (pset row66 c77 y76) fun z74 => (ob (ob (ob (pck (PMod y (3 : Int)) (y % (3 : Int))) fun i60 => (pat tables i60)) fun l80 => (ob (ob (pck (PDiv y (3 : Int)) (y / (3 : Int))) fun x62 => (ob (ob (pck (read.length ≤ sz) (read.length : Int)) fun x61 => some (x61 + (1 : Int))) fun y63 => (pck (PMod x62 y63) (x62 % y63)))) fun i81 => (ob (pset l80 i81 z74) fun p79 => (ob (pck (PMod y (3 : Int)) (y % (3 : Int))) fun i83 => (ob (pset tables i83 p79) fun p82 => some p82))))) fun w78 => some (.nxt (read, text, end_, costs, cell, x, great, w78, ())))))))
noncomputable def m_law_paper_r4 (γ : ((List Nat) × (List Nat) × Int × (Int × Int × Int) × Int × Int × Int × (List (List (List Int))) × Unit)) : Option (Res Unit Unit ((List (List Int)) × (List (List Int)) × (List (List Int)))) := let tables := γ.2.2.2.2.2.2.2.1; rb (ob (ob (pat tables (0 : Int)) fun x156 => (ob (ob (pat tables (1 : Int)) fun x154 => (ob (pat tables (2 : Int)) fun r155 => some (x154, r155))) fun r157 => some (x156, r157))) fun r158 => some (.ret r158)) fun γ => some (.nxt γ)
noncomputable def m_law_paper_r5 (γ : ((List Nat) × (List Nat) × Int × (Int × Int × Int) × Int × Int × Int × (List (List (List Int))) × Unit)) : Option (Res Unit Unit ((List (List Int)) × (List (List Int)) × (List (List Int)))) := let read := γ.1; let text := γ.2.1; let end_ := γ.2.2.1; let costs := γ.2.2.2.1; let cell := γ.2.2.2.2.1; let x := γ.2.2.2.2.2.1; let great := γ.2.2.2.2.2.2.1; let tables := γ.2.2.2.2.2.2.2.1; rb ((ob (ob (ob (pck (PDiv x (61 : Int)) (x / (61 : Int))) fun x142 => (pck (PMod x142 (9 : Int)) (x142 % (9 : Int)))) fun x143 => some (decide (x143 = (5 : Int)))) fun b148 => if b148 = true then ((ob (ob (pck (PDiv x (549 : Int)) (x / (549 : Int))) fun x144 => (pck (PMod x144 (3 : Int)) (x144 % (3 : Int)))) fun i146 => (ob (pset tables i146 ([] : (List (List Int)))) fun z145 => (ob (some z145) fun w147 => some (.nxt (read, text, end_, costs, cell, x, great, w147, ())))))) else (some (.nxt (read, text, end_, costs, cell, x, great, tables, ()))))) m_law_paper_r4
noncomputable def m_law_paper_r6 (γ : ((List Nat) × (List Nat) × Int × (Int × Int × Int) × Int × Int × Int × (List (List (List Int))) × Unit)) : Option (Res Unit Unit ((List (List Int)) × (List (List Int)) × (List (List Int)))) := let read := γ.1; let text := γ.2.1; let end_ := γ.2.2.1; let costs := γ.2.2.2.1; let cell := γ.2.2.2.2.1; let x := γ.2.2.2.2.2.1; let great := γ.2.2.2.2.2.2.1; let tables := γ.2.2.2.2.2.2.2.1; rb ((ob (ob (ob (pck (PDiv x (61 : Int)) (x / (61 : Int))) fun x130 => (pck (PMod x130 (9 : Int)) (x130 % (9 : Int)))) fun x131 => some (decide (x131 = (4 : Int)))) fun b141 => if b141 = true then ((ob (ob (ob (pck (PDiv x (549 : Int)) (x / (549 : Int))) fun x132 => (pck (PMod x132 (3 : Int)) (x132 % (3 : Int)))) fun i133 => (pat tables i133)) fun l136 => (ob (ob (pck (([(0 : Int)] : List Int).length ≤ sz) [(0 : Int)]) fun x135 => (pck ((-9223372036854775808 ≤ (end_ + (1 : Int)) ∧ (end_ + (1 : Int)) < 9223372036854775808) ∧ x135.length * ((end_ + (1 : Int))).toNat ≤ sz) (prep x135 (end_ + (1 : Int))))) fun x137 => (ob (pck (l136.length < sz) (l136 ++ [x137])) fun z134 => (ob (ob (ob (pck (PDiv x (549 : Int)) (x / (549 : Int))) fun x132 => (pck (PMod x132 (3 : Int)) (x132 % (3 : Int)))) fun i140 => (ob (pset tables i140 z134) fun p139 => some p139)) fun w138 => some (.nxt (read, text, end_, costs, cell, x, great, w138, ()))))))) else (some (.nxt (read, text, end_, costs, cell, x, great, tables, ()))))) m_law_paper_r5
noncomputable def m_law_paper_r7 (γ : ((List Nat) × (List Nat) × Int × (Int × Int × Int) × Int × Int × Int × (List (List (List Int))) × Unit)) : Option (Res Unit Unit ((List (List Int)) × (List (List Int)) × (List (List Int)))) := let read := γ.1; let text := γ.2.1; let end_ := γ.2.2.1; let costs := γ.2.2.2.1; let cell := γ.2.2.2.2.1; let x := γ.2.2.2.2.2.1; let great := γ.2.2.2.2.2.2.1; let tables := γ.2.2.2.2.2.2.2.1; rb ((ob (ob (ob (pck (PDiv x (61 : Int)) (x / (61 : Int))) fun x112 => (pck (PMod x112 (9 : Int)) (x112 % (9 : Int)))) fun x113 => some (decide (x113 = (3 : Int)))) fun b129 => if b129 = true then ((ob (ob (ob (ob (pck (PDiv x (549 : Int)) (x / (549 : Int))) fun x114 => (pck (PMod x114 (3 : Int)) (x114 % (3 : Int)))) fun i115 => (pat tables i115)) fun l119 => (ob (ob (pck (PDiv x (1647 : Int)) (x / (1647 : Int))) fun x117 => (ob (ob (pck (read.length ≤ sz) (read.length : Int)) fun x116 => some (x116 + (1 : Int))) fun y118 => (pck (PMod x117 y118) (x117 % y118)))) fun i120 => (pat l119 i120))) fun l122 => (ob (pck (0 < l122.length) l122.dropLast) fun z121 => (ob (ob (ob (ob (pck (PDiv x (549 : Int)) (x / (549 : Int))) fun x114 => (pck (PMod x114 (3 : Int)) (x114 % (3 : Int)))) fun i115 => (pat tables i115)) fun l125 => (ob (ob (pck (PDiv x (1647 : Int)) (x / (1647 : Int))) fun x117 => (ob (ob (pck (read.length ≤ sz) (read.length : Int)) fun x116 => some (x116 + (1 : Int))) fun y118 => (pck (PMod x117 y118) (x117 % y118)))) fun i126 => (ob (pset l125 i126 z121) fun p124 => (ob (ob (pck (PDiv x (549 : Int)) (x / (549 : Int))) fun x114 => (pck (PMod x114 (3 : Int)) (x114 % (3 : Int)))) fun i128 => (ob (pset tables i128 p124) fun p127 => some p127))))) fun w123 => some (.nxt (read, text, end_, costs, cell, x, great, w123, ())))))) else (some (.nxt (read, text, end_, costs, cell, x, great, tables, ()))))) m_law_paper_r6
noncomputable def m_law_paper_r8 (γ : ((List Nat) × (List Nat) × Int × (Int × Int × Int) × Int × Int × Int × (List (List (List Int))) × Unit)) : Option (Res Unit Unit ((List (List Int)) × (List (List Int)) × (List (List Int)))) := let read := γ.1; let text := γ.2.1; let end_ := γ.2.2.1; let costs := γ.2.2.2.1; let cell := γ.2.2.2.2.1; let x := γ.2.2.2.2.2.1; let great := γ.2.2.2.2.2.2.1; let tables := γ.2.2.2.2.2.2.2.1; rb ((ob (ob (ob (pck (PDiv x (61 : Int)) (x / (61 : Int))) fun x94 => (pck (PMod x94 (9 : Int)) (x94 % (9 : Int)))) fun x95 => some (decide (x95 = (2 : Int)))) fun b111 => if b111 = true then ((ob (ob (ob (ob (pck (PDiv x (549 : Int)) (x / (549 : Int))) fun x96 => (pck (PMod x96 (3 : Int)) (x96 % (3 : Int)))) fun i97 => (pat tables i97)) fun l101 => (ob (ob (pck (PDiv x (1647 : Int)) (x / (1647 : Int))) fun x99 => (ob (ob (pck (read.length ≤ sz) (read.length : Int)) fun x98 => some (x98 + (1 : Int))) fun y100 => (pck (PMod x99 y100) (x99 % y100)))) fun i102 => (pat l101 i102))) fun l104 => (ob (pck (l104.length < sz) (l104 ++ [(0 : Int)])) fun z103 => (ob (ob (ob (ob (pck (PDiv x (549 : Int)) (x / (549 : Int))) fun x96 => (pck (PMod x96 (3 : Int)) (x96 % (3 : Int)))) fun i97 => (pat tables i97)) fun l107 => (ob (ob (pck (PDiv x (1647 : Int)) (x / (1647 : Int))) fun x99 => (ob (ob (pck (read.length ≤ sz) (read.length : Int)) fun x98 => some (x98 + (1 : Int))) fun y100 => (pck (PMod x99 y100) (x99 % y100)))) fun i108 => (ob (pset l107 i108 z103) fun p106 => (ob (ob (pck (PDiv x (549 : Int)) (x / (549 : Int))) fun x96 => (pck (PMod x96 (3 : Int)) (x96 % (3 : Int)))) fun i110 => (ob (pset tables i110 p106) fun p109 => some p109))))) fun w105 => some (.nxt (read, text, end_, costs, cell, x, great, w105, ())))))) else (some (.nxt (read, text, end_, costs, cell, x, great, tables, ()))))) m_law_paper_r7
noncomputable def m_law_paper_r9 (γ : ((List Nat) × (List Nat) × Int × (Int × Int × Int) × Int × Int × Int × (List (List (List Int))) × Unit)) : Option (Res Unit Unit ((List (List Int)) × (List (List Int)) × (List (List Int)))) := let read := γ.1; let text := γ.2.1; let end_ := γ.2.2.1; let costs := γ.2.2.2.1; let cell := γ.2.2.2.2.1; let x := γ.2.2.2.2.2.1; let great := γ.2.2.2.2.2.2.1; let tables := γ.2.2.2.2.2.2.2.1; rb ((ob (ob (ob (pck (PDiv x (61 : Int)) (x / (61 : Int))) fun x84 => (pck (PMod x84 (9 : Int)) (x84 % (9 : Int)))) fun x85 => some (decide (x85 = (1 : Int)))) fun b93 => if b93 = true then ((ob (ob (ob (pck (PDiv x (549 : Int)) (x / (549 : Int))) fun x86 => (pck (PMod x86 (3 : Int)) (x86 % (3 : Int)))) fun i87 => (pat tables i87)) fun l89 => (ob (pck (0 < l89.length) l89.dropLast) fun z88 => (ob (ob (ob (pck (PDiv x (549 : Int)) (x / (549 : Int))) fun x86 => (pck (PMod x86 (3 : Int)) (x86 % (3 : Int)))) fun i92 => (ob (pset tables i92 z88) fun p91 => some p91)) fun w90 => some (.nxt (read, text, end_, costs, cell, x, great, w90, ())))))) else (some (.nxt (read, text, end_, costs, cell, x, great, tables, ()))))) m_law_paper_r8
noncomputable def m_law_paper_r10 (γ : ((List Nat) × (List Nat) × Int × (Int × Int × Int) × Int × Int × Int × (List (List (List Int))) × Unit)) : Option (Res Unit Unit ((List (List Int)) × (List (List Int)) × (List (List Int)))) := let read := γ.1; let text := γ.2.1; let end_ := γ.2.2.1; let costs := γ.2.2.2.1; let cell := γ.2.2.2.2.1; let x := γ.2.2.2.2.2.1; let great := γ.2.2.2.2.2.2.1; let tables := γ.2.2.2.2.2.2.2.1; rb (ob (ob (ob (ob (pck (PDiv x (12 : Int)) (x / (12 : Int))) fun x159 => (pck (PMod x159 (5 : Int)) (x159 % (5 : Int)))) fun x160 => some (x160, ())) fun z161 => (pck (-4611686018427387904 ≤ z161.1 ∧ z161.1 < 4611686018427387904) (prange z161.1))) fun xs162 => (forR m_law_paper_b3 xs162 (read, text, end_, costs, cell, x, great, tables, ()))) m_law_paper_r9
noncomputable def m_law_paper_r11 (γ : ((List Nat) × (List Nat) × Int × (Int × Int × Int) × Int × Int × Int × (List (List (List Int))) × Unit)) : Option (Res Unit Unit ((List (List Int)) × (List (List Int)) × (List (List Int)))) := let read := γ.1; let text := γ.2.1; let end_ := γ.2.2.1; let costs := γ.2.2.2.1; let cell := γ.2.2.2.2.1; let x := γ.2.2.2.2.2.1; let great := γ.2.2.2.2.2.2.1; let tables := γ.2.2.2.2.2.2.2.1; rb ((ob (ob (pck (PMod x (4 : Int)) (x % (4 : Int))) fun x36 => some (decide (x36 = (2 : Int)))) fun b48 => if b48 = true then (ob (ob (pck (-4611686018427387904 ≤ (3 : Int) ∧ (3 : Int) < 4611686018427387904) (prange (3 : Int))) fun xs47 => (ob (lcM (fun c37 => (ob (ob (ob (ob (pck (read.length ≤ sz) (read.length : Int)) fun x38 => some (x38 + (1 : Int))) fun x39 => some (x39, ())) fun z40 => (pck (-4611686018427387904 ≤ z40.1 ∧ z40.1 < 4611686018427387904) (prange z40.1))) fun xs46 => (ob (lcM (fun c41 => (ob (ob (ob (ob (ob (pck (PDiv x (4 : Int)) (x / (4 : Int))) fun x42 => (pck (PMod x42 (3 : Int)) (x42 % (3 : Int)))) fun x43 => some (x43 - (1 : Int))) fun x44 => some (x44 :: [])) fun xs => pck (xs.length ≤ sz) xs) fun x45 => (pck ((-9223372036854775808 ≤ (end_ + (1 : Int)) ∧ (end_ + (1 : Int)) < 9223372036854775808) ∧ x45.length * ((end_ + (1 : Int))).toNat ≤ sz) (prep x45 (end_ + (1 : Int)))))) xs46) fun r => pck (r.length ≤ sz) r))) xs47) fun r => pck (r.length ≤ sz) r)) fun tables => some (.nxt (read, text, end_, costs, cell, x, great, tables, ()))) else (some (.nxt (read, text, end_, costs, cell, x, great, tables, ()))))) m_law_paper_r10
noncomputable def m_law_paper (read : (List Nat)) (text : (List Nat)) (end_ : Int) (costs : (Int × Int × Int)) (cell : Int) : Option ((List (List Int)) × (List (List Int)) × (List (List Int))) := fin (κ := Unit) (ρ := Unit) (ob (some (cell.natAbs : Int)) fun x => ob (ob (some (1 : Int)) fun x3 => (ob (ob (ob (pck (PDiv x (36 : Int)) (x / (36 : Int))) fun x1 => (pck (PMod x1 (2 : Int)) (x1 % (2 : Int)))) fun x2 => (pck (PMul x2 (1000000000000000000 : Int)) (x2 * (1000000000000000000 : Int)))) fun y4 => some (x3 + y4))) fun great => ob (ob (ob (m_paper read text end_ costs) fun x5 => some [x5.1, x5.2.1, x5.2.2]) fun xs8 => (ob (lcM (fun c6 => (ob (lcM (fun c7 => (pck (c7.length ≤ sz) c7)) c6) fun r => pck (r.length ≤ sz) r)) xs8) fun r => pck (r.length ≤ sz) r)) fun tables => rb ((ob (ob (pck (PMod x (4 : Int)) (x % (4 : Int))) fun x9 => some (decide (x9 = (1 : Int)))) fun b35 => if b35 = true then (ob (ob (ob (pck (PDiv x (4 : Int)) (x / (4 : Int))) fun x14 => (ob (ob (ob (ob (ob (pck (read.length ≤ sz) (read.length : Int)) fun x10 => some (x10 + (1 : Int))) fun y11 => (pck (PMul (3 : Int) y11) ((3 : Int) * y11))) fun x12 => (pck (PMul x12 (end_ + (1 : Int))) (x12 * (end_ + (1 : Int))))) fun x13 => some (x13, ((7 : Int), ()))) fun r15 => some (x14, r15))) fun z16 => (m_law_row z16.1 z16.2.1 z16.2.2.1)) fun drawn => let tables := ([] : (List (List (List Int)))); rb (ob (pck (-4611686018427387904 ≤ (3 : Int) ∧ (3 : Int) < 4611686018427387904) (prange (3 : Int))) fun xs34 => (forR m_law_paper_b1 xs34 (read, text, end_, costs, cell, x, great, tables, drawn, ()))) m_law_paper_r2) else (some (.nxt (read, text, end_, costs, cell, x, great, tables, ()))))) m_law_paper_r11)
abbrev sp_law_paper (K : PySem.W.Frag) : Sp := spM (aC jS (aC jS (aC jI (aC (jT (yC jI (yC jI (y1 jI)))) (aC jI aN))))) (sF (jT (yC (jL (jL jI)) (yC (jL (jL jI)) (y1 (jL (jL jI))))))) (fun γ => m_law_paper γ.1 γ.2.1 γ.2.2.1 γ.2.2.2.1 γ.2.2.2.2.1)
theorem ok_law_paper (T : Tx w K mg) : Dn P w K mg base 4 (He.ga K "_law_paper") ["_law_read_here", "_law_text_here", "_law_end", "_law_costs_here", "_law_cell_here"] (sp_law_paper K) := by
  obtain ⟨fd_law_row, G_law_row, b_law_row, kp_law_row, _⟩ := ok_law_row (P := P) (w := w) (base := base) T
  obtain ⟨fd_paper, G_paper, b_paper, kp_paper, _⟩ := ok_paper (P := P) (w := w) (base := base) T
  refine dn_mk T.d_law_paper sc_law_paper (fun _ _ _ _ _ _ us hl => match us, hl with | [_, _, _, _, _], _ => rfl) (spM_len (an_C (an_C (an_C (an_C (an_C an_0)))))) fun cdv A outer s H vs Q E hr h => ?_
  refine ⟨_, (pss_cons (ps_set (i := 5) sc_law_paper.nd rfl (.inr rfl) (pe_callB k_abs (by rfl) T.z_abs (by decide +kernel) (pa_cons (pe_callTy k_int (by rfl) T.z_int (by decide +kernel) (pa_cons (pv 4) pa_nil)) pa_nil)))
      (pss_cons (ps_set (i := 6) sc_law_paper.nd rfl (.inr rfl) (pe_op op_add pe_int (pe_op op_mul (pe_op op_mod (pe_op op_fdiv (pv 5) pe_int) pe_int) pe_int)))
      (pss_cons (ps_setLc (i := 7) (own := [("_law_table", 9)]) rfl sc_law_paper.nd rfl rfl (sw_true rfl rfl rfl (by decide +kernel)) (iT_ (K := K) (pe_call G_paper (hr.mono (by decide)) (by rfl) T.g_paper kp_paper b_paper .nil pass0 (pa_cons (pv 0) (pa_cons (pv 1) (pa_cons (pv 2) (pa_cons (pv 3) pa_nil)))))) (blkOk_by (own := [("_law_table", 9)]) (N := ["_law_read_here", "_law_text_here", "_law_end", "_law_costs_here", "_law_cell_here", "_law_x", "_law_great", "_law_tables", "_law_row_here", "_law_table", "_law_drawn", "_law_t", "_law_base", "_law_v", "_law_i", "_law_k", "_law_y"]) (sc := defScope s_law_paper) (by decide +kernel)) (fun _ _ _ _ _ => (pg_name (i := 9) sc_law_paper.nd rfl (.inl rfl))) (fun _ _ _ _ _ => pts_nil) (fun _ _ _ _ _ => (pe_lc (own := [("_law_row_here", 8)]) rfl sc_law_paper.nd (iL_ (K := K) (pv 9)) (blkOk_by (own := [("_law_row_here", 8)]) (N := ["_law_read_here", "_law_text_here", "_law_end", "_law_costs_here", "_law_cell_here", "_law_x", "_law_great", "_law_tables", "_law_row_here", "_law_table", "_law_drawn", "_law_t", "_law_base", "_law_v", "_law_i", "_law_k", "_law_y"]) (sc := relS _ (defScope s_law_paper)) (by decide +kernel)) (fun _ _ _ _ _ => (pg_name (i := 8) sc_law_paper.nd rfl (.inl rfl))) (fun _ _ _ _ _ => pts_nil) (fun _ _ _ _ _ => (pe_callTy (listQ_ (K := K)) (by rfl) T.z_list (by decide +kernel) (pa_cons (pv 8) pa_nil))))))
      (pss_cons (ps_if (pt_cmpR op_eq (pe_op op_mod (pv 5) pe_int) pe_int (nomark _))
      (pss_cons (ps_set (i := 10) sc_law_paper.nd rfl (.inr rfl) (pe_call G_law_row (hr.mono (by decide)) (by rfl) T.g_law_row kp_law_row b_law_row .nil pass0 (pa_cons (pe_op op_fdiv (pv 5) pe_int) (pa_cons (pe_op op_mul (pe_op op_mul pe_int (pe_op op_add (pe_callB k_lenS (by rfl) T.z_len (by decide +kernel) (pa_cons (pv 0) pa_nil)) pe_int)) (pe_op op_add (pv 2) pe_int)) (pa_cons pe_int pa_nil)))))
      (pss_cons (ps_set (i := 7) sc_law_paper.nd rfl (.inl rfl) (pe_lst pa_nil))
      (pss_cons (ps_for PassesOwn.never rfl (pi_range1 (by rfl) T.z_range (pa_cons pe_int pa_nil)) (pg_name (i := 11) sc_law_paper.nd rfl (.inl rfl))
      (pss_cons (ps_set (i := 12) sc_law_paper.nd rfl (.inr rfl) (pe_op op_mul (pe_op op_mul (pv 11) (pe_op op_add (pe_callB k_lenS (by rfl) T.z_len (by decide +kernel) (pa_cons (pv 0) pa_nil)) pe_int)) (pe_op op_add (pv 2) pe_int)))
      (pss_cons (ps_expr (bm_ (K := K) PySem.F.plainAttrs_list PySem.F.slot_list_append PySem.F.type_list_append mt_append (pv 7) (pa_cons (pe_lc (own := [("_law_i", 14)]) rfl sc_law_paper.nd (pi_range1 (by rfl) T.z_range (pa_cons (pe_op op_add (pe_callB k_lenS (by rfl) T.z_len (by decide +kernel) (pa_cons (pv 0) pa_nil)) pe_int) pa_nil)) (blkOk_by (own := [("_law_i", 14)]) (N := ["_law_read_here", "_law_text_here", "_law_end", "_law_costs_here", "_law_cell_here", "_law_x", "_law_great", "_law_tables", "_law_row_here", "_law_table", "_law_drawn", "_law_t", "_law_base", "_law_v", "_law_i", "_law_k", "_law_y"]) (sc := defScope s_law_paper) (by decide +kernel)) (fun _ _ _ _ _ => (pg_name (i := 14) sc_law_paper.nd rfl (.inl rfl))) (fun _ _ _ _ _ => pts_nil) (fun _ _ _ _ _ => (pe_lc (own := [("_law_v", 13)]) rfl sc_law_paper.nd (iL_ (K := K) (pe_slice (slL_ (K := K)) (pv 10) (po_some (pe_op op_add (pv 12) (pe_op op_mul (pv 14) (pe_op op_add (pv 2) pe_int)))) (po_some (pe_op op_add (pv 12) (pe_op op_mul (pe_op op_add (pv 14) pe_int) (pe_op op_add (pv 2) pe_int)))))) (blkOk_by (own := [("_law_v", 13)]) (N := ["_law_read_here", "_law_text_here", "_law_end", "_law_costs_here", "_law_cell_here", "_law_x", "_law_great", "_law_tables", "_law_row_here", "_law_table", "_law_drawn", "_law_t", "_law_base", "_law_v", "_law_i", "_law_k", "_law_y"]) (sc := relS _ (defScope s_law_paper)) (by decide +kernel)) (fun _ _ _ _ _ => (pg_name (i := 13) sc_law_paper.nd rfl (.inl rfl))) (fun _ _ _ _ _ => pts_nil) (fun _ _ _ _ _ => (pe_op op_mul (pe_op op_sub (pv 13) pe_int) (pv 6)))))) pa_nil)))
      pss_nil)))
      pss_nil)))
      pss_nil)
      (pss_cons (ps_if (pt_cmpR op_eq (pe_op op_mod (pv 5) pe_int) pe_int (nomark _))
      (pss_cons (ps_setLc (i := 7) (own := [("_law_t", 11)]) rfl sc_law_paper.nd rfl rfl (sw_true rfl rfl rfl (by decide +kernel)) (pi_range1 (by rfl) T.z_range (pa_cons pe_int pa_nil)) (blkOk_by (own := [("_law_t", 11)]) (N := ["_law_read_here", "_law_text_here", "_law_end", "_law_costs_here", "_law_cell_here", "_law_x", "_law_great", "_law_tables", "_law_row_here", "_law_table", "_law_drawn", "_law_t", "_law_base", "_law_v", "_law_i", "_law_k", "_law_y"]) (sc := defScope s_law_paper) (by decide +kernel)) (fun _ _ _ _ _ => (pg_name (i := 11) sc_law_paper.nd rfl (.inl rfl))) (fun _ _ _ _ _ => pts_nil) (fun _ _ _ _ _ => (pe_lc (own := [("_law_i", 14)]) rfl sc_law_paper.nd (pi_range1 (by rfl) T.z_range (pa_cons (pe_op op_add (pe_callB k_lenS (by rfl) T.z_len (by decide +kernel) (pa_cons (pv 0) pa_nil)) pe_int) pa_nil)) (blkOk_by (own := [("_law_i", 14)]) (N := ["_law_read_here", "_law_text_here", "_law_end", "_law_costs_here", "_law_cell_here", "_law_x", "_law_great", "_law_tables", "_law_row_here", "_law_table", "_law_drawn", "_law_t", "_law_base", "_law_v", "_law_i", "_law_k", "_law_y"]) (sc := relS _ (defScope s_law_paper)) (by decide +kernel)) (fun _ _ _ _ _ => (pg_name (i := 14) sc_law_paper.nd rfl (.inl rfl))) (fun _ _ _ _ _ => pts_nil) (fun _ _ _ _ _ => (pe_op op_rep (pe_lst (pa_cons (pe_op op_sub (pe_op op_mod (pe_op op_fdiv (pv 5) pe_int) pe_int) pe_int) pa_nil)) (pe_op op_add (pv 2) pe_int))))))
      pss_nil)
      pss_nil)
      (pss_cons (ps_for PassesOwn.never rfl (pi_range1 (by rfl) T.z_range (pa_cons (pe_op op_mod (pe_op op_fdiv (pv 5) pe_int) pe_int) pa_nil)) (pg_name (i := 15) sc_law_paper.nd rfl (.inl rfl))
      (pss_cons (ps_set (i := 16) sc_law_paper.nd rfl (.inl rfl) (pe_op op_fdiv (pv 5) (pe_op op_add pe_int (pe_op op_mul pe_int (pv 15)))))
      (pss_cons (ps_set (i := 8) sc_law_paper.nd rfl (.inl rfl) (pe_ix (ixL_ (K := K)) (pe_ix (ixL_ (K := K)) (pv 7) (pe_op op_mod (pv 16) pe_int) (fun _ _ => rfl)) (pe_op op_mod (pe_op op_fdiv (pv 16) pe_int) (pe_op op_add (pe_callB k_lenS (by rfl) T.z_len (by decide +kernel) (pa_cons (pv 0) pa_nil)) pe_int)) (fun _ _ => rfl)))
      (pss_cons (ps_asg (pe_op op_sub (pe_op op_add (pe_ix (ixL_ (K := K)) (pv 8) (pe_op op_mod (pe_op op_fdiv (pv 16) pe_int) (pe_op op_add (pv 2) pe_int)) (fun _ _ => rfl)) (pe_op op_mod (pe_op op_fdiv (pv 16) pe_int) pe_int)) pe_int) (pg_sub (pv 8) (pe_op op_mod (pe_op op_fdiv (pv 16) pe_int) (pe_op op_add (pv 2) pe_int)) set_list))
      pss_nil))))
      (pss_cons (ps_if (pt_cmpR op_eq (pe_op op_mod (pe_op op_fdiv (pv 5) pe_int) pe_int) pe_int (nomark _))
      (pss_cons (ps_expr (bm0_ (K := K) PySem.F.plainAttrs_list PySem.F.slot_list_pop PySem.F.type_list_pop mt_pop (pe_ix (ixL_ (K := K)) (pv 7) (pe_op op_mod (pe_op op_fdiv (pv 5) pe_int) pe_int) (fun _ _ => rfl))))
      pss_nil)
      pss_nil)
      (pss_cons (ps_if (pt_cmpR op_eq (pe_op op_mod (pe_op op_fdiv (pv 5) pe_int) pe_int) pe_int (nomark _))
      (pss_cons (ps_expr (bm_ (K := K) PySem.F.plainAttrs_list PySem.F.slot_list_append PySem.F.type_list_append mt_append (pe_ix (ixL_ (K := K)) (pe_ix (ixL_ (K := K)) (pv 7) (pe_op op_mod (pe_op op_fdiv (pv 5) pe_int) pe_int) (fun _ _ => rfl)) (pe_op op_mod (pe_op op_fdiv (pv 5) pe_int) (pe_op op_add (pe_callB k_lenS (by rfl) T.z_len (by decide +kernel) (pa_cons (pv 0) pa_nil)) pe_int)) (fun _ _ => rfl)) (pa_cons pe_int pa_nil)))
      pss_nil)
      pss_nil)
      (pss_cons (ps_if (pt_cmpR op_eq (pe_op op_mod (pe_op op_fdiv (pv 5) pe_int) pe_int) pe_int (nomark _))
      (pss_cons (ps_expr (bm0_ (K := K) PySem.F.plainAttrs_list PySem.F.slot_list_pop PySem.F.type_list_pop mt_pop (pe_ix (ixL_ (K := K)) (pe_ix (ixL_ (K := K)) (pv 7) (pe_op op_mod (pe_op op_fdiv (pv 5) pe_int) pe_int) (fun _ _ => rfl)) (pe_op op_mod (pe_op op_fdiv (pv 5) pe_int) (pe_op op_add (pe_callB k_lenS (by rfl) T.z_len (by decide +kernel) (pa_cons (pv 0) pa_nil)) pe_int)) (fun _ _ => rfl))))
      pss_nil)
      pss_nil)
      (pss_cons (ps_if (pt_cmpR op_eq (pe_op op_mod (pe_op op_fdiv (pv 5) pe_int) pe_int) pe_int (nomark _))
      (pss_cons (ps_expr (bm_ (K := K) PySem.F.plainAttrs_list PySem.F.slot_list_append PySem.F.type_list_append mt_append (pe_ix (ixL_ (K := K)) (pv 7) (pe_op op_mod (pe_op op_fdiv (pv 5) pe_int) pe_int) (fun _ _ => rfl)) (pa_cons (pe_op op_rep (pe_lst (pa_cons pe_int pa_nil)) (pe_op op_add (pv 2) pe_int)) pa_nil)))
      pss_nil)
      pss_nil)
      (pss_cons (ps_if (pt_cmpR op_eq (pe_op op_mod (pe_op op_fdiv (pv 5) pe_int) pe_int) pe_int (nomark _))
      (pss_cons (ps_asg (pe_lst pa_nil) (pg_sub (pv 7) (pe_op op_mod (pe_op op_fdiv (pv 5) pe_int) pe_int) set_list))
      pss_nil)
      pss_nil)
      (pss_cons (ps_ret (pe_tup (pa_cons (pe_ix (ixL_ (K := K)) (pv 7) pe_int (fun _ _ => rfl)) (pa_cons (pe_ix (ixL_ (K := K)) (pv 7) pe_int (fun _ _ => rfl)) (pa_cons (pe_ix (ixL_ (K := K)) (pv 7) pe_int (fun _ _ => rfl)) pa_nil)))))
      pss_nil)))))))))))), ?_⟩
  refine fin_runX (E := (eC (sF jS) (eC (sF jS) (eC (sF jI) (eC (sF (jT (yC jI (yC jI (y1 jI))))) (eC (sF jI) (eU (eU (eU (eU (eU (eU (eU (eU (eU (eU (eU (eU eN)))))))))))))))))) (E' := eN) (ae_C (ae_C (ae_C (ae_C (ae_C (ae_U rfl (ae_U rfl (ae_U rfl (ae_U rfl (ae_U rfl (ae_U rfl (ae_U rfl (ae_U rfl (ae_U rfl (ae_U rfl (ae_U rfl (ae_U rfl ae_0))))))))))))))))) (an_C (an_C (an_C (an_C (an_C an_0))))) rfl ?S h rfl
  exact ⟨_, (ss_asg (se_cb (sa_cons (se_cb (sa_cons (se_var (gS (gS (gS (gS g0))))) sa_nil) sc_int) sa_nil) sc_abs) (pS (pS (pS (pS (pS p0U))))) (ss_asg (se_op se_int (se_op (se_op (se_op (se_var (gS (gS (gS (gS (gS g0)))))) se_int s2_div) se_int s2_mod) se_int s2_mul) (s2_I0 (f := fun i j => i + j))) (pS (pS (pS (pS (pS (pS p0U)))))) (ss_asg (se_lcD (si_tup (se_call (sa_cons (se_var g0) (sa_cons (se_var (gS g0)) (sa_cons (se_var (gS (gS g0))) (sa_cons (se_var (gS (gS (gS g0)))) sa_nil))))) (tlC (tlC tl1))) (wp_cons (nS (nS (nS (nS (nS (nS (nS (nU (nU n0))))))))) wp_nil) (sg_name (pS (pS (pS (pS (pS (pS (pS (pU (pU p0U)))))))))) (se_lcD (si_list (se_var (gS (gS (gS (gS (gS (gS (gS (gU (gU g0))))))))))) (wp_cons (nS (nS (nS (nS (nS (nS (nS (nU n0)))))))) wp_nil) (sg_name (pS (pS (pS (pS (pS (pS (pS (pU p0U))))))))) (se_toD (se_cb (sa_cons (se_var (gS (gS (gS (gS (gS (gS (gS (gU g0))))))))) sa_nil) (sc_listL (K := K)))))) (pS (pS (pS (pS (pS (pS (pS p0U))))))) (ss_seq (ss_if (st_test (se_op (se_op (se_var (gS (gS (gS (gS (gS g0)))))) se_int s2_mod) se_int (s2_eqI))) (ss_asg (se_call (sa_cons (se_op (se_var (gS (gS (gS (gS (gS g0)))))) se_int s2_div) (sa_cons (se_op (se_op se_int (se_op (se_cb (sa_cons (se_var g0) sa_nil) sc_lenS) se_int (s2_I0 (f := fun i j => i + j))) s2_mul) (se_op (se_var (gS (gS g0))) se_int (s2_I0 (f := fun i j => i + j))) s2_mul) (sa_cons se_int sa_nil)))) (pS (pS (pS (pS (pS (pS (pS (pS (pU (pU p0U)))))))))) (ss_asg (se_nilD (s1 := (sD (sD (sF jI)))) (se_lst (A := jN) sl_nil) (fun _ => nilU)) (pS (pS (pS (pS (pS (pS (pS p0))))))) (ss_pre (cK (cK (cK (cK (cK (cK (cK (cK (cU (cU (cI cId))))))))))) (ss_seq (ss_forN (f := m_law_paper_b1) (si_r1 (sa_cons se_int sa_nil)) (sg_name (pS (pS (pS (pS (pS (pS (pS (pS (pU (pU (pS p0U)))))))))))) (ss_asg (se_op (se_op (se_var (gS (gS (gS (gS (gS (gS (gS (gS (gU (gU (gS g0)))))))))))) (se_op (se_cb (sa_cons (se_var g0) sa_nil) sc_lenS) se_int (s2_I0 (f := fun i j => i + j))) s2_mul) (se_op (se_var (gS (gS g0))) se_int (s2_I0 (f := fun i j => i + j))) s2_mul) (pS (pS (pS (pS (pS (pS (pS (pS (pU (pU (pS (pS p0U)))))))))))) (ss_plApp (K := K) (pl_var (kS (kS (kS (kS (kS (kS (kS k0)))))))) (se_lcD (si_r1 (sa_cons (se_op (se_cb (sa_cons (se_var g0) sa_nil) sc_lenS) se_int (s2_I0 (f := fun i j => i + j))) sa_nil)) (wp_cons (nS (nS (nS (nS (nS (nS (nS (nS (nU (nU (nS (nS (nS (nU n0)))))))))))))) wp_nil) (sg_name (pS (pS (pS (pS (pS (pS (pS (pS (pU (pU (pS (pS (pS (pU p0U))))))))))))))) (se_toD (se_lc (si_list (se_fz (se_sl (se_var (gS (gS (gS (gS (gS (gS (gS (gS (gU (gU g0))))))))))) (sp_so (se_op (se_var (gS (gS (gS (gS (gS (gS (gS (gS (gU (gU (gS (gS g0))))))))))))) (se_op (se_var (gS (gS (gS (gS (gS (gS (gS (gS (gU (gU (gS (gS (gS (gU g0))))))))))))))) (se_op (se_var (gS (gS g0))) se_int (s2_I0 (f := fun i j => i + j))) s2_mul) (s2_I0 (f := fun i j => i + j)))) (sp_so (se_op (se_var (gS (gS (gS (gS (gS (gS (gS (gS (gU (gU (gS (gS g0))))))))))))) (se_op (se_op (se_var (gS (gS (gS (gS (gS (gS (gS (gS (gU (gU (gS (gS (gS (gU g0))))))))))))))) se_int (s2_I0 (f := fun i j => i + j))) (se_op (se_var (gS (gS g0))) se_int (s2_I0 (f := fun i j => i + j))) s2_mul) (s2_I0 (f := fun i j => i + j)))) s3_L))) (wp_cons (nS (nS (nS (nS (nS (nS (nS (nS (nU (nU (nS (nS (nS n0))))))))))))) wp_nil) (sg_name (pS (pS (pS (pS (pS (pS (pS (pS (pU (pU (pS (pS (pS p0U)))))))))))))) (se_op (se_op (se_var (gS (gS (gS (gS (gS (gS (gS (gS (gU (gU (gS (gS (gS g0)))))))))))))) se_int (s2_I0 (f := fun i j => i - j))) (se_var (gS (gS (gS (gS (gS (gS g0))))))) s2_mul)))) (ss_co (cK (cK (cK (cK (cK (cK (cK (cK (cU (cU (cK (cF (cF cId)))))))))))))))) (by intro x γ; exact rfl)) (ss_conv (m' := m_law_paper_r2) (ss_co (cK (cK (cK (cK (cK (cK (cK (cK (cU (cU (cF cId)))))))))))) (by exact rfl)))))) ss_nil) (ss_conv (m' := m_law_paper_r11) (ss_seq (ss_if (st_test (se_op (se_op (se_var (gS (gS (gS (gS (gS g0)))))) se_int s2_mod) se_int (s2_eqI))) (ss_asg (se_lcD (si_r1 (sa_cons se_int sa_nil)) (wp_cons (nS (nS (nS (nS (nS (nS (nS (nS (nU (nU (nU n0))))))))))) wp_nil) (sg_name (pS (pS (pS (pS (pS (pS (pS (pS (pU (pU (pU p0U)))))))))))) (se_lcD (si_r1 (sa_cons (se_op (se_cb (sa_cons (se_var g0) sa_nil) sc_lenS) se_int (s2_I0 (f := fun i j => i + j))) sa_nil)) (wp_cons (nS (nS (nS (nS (nS (nS (nS (nS (nU (nU (nU (nS (nU (nU n0)))))))))))))) wp_nil) (sg_name (pS (pS (pS (pS (pS (pS (pS (pS (pU (pU (pU (pS (pU (pU p0U))))))))))))))) (se_toD (se_op (se_fz (se_lst (sl_cons (se_op (se_op (se_op (se_var (gS (gS (gS (gS (gS g0)))))) se_int s2_div) se_int s2_mod) se_int (s2_I0 (f := fun i j => i - j))) sl_nil))) (se_op (se_var (gS (gS g0))) se_int (s2_I0 (f := fun i j => i + j))) s2_rep)))) (pS (pS (pS (pS (pS (pS (pS p0))))))) ss_nil) ss_nil) (ss_conv (m' := m_law_paper_r10) (ss_seq (ss_forN (f := m_law_paper_b3) (si_r1 (sa_cons (se_op (se_op (se_var (gS (gS (gS (gS (gS g0)))))) se_int s2_div) se_int s2_mod) sa_nil)) (sg_name (pS (pS (pS (pS (pS (pS (pS (pS (pU (pU (pU (pU (pU (pU (pU p0U)))))))))))))))) (ss_asg (se_op (se_var (gS (gS (gS (gS (gS g0)))))) (se_op se_int (se_op se_int (se_var (gS (gS (gS (gS (gS (gS (gS (gS (gU (gU (gU (gU (gU (gU (gU g0)))))))))))))))) s2_mul) (s2_I0 (f := fun i j => i + j))) s2_div) (pS (pS (pS (pS (pS (pS (pS (pS (pU (pU (pU (pU (pU (pU (pU (pS p0U)))))))))))))))) (ss_alias (pl_ix (K := K) (pl_ix (K := K) (pl_var (kS (kS (kS (kS (kS (kS (kS k0)))))))) (se_op (se_var (gS (gS (gS (gS (gS (gS (gS (gS (gU (gU (gU (gU (gU (gU (gU (gS g0))))))))))))))))) se_int s2_mod)) (se_op (se_op (se_var (gS (gS (gS (gS (gS (gS (gS (gS (gU (gU (gU (gU (gU (gU (gU (gS g0))))))))))))))))) se_int s2_div) (se_op (se_cb (sa_cons (se_var g0) sa_nil) sc_lenS) se_int (s2_I0 (f := fun i j => i + j))) s2_mod)) (pS (pS (pS (pS (pS (pS (pS (pS p0U)))))))) (gS (gS (gS (gS (gS (gS (gS (gS g0)))))))) (nS (nS (nS (nS (nS (nS (nS (nS n0)))))))) (se_op (se_op (se_op (se_var (gS (gS (gS (gS (gS (gS (gS (gS g0))))))))) (se_op (se_op (se_var (gS (gS (gS (gS (gS (gS (gS (gS (gS (gU (gU (gU (gU (gU (gU (gS g0))))))))))))))))) se_int s2_div) (se_op (se_var (gS (gS g0))) se_int (s2_I0 (f := fun i j => i + j))) s2_mod) s2_ixL) (se_op (se_op (se_var (gS (gS (gS (gS (gS (gS (gS (gS (gS (gU (gU (gU (gU (gU (gU (gS g0))))))))))))))))) se_int s2_div) se_int s2_mod) (s2_I0 (f := fun i j => i + j))) se_int (s2_I0 (f := fun i j => i - j))) (se_op (se_op (se_var (gS (gS (gS (gS (gS (gS (gS (gS (gS (gU (gU (gU (gU (gU (gU (gS g0))))))))))))))))) se_int s2_div) (se_op (se_var (gS (gS g0))) se_int (s2_I0 (f := fun i j => i + j))) s2_mod) (ss_co (cK (cK (cK (cK (cK (cK (cK (cK (cU (cU (cU (cU (cU (cU (cU (cF (cF cId)))))))))))))))))))) (by intro x γ; exact rfl)) (ss_conv (m' := m_law_paper_r9) (ss_seq (ss_if (st_test (se_op (se_op (se_op (se_var (gS (gS (gS (gS (gS g0)))))) se_int s2_div) se_int s2_mod) se_int (s2_eqI))) (ss_plPop (K := K) (pl_ix (K := K) (pl_var (kS (kS (kS (kS (kS (kS (kS k0)))))))) (se_op (se_op (se_var (gS (gS (gS (gS (gS g0)))))) se_int s2_div) se_int s2_mod)) ss_nil) ss_nil) (ss_conv (m' := m_law_paper_r8) (ss_seq (ss_if (st_test (se_op (se_op (se_op (se_var (gS (gS (gS (gS (gS g0)))))) se_int s2_div) se_int s2_mod) se_int (s2_eqI))) (ss_plApp (K := K) (pl_ix (K := K) (pl_ix (K := K) (pl_var (kS (kS (kS (kS (kS (kS (kS k0)))))))) (se_op (se_op (se_var (gS (gS (gS (gS (gS g0)))))) se_int s2_div) se_int s2_mod)) (se_op (se_op (se_var (gS (gS (gS (gS (gS g0)))))) se_int s2_div) (se_op (se_cb (sa_cons (se_var g0) sa_nil) sc_lenS) se_int (s2_I0 (f := fun i j => i + j))) s2_mod)) se_int ss_nil) ss_nil) (ss_conv (m' := m_law_paper_r7) (ss_seq (ss_if (st_test (se_op (se_op (se_op (se_var (gS (gS (gS (gS (gS g0)))))) se_int s2_div) se_int s2_mod) se_int (s2_eqI))) (ss_plPop (K := K) (pl_ix (K := K) (pl_ix (K := K) (pl_var (kS (kS (kS (kS (kS (kS (kS k0)))))))) (se_op (se_op (se_var (gS (gS (gS (gS (gS g0)))))) se_int s2_div) se_int s2_mod)) (se_op (se_op (se_var (gS (gS (gS (gS (gS g0)))))) se_int s2_div) (se_op (se_cb (sa_cons (se_var g0) sa_nil) sc_lenS) se_int (s2_I0 (f := fun i j => i + j))) s2_mod)) ss_nil) ss_nil) (ss_conv (m' := m_law_paper_r6) (ss_seq (ss_if (st_test (se_op (se_op (se_op (se_var (gS (gS (gS (gS (gS g0)))))) se_int s2_div) se_int s2_mod) se_int (s2_eqI))) (ss_plApp (K := K) (pl_ix (K := K) (pl_var (kS (kS (kS (kS (kS (kS (kS k0)))))))) (se_op (se_op (se_var (gS (gS (gS (gS (gS g0)))))) se_int s2_div) se_int s2_mod)) (se_toD (se_op (se_fz (se_lst (sl_cons se_int sl_nil))) (se_op (se_var (gS (gS g0))) se_int (s2_I0 (f := fun i j => i + j))) s2_rep)) ss_nil) ss_nil) (ss_conv (m' := m_law_paper_r5) (ss_seq (ss_if (st_test (se_op (se_op (se_op (se_var (gS (gS (gS (gS (gS g0)))))) se_int s2_div) se_int s2_mod) se_int (s2_eqI))) (ss_plSet (pl_var (kS (kS (kS (kS (kS (kS (kS k0)))))))) (se_nilD (s1 := (sD (sF jI))) (se_lst (A := jN) sl_nil) (fun _ => nilU)) (se_op (se_op (se_var (gS (gS (gS (gS (gS g0)))))) se_int s2_div) se_int s2_mod) ss_nil) ss_nil) (ss_conv (m' := m_law_paper_r4) (ss_pre (cK (cK (cK (cK (cK (cK (cK (cD (fzD (fzD (fzD fzF))) cId)))))))) (ss_seq (ss_ret (se_tup (stC (se_op (se_var (gS (gS (gS (gS (gS (gS (gS g0)))))))) se_int s2_ixL) (stC (se_op (se_var (gS (gS (gS (gS (gS (gS (gS g0)))))))) se_int s2_ixL) (st1 (se_op (se_var (gS (gS (gS (gS (gS (gS (gS g0)))))))) se_int s2_ixL)))) (tz (tz tz1)))) ss_nil)) (by exact rfl))) (by exact rfl))) (by exact rfl))) (by exact rfl))) (by exact rfl))) (by exact rfl))) (by exact rfl))) (by exact rfl)))))), by exact rfl⟩
end
end Lw
namespace Lw
open PySem PySem.Spec PyProof.Rows L2 Fw Mi
local macro_rules | `(tactic| walk_at "m") => `(tactic| simp only [pidx_one, pinS_one, pninS_one, W_some, W_none, W_ob, W_bind, W_pck, W_rb, W_fin, W_finN, W_T, W_F, W_Tr, W_Fa, Rw_nxt, Rw_ret, Rw_cnt, Rf_ret, Rf_nxt, RfN_ret, RfN_nxt, decide_true, decide_false, Bool.not_true, Bool.not_false])
/-- three tables of bounded sizes -/
def Bd (T : List (List (List Int))) : Prop := T.length = 3 ∧ ∀ t ∈ T, t.length ≤ 100 ∧ ∀ r ∈ t, r.length ≤ 100
/-- three tables of right sizes -/
def Gd (n m : Nat) (T : List (List (List Int))) : Prop := T.length = 3 ∧ ∀ t ∈ T, t.length = n + 1 ∧ ∀ r ∈ t, r.length = m + 1
theorem Gd.bd {n m : Nat} {T : List (List (List Int))} (hn : n ≤ 50) (hm : m ≤ 50) (h : Gd n m T) : Bd T := ⟨h.1, fun t ht => ⟨by have := (h.2 t ht).1; omega, fun r hr => by have := (h.2 t ht).2 r hr; omega⟩⟩
def OkT (q : List (List Int) × List (List Int) × List (List Int)) : Prop := Bd [q.1, q.2.1, q.2.2]
theorem Bd.set {T : List (List (List Int))} {k : Nat} {t : List (List Int)} (h : Bd T) (ht : t.length ≤ 100 ∧ ∀ r ∈ t, r.length ≤ 100) : Bd (T.set k t) :=
  ⟨by rw [List.length_set]; exact h.1, fun x hx => by
    rcases List.mem_or_eq_of_mem_set hx with z | z
    · exact h.2 x z
    · rw [z]; exact ht⟩
theorem Gd.set {n m : Nat} {T : List (List (List Int))} {k : Nat} {t : List (List Int)} (h : Gd n m T) (ht : t.length = n + 1 ∧ ∀ r ∈ t, r.length = m + 1) : Gd n m (T.set k t) :=
  ⟨by rw [List.length_set]; exact h.1, fun x hx => by
    rcases List.mem_or_eq_of_mem_set hx with z | z
    · exact h.2 x z
    · rw [z]; exact ht⟩
/-- the tables ahead of the change k -/
def Iv (n m : Nat) (sel : Int) (k : Int) (T : List (List (List Int))) : Prop := Bd T ∧ (k ≤ sel → Gd n m T)
theorem mod3 (x : Int) : ∃ k : Nat, x % 3 = (k : Int) ∧ k < 3 := ⟨(x % 3).toNat, by omega, by omega⟩
theorem w_r4 {rd tx : List Nat} {m x great : Int} {c : Int × Int × Int} {cell : Int} {T : List (List (List Int))} {Q : Res Unit Unit (List (List Int) × List (List Int) × List (List Int)) → Prop} (h : Bd T) (q : ∀ r, OkT r → Q (.ret r)) : W (m_law_paper_r4 (rd, tx, m, c, cell, x, great, T, ())) Q := by
  obtain ⟨h1, h2⟩ := h
  match T, h1, h2 with
  | [A, B, C], _, h2 =>
    unfold m_law_paper_r4
    walk_at "m"
    exact ⟨A, rfl, B, rfl, C, rfl, q _ ⟨rfl, h2⟩⟩
section
variable {rd tx : List Nat} {m x great : Int} {c : Int × Int × Int} {cell : Int} {T : List (List (List Int))} {M : Nat} {Q : Res Unit Unit (List (List Int) × List (List Int) × List (List Int)) → Prop}
theorem w_r5 (h : Iv rd.length M (x / 61 % 9) 5 T) (q : ∀ r, OkT r → Q (.ret r)) : W (m_law_paper_r5 (rd, tx, m, c, cell, x, great, T, ())) Q := by
  unfold m_law_paper_r5
  walk_at "m"
  refine ⟨by omega, by omega, ?_⟩
  refine W_ifD (fun hs => ?_) (fun hs => ?_)
  · walk_at "m"
    refine ⟨by omega, by omega, W_pset ⟨by omega, by rw [h.1.1]; omega⟩ ?_⟩
    exact w_r4 (h.1.set ⟨by simp, fun r hr => nomatch hr⟩) q
  · walk_at "m"
    exact w_r4 h.1 q
theorem w_r6 (hm : m = (M : Int)) (hM : M ≤ 50) (hn : rd.length ≤ 50) (h : Iv rd.length M (x / 61 % 9) 4 T) (q : ∀ r, OkT r → Q (.ret r)) : W (m_law_paper_r6 (rd, tx, m, c, cell, x, great, T, ())) Q := by
  have hz : ∀ k : Nat, k ≤ 4000 → k < sz := fun k h => by unfold sz; omega
  unfold m_law_paper_r6
  walk_at "m"
  refine ⟨by omega, by omega, ?_⟩
  refine W_ifD (fun hs => ?_) (fun hs => ?_)
  · walk_at "m"
    have g := h.2 (by omega)
    refine ⟨by omega, by omega, W_pat ⟨by omega, by rw [h.1.1]; omega⟩ fun t ht => ?_⟩
    have gt := g.2 t (List.mem_of_getElem? ht)
    refine ⟨by unfold sz; simp, ⟨⟨by omega, by omega⟩, Nat.le_of_lt (hz _ (by simp; omega))⟩, hz _ (by omega), by omega, by omega, W_pset ⟨by omega, by rw [h.1.1]; omega⟩ ?_⟩
    refine w_r5 (M := M) ⟨h.1.set ⟨by simp; omega, fun r hr => ?_⟩, fun z => by omega⟩ q
    rcases List.mem_append.mp hr with hr | hr
    · have := gt.2 r hr
      omega
    · rw [List.mem_singleton.mp hr]
      unfold prep
      simp
      omega
  · walk_at "m"
    exact w_r5 (M := M) ⟨h.1, fun z => h.2 (by omega)⟩ q
theorem w_r7 (hm : m = (M : Int)) (hM : M ≤ 50) (hn : rd.length ≤ 50) (h : Iv rd.length M (x / 61 % 9) 3 T) (q : ∀ r, OkT r → Q (.ret r)) : W (m_law_paper_r7 (rd, tx, m, c, cell, x, great, T, ())) Q := by
  have hz : ∀ k : Nat, k ≤ 4000 → k < sz := fun k h => by unfold sz; omega
  have em : 0 ≤ x / 1647 % ((rd.length : Int) + 1) ∧ x / 1647 % ((rd.length : Int) + 1) < (rd.length : Int) + 1 := ⟨Int.emod_nonneg _ (by omega), Int.emod_lt_of_pos _ (by omega)⟩
  unfold m_law_paper_r7
  walk_at "m"
  refine ⟨by omega, by omega, ?_⟩
  refine W_ifD (fun hs => ?_) (fun hs => ?_)
  · walk_at "m"
    have g := h.2 (by omega)
    refine ⟨by omega, by omega, W_pat ⟨by omega, by rw [h.1.1]; omega⟩ fun t ht => ?_⟩
    have gt := g.2 t (List.mem_of_getElem? ht)
    refine ⟨by omega, Nat.le_of_lt (hz _ (by omega)), by omega, W_pat ⟨em.1, by rw [gt.1]; exact em.2⟩ fun r hr => ?_⟩
    have gr := gt.2 r (List.mem_of_getElem? hr)
    refine ⟨by omega, by omega, by omega, W_pat ⟨by omega, by rw [h.1.1]; omega⟩ fun t2 ht2 => ?_⟩
    have gt2 := g.2 t2 (List.mem_of_getElem? ht2)
    refine ⟨by omega, Nat.le_of_lt (hz _ (by omega)), by omega, W_pset ⟨em.1, by rw [gt2.1]; exact em.2⟩ ⟨by omega, by omega, W_pset ⟨by omega, by rw [h.1.1]; omega⟩ ?_⟩⟩
    refine w_r6 (M := M) hm hM hn ⟨h.1.set ⟨by rw [List.length_set]; omega, fun y hy => ?_⟩, fun z => by omega⟩ q
    rcases List.mem_or_eq_of_mem_set hy with z | z
    · have := gt2.2 y z
      omega
    · rw [z]
      simp
      omega
  · walk_at "m"
    exact w_r6 (M := M) hm hM hn ⟨h.1, fun z => h.2 (by omega)⟩ q
theorem w_r8 (hm : m = (M : Int)) (hM : M ≤ 50) (hn : rd.length ≤ 50) (h : Iv rd.length M (x / 61 % 9) 2 T) (q : ∀ r, OkT r → Q (.ret r)) : W (m_law_paper_r8 (rd, tx, m, c, cell, x, great, T, ())) Q := by
  have hz : ∀ k : Nat, k ≤ 4000 → k < sz := fun k h => by unfold sz; omega
  have em : 0 ≤ x / 1647 % ((rd.length : Int) + 1) ∧ x / 1647 % ((rd.length : Int) + 1) < (rd.length : Int) + 1 := ⟨Int.emod_nonneg _ (by omega), Int.emod_lt_of_pos _ (by omega)⟩
  unfold m_law_paper_r8
  walk_at "m"
  refine ⟨by omega, by omega, ?_⟩
  refine W_ifD (fun hs => ?_) (fun hs => ?_)
  · walk_at "m"
    have g := h.2 (by omega)
    refine ⟨by omega, by omega, W_pat ⟨by omega, by rw [h.1.1]; omega⟩ fun t ht => ?_⟩
    have gt := g.2 t (List.mem_of_getElem? ht)
    refine ⟨by omega, Nat.le_of_lt (hz _ (by omega)), by omega, W_pat ⟨em.1, by rw [gt.1]; exact em.2⟩ fun r hr => ?_⟩
    have gr := gt.2 r (List.mem_of_getElem? hr)
    refine ⟨hz _ (by omega), by omega, by omega, W_pat ⟨by omega, by rw [h.1.1]; omega⟩ fun t2 ht2 => ?_⟩
    have gt2 := g.2 t2 (List.mem_of_getElem? ht2)
    refine ⟨by omega, Nat.le_of_lt (hz _ (by omega)), by omega, W_pset ⟨em.1, by rw [gt2.1]; exact em.2⟩ ⟨by omega, by omega, W_pset ⟨by omega, by rw [h.1.1]; omega⟩ ?_⟩⟩
    refine w_r7 (M := M) hm hM hn ⟨h.1.set ⟨by rw [List.length_set]; omega, fun y hy => ?_⟩, fun z => by omega⟩ q
    rcases List.mem_or_eq_of_mem_set hy with z | z
    · have := gt2.2 y z
      omega
    · rw [z]
      simp
      omega
  · walk_at "m"
    exact w_r7 (M := M) hm hM hn ⟨h.1, fun z => h.2 (by omega)⟩ q
theorem w_r9 (hm : m = (M : Int)) (hM : M ≤ 50) (hn : rd.length ≤ 50) (h : Iv rd.length M (x / 61 % 9) 1 T) (q : ∀ r, OkT r → Q (.ret r)) : W (m_law_paper_r9 (rd, tx, m, c, cell, x, great, T, ())) Q := by
  unfold m_law_paper_r9
  walk_at "m"
  refine ⟨by omega, by omega, ?_⟩
  refine W_ifD (fun hs => ?_) (fun hs => ?_)
  · walk_at "m"
    have g := h.2 (by omega)
    refine ⟨by omega, by omega, W_pat ⟨by omega, by rw [h.1.1]; omega⟩ fun t ht => ?_⟩
    have gt := g.2 t (List.mem_of_getElem? ht)
    refine ⟨by omega, by omega, by omega, W_pset ⟨by omega, by rw [h.1.1]; omega⟩ ?_⟩
    refine w_r8 (M := M) hm hM hn ⟨h.1.set ⟨by rw [List.length_dropLast]; omega, fun y hy => ?_⟩, fun z => by omega⟩ q
    have := gt.2 y ((List.dropLast_sublist t).subset hy)
    omega
  · walk_at "m"
    exact w_r8 (M := M) hm hM hn ⟨h.1, fun z => h.2 (by omega)⟩ q
theorem w_r10 (hm : m = (M : Int)) (hM : M ≤ 50) (hn : rd.length ≤ 50) (h : Gd rd.length M T) (q : ∀ r, OkT r → Q (.ret r)) : W (m_law_paper_r10 (rd, tx, m, c, cell, x, great, T, ())) Q := by
  have hz : ∀ k : Nat, k ≤ 4000 → k < sz := fun k h => by unfold sz; omega
  unfold m_law_paper_r10
  walk_at "m"
  refine ⟨by omega, by omega, by omega, ?_⟩
  refine W_for (fun _ γ => ∃ T, γ = (rd, tx, m, c, cell, x, great, T, ()) ∧ Gd rd.length M T) ⟨T, rfl, h⟩ ?_ ?_
  · rintro k x' γ hx ⟨T, rfl, h⟩
    obtain ⟨rfl, hk⟩ := prange_get hx
    unfold m_law_paper_b3
    walk_at "m"
    refine ⟨by left; omega, by omega, ?_⟩
    generalize x / (60 + 7 * (k : Int)) = y
    have em : 0 ≤ y / 3 % ((rd.length : Int) + 1) ∧ y / 3 % ((rd.length : Int) + 1) < (rd.length : Int) + 1 := ⟨Int.emod_nonneg _ (by omega), Int.emod_lt_of_pos _ (by omega)⟩
    have er : 0 ≤ y / 60 % (m + 1) ∧ y / 60 % (m + 1) < m + 1 := ⟨Int.emod_nonneg _ (by omega), Int.emod_lt_of_pos _ (by omega)⟩
    refine ⟨by omega, W_pat ⟨by omega, by rw [h.1]; omega⟩ fun t ht => ?_⟩
    have gt := h.2 t (List.mem_of_getElem? ht)
    refine ⟨by omega, Nat.le_of_lt (hz _ (by omega)), by omega, W_pat ⟨em.1, by rw [gt.1]; exact em.2⟩ fun r hr => ?_⟩
    have gr := gt.2 r (List.mem_of_getElem? hr)
    have er2 : y / 60 % (m + 1) < (r.length : Int) := by rw [gr]; omega
    refine ⟨by omega, by omega, W_pat ⟨er.1, er2⟩ fun v hv => ⟨by omega, by omega, by omega, by omega, W_pset ⟨er.1, er2⟩ ⟨by omega, W_pat ⟨by omega, by rw [h.1]; omega⟩ fun t2 ht2 => ?_⟩⟩⟩
    have gt2 := h.2 t2 (List.mem_of_getElem? ht2)
    refine ⟨by omega, Nat.le_of_lt (hz _ (by omega)), by omega, W_pset ⟨em.1, by rw [gt2.1]; exact em.2⟩ ⟨by omega, W_pset ⟨by omega, by rw [h.1]; omega⟩ ?_⟩⟩
    refine ⟨_, rfl, h.set ⟨by rw [List.length_set]; exact gt2.1, fun z hz => ?_⟩⟩
    rcases List.mem_or_eq_of_mem_set hz with e | e
    · exact gt2.2 z e
    · rw [e, List.length_set]
      exact gr
  · rintro γ ⟨T, rfl, h⟩
    walk_at "m"
    exact w_r9 (M := M) hm hM hn ⟨h.bd hn hM, fun _ => h⟩ q
theorem paired_mem {α β : Type} {A : α → β → Prop} : ∀ {xs : List α} {ys : List β} {y : β}, Paired A xs ys → y ∈ ys → ∃ x, x ∈ xs ∧ A x y
  | _, _, _, .nil, h => nomatch h
  | _, _, _, .cons r t, h => by
    rcases List.mem_cons.mp h with e | h
    · rw [e]; exact ⟨_, List.mem_cons_self, r⟩
    · obtain ⟨x, h1, h2⟩ := paired_mem t h
      exact ⟨x, List.mem_cons_of_mem _ h1, h2⟩
theorem w_r11 (hm : m = (M : Int)) (hM : M ≤ 50) (hn : rd.length ≤ 50) (h : Gd rd.length M T) (q : ∀ r, OkT r → Q (.ret r)) : W (m_law_paper_r11 (rd, tx, m, c, cell, x, great, T, ())) Q := by
  have hz : ∀ k : Nat, k ≤ 4000 → k ≤ sz := fun k h => by unfold sz; omega
  unfold m_law_paper_r11
  walk_at "m"
  refine ⟨by omega, ?_⟩
  refine W_ifD (fun hs => ?_) (fun hs => ?_)
  · walk_at "m"
    refine ⟨by omega, W_lcM (fun _ t => t.length = rd.length + 1 ∧ ∀ r ∈ t, r.length = M + 1) (fun _ _ => ?_) fun ys hp => ?_⟩
    · walk_at "m"
      refine ⟨hz _ (by omega), by omega, W_lcM (fun _ r => r.length = M + 1) (fun _ _ => ?_) fun rs hr => ?_⟩
      · walk_at "m"
        refine ⟨by omega, by omega, hz _ (by simp), ⟨⟨by omega, by omega⟩, hz _ (by simp; omega)⟩, ?_⟩
        unfold prep
        simp
        omega
      · have hl := Paired.len hr
        rw [prange_len] at hl
        exact ⟨hz _ (by omega), by omega, fun r h => (paired_mem hr h).choose_spec.2⟩
    · have hl := Paired.len hp
      rw [prange_len] at hl
      refine ⟨hz _ (by omega), ?_⟩
      exact w_r10 (M := M) hm hM hn ⟨by omega, fun t h => (paired_mem hp h).choose_spec.2⟩ q
  · walk_at "m"
    exact w_r10 (M := M) hm hM hn h q
end
theorem cut_len {l : List Int} {t n c M : Nat} (hl : l.length = 3 * (n + 1) * (M + 1)) (ht : t < 3) (hc : c < n + 1) :
    (pcut l (some ((t : Int) * ((n : Int) + 1) * ((M : Int) + 1) + (c : Int) * ((M : Int) + 1))) (some ((t : Int) * ((n : Int) + 1) * ((M : Int) + 1) + ((c : Int) + 1) * ((M : Int) + 1)))).length = M + 1 := by
  have e1 : (t : Int) * ((n : Int) + 1) * ((M : Int) + 1) + (c : Int) * ((M : Int) + 1) = (((t * (n + 1) + c) * (M + 1) : Nat) : Int) := by
    rw [← Int.add_mul]
    simp
  have e2 : (t : Int) * ((n : Int) + 1) * ((M : Int) + 1) + ((c : Int) + 1) * ((M : Int) + 1) = (((t * (n + 1) + c + 1) * (M + 1) : Nat) : Int) := by
    rw [← Int.add_mul]
    simp [Int.add_assoc]
  have h1 : t * (n + 1) ≤ 2 * (n + 1) := Nat.mul_le_mul_right _ (by omega)
  have h2 : (t * (n + 1) + c + 1) * (M + 1) ≤ 3 * (n + 1) * (M + 1) := Nat.mul_le_mul_right _ (by omega)
  have h3 : (t * (n + 1) + c + 1) * (M + 1) = (t * (n + 1) + c) * (M + 1) + (M + 1) := by rw [Nat.add_mul _ 1, Nat.one_mul]
  rw [e1, e2, pcut_nat, List.length_take, List.length_drop, hl]
  omega
theorem w_b1 {rd tx : List Nat} {x great cell : Int} {c : Int × Int × Int} {dr : List Int} {M t : Nat} {T : List (List (List Int))} {Q : Res _ _ (List (List Int) × List (List Int) × List (List Int)) → Prop} (hM : M ≤ 50) (hn : rd.length ≤ 50) (ht : t < 3) (hT : T.length = t) (hg : -18446744073709551616 < great ∧ great < 18446744073709551616) (hl : dr.length = 3 * (rd.length + 1) * (M + 1))
    (q : ∀ y : List (List Int), (y.length = rd.length + 1 ∧ ∀ r ∈ y, r.length = M + 1) → Q (.nxt (rd, tx, (M : Int), c, cell, x, great, T ++ [y], dr, ()))) : W (m_law_paper_b1 (t : Int) (rd, tx, (M : Int), c, cell, x, great, T, dr, ())) Q := by
  have hz : ∀ k : Nat, k ≤ 4000 → k ≤ sz := fun k h => by unfold sz; omega
  unfold m_law_paper_b1
  walk_at "m"
  refine ⟨hz _ (by omega), by left; omega, by right; omega, hz _ (by omega), by omega, W_lcM (fun _ r => r.length = M + 1) (fun y hy => ?_) fun rs hr => ?_⟩
  · obtain ⟨k, hk⟩ := List.mem_iff_getElem?.mp hy
    obtain ⟨rfl, hk2⟩ := prange_get hk
    have hc := cut_len (c := k) hl ht (by omega)
    walk_at "m"
    refine ⟨by right; omega, by right; omega, W_lcM (fun _ _ => True) (fun _ _ => ?_) fun vs hv => ?_⟩
    · walk_at "m"
      exact ⟨by right; omega, trivial⟩
    · have hvl := Paired.len hv
      rw [hc] at hvl
      exact ⟨hz _ (by omega), hvl.symm⟩
  · have hl2 := Paired.len hr
    rw [prange_len] at hl2
    exact ⟨hz _ (by omega), Nat.lt_of_le_of_lt (by omega : T.length ≤ 4) (by unfold sz; omega), q rs ⟨by omega, fun r h => (paired_mem hr h).choose_spec.2⟩⟩
theorem w_lawpaper {rd tx : List Nat} {m rp s e : Nat} {cell : Int} {Q : List (List Int) × List (List Int) × List (List Int) → Prop} (hn : rd.length ≤ 50) (hm : m ≤ tx.length) (ht : tx.length ≤ 50) (h1 : rp ≤ 100) (h2 : s ≤ 100) (h3 : e ≤ 100) (q : ∀ r, OkT r → Q r) :
    W (m_law_paper rd tx (m : Int) ((rp : Int), (s : Int), (e : Int)) cell) Q := by
  have hz : ∀ k : Nat, k ≤ 4000 → k ≤ sz := fun k h => by unfold sz; omega
  have hg : ∀ (M : Nat → Nat → Int), ∀ r ∈ grid (rd.length + 1) (m + 1) M, r.length = m + 1 := fun M r hr => by
    unfold grid at hr
    obtain ⟨i, _, rfl⟩ := List.mem_map.mp hr
    rw [List.length_map, List.length_range]
  unfold m_law_paper
  walk_at "m"
  refine ⟨by omega, by omega, by right; omega, ?_⟩
  refine w_paper (by omega) hm (by omega) h1 h2 h3 ?_
  refine W_lcM (fun _ t => t.length = rd.length + 1 ∧ ∀ r ∈ t, r.length = m + 1) (fun t htm => ?_) fun T hT => ?_
  · obtain ⟨M, rfl⟩ : ∃ M, t = grid (rd.length + 1) (m + 1) M := by
      simp only [List.mem_cons, List.not_mem_nil, or_false] at htm
      rcases htm with h | h | h <;> exact ⟨_, h⟩
    walk_at "m"
    refine W_lcM (fun _ r => r.length = m + 1) (fun r hr => ?_) fun rs hr => ?_
    · walk_at "m"
      have := hg M r hr
      exact ⟨hz _ (by omega), this⟩
    · have hl := Paired.len hr
      rw [grid_len] at hl
      exact ⟨hz _ (by omega), hl.symm, fun r h => (paired_mem hr h).choose_spec.2⟩
  have hl := Paired.len hT
  have gT : Gd rd.length m T := ⟨hl.symm, fun t h => (paired_mem hT h).choose_spec.2⟩
  refine ⟨hz _ (by rw [gT.1]; omega), by omega, ?_⟩
  refine W_ifD (fun hs => ?_) (fun hs => ?_)
  · walk_at "m"
    have eN : 3 * ((rd.length : Int) + 1) * ((m : Int) + 1) = ((3 * (rd.length + 1) * (m + 1) : Nat) : Int) := by simp
    have bN : 3 * (rd.length + 1) * (m + 1) ≤ 153 * 51 := Nat.mul_le_mul (by omega) (by omega)
    refine ⟨by omega, hz _ (by omega), by left; omega, by right; omega, ?_⟩
    rw [eN]
    refine w_row (by omega) (by omega) fun dr hd _ => ?_
    rw [Int.toNat_natCast] at hd
    refine ⟨by omega, ?_⟩
    refine W_for (fun i γ => ∃ T, γ = (rd, tx, (m : Int), ((rp : Int), (s : Int), (e : Int)), cell, (cell.natAbs : Int), _, T, dr, ()) ∧ T.length = i ∧ ∀ t ∈ T, t.length = rd.length + 1 ∧ ∀ r ∈ t, r.length = m + 1) ⟨[], rfl, rfl, fun _ h => nomatch h⟩ ?_ ?_
    · rintro i x γ hx ⟨T, rfl, hT, hT2⟩
      obtain ⟨rfl, hi⟩ := prange_get hx
      refine w_b1 (by omega) hn (by omega) hT (by omega) hd fun y hy => ⟨_, rfl, by simp [hT], fun t h => ?_⟩
      rcases List.mem_append.mp h with h | h
      · exact hT2 t h
      · rw [List.mem_singleton.mp h]; exact hy
    · rintro γ ⟨T, rfl, hT, hT2⟩
      walk_at "m"
      unfold m_law_paper_r2
      walk_at "m"
      exact w_r11 (M := m) rfl (by omega) hn ⟨hT, hT2⟩ q
  · walk_at "m"
    exact w_r11 (M := m) rfl (by omega) hn gT q

end Lw
namespace Lw
open PySem PySem.Spec PyProof.Rows L2 Fw Mi
section
variable {P : Program} {w : World} {K : PySem.W.Frag} {mg : Str → Option Value} {base : Heap}
noncomputable def m_sized (table : (List (List Int))) (count : Int) (end_ : Int) : Option Bool := fin (κ := Unit) (ρ := Unit) (rb (ob (if (decide ((table.length : Int) = (count + (1 : Int)))) = true then (ob (ob (ob (lcM (fun c5 => (some (decide ((c5.length : Int) = (end_ + (1 : Int)))))) table) fun r => pck (r.length ≤ sz) r) fun x6 => some (x6, ())) fun z7 => some (z7.1.all id)) else some false) fun r8 => some (.ret r8)) fun γ => some (.nxt γ))
abbrev sp_sized (K : PySem.W.Frag) : Sp := spM (aC (jL (jL jI)) (aC jI (aC jI aN))) (sF jB) (fun γ => m_sized γ.1 γ.2.1 γ.2.2.1)
theorem ok_sized (T : Tx w K mg) : Dn P w K mg base 1 (He.ga K "sized") ["table", "count", "end"] (sp_sized K) := by
  refine dn_mk T.d_sized sc_sized (fun _ _ _ _ _ _ us hl => match us, hl with | [_, _, _], _ => rfl) (spM_len (an_C (an_C (an_C an_0)))) fun cdv A outer s H vs Q E hr h => ?_
  refine ⟨_, (pss_cons (ps_ret (pe_and (pe_cmpR op_eq (pe_callB (lenQ_ (K := K)) (by rfl) T.z_len (by decide +kernel) (pa_cons (pv 0) pa_nil)) (pe_op op_add (pv 1) pe_int) (nomark _)) (pe_one (pe_callB (all_ (K := K) rfl) (by rfl) T.z_all (by decide +kernel) (pa_cons (pe_lc (own := [("row", 3)]) rfl sc_sized.nd (iL_ (K := K) (pv 0)) (blkOk_by (own := [("row", 3)]) (N := ["table", "count", "end", "row"]) (sc := defScope s_sized) (by decide +kernel)) (fun _ _ _ _ _ => (pg_name (i := 3) sc_sized.nd rfl (.inl rfl))) (fun _ _ _ _ _ => pts_nil) (fun _ _ _ _ _ => (pe_cmpR op_eq (pe_callB (lenQ_ (K := K)) (by rfl) T.z_len (by decide +kernel) (pa_cons (pv 3) pa_nil)) (pe_op op_add (pv 2) pe_int) (nomark _)))) pa_nil)))))
      pss_nil), ?_⟩
  refine fin_runX (E := (eC (sF (jL (jL jI))) (eC (sF jI) (eC (sF jI) (eU eN))))) (E' := eN) (ae_C (ae_C (ae_C (ae_U rfl ae_0)))) (an_C (an_C (an_C an_0))) rfl ?S h rfl
  exact ⟨_, (ss_seq (ss_ret (se_andV (se_op (se_cb (sa_cons (se_var g0) sa_nil) (sc_lenL (K := K))) (se_op (se_var (gS g0)) se_int (s2_I0 (f := fun i j => i + j))) (s2_eqI)) (se_cb (sa_cons (se_fz (se_lc (si_list (se_var g0)) (wp_cons (nS (nS (nS n0))) wp_nil) (sg_name (pS (pS (pS p0U)))) (se_op (se_cb (sa_cons (se_var (gS (gS (gS g0)))) sa_nil) (sc_lenL (K := K))) (se_op (se_var (gS (gS g0))) se_int (s2_I0 (f := fun i j => i + j))) (s2_eqI)))) sa_nil) (sc_all (K := K))))) ss_nil), by exact rfl⟩
end
end Lw
namespace Lw
open PySem PySem.Spec PyProof.Rows L2 Fw Mi
local macro_rules | `(tactic| walk_at "m") => `(tactic| simp only [pidx_one, pinS_one, pninS_one, W_some, W_none, W_ob, W_bind, W_pck, W_rb, W_fin, W_finN, W_T, W_F, W_Tr, W_Fa, Rw_nxt, Rw_ret, Rw_cnt, Rf_ret, Rf_nxt, RfN_ret, RfN_nxt, decide_true, decide_false, Bool.not_true, Bool.not_false])
def Szd (n m : Nat) (t : List (List Int)) : Prop := t.length = n + 1 ∧ ∀ r ∈ t, r.length = m + 1
instance (n m : Nat) (t : List (List Int)) : Decidable (Szd n m t) := inferInstanceAs (Decidable (_ ∧ _))
theorem all_szd {m : Nat} {t : List (List Int)} : (t.map fun r => decide ((r.length : Int) = (m : Int) + 1)).all id = true ↔ ∀ r ∈ t, r.length = m + 1 := by
  rw [List.all_eq_true]
  constructor
  · intro h r hr
    have := of_decide_eq_true (h _ (List.mem_map.mpr ⟨r, hr, rfl⟩))
    omega
  · intro h b hb
    obtain ⟨r, hr, rfl⟩ := List.mem_map.mp hb
    have := h r hr
    exact decide_eq_true (by omega)
theorem w_sized {t : List (List Int)} {n m : Nat} {Q : Bool → Prop} (ht : t.length ≤ sz) (q : Q (decide (Szd n m t))) : W (m_sized t (n : Int) (m : Int)) Q := by
  unfold m_sized
  walk_at "m"
  refine W_ifD (fun h => ?_) (fun h => ?_)
  · walk_at "m"
    refine W_of (lcM_map (g := fun r => decide ((r.length : Int) = (m : Int) + 1)) fun _ _ => rfl) ⟨by rw [List.length_map]; exact ht, ?_⟩
    have e : (t.map fun r => decide ((r.length : Int) = (m : Int) + 1)).all id = decide (Szd n m t) := by
      rw [Bool.eq_iff_iff, all_szd, decide_eq_true_iff]
      exact ⟨fun a => ⟨by omega, a⟩, fun a => a.2⟩
    rw [e]
    exact q
  · walk_at "m"
    rw [decide_eq_false fun a : Szd n m t => h (by have := a.1; omega)] at q
    exact q
theorem grid_of {a b : Nat} {t : List (List Int)} (h1 : t.length = a) (h2 : ∀ r ∈ t, r.length = b) : t = grid a b fun i j => (t.getD i []).getD j 0 := by
  unfold grid
  subst h1
  refine List.ext_getElem (by simp) fun i hi1 hi2 => ?_
  rw [List.getElem_map, List.getElem_range]
  have hr := h2 t[i] (List.getElem_mem hi1)
  have e : t.getD i [] = t[i] := by rw [List.getD_eq_getElem?_getD, List.getElem?_eq_getElem hi1]; rfl
  show t[i] = (List.range b).map fun j => (t.getD i []).getD j 0
  rw [e]
  refine List.ext_getElem (by simp [hr]) fun j hj1 hj2 => ?_
  rw [List.getElem_map, List.getElem_range, List.getD_eq_getElem?_getD, List.getElem?_eq_getElem hj1]
  rfl

end Lw
namespace Lw
open PySem PySem.Spec PyProof.Rows L2 Fw Mi
section
variable {P : Program} {w : World} {K : PySem.W.Frag} {mg : Str → Option Value} {base : Heap}
noncomputable def m_bounded (table : (List (List Int))) (i : Int) (j : Int) (others : (List Int)) : Option Bool := fin (κ := Unit) (ρ := Unit) (rb (ob (ob (ob (ob (lcM (fun c7 => (ob (ob (pat table i) fun x8 => (pat x8 j)) fun x9 => some (decide (x9 ≤ c7)))) others) fun r => pck (r.length ≤ sz) r) fun x10 => some (x10, ())) fun z11 => some (z11.1.all id)) fun r12 => some (.ret r12)) fun γ => some (.nxt γ))
abbrev sp_bounded (K : PySem.W.Frag) : Sp := spM (aC (jL (jL jI)) (aC jI (aC jI (aC (jL jI) aN)))) (sF jB) (fun γ => m_bounded γ.1 γ.2.1 γ.2.2.1 γ.2.2.2.1)
theorem ok_bounded (T : Tx w K mg) : Dn P w K mg base 1 (He.ga K "bounded") ["table", "i", "j", "others"] (sp_bounded K) := by
  refine dn_mk T.d_bounded sc_bounded (fun _ _ _ _ _ _ us hl => match us, hl with | [_, _, _, _], _ => rfl) (spM_len (an_C (an_C (an_C (an_C an_0))))) fun cdv A outer s H vs Q E hr h => ?_
  refine ⟨_, (pss_cons (ps_ret (pe_callB (all_ (K := K) rfl) (by rfl) T.z_all (by decide +kernel) (pa_cons (pe_lc (own := [("other", 4)]) rfl sc_bounded.nd (iL_ (K := K) (pv 3)) (blkOk_by (own := [("other", 4)]) (N := ["table", "i", "j", "others", "other"]) (sc := defScope s_bounded) (by decide +kernel)) (fun _ _ _ _ _ => (pg_name (i := 4) sc_bounded.nd rfl (.inl rfl))) (fun _ _ _ _ _ => pts_nil) (fun _ _ _ _ _ => (pe_cmpR op_le (pe_ix (ixL_ (K := K)) (pe_ix (ixL_ (K := K)) (pv 0) (pv 1) (fun _ _ => rfl)) (pv 2) (fun _ _ => rfl)) (pv 4) (nomark _)))) pa_nil)))
      pss_nil), ?_⟩
  refine fin_runX (E := (eC (sF (jL (jL jI))) (eC (sF jI) (eC (sF jI) (eC (sF (jL jI)) (eU eN)))))) (E' := eN) (ae_C (ae_C (ae_C (ae_C (ae_U rfl ae_0))))) (an_C (an_C (an_C (an_C an_0)))) rfl ?S h rfl
  exact ⟨_, (ss_seq (ss_ret (se_cb (sa_cons (se_fz (se_lc (si_list (se_var (gS (gS (gS g0))))) (wp_cons (nS (nS (nS (nS n0)))) wp_nil) (sg_name (pS (pS (pS (pS p0U))))) (se_op (se_op (se_op (se_var g0) (se_var (gS g0)) s2_ixL) (se_var (gS (gS g0))) s2_ixL) (se_var (gS (gS (gS (gS g0))))) (s2_C0 (f := fun i j => decide (i ≤ j)))))) sa_nil) (sc_all (K := K)))) ss_nil), by exact rfl⟩
end
end Lw
namespace Lw
open PySem PySem.Spec PyProof.Rows L2 Fw Mi
local macro_rules | `(tactic| walk_at "m") => `(tactic| simp only [pidx_one, pinS_one, pninS_one, W_some, W_none, W_ob, W_bind, W_pck, W_rb, W_fin, W_finN, W_T, W_F, W_Tr, W_Fa, Rw_nxt, Rw_ret, Rw_cnt, Rf_ret, Rf_nxt, RfN_ret, RfN_nxt, decide_true, decide_false, Bool.not_true, Bool.not_false])
theorem w_bounded {n m i j : Nat} {M : Nat → Nat → Int} {l : List Int} {Q : Bool → Prop} (hi : i ≤ n) (hj : j ≤ m) (hl : l.length ≤ sz) (q : Q (decide (∀ b ∈ l, M i j ≤ b))) : W (m_bounded (grid (n + 1) (m + 1) M) (i : Int) (j : Int) l) Q := by
  have hc : (ob (pat (grid (n + 1) (m + 1) M) (i : Int)) fun x => pat x (j : Int)) = some (M i j) := pcell_grid (by omega) (by omega)
  unfold m_bounded
  walk_at "m"
  refine W_of (lcM_map (g := fun c => decide (M i j ≤ c)) fun c _ => by rw [hc]; rfl) ⟨by rw [List.length_map]; exact hl, ?_⟩
  have e : (l.map fun c => decide (M i j ≤ c)).all id = decide (∀ b ∈ l, M i j ≤ b) := by
    rw [Bool.eq_iff_iff, List.all_eq_true, decide_eq_true_iff]
    constructor
    · intro h b hb
      exact of_decide_eq_true (h _ (List.mem_map.mpr ⟨b, hb, rfl⟩))
    · intro h b hb
      obtain ⟨c, hc, rfl⟩ := List.mem_map.mp hb
      exact decide_eq_true (h c hc)
  rw [e]
  exact q

end Lw
namespace Lw
open PySem PySem.Spec PyProof.Rows L2 Fw Mi
section
variable {P : Program} {w : World} {K : PySem.W.Frag} {mg : Str → Option Value} {base : Heap}
noncomputable def m_gap_bounds (tables : ((List (List Int)) × (List (List Int)) × (List (List Int)))) (i : Int) (j : Int) (costs : (Int × Int × Int)) : Option (List Int) := fin (κ := Unit) (ρ := Unit) (ob (pck (([] : List Int).length ≤ sz) []) fun found => rb ((ob (if (decide (i = (0 : Int))) = true then some true else (some (decide ((1 : Int) < j)))) fun b6 => if b6 = true then ((ob (ob (ob (ob (pat tables.1 i) fun x1 => (pat x1 (j - (1 : Int)))) fun x2 => some (x2 + costs.2.1)) fun x3 => some (x3 + costs.2.2)) fun x5 => ob (pck (found.length < sz) (found ++ [x5])) fun w4 => some (.nxt (tables, i, j, costs, tables.1, tables.2.1, tables.2.2, costs.2.1, costs.2.2, w4, ())))) else (some (.nxt (tables, i, j, costs, tables.1, tables.2.1, tables.2.2, costs.2.1, costs.2.2, found, ()))))) fun γ => let tables := γ.1; let i := γ.2.1; let j := γ.2.2.1; let costs := γ.2.2.2.1; let pairs := γ.2.2.2.2.1; let extra := γ.2.2.2.2.2.1; let gaps := γ.2.2.2.2.2.2.1; let start := γ.2.2.2.2.2.2.2.1; let each := γ.2.2.2.2.2.2.2.2.1; let found := γ.2.2.2.2.2.2.2.2.2.1; rb (if (decide ((0 : Int) < i)) = true then ((ob (ob (ob (ob (pat extra i) fun x7 => (pat x7 (j - (1 : Int)))) fun x8 => some (x8 + start)) fun x9 => some (x9 + each)) fun x11 => ob (pck (found.length < sz) (found ++ [x11])) fun w10 => some (.nxt (tables, i, j, costs, pairs, extra, gaps, start, each, w10, ())))) else (some (.nxt (tables, i, j, costs, pairs, extra, gaps, start, each, found, ())))) fun γ => let tables := γ.1; let i := γ.2.1; let j := γ.2.2.1; let costs := γ.2.2.2.1; let pairs := γ.2.2.2.2.1; let extra := γ.2.2.2.2.2.1; let gaps := γ.2.2.2.2.2.2.1; let start := γ.2.2.2.2.2.2.2.1; let each := γ.2.2.2.2.2.2.2.2.1; let found := γ.2.2.2.2.2.2.2.2.2.1; rb (if (decide ((1 : Int) < j)) = true then ((ob (ob (ob (pat gaps i) fun x12 => (pat x12 (j - (1 : Int)))) fun x13 => some (x13 + each)) fun x15 => ob (pck (found.length < sz) (found ++ [x15])) fun w14 => some (.nxt (tables, i, j, costs, pairs, extra, gaps, start, each, w14, ())))) else (some (.nxt (tables, i, j, costs, pairs, extra, gaps, start, each, found, ())))) fun γ => let found := γ.2.2.2.2.2.2.2.2.2.1; rb (some (.ret found)) fun γ => some (.nxt γ))
abbrev sp_gap_bounds (K : PySem.W.Frag) : Sp := spM (aC (jT (yC (jL (jL jI)) (yC (jL (jL jI)) (y1 (jL (jL jI)))))) (aC jI (aC jI (aC (jT (yC jI (yC jI (y1 jI)))) aN)))) (sO jI) (fun γ => m_gap_bounds γ.1 γ.2.1 γ.2.2.1 γ.2.2.2.1)
theorem ok_gap_bounds (T : Tx w K mg) : Dn P w K mg base 1 (He.ga K "gap_bounds") ["tables", "i", "j", "costs"] (sp_gap_bounds K) := by
  refine dn_mk T.d_gap_bounds sc_gap_bounds (fun _ _ _ _ _ _ us hl => match us, hl with | [_, _, _, _], _ => rfl) (spM_len (an_C (an_C (an_C (an_C an_0))))) fun cdv A outer s H vs Q E hr h => ?_
  refine ⟨_, (pss_cons (ps_asg (pv 0) (gt_ (K := K) (n := 3) (by rfl) (pgs_cons (pg_name (i := 4) sc_gap_bounds.nd rfl (.inl rfl)) (pgs_cons (pg_name (i := 5) sc_gap_bounds.nd rfl (.inl rfl)) (pgs_cons (pg_name (i := 6) sc_gap_bounds.nd rfl (.inl rfl)) pgs_nil)))))
      (pss_cons (ps_asg (pv 3) (gt_ (K := K) (n := 3) (by rfl) (pgs_cons (pg_name (i := 7) sc_gap_bounds.nd rfl (.inl rfl)) (pgs_cons (pg_name (i := 8) sc_gap_bounds.nd rfl (.inl rfl)) (pgs_cons (pg_name (i := 9) sc_gap_bounds.nd rfl (.inl rfl)) pgs_nil)))))
      (pss_cons (ps_set (i := 10) sc_gap_bounds.nd rfl (.inl rfl) (pe_lst pa_nil))
      (pss_cons (ps_if (PW.pt (pw_or (pt_cmpR op_eq (pv 1) pe_int (nomark _)) (pw_or1 (pt_cmpR op_gt (pv 2) pe_int (nomark _)))))
      (pss_cons (ps_expr (bm_ (K := K) PySem.F.plainAttrs_list PySem.F.slot_list_append PySem.F.type_list_append mt_append (pv 10) (pa_cons (pe_op op_add (pe_op op_add (pe_ix (ixL_ (K := K)) (pe_ix (ixL_ (K := K)) (pv 4) (pv 1) (fun _ _ => rfl)) (pe_op op_sub (pv 2) pe_int) (fun _ _ => rfl)) (pv 8)) (pv 9)) pa_nil)))
      pss_nil)
      pss_nil)
      (pss_cons (ps_if (pt_cmpR op_gt (pv 1) pe_int (nomark _))
      (pss_cons (ps_expr (bm_ (K := K) PySem.F.plainAttrs_list PySem.F.slot_list_append PySem.F.type_list_append mt_append (pv 10) (pa_cons (pe_op op_add (pe_op op_add (pe_ix (ixL_ (K := K)) (pe_ix (ixL_ (K := K)) (pv 5) (pv 1) (fun _ _ => rfl)) (pe_op op_sub (pv 2) pe_int) (fun _ _ => rfl)) (pv 8)) (pv 9)) pa_nil)))
      pss_nil)
      pss_nil)
      (pss_cons (ps_if (pt_cmpR op_gt (pv 2) pe_int (nomark _))
      (pss_cons (ps_expr (bm_ (K := K) PySem.F.plainAttrs_list PySem.F.slot_list_append PySem.F.type_list_append mt_append (pv 10) (pa_cons (pe_op op_add (pe_ix (ixL_ (K := K)) (pe_ix (ixL_ (K := K)) (pv 6) (pv 1) (fun _ _ => rfl)) (pe_op op_sub (pv 2) pe_int) (fun _ _ => rfl)) (pv 9)) pa_nil)))
      pss_nil)
      pss_nil)
      (pss_cons (ps_ret (pv 10))
      pss_nil))))))), ?_⟩
  refine fin_runX (E := (eC (sF (jT (yC (jL (jL jI)) (yC (jL (jL jI)) (y1 (jL (jL jI))))))) (eC (sF jI) (eC (sF jI) (eC (sF (jT (yC jI (yC jI (y1 jI))))) (eU (eU (eU (eU (eU (eU (eU eN)))))))))))) (E' := eN) (ae_C (ae_C (ae_C (ae_C (ae_U rfl (ae_U rfl (ae_U rfl (ae_U rfl (ae_U rfl (ae_U rfl (ae_U rfl ae_0))))))))))) (an_C (an_C (an_C (an_C an_0)))) rfl ?S h rfl
  exact ⟨_, (ss_asgG (se_var g0) (sg_tup (K := K) (sgs_C (sg_name (pS (pS (pS (pS p0U))))) (sgs_C (sg_name (pS (pS (pS (pS (pS p0U)))))) (sgs_1 (sg_name (pS (pS (pS (pS (pS (pS p0U)))))))))) (tz (tz tz1))) (ss_asgG (se_var (gS (gS (gS g0)))) (sg_tup (K := K) (sgs_C (sg_skip (nS (nS (nS (nS (nS (nS (nS n0)))))))) (sgs_C (sg_name (pS (pS (pS (pS (pS (pS (pS (pU p0U))))))))) (sgs_1 (sg_name (pS (pS (pS (pS (pS (pS (pS (pU (pS p0U))))))))))))) (tz (tz tz1))) (ss_asg (se_lst (A := jI) sl_nil) (pS (pS (pS (pS (pS (pS (pS (pU (pS (pS p0U)))))))))) (ss_seq (ss_if (st_or (st_test (se_op (se_var (gS g0)) se_int (s2_eqI))) (st_test (se_op (se_var (gS (gS g0))) se_int (s2_C0 (f := fun i j => decide (j < i)))))) (ss_app (K := K) (uS (uS (uS (uS (uS (uS (uS (uU (uS (uS u0)))))))))) (se_op (se_op (se_op (se_op (se_var (gS (gS (gS (gS g0))))) (se_var (gS g0)) s2_ixL) (se_op (se_var (gS (gS g0))) se_int (s2_I0 (f := fun i j => i - j))) s2_ixL) (se_var (gS (gS (gS (gS (gS (gS (gS (gU g0))))))))) (s2_I0 (f := fun i j => i + j))) (se_var (gS (gS (gS (gS (gS (gS (gS (gU (gS g0)))))))))) (s2_I0 (f := fun i j => i + j))) ss_nil) ss_nil) (ss_seq (ss_if (st_test (se_op (se_var (gS g0)) se_int (s2_C0 (f := fun i j => decide (j < i))))) (ss_app (K := K) (uS (uS (uS (uS (uS (uS (uS (uU (uS (uS u0)))))))))) (se_op (se_op (se_op (se_op (se_var (gS (gS (gS (gS (gS g0)))))) (se_var (gS g0)) s2_ixL) (se_op (se_var (gS (gS g0))) se_int (s2_I0 (f := fun i j => i - j))) s2_ixL) (se_var (gS (gS (gS (gS (gS (gS (gS (gU g0))))))))) (s2_I0 (f := fun i j => i + j))) (se_var (gS (gS (gS (gS (gS (gS (gS (gU (gS g0)))))))))) (s2_I0 (f := fun i j => i + j))) ss_nil) ss_nil) (ss_seq (ss_if (st_test (se_op (se_var (gS (gS g0))) se_int (s2_C0 (f := fun i j => decide (j < i))))) (ss_app (K := K) (uS (uS (uS (uS (uS (uS (uS (uU (uS (uS u0)))))))))) (se_op (se_op (se_op (se_var (gS (gS (gS (gS (gS (gS g0))))))) (se_var (gS g0)) s2_ixL) (se_op (se_var (gS (gS g0))) se_int (s2_I0 (f := fun i j => i - j))) s2_ixL) (se_var (gS (gS (gS (gS (gS (gS (gS (gU (gS g0)))))))))) (s2_I0 (f := fun i j => i + j))) ss_nil) ss_nil) (ss_seq (ss_retO (gS (gS (gS (gS (gS (gS (gS (gU (gS (gS g0))))))))))) ss_nil))))))), by exact rfl⟩
end
end Lw
namespace Lw
open PySem PySem.Spec PyProof.Rows L2 Fw Mi
local macro_rules | `(tactic| walk_at "m") => `(tactic| simp only [pidx_one, pinS_one, pninS_one, W_some, W_none, W_ob, W_bind, W_pck, W_rb, W_fin, W_finN, W_T, W_F, W_Tr, W_Fa, Rw_nxt, Rw_ret, Rw_cnt, Rf_ret, Rf_nxt, RfN_ret, RfN_nxt, decide_true, decide_false, Bool.not_true, Bool.not_false])
theorem w_gap {n m i j : Nat} {P Q' R : Nat → Nat → Int} {rp s e : Int} {Q : List Int → Prop} (hi : i ≤ n) (hj : j ≤ m) (h0 : 0 < j)
    (q : Q (Pp.bR s e P Q' R i j)) : W (m_gap_bounds (grid (n + 1) (m + 1) P, grid (n + 1) (m + 1) Q', grid (n + 1) (m + 1) R) (i : Int) (j : Int) (rp, s, e)) Q := by
  have hz : ∀ k : Nat, k ≤ 10 → k < sz := fun k h => by unfold sz; omega
  unfold m_gap_bounds
  walk_at "m"
  refine ⟨by unfold sz; simp, ?_⟩
  rw [show (j : Int) - 1 = ((j - 1 : Nat) : Int) by omega]
  refine W.mono (Q := fun b => b = decide (i = 0 ∨ 1 < j)) ?_ ?_
  · refine W_ifD (fun h => ?_) (fun h => ?_)
    · walk_at "m"
      rw [eq_comm, decide_eq_true_iff]
      omega
    · walk_at "m"
      rw [decide_eq_decide]
      omega
  rintro _ rfl
  refine W_add (c' := i = 0 ∨ 1 < j) Iff.rfl (fun _ => cell_add2 (n := n) (m := m) (a := i) (b := j - 1) (M := P) (v := s) (v' := e) (by omega) (by omega)) (hz _ (by simp)) ?_
  walk_at "m"
  rw [show (j : Int) - 1 = ((j - 1 : Nat) : Int) by omega]
  refine W_add (c' := 0 < i) (by omega) (fun _ => cell_add2 (n := n) (m := m) (a := i) (b := j - 1) (M := Q') (v := s) (v' := e) (by omega) (by omega)) (hz _ ?_) ?_
  · have := one_le1 (c := i = 0 ∨ 1 < j) (P i (j - 1) + (s + e))
    rw [List.nil_append]
    omega
  walk_at "m"
  rw [show (j : Int) - 1 = ((j - 1 : Nat) : Int) by omega]
  refine W_add (c' := 1 < j) (by omega) (fun _ => cell_add (n := n) (m := m) (a := i) (b := j - 1) (M := R) (v := e) (by omega) (by omega)) (hz _ ?_) ?_
  · have := one_le1 (c := i = 0 ∨ 1 < j) (P i (j - 1) + (s + e))
    have := one_le1 (c := 0 < i) (Q' i (j - 1) + (s + e))
    rw [List.nil_append, List.length_append]
    omega
  walk_at "m"
  exact q

end Lw
namespace Lw
open PySem PySem.Spec PyProof.Rows L2 Fw Mi
section
variable {P : Program} {w : World} {K : PySem.W.Frag} {mg : Str → Option Value} {base : Heap}
noncomputable def m_pair_bounds (tables : ((List (List Int)) × (List (List Int)) × (List (List Int)))) (i : Int) (j : Int) (weight : Int) : Option (List Int) := fin (κ := Unit) (ρ := Unit) (ob (pck (([] : List Int).length ≤ sz) []) fun found => rb ((ob (if (decide (i = (1 : Int))) = true then some true else (some (decide ((1 : Int) < j)))) fun b5 => if b5 = true then ((ob (ob (ob (pat tables.1 (i - (1 : Int))) fun x1 => (pat x1 (j - (1 : Int)))) fun x2 => some (x2 + weight)) fun x4 => ob (pck (found.length < sz) (found ++ [x4])) fun w3 => some (.nxt (tables, i, j, weight, tables.1, tables.2.1, tables.2.2, w3, ())))) else (some (.nxt (tables, i, j, weight, tables.1, tables.2.1, tables.2.2, found, ()))))) fun γ => let tables := γ.1; let i := γ.2.1; let j := γ.2.2.1; let weight := γ.2.2.2.1; let pairs := γ.2.2.2.2.1; let extra := γ.2.2.2.2.2.1; let gaps := γ.2.2.2.2.2.2.1; let found := γ.2.2.2.2.2.2.2.1; rb (if (decide ((1 : Int) < i)) = true then ((ob (ob (ob (pat extra (i - (1 : Int))) fun x6 => (pat x6 (j - (1 : Int)))) fun x7 => some (x7 + weight)) fun x9 => ob (pck (found.length < sz) (found ++ [x9])) fun w8 => some (.nxt (tables, i, j, weight, pairs, extra, gaps, w8, ())))) else (some (.nxt (tables, i, j, weight, pairs, extra, gaps, found, ())))) fun γ => let tables := γ.1; let i := γ.2.1; let j := γ.2.2.1; let weight := γ.2.2.2.1; let pairs := γ.2.2.2.2.1; let extra := γ.2.2.2.2.2.1; let gaps := γ.2.2.2.2.2.2.1; let found := γ.2.2.2.2.2.2.2.1; rb (if (decide ((1 : Int) < j)) = true then ((ob (ob (ob (pat gaps (i - (1 : Int))) fun x10 => (pat x10 (j - (1 : Int)))) fun x11 => some (x11 + weight)) fun x13 => ob (pck (found.length < sz) (found ++ [x13])) fun w12 => some (.nxt (tables, i, j, weight, pairs, extra, gaps, w12, ())))) else (some (.nxt (tables, i, j, weight, pairs, extra, gaps, found, ())))) fun γ => let found := γ.2.2.2.2.2.2.2.1; rb (some (.ret found)) fun γ => some (.nxt γ))
abbrev sp_pair_bounds (K : PySem.W.Frag) : Sp := spM (aC (jT (yC (jL (jL jI)) (yC (jL (jL jI)) (y1 (jL (jL jI)))))) (aC jI (aC jI (aC jI aN)))) (sO jI) (fun γ => m_pair_bounds γ.1 γ.2.1 γ.2.2.1 γ.2.2.2.1)
theorem ok_pair_bounds (T : Tx w K mg) : Dn P w K mg base 1 (He.ga K "pair_bounds") ["tables", "i", "j", "weight"] (sp_pair_bounds K) := by
  refine dn_mk T.d_pair_bounds sc_pair_bounds (fun _ _ _ _ _ _ us hl => match us, hl with | [_, _, _, _], _ => rfl) (spM_len (an_C (an_C (an_C (an_C an_0))))) fun cdv A outer s H vs Q E hr h => ?_
  refine ⟨_, (pss_cons (ps_asg (pv 0) (gt_ (K := K) (n := 3) (by rfl) (pgs_cons (pg_name (i := 4) sc_pair_bounds.nd rfl (.inl rfl)) (pgs_cons (pg_name (i := 5) sc_pair_bounds.nd rfl (.inl rfl)) (pgs_cons (pg_name (i := 6) sc_pair_bounds.nd rfl (.inl rfl)) pgs_nil)))))
      (pss_cons (ps_set (i := 7) sc_pair_bounds.nd rfl (.inl rfl) (pe_lst pa_nil))
      (pss_cons (ps_if (PW.pt (pw_or (pt_cmpR op_eq (pv 1) pe_int (nomark _)) (pw_or1 (pt_cmpR op_gt (pv 2) pe_int (nomark _)))))
      (pss_cons (ps_expr (bm_ (K := K) PySem.F.plainAttrs_list PySem.F.slot_list_append PySem.F.type_list_append mt_append (pv 7) (pa_cons (pe_op op_add (pe_ix (ixL_ (K := K)) (pe_ix (ixL_ (K := K)) (pv 4) (pe_op op_sub (pv 1) pe_int) (fun _ _ => rfl)) (pe_op op_sub (pv 2) pe_int) (fun _ _ => rfl)) (pv 3)) pa_nil)))
      pss_nil)
      pss_nil)
      (pss_cons (ps_if (pt_cmpR op_gt (pv 1) pe_int (nomark _))
      (pss_cons (ps_expr (bm_ (K := K) PySem.F.plainAttrs_list PySem.F.slot_list_append PySem.F.type_list_append mt_append (pv 7) (pa_cons (pe_op op_add (pe_ix (ixL_ (K := K)) (pe_ix (ixL_ (K := K)) (pv 5) (pe_op op_sub (pv 1) pe_int) (fun _ _ => rfl)) (pe_op op_sub (pv 2) pe_int) (fun _ _ => rfl)) (pv 3)) pa_nil)))
      pss_nil)
      pss_nil)
      (pss_cons (ps_if (pt_cmpR op_gt (pv 2) pe_int (nomark _))
      (pss_cons (ps_expr (bm_ (K := K) PySem.F.plainAttrs_list PySem.F.slot_list_append PySem.F.type_list_append mt_append (pv 7) (pa_cons (pe_op op_add (pe_ix (ixL_ (K := K)) (pe_ix (ixL_ (K := K)) (pv 6) (pe_op op_sub (pv 1) pe_int) (fun _ _ => rfl)) (pe_op op_sub (pv 2) pe_int) (fun _ _ => rfl)) (pv 3)) pa_nil)))
      pss_nil)
      pss_nil)
      (pss_cons (ps_ret (pv 7))
      pss_nil)))))), ?_⟩
  refine fin_runX (E := (eC (sF (jT (yC (jL (jL jI)) (yC (jL (jL jI)) (y1 (jL (jL jI))))))) (eC (sF jI) (eC (sF jI) (eC (sF jI) (eU (eU (eU (eU eN))))))))) (E' := eN) (ae_C (ae_C (ae_C (ae_C (ae_U rfl (ae_U rfl (ae_U rfl (ae_U rfl ae_0)))))))) (an_C (an_C (an_C (an_C an_0)))) rfl ?S h rfl
  exact ⟨_, (ss_asgG (se_var g0) (sg_tup (K := K) (sgs_C (sg_name (pS (pS (pS (pS p0U))))) (sgs_C (sg_name (pS (pS (pS (pS (pS p0U)))))) (sgs_1 (sg_name (pS (pS (pS (pS (pS (pS p0U)))))))))) (tz (tz tz1))) (ss_asg (se_lst (A := jI) sl_nil) (pS (pS (pS (pS (pS (pS (pS p0U))))))) (ss_seq (ss_if (st_or (st_test (se_op (se_var (gS g0)) se_int (s2_eqI))) (st_test (se_op (se_var (gS (gS g0))) se_int (s2_C0 (f := fun i j => decide (j < i)))))) (ss_app (K := K) (uS (uS (uS (uS (uS (uS (uS u0))))))) (se_op (se_op (se_op (se_var (gS (gS (gS (gS g0))))) (se_op (se_var (gS g0)) se_int (s2_I0 (f := fun i j => i - j))) s2_ixL) (se_op (se_var (gS (gS g0))) se_int (s2_I0 (f := fun i j => i - j))) s2_ixL) (se_var (gS (gS (gS g0)))) (s2_I0 (f := fun i j => i + j))) ss_nil) ss_nil) (ss_seq (ss_if (st_test (se_op (se_var (gS g0)) se_int (s2_C0 (f := fun i j => decide (j < i))))) (ss_app (K := K) (uS (uS (uS (uS (uS (uS (uS u0))))))) (se_op (se_op (se_op (se_var (gS (gS (gS (gS (gS g0)))))) (se_op (se_var (gS g0)) se_int (s2_I0 (f := fun i j => i - j))) s2_ixL) (se_op (se_var (gS (gS g0))) se_int (s2_I0 (f := fun i j => i - j))) s2_ixL) (se_var (gS (gS (gS g0)))) (s2_I0 (f := fun i j => i + j))) ss_nil) ss_nil) (ss_seq (ss_if (st_test (se_op (se_var (gS (gS g0))) se_int (s2_C0 (f := fun i j => decide (j < i))))) (ss_app (K := K) (uS (uS (uS (uS (uS (uS (uS u0))))))) (se_op (se_op (se_op (se_var (gS (gS (gS (gS (gS (gS g0))))))) (se_op (se_var (gS g0)) se_int (s2_I0 (f := fun i j => i - j))) s2_ixL) (se_op (se_var (gS (gS g0))) se_int (s2_I0 (f := fun i j => i - j))) s2_ixL) (se_var (gS (gS (gS g0)))) (s2_I0 (f := fun i j => i + j))) ss_nil) ss_nil) (ss_seq (ss_retO (gS (gS (gS (gS (gS (gS (gS g0)))))))) ss_nil)))))), by exact rfl⟩
end
end Lw
namespace Lw
open PySem PySem.Spec PyProof.Rows L2 Fw Mi
local macro_rules | `(tactic| walk_at "m") => `(tactic| simp only [pidx_one, pinS_one, pninS_one, W_some, W_none, W_ob, W_bind, W_pck, W_rb, W_fin, W_finN, W_T, W_F, W_Tr, W_Fa, Rw_nxt, Rw_ret, Rw_cnt, Rf_ret, Rf_nxt, RfN_ret, RfN_nxt, decide_true, decide_false, Bool.not_true, Bool.not_false])
theorem w_pair {n m i j : Nat} {P Q' R : Nat → Nat → Int} {w : Int} {wf : Nat → Nat → Int} {Q : List Int → Prop} (hi : i ≤ n) (hj : j ≤ m) (h0 : 0 < i) (h1 : 0 < j) (ew : w = wf (i - 1) (j - 1))
    (q : Q (Pp.bP wf P Q' R i j)) : W (m_pair_bounds (grid (n + 1) (m + 1) P, grid (n + 1) (m + 1) Q', grid (n + 1) (m + 1) R) (i : Int) (j : Int) w) Q := by
  have hz : ∀ k : Nat, k ≤ 10 → k < sz := fun k h => by unfold sz; omega
  unfold m_pair_bounds
  walk_at "m"
  refine ⟨by unfold sz; simp, ?_⟩
  rw [show (i : Int) - 1 = ((i - 1 : Nat) : Int) by omega, show (j : Int) - 1 = ((j - 1 : Nat) : Int) by omega]
  refine W.mono (Q := fun b => b = decide (i = 1 ∨ 1 < j)) ?_ ?_
  · refine W_ifD (fun h => ?_) (fun h => ?_)
    · walk_at "m"
      rw [eq_comm, decide_eq_true_iff]
      omega
    · walk_at "m"
      rw [decide_eq_decide]
      omega
  rintro _ rfl
  refine W_add (c' := i = 1 ∨ 1 < j) Iff.rfl (fun _ => cell_add (n := n) (m := m) (a := i - 1) (b := j - 1) (M := P) (v := w) (by omega) (by omega)) (hz _ (by simp)) ?_
  walk_at "m"
  rw [show (i : Int) - 1 = ((i - 1 : Nat) : Int) by omega, show (j : Int) - 1 = ((j - 1 : Nat) : Int) by omega]
  refine W_add (c' := 1 < i) (by omega) (fun _ => cell_add (n := n) (m := m) (a := i - 1) (b := j - 1) (M := Q') (v := w) (by omega) (by omega)) (hz _ ?_) ?_
  · have := one_le1 (c := i = 1 ∨ 1 < j) (P (i - 1) (j - 1) + w)
    rw [List.nil_append]
    omega
  walk_at "m"
  rw [show (i : Int) - 1 = ((i - 1 : Nat) : Int) by omega, show (j : Int) - 1 = ((j - 1 : Nat) : Int) by omega]
  refine W_add (c' := 1 < j) (by omega) (fun _ => cell_add (n := n) (m := m) (a := i - 1) (b := j - 1) (M := R) (v := w) (by omega) (by omega)) (hz _ ?_) ?_
  · have := one_le1 (c := i = 1 ∨ 1 < j) (P (i - 1) (j - 1) + w)
    have := one_le1 (c := 1 < i) (Q' (i - 1) (j - 1) + w)
    rw [List.nil_append, List.length_append]
    omega
  walk_at "m"
  subst ew
  exact q

end Lw
namespace Lw
open PySem PySem.Spec PyProof.Rows L2 Fw Mi
section
variable {P : Program} {w : World} {K : PySem.W.Frag} {mg : Str → Option Value} {base : Heap}
noncomputable def m_extra_bounds (tables : ((List (List Int)) × (List (List Int)) × (List (List Int)))) (i : Int) (j : Int) (costs : (Int × Int × Int)) : Option (List Int) := fin (κ := Unit) (ρ := Unit) (ob (pck (([] : List Int).length ≤ sz) []) fun found => rb ((ob (if (decide (i = (1 : Int))) = true then some true else (some (decide ((0 : Int) < j)))) fun b6 => if b6 = true then ((ob (ob (ob (ob (pat tables.1 (i - (1 : Int))) fun x1 => (pat x1 j)) fun x2 => some (x2 + costs.2.1)) fun x3 => some (x3 + costs.2.2)) fun x5 => ob (pck (found.length < sz) (found ++ [x5])) fun w4 => some (.nxt (tables, i, j, costs, tables.1, tables.2.1, tables.2.2, costs.2.1, costs.2.2, w4, ())))) else (some (.nxt (tables, i, j, costs, tables.1, tables.2.1, tables.2.2, costs.2.1, costs.2.2, found, ()))))) fun γ => let tables := γ.1; let i := γ.2.1; let j := γ.2.2.1; let costs := γ.2.2.2.1; let pairs := γ.2.2.2.2.1; let extra := γ.2.2.2.2.2.1; let gaps := γ.2.2.2.2.2.2.1; let start := γ.2.2.2.2.2.2.2.1; let each := γ.2.2.2.2.2.2.2.2.1; let found := γ.2.2.2.2.2.2.2.2.2.1; rb (if (decide ((0 : Int) < j)) = true then ((ob (ob (ob (ob (pat gaps (i - (1 : Int))) fun x7 => (pat x7 j)) fun x8 => some (x8 + start)) fun x9 => some (x9 + each)) fun x11 => ob (pck (found.length < sz) (found ++ [x11])) fun w10 => some (.nxt (tables, i, j, costs, pairs, extra, gaps, start, each, w10, ())))) else (some (.nxt (tables, i, j, costs, pairs, extra, gaps, start, each, found, ())))) fun γ => let tables := γ.1; let i := γ.2.1; let j := γ.2.2.1; let costs := γ.2.2.2.1; let pairs := γ.2.2.2.2.1; let extra := γ.2.2.2.2.2.1; let gaps := γ.2.2.2.2.2.2.1; let start := γ.2.2.2.2.2.2.2.1; let each := γ.2.2.2.2.2.2.2.2.1; let found := γ.2.2.2.2.2.2.2.2.2.1; rb (if (decide ((1 : Int) < i)) = true then ((ob (ob (ob (pat extra (i - (1 : Int))) fun x12 => (pat x12 j)) fun x13 => some (x13 + each)) fun x15 => ob (pck (found.length < sz) (found ++ [x15])) fun w14 => some (.nxt (tables, i, j, costs, pairs, extra, gaps, start, each, w14, ())))) else (some (.nxt (tables, i, j, costs, pairs, extra, gaps, start, each, found, ())))) fun γ => let found := γ.2.2.2.2.2.2.2.2.2.1; rb (some (.ret found)) fun γ => some (.nxt γ))
abbrev sp_extra_bounds (K : PySem.W.Frag) : Sp := spM (aC (jT (yC (jL (jL jI)) (yC (jL (jL jI)) (y1 (jL (jL jI)))))) (aC jI (aC jI (aC (jT (yC jI (yC jI (y1 jI)))) aN)))) (sO jI) (fun γ => m_extra_bounds γ.1 γ.2.1 γ.2.2.1 γ.2.2.2.1)
theorem ok_extra_bounds (T : Tx w K mg) : Dn P w K mg base 1 (He.ga K "extra_bounds") ["tables", "i", "j", "costs"] (sp_extra_bounds K) := by
  refine dn_mk T.d_extra_bounds sc_extra_bounds (fun _ _ _ _ _ _ us hl => match us, hl with | [_, _, _, _], _ => rfl) (spM_len (an_C (an_C (an_C (an_C an_0))))) fun cdv A outer s H vs Q E hr h => ?_
  refine ⟨_, (pss_cons (ps_asg (pv 0) (gt_ (K := K) (n := 3) (by rfl) (pgs_cons (pg_name (i := 4) sc_extra_bounds.nd rfl (.inl rfl)) (pgs_cons (pg_name (i := 5) sc_extra_bounds.nd rfl (.inl rfl)) (pgs_cons (pg_name (i := 6) sc_extra_bounds.nd rfl (.inl rfl)) pgs_nil)))))
      (pss_cons (ps_asg (pv 3) (gt_ (K := K) (n := 3) (by rfl) (pgs_cons (pg_name (i := 7) sc_extra_bounds.nd rfl (.inl rfl)) (pgs_cons (pg_name (i := 8) sc_extra_bounds.nd rfl (.inl rfl)) (pgs_cons (pg_name (i := 9) sc_extra_bounds.nd rfl (.inl rfl)) pgs_nil)))))
      (pss_cons (ps_set (i := 10) sc_extra_bounds.nd rfl (.inl rfl) (pe_lst pa_nil))
      (pss_cons (ps_if (PW.pt (pw_or (pt_cmpR op_eq (pv 1) pe_int (nomark _)) (pw_or1 (pt_cmpR op_gt (pv 2) pe_int (nomark _)))))
      (pss_cons (ps_expr (bm_ (K := K) PySem.F.plainAttrs_list PySem.F.slot_list_append PySem.F.type_list_append mt_append (pv 10) (pa_cons (pe_op op_add (pe_op op_add (pe_ix (ixL_ (K := K)) (pe_ix (ixL_ (K := K)) (pv 4) (pe_op op_sub (pv 1) pe_int) (fun _ _ => rfl)) (pv 2) (fun _ _ => rfl)) (pv 8)) (pv 9)) pa_nil)))
      pss_nil)
      pss_nil)
      (pss_cons (ps_if (pt_cmpR op_gt (pv 2) pe_int (nomark _))
      (pss_cons (ps_expr (bm_ (K := K) PySem.F.plainAttrs_list PySem.F.slot_list_append PySem.F.type_list_append mt_append (pv 10) (pa_cons (pe_op op_add (pe_op op_add (pe_ix (ixL_ (K := K)) (pe_ix (ixL_ (K := K)) (pv 6) (pe_op op_sub (pv 1) pe_int) (fun _ _ => rfl)) (pv 2) (fun _ _ => rfl)) (pv 8)) (pv 9)) pa_nil)))
      pss_nil)
      pss_nil)
      (pss_cons (ps_if (pt_cmpR op_gt (pv 1) pe_int (nomark _))
      (pss_cons (ps_expr (bm_ (K := K) PySem.F.plainAttrs_list PySem.F.slot_list_append PySem.F.type_list_append mt_append (pv 10) (pa_cons (pe_op op_add (pe_ix (ixL_ (K := K)) (pe_ix (ixL_ (K := K)) (pv 5) (pe_op op_sub (pv 1) pe_int) (fun _ _ => rfl)) (pv 2) (fun _ _ => rfl)) (pv 9)) pa_nil)))
      pss_nil)
      pss_nil)
      (pss_cons (ps_ret (pv 10))
      pss_nil))))))), ?_⟩
  refine fin_runX (E := (eC (sF (jT (yC (jL (jL jI)) (yC (jL (jL jI)) (y1 (jL (jL jI))))))) (eC (sF jI) (eC (sF jI) (eC (sF (jT (yC jI (yC jI (y1 jI))))) (eU (eU (eU (eU (eU (eU (eU eN)))))))))))) (E' := eN) (ae_C (ae_C (ae_C (ae_C (ae_U rfl (ae_U rfl (ae_U rfl (ae_U rfl (ae_U rfl (ae_U rfl (ae_U rfl ae_0))))))))))) (an_C (an_C (an_C (an_C an_0)))) rfl ?S h rfl
  exact ⟨_, (ss_asgG (se_var g0) (sg_tup (K := K) (sgs_C (sg_name (pS (pS (pS (pS p0U))))) (sgs_C (sg_name (pS (pS (pS (pS (pS p0U)))))) (sgs_1 (sg_name (pS (pS (pS (pS (pS (pS p0U)))))))))) (tz (tz tz1))) (ss_asgG (se_var (gS (gS (gS g0)))) (sg_tup (K := K) (sgs_C (sg_skip (nS (nS (nS (nS (nS (nS (nS n0)))))))) (sgs_C (sg_name (pS (pS (pS (pS (pS (pS (pS (pU p0U))))))))) (sgs_1 (sg_name (pS (pS (pS (pS (pS (pS (pS (pU (pS p0U))))))))))))) (tz (tz tz1))) (ss_asg (se_lst (A := jI) sl_nil) (pS (pS (pS (pS (pS (pS (pS (pU (pS (pS p0U)))))))))) (ss_seq (ss_if (st_or (st_test (se_op (se_var (gS g0)) se_int (s2_eqI))) (st_test (se_op (se_var (gS (gS g0))) se_int (s2_C0 (f := fun i j => decide (j < i)))))) (ss_app (K := K) (uS (uS (uS (uS (uS (uS (uS (uU (uS (uS u0)))))))))) (se_op (se_op (se_op (se_op (se_var (gS (gS (gS (gS g0))))) (se_op (se_var (gS g0)) se_int (s2_I0 (f := fun i j => i - j))) s2_ixL) (se_var (gS (gS g0))) s2_ixL) (se_var (gS (gS (gS (gS (gS (gS (gS (gU g0))))))))) (s2_I0 (f := fun i j => i + j))) (se_var (gS (gS (gS (gS (gS (gS (gS (gU (gS g0)))))))))) (s2_I0 (f := fun i j => i + j))) ss_nil) ss_nil) (ss_seq (ss_if (st_test (se_op (se_var (gS (gS g0))) se_int (s2_C0 (f := fun i j => decide (j < i))))) (ss_app (K := K) (uS (uS (uS (uS (uS (uS (uS (uU (uS (uS u0)))))))))) (se_op (se_op (se_op (se_op (se_var (gS (gS (gS (gS (gS (gS g0))))))) (se_op (se_var (gS g0)) se_int (s2_I0 (f := fun i j => i - j))) s2_ixL) (se_var (gS (gS g0))) s2_ixL) (se_var (gS (gS (gS (gS (gS (gS (gS (gU g0))))))))) (s2_I0 (f := fun i j => i + j))) (se_var (gS (gS (gS (gS (gS (gS (gS (gU (gS g0)))))))))) (s2_I0 (f := fun i j => i + j))) ss_nil) ss_nil) (ss_seq (ss_if (st_test (se_op (se_var (gS g0)) se_int (s2_C0 (f := fun i j => decide (j < i))))) (ss_app (K := K) (uS (uS (uS (uS (uS (uS (uS (uU (uS (uS u0)))))))))) (se_op (se_op (se_op (se_var (gS (gS (gS (gS (gS g0)))))) (se_op (se_var (gS g0)) se_int (s2_I0 (f := fun i j => i - j))) s2_ixL) (se_var (gS (gS g0))) s2_ixL) (se_var (gS (gS (gS (gS (gS (gS (gS (gU (gS g0)))))))))) (s2_I0 (f := fun i j => i + j))) ss_nil) ss_nil) (ss_seq (ss_retO (gS (gS (gS (gS (gS (gS (gS (gU (gS (gS g0))))))))))) ss_nil))))))), by exact rfl⟩
end
end Lw
namespace Lw
open PySem PySem.Spec PyProof.Rows L2 Fw Mi
local macro_rules | `(tactic| walk_at "m") => `(tactic| simp only [pidx_one, pinS_one, pninS_one, W_some, W_none, W_ob, W_bind, W_pck, W_rb, W_fin, W_finN, W_T, W_F, W_Tr, W_Fa, Rw_nxt, Rw_ret, Rw_cnt, Rf_ret, Rf_nxt, RfN_ret, RfN_nxt, decide_true, decide_false, Bool.not_true, Bool.not_false])
theorem w_extra {n m i j : Nat} {P Q' R : Nat → Nat → Int} {rp s e : Int} {Q : List Int → Prop} (hi : i ≤ n) (hj : j ≤ m) (h0 : 0 < i)
    (q : Q (Pp.bQ s e P Q' R i j)) : W (m_extra_bounds (grid (n + 1) (m + 1) P, grid (n + 1) (m + 1) Q', grid (n + 1) (m + 1) R) (i : Int) (j : Int) (rp, s, e)) Q := by
  have hz : ∀ k : Nat, k ≤ 10 → k < sz := fun k h => by unfold sz; omega
  unfold m_extra_bounds
  walk_at "m"
  refine ⟨by unfold sz; simp, ?_⟩
  rw [show (i : Int) - 1 = ((i - 1 : Nat) : Int) by omega]
  refine W.mono (Q := fun b => b = decide (i = 1 ∨ 0 < j)) ?_ ?_
  · refine W_ifD (fun h => ?_) (fun h => ?_)
    · walk_at "m"
      rw [eq_comm, decide_eq_true_iff]
      omega
    · walk_at "m"
      rw [decide_eq_decide]
      omega
  rintro _ rfl
  refine W_add (c' := i = 1 ∨ 0 < j) Iff.rfl (fun _ => cell_add2 (n := n) (m := m) (a := i - 1) (b := j) (M := P) (v := s) (v' := e) (by omega) (by omega)) (hz _ (by simp)) ?_
  walk_at "m"
  rw [show (i : Int) - 1 = ((i - 1 : Nat) : Int) by omega]
  refine W_add (c' := 0 < j) (by omega) (fun _ => cell_add2 (n := n) (m := m) (a := i - 1) (b := j) (M := R) (v := s) (v' := e) (by omega) (by omega)) (hz _ ?_) ?_
  · have := one_le1 (c := i = 1 ∨ 0 < j) (P (i - 1) j + (s + e))
    rw [List.nil_append]
    omega
  walk_at "m"
  rw [show (i : Int) - 1 = ((i - 1 : Nat) : Int) by omega]
  refine W_add (c' := 1 < i) (by omega) (fun _ => cell_add (n := n) (m := m) (a := i - 1) (b := j) (M := Q') (v := e) (by omega) (by omega)) (hz _ ?_) ?_
  · have := one_le1 (c := i = 1 ∨ 0 < j) (P (i - 1) j + (s + e))
    have := one_le1 (c := 0 < j) (R (i - 1) j + (s + e))
    rw [List.nil_append, List.length_append]
    omega
  walk_at "m"
  exact q

end Lw
namespace Lw
open PySem PySem.Spec PyProof.Rows L2 Fw Mi
section
variable {P : Program} {w : World} {K : PySem.W.Frag} {mg : Str → Option Value} {base : Heap}
noncomputable def m_cell_holds (tables : ((List (List Int)) × (List (List Int)) × (List (List Int)))) (read : (List Nat)) (text : (List Nat)) (i : Int) (j : Int) (costs : (Int × Int × Int)) : Option Bool := fin (κ := Unit) (ρ := Unit) (rb ((ob (if (decide (i = (0 : Int))) = true then (ob (ob (pat tables.1 (0 : Int)) fun x1 => (pat x1 j)) fun x2 => some (decide ((0 : Int) < x2))) else some false) fun b3 => if b3 = true then (rb (some (.ret false)) fun γ => some (.nxt γ)) else (some (.nxt (tables, read, text, i, j, costs, tables.1, tables.2.1, tables.2.2, ()))))) fun γ => let tables := γ.1; let read := γ.2.1; let text := γ.2.2.1; let i := γ.2.2.2.1; let j := γ.2.2.2.2.1; let costs := γ.2.2.2.2.2.1; let pairs := γ.2.2.2.2.2.2.1; let extra := γ.2.2.2.2.2.2.2.1; let gaps := γ.2.2.2.2.2.2.2.2.1; rb ((ob (if (decide ((0 : Int) < i)) = true then (some (decide ((0 : Int) < j))) else some false) fun b16 => if b16 = true then (ob ((ob (ob (ob (pixS read (i - (1 : Int))) fun x5 => (ob (ob (pixS text (j - (1 : Int))) fun x4 => some (x4, ())) fun r6 => some (x5, r6))) fun z7 => (m_agree z7.1 z7.2.1)) fun b8 => if b8 = true then (some (0 : Int)) else (some costs.1))) fun weight => rb ((ob (ob (ob (ob (ob (ob (ob (m_pair_bounds tables i j weight) fun x9 => some (x9, ())) fun r10 => some (j, r10)) fun r11 => some (i, r11)) fun r12 => some (pairs, r12)) fun z13 => (m_bounded z13.1 z13.2.1 z13.2.2.1 z13.2.2.2.1)) fun x14 => some (!x14)) fun b15 => if b15 = true then (rb (some (.ret false)) fun γ => some (.nxt γ)) else (some (.nxt (tables, read, text, i, j, costs, pairs, extra, gaps, weight, ()))))) fun γ => let tables := γ.1; let read := γ.2.1; let text := γ.2.2.1; let i := γ.2.2.2.1; let j := γ.2.2.2.2.1; let costs := γ.2.2.2.2.2.1; let pairs := γ.2.2.2.2.2.2.1; let extra := γ.2.2.2.2.2.2.2.1; let gaps := γ.2.2.2.2.2.2.2.2.1; some (.nxt (tables, read, text, i, j, costs, pairs, extra, gaps, ()))) else (some (.nxt (tables, read, text, i, j, costs, pairs, extra, gaps, ()))))) fun γ => let tables := γ.1; let read := γ.2.1; let text := γ.2.2.1; let i := γ.2.2.2.1; let j := γ.2.2.2.2.1; let costs := γ.2.2.2.2.2.1; let pairs := γ.2.2.2.2.2.2.1; let extra := γ.2.2.2.2.2.2.2.1; let gaps := γ.2.2.2.2.2.2.2.2.1; rb ((ob (if (decide ((0 : Int) < i)) = true then (ob (ob (ob (ob (ob (ob (m_extra_bounds tables i j costs) fun x17 => some (x17, ())) fun r18 => some (j, r18)) fun r19 => some (i, r19)) fun r20 => some (extra, r20)) fun z21 => (m_bounded z21.1 z21.2.1 z21.2.2.1 z21.2.2.2.1)) fun x22 => some (!x22)) else some false) fun b23 => if b23 = true then (rb (some (.ret false)) fun γ => some (.nxt γ)) else (some (.nxt (tables, read, text, i, j, costs, pairs, extra, gaps, ()))))) fun γ => let tables := γ.1; let i := γ.2.2.2.1; let j := γ.2.2.2.2.1; let costs := γ.2.2.2.2.2.1; let gaps := γ.2.2.2.2.2.2.2.2.1; rb (ob (if (decide (j = (0 : Int))) = true then some true else (ob (ob (ob (ob (ob (m_gap_bounds tables i j costs) fun x30 => some (x30, ())) fun r31 => some (j, r31)) fun r32 => some (i, r32)) fun r33 => some (gaps, r33)) fun z34 => (m_bounded z34.1 z34.2.1 z34.2.2.1 z34.2.2.2.1))) fun r35 => some (.ret r35)) fun γ => some (.nxt γ))
abbrev sp_cell_holds (K : PySem.W.Frag) : Sp := spM (aC (jT (yC (jL (jL jI)) (yC (jL (jL jI)) (y1 (jL (jL jI)))))) (aC jS (aC jS (aC jI (aC jI (aC (jT (yC jI (yC jI (y1 jI)))) aN)))))) (sF jB) (fun γ => m_cell_holds γ.1 γ.2.1 γ.2.2.1 γ.2.2.2.1 γ.2.2.2.2.1 γ.2.2.2.2.2.1)
theorem ok_cell_holds (T : Tx w K mg) : Dn P w K mg base 2 (He.ga K "cell_holds") ["tables", "read", "text", "i", "j", "costs"] (sp_cell_holds K) := by
  obtain ⟨fd_bounded, G_bounded, b_bounded, kp_bounded, _⟩ := ok_bounded (P := P) (w := w) (base := base) T
  obtain ⟨fd_agree, G_agree, b_agree, kp_agree, _⟩ := ok_agree (P := P) (w := w) (base := base) T
  obtain ⟨fd_gap_bounds, G_gap_bounds, b_gap_bounds, kp_gap_bounds, _⟩ := ok_gap_bounds (P := P) (w := w) (base := base) T
  obtain ⟨fd_pair_bounds, G_pair_bounds, b_pair_bounds, kp_pair_bounds, _⟩ := ok_pair_bounds (P := P) (w := w) (base := base) T
  obtain ⟨fd_extra_bounds, G_extra_bounds, b_extra_bounds, kp_extra_bounds, _⟩ := ok_extra_bounds (P := P) (w := w) (base := base) T
  refine dn_mk T.d_cell_holds sc_cell_holds (fun _ _ _ _ _ _ us hl => match us, hl with | [_, _, _, _, _, _], _ => rfl) (spM_len (an_C (an_C (an_C (an_C (an_C (an_C an_0))))))) fun cdv A outer s H vs Q E hr h => ?_
  refine ⟨_, (pss_cons (ps_asg (pv 0) (gt_ (K := K) (n := 3) (by rfl) (pgs_cons (pg_name (i := 6) sc_cell_holds.nd rfl (.inl rfl)) (pgs_cons (pg_name (i := 7) sc_cell_holds.nd rfl (.inl rfl)) (pgs_cons (pg_name (i := 8) sc_cell_holds.nd rfl (.inl rfl)) pgs_nil)))))
      (pss_cons (ps_if (PW.pt (pw_and (pt_cmpR op_eq (pv 3) pe_int (nomark _)) (pw_and1 (pt_cmpR op_gt (pe_ix (ixL_ (K := K)) (pe_ix (ixL_ (K := K)) (pv 6) pe_int (fun _ _ => rfl)) (pv 4) (fun _ _ => rfl)) pe_int (nomark _)))))
      (pss_cons (ps_ret pe_bl)
      pss_nil)
      pss_nil)
      (pss_cons (ps_if (PW.pt (pw_and (pt_cmpR op_gt (pv 3) pe_int (nomark _)) (pw_and1 (pt_cmpR op_gt (pv 4) pe_int (nomark _)))))
      (pss_cons (ps_set (i := 9) sc_cell_holds.nd rfl (.inl rfl) (pe_ifExp (pt_val (pe_call G_agree (hr.mono (by decide)) (by rfl) T.g_agree kp_agree b_agree .nil pass0 (pa_cons (pe_ix k_ixS (pv 1) (pe_op op_sub (pv 3) pe_int) (fun _ _ => rfl)) (pa_cons (pe_ix k_ixS (pv 2) (pe_op op_sub (pv 4) pe_int) (fun _ _ => rfl)) pa_nil)))) pe_int (pe_ix (ixT_ (K := K)) (pv 5) pe_int (fun _ _ => rfl))))
      (pss_cons (ps_if (pt_not (pt_val (pe_call G_bounded (hr.mono (by decide)) (by rfl) T.g_bounded kp_bounded b_bounded .nil pass0 (pa_cons (pv 6) (pa_cons (pv 3) (pa_cons (pv 4) (pa_cons (pe_call G_pair_bounds (hr.mono (by decide)) (by rfl) T.g_pair_bounds kp_pair_bounds b_pair_bounds .nil pass0 (pa_cons (pv 0) (pa_cons (pv 3) (pa_cons (pv 4) (pa_cons (pv 9) pa_nil))))) pa_nil)))))))
      (pss_cons (ps_ret pe_bl)
      pss_nil)
      pss_nil)
      pss_nil))
      pss_nil)
      (pss_cons (ps_if (PW.pt (pw_and (pt_cmpR op_gt (pv 3) pe_int (nomark _)) (pw_and1 (pt_not (pt_val (pe_call G_bounded (hr.mono (by decide)) (by rfl) T.g_bounded kp_bounded b_bounded .nil pass0 (pa_cons (pv 7) (pa_cons (pv 3) (pa_cons (pv 4) (pa_cons (pe_call G_extra_bounds (hr.mono (by decide)) (by rfl) T.g_extra_bounds kp_extra_bounds b_extra_bounds .nil pass0 (pa_cons (pv 0) (pa_cons (pv 3) (pa_cons (pv 4) (pa_cons (pv 5) pa_nil))))) pa_nil))))))))))
      (pss_cons (ps_ret pe_bl)
      pss_nil)
      pss_nil)
      (pss_cons (ps_ret (pe_or (pe_cmpR op_eq (pv 4) pe_int (nomark _)) (pe_one (pe_call G_bounded (hr.mono (by decide)) (by rfl) T.g_bounded kp_bounded b_bounded .nil pass0 (pa_cons (pv 8) (pa_cons (pv 3) (pa_cons (pv 4) (pa_cons (pe_call G_gap_bounds (hr.mono (by decide)) (by rfl) T.g_gap_bounds kp_gap_bounds b_gap_bounds .nil pass0 (pa_cons (pv 0) (pa_cons (pv 3) (pa_cons (pv 4) (pa_cons (pv 5) pa_nil))))) pa_nil))))))))
      pss_nil))))), ?_⟩
  refine fin_runX (E := (eC (sF (jT (yC (jL (jL jI)) (yC (jL (jL jI)) (y1 (jL (jL jI))))))) (eC (sF jS) (eC (sF jS) (eC (sF jI) (eC (sF jI) (eC (sF (jT (yC jI (yC jI (y1 jI))))) (eU (eU (eU (eU eN))))))))))) (E' := eN) (ae_C (ae_C (ae_C (ae_C (ae_C (ae_C (ae_U rfl (ae_U rfl (ae_U rfl (ae_U rfl ae_0)))))))))) (an_C (an_C (an_C (an_C (an_C (an_C an_0)))))) rfl ?S h rfl
  exact ⟨_, (ss_asgG (se_var g0) (sg_tup (K := K) (sgs_C (sg_name (pS (pS (pS (pS (pS (pS p0U))))))) (sgs_C (sg_name (pS (pS (pS (pS (pS (pS (pS p0U)))))))) (sgs_1 (sg_name (pS (pS (pS (pS (pS (pS (pS (pS p0U)))))))))))) (tz (tz tz1))) (ss_seq (ss_if (st_and (st_test (se_op (se_var (gS (gS (gS g0)))) se_int (s2_eqI))) (st_test (se_op (se_op (se_op (se_var (gS (gS (gS (gS (gS (gS g0))))))) se_int s2_ixL) (se_var (gS (gS (gS (gS g0))))) s2_ixL) se_int (s2_C0 (f := fun i j => decide (j < i)))))) (ss_seq (ss_ret se_bl) ss_nil) ss_nil) (ss_seq (ss_if (st_and (st_test (se_op (se_var (gS (gS (gS g0)))) se_int (s2_C0 (f := fun i j => decide (j < i))))) (st_test (se_op (se_var (gS (gS (gS (gS g0))))) se_int (s2_C0 (f := fun i j => decide (j < i)))))) (ss_asg (se_ifE (st_B (se_call (sa_cons (se_op (se_var (gS g0)) (se_op (se_var (gS (gS (gS g0)))) se_int (s2_I0 (f := fun i j => i - j))) s2_ixS) (sa_cons (se_op (se_var (gS (gS g0))) (se_op (se_var (gS (gS (gS (gS g0))))) se_int (s2_I0 (f := fun i j => i - j))) s2_ixS) sa_nil)))) se_int (se_ixT (K := K) (i := 0) (se_var (gS (gS (gS (gS (gS g0)))))) (tz (tz tz1)))) (pS (pS (pS (pS (pS (pS (pS (pS (pS p0U))))))))) (ss_seq (ss_if (st_not (st_B (se_call (sa_cons (se_var (gS (gS (gS (gS (gS (gS g0))))))) (sa_cons (se_var (gS (gS (gS g0)))) (sa_cons (se_var (gS (gS (gS (gS g0))))) (sa_cons (se_fz (se_call (sa_cons (se_var g0) (sa_cons (se_var (gS (gS (gS g0)))) (sa_cons (se_var (gS (gS (gS (gS g0))))) (sa_cons (se_var (gS (gS (gS (gS (gS (gS (gS (gS (gS g0)))))))))) sa_nil)))))) sa_nil))))))) (ss_seq (ss_ret se_bl) ss_nil) ss_nil) (ss_co (cK (cK (cK (cK (cK (cK (cK (cK (cK (cF cId))))))))))))) ss_nil) (ss_seq (ss_if (st_and (st_test (se_op (se_var (gS (gS (gS g0)))) se_int (s2_C0 (f := fun i j => decide (j < i))))) (st_not (st_B (se_call (sa_cons (se_var (gS (gS (gS (gS (gS (gS (gS g0)))))))) (sa_cons (se_var (gS (gS (gS g0)))) (sa_cons (se_var (gS (gS (gS (gS g0))))) (sa_cons (se_fz (se_call (sa_cons (se_var g0) (sa_cons (se_var (gS (gS (gS g0)))) (sa_cons (se_var (gS (gS (gS (gS g0))))) (sa_cons (se_var (gS (gS (gS (gS (gS g0)))))) sa_nil)))))) sa_nil)))))))) (ss_seq (ss_ret se_bl) ss_nil) ss_nil) (ss_seq (ss_ret (se_orV (se_op (se_var (gS (gS (gS (gS g0))))) se_int (s2_eqI)) (se_call (sa_cons (se_var (gS (gS (gS (gS (gS (gS (gS (gS g0))))))))) (sa_cons (se_var (gS (gS (gS g0)))) (sa_cons (se_var (gS (gS (gS (gS g0))))) (sa_cons (se_fz (se_call (sa_cons (se_var g0) (sa_cons (se_var (gS (gS (gS g0)))) (sa_cons (se_var (gS (gS (gS (gS g0))))) (sa_cons (se_var (gS (gS (gS (gS (gS g0)))))) sa_nil)))))) sa_nil))))))) ss_nil))))), by exact rfl⟩
end
end Lw
namespace Lw
open PySem PySem.Spec PyProof.Rows L2 Fw Mi
local macro_rules | `(tactic| walk_at "m") => `(tactic| simp only [pidx_one, pinS_one, pninS_one, W_some, W_none, W_ob, W_bind, W_pck, W_rb, W_fin, W_finN, W_T, W_F, W_Tr, W_Fa, Rw_nxt, Rw_ret, Rw_cnt, Rf_ret, Rf_nxt, RfN_ret, RfN_nxt, decide_true, decide_false, Bool.not_true, Bool.not_false])
theorem w_holds {rd tx : List Nat} {m rp i j : Nat} {s e : Int} {P Q' R : Nat → Nat → Int} {Q : Bool → Prop} (hn : rd.length ≤ 1000) (hm : m ≤ tx.length) (ht : tx.length ≤ 1000) (hi : i ≤ rd.length) (hj : j ≤ m)
    (q : ∀ b, (b = true ↔ Pp.Hd (fun i j => (wf rd tx rp i j : Int)) s e P Q' R i j) → Q b) :
    W (m_cell_holds (grid (rd.length + 1) (m + 1) P, grid (rd.length + 1) (m + 1) Q', grid (rd.length + 1) (m + 1) R) rd tx (i : Int) (j : Int) ((rp : Int), s, e)) Q := by
  have hz : ∀ k : Nat, k ≤ 4000 → k ≤ sz := fun k h => by unfold sz; omega
  generalize hw : (fun i j => (wf rd tx rp i j : Int)) = w at q
  have hpc : ∀ (M : Nat → Nat → Int) (a b : Nat), a ≤ rd.length → b ≤ m → (ob (pat (grid (rd.length + 1) (m + 1) M) (a : Int)) fun x => pat x (b : Int)) = some (M a b) := fun M a b ha hb => pcell_grid (by omega) (by omega)
  have l3 : ∀ (c1 c2 c3 : Prop) (i1 : Decidable c1) (i2 : Decidable c2) (i3 : Decidable c3) (x y z : Int), ((if c1 then [x] else []) ++ (if c2 then [y] else []) ++ (if c3 then [z] else [])).length ≤ sz := fun c1 c2 c3 _ _ _ x y z => by
    rw [List.length_append, List.length_append]
    have := one_le1 (c := c1) x
    have := one_le1 (c := c2) y
    have := one_le1 (c := c3) z
    exact hz _ (by omega)
  have nope : ¬ Pp.Hd w s e P Q' R i j → Q false := fun h => q false ⟨fun z => (nomatch z), fun z => absurd z h⟩
  unfold m_cell_holds
  walk_at "m"
  -- the first row
  refine W.mono (Q := fun b => b = decide (i = 0 ∧ 0 < P 0 j)) ?_ ?_
  · refine W_ifD (fun h => ?_) (fun h => ?_)
    · rw [show (0 : Int) = ((0 : Nat) : Int) from rfl, hpc P 0 j (Nat.zero_le _) hj]
      walk_at "m"
      rw [decide_eq_decide]
      omega
    · walk_at "m"
      rw [eq_comm, decide_eq_false_iff_not]
      omega
  rintro _ rfl
  refine W_ifD (fun h => ?_) (fun h => ?_)
  · walk_at "m"
    refine nope fun hh => ?_
    have := hh.1 0 (by unfold Pp.lP; rw [if_pos h.1]; exact List.mem_singleton.mpr rfl)
    rw [h.1] at this
    omega
  walk_at "m"
  refine W.mono (Q := fun b => b = decide (0 < i ∧ 0 < j)) ?_ ?_
  · refine W_ifD (fun h => ?_) (fun h => ?_)
    · walk_at "m"
      rw [decide_eq_decide]
      omega
    · walk_at "m"
      rw [eq_comm, decide_eq_false_iff_not]
      omega
  rintro _ rfl
  -- the pairs
  refine W.mono (Q := fun r => (r = Res.ret false ∧ ¬ ∀ b ∈ Pp.lP w P Q' R i j, P i j ≤ b) ∨ (r = Res.nxt ((grid (rd.length + 1) (m + 1) P, grid (rd.length + 1) (m + 1) Q', grid (rd.length + 1) (m + 1) R), rd, tx, (i : Int), (j : Int), ((rp : Int), s, e), grid (rd.length + 1) (m + 1) P, grid (rd.length + 1) (m + 1) Q', grid (rd.length + 1) (m + 1) R, ()) ∧ ∀ b ∈ Pp.lP w P Q' R i j, P i j ≤ b)) ?_ ?_
  · refine W_ifD (fun h1 => ?_) (fun h1 => ?_)
    · have g1 : rd[i - 1]? = some (rd.getD (i - 1) 0) := by rw [List.getD_eq_getElem?_getD, List.getElem?_eq_getElem (by omega)]; rfl
      have g2 : tx[j - 1]? = some (tx.getD (j - 1) 0) := by rw [List.getD_eq_getElem?_getD, List.getElem?_eq_getElem (by omega)]; rfl
      rw [show (i : Int) - 1 = ((i - 1 : Nat) : Int) by omega, show (j : Int) - 1 = ((j - 1 : Nat) : Int) by omega]
      rw [pixS_nat g1 (hz _ (by omega)), pixS_nat g2 (hz _ (by omega))]
      have elP : Pp.lP w P Q' R i j = Pp.bP w P Q' R i j := by unfold Pp.lP; rw [if_neg (by omega), if_pos h1.2]
      rw [elP]
      walk_at "m"
      rw [m_agree_eq]
      walk_at "m"
      refine W.mono (Q := fun v => v = w (i - 1) (j - 1)) ?_ ?_
      · rw [← hw]
        show W _ fun v => v = ((wf rd tx rp (i - 1) (j - 1) : Nat) : Int)
        unfold wf
        cases agr (rd.getD (i - 1) 0) (tx.getD (j - 1) 0) <;> walk_at "m" <;> simp
      rintro v hv
      refine w_pair (wf := w) hi hj h1.1 h1.2 hv ?_
      refine w_bounded hi hj (l3 _ _ _ _ _ _ _ _ _) ?_
      refine W_ifN (fun h => ?_) (fun h => ?_)
      · walk_at "m"
        exact .inl ⟨by trivial, h⟩
      · walk_at "m"
        exact .inr ⟨by trivial, h⟩
    · walk_at "m"
      refine .inr ⟨by trivial, fun b hb => ?_⟩
      unfold Pp.lP at hb
      split at hb
      · next i0 =>
        rw [List.mem_singleton.mp hb, i0]
        omega
      · split at hb
        · omega
        · cases hb
  rintro _ (⟨rfl, hn1⟩ | ⟨rfl, hp⟩)
  · walk_at "m"
    exact nope fun hh => hn1 hh.1
  walk_at "m"
  refine W.mono (Q := fun b => b = decide (¬ ∀ b ∈ Pp.lQ s e P Q' R i j, Q' i j ≤ b)) ?_ ?_
  · refine W_ifD (fun h1 => ?_) (fun h1 => ?_)
    · have el : Pp.lQ s e P Q' R i j = Pp.bQ s e P Q' R i j := by unfold Pp.lQ; rw [if_pos (by omega)]
      rw [el]
      walk_at "m"
      refine w_extra hi hj (by omega) ?_
      refine w_bounded hi hj (l3 _ _ _ _ _ _ _ _ _) ?_
      rw [decide_not]
    · walk_at "m"
      rw [eq_comm, decide_eq_false_iff_not]
      intro h
      refine h fun b hb => ?_
      unfold Pp.lQ at hb
      rw [if_neg (by omega)] at hb
      cases hb
  rintro _ rfl
  refine W_ifD (fun h => ?_) (fun hq => ?_)
  · walk_at "m"
    exact nope fun hh => h hh.2.1
  have hq := Classical.not_not.mp hq
  walk_at "m"
  refine W_ifD (fun h1 => ?_) (fun h1 => ?_)
  · walk_at "m"
    refine q true ⟨fun _ => ⟨hp, hq, fun b hb => ?_⟩, fun _ => rfl⟩
    unfold Pp.lR at hb
    rw [if_neg (by omega)] at hb
    cases hb
  · have el : Pp.lR s e P Q' R i j = Pp.bR s e P Q' R i j := by unfold Pp.lR; rw [if_pos (by omega)]
    walk_at "m"
    refine w_gap hi hj (by omega) ?_
    refine w_bounded hi hj (l3 _ _ _ _ _ _ _ _ _) ?_
    refine q _ ?_
    rw [decide_eq_true_iff, ← el]
    exact ⟨fun h => ⟨hp, hq, h⟩, fun h => h.2.2⟩

end Lw
/-! ### no paper that holds shows too much -/
namespace Pp
section
variable {w : Nat → Nat → Nat} {s e : Nat} {n m : Nat} {P Q R : Nat → Nat → Int}
theorem mn_mem {a b : Option Nat} {v : Nat} (h : Tb.mn a b = some v) : a = some v ∨ b = some v := by
  cases a with
  | none => exact .inr h
  | some a => cases b with
    | none => exact .inl h
    | some b =>
      have h : min a b = v := Option.some.inj h
      rcases Nat.le_total a b with z | z
      · left; rw [← h]; congr 1; omega
      · right; rw [← h]; congr 1; omega
theorem ad_some {a : Option Nat} {k v : Nat} (h : Tb.ad a k = some v) : ∃ u, a = some u ∧ v = u + k := by
  cases a with
  | none => cases h
  | some a => exact ⟨a, rfl, (Option.some.inj h).symm⟩
theorem open_mem {a b c : Option Nat} {v : Nat} (h : Tb.ad (Tb.mn (Tb.ad (Tb.mn a b) s) c) e = some v) : (∃ u, a = some u ∧ v = u + s + e) ∨ (∃ u, b = some u ∧ v = u + s + e) ∨ ∃ u, c = some u ∧ v = u + e := by
  obtain ⟨x, h1, rfl⟩ := ad_some h
  rcases mn_mem h1 with h2 | h2
  · obtain ⟨y, h3, rfl⟩ := ad_some h2
    rcases mn_mem h3 with h4 | h4
    · exact .inl ⟨y, h4, rfl⟩
    · exact .inr (.inl ⟨y, h4, rfl⟩)
  · exact .inr (.inr ⟨x, h2, rfl⟩)
theorem under (H : Hold n m (fun i j => (w i j : Int)) (s : Int) (e : Int) P Q R) : ∀ k i j, i + j = k → i ≤ n → j ≤ m →
    (∀ v, (Tb.T w s e i j).p = some v → P i j ≤ v) ∧ (∀ v, (Tb.T w s e i j).q = some v → Q i j ≤ v) ∧ ∀ v, (Tb.T w s e i j).r = some v → R i j ≤ v := by
  intro k
  induction k using Nat.strongRecOn with
  | ind k ih =>
    intro i j hk hi hj
    obtain ⟨hp, hq, hr⟩ := H i j hi hj
    refine ⟨fun v hv => ?_, fun v hv => ?_, fun v hv => ?_⟩
    · cases i with
      | zero =>
        rw [Tb.p0] at hv
        cases hv
        exact hp 0 (by unfold lP; rw [if_pos rfl]; exact List.mem_singleton.mpr rfl)
      | succ i => cases j with
        | zero => rw [Tb.p10] at hv; cases hv
        | succ j =>
          rw [Tb.p11] at hv
          obtain ⟨x, hx, rfl⟩ := ad_some hv
          obtain ⟨ip, iq, ir⟩ := ih (i + j) (by omega) i j rfl (by omega) (by omega)
          have hb : ∀ b ∈ bP (fun i j => (w i j : Int)) P Q R (i + 1) (j + 1), P (i + 1) (j + 1) ≤ b := fun b hb => hp b (by unfold lP; rw [if_neg (by omega), if_pos (by omega)]; exact hb)
          unfold bP at hb
          rw [show i + 1 - 1 = i by omega, show j + 1 - 1 = j by omega] at hb
          rcases mn_mem hx with hx | hx
          · rcases mn_mem hx with hx | hx
            · have c : i + 1 = 1 ∨ 1 < j + 1 := by
                cases i with
                | zero => exact .inl rfl
                | succ i => cases j with
                  | zero => rw [Tb.p10] at hx; cases hx
                  | succ j => right; omega
              have := hb (P i j + (w i j : Int)) (by rw [if_pos c]; simp)
              have := ip x hx
              omega
            · have c : 1 < i + 1 := by
                cases i with
                | zero => rw [Tb.q0] at hx; cases hx
                | succ i => omega
              have := hb (Q i j + (w i j : Int)) (by rw [if_pos c]; simp)
              have := iq x hx
              omega
          · have c : 1 < j + 1 := by
              cases j with
              | zero => rw [Tb.r0] at hx; cases hx
              | succ j => omega
            have := hb (R i j + (w i j : Int)) (by rw [if_pos c]; simp)
            have := ir x hx
            omega
    · cases i with
      | zero => rw [Tb.q0] at hv; cases hv
      | succ i =>
        rw [Tb.q1] at hv
        obtain ⟨ip, iq, ir⟩ := ih (i + j) (by omega) i j rfl (by omega) hj
        have hb : ∀ b ∈ bQ (s : Int) (e : Int) P Q R (i + 1) j, Q (i + 1) j ≤ b := fun b hb => hq b (by unfold lQ; rw [if_pos (by omega)]; exact hb)
        unfold bQ at hb
        rw [show i + 1 - 1 = i by omega] at hb
        rcases open_mem hv with ⟨u, hu, rfl⟩ | ⟨u, hu, rfl⟩ | ⟨u, hu, rfl⟩
        · have c : i + 1 = 1 ∨ 0 < j := by
            cases i with
            | zero => exact .inl rfl
            | succ i => cases j with
              | zero => rw [Tb.p10] at hu; cases hu
              | succ j => right; omega
          have := hb (P i j + ((s : Int) + (e : Int))) (by rw [if_pos c]; simp)
          have := ip u hu
          omega
        · have c : 0 < j := by
            cases j with
            | zero => rw [Tb.r0] at hu; cases hu
            | succ j => omega
          have := hb (R i j + ((s : Int) + (e : Int))) (by rw [if_pos c]; simp)
          have := ir u hu
          omega
        · have c : 1 < i + 1 := by
            cases i with
            | zero => rw [Tb.q0] at hu; cases hu
            | succ i => omega
          have := hb (Q i j + (e : Int)) (by rw [if_pos c]; simp)
          have := iq u hu
          omega
    · cases j with
      | zero => rw [Tb.r0] at hv; cases hv
      | succ j =>
        rw [Tb.r1] at hv
        obtain ⟨ip, iq, ir⟩ := ih (i + j) (by omega) i j rfl hi (by omega)
        have hb : ∀ b ∈ bR (s : Int) (e : Int) P Q R i (j + 1), R i (j + 1) ≤ b := fun b hb => hr b (by unfold lR; rw [if_pos (by omega)]; exact hb)
        unfold bR at hb
        rw [show j + 1 - 1 = j by omega] at hb
        rcases open_mem hv with ⟨u, hu, rfl⟩ | ⟨u, hu, rfl⟩ | ⟨u, hu, rfl⟩
        · have c : i = 0 ∨ 1 < j + 1 := by
            cases i with
            | zero => exact .inl rfl
            | succ i => cases j with
              | zero => rw [Tb.p10] at hu; cases hu
              | succ j => right; omega
          have := hb (P i j + ((s : Int) + (e : Int))) (by rw [if_pos c]; simp)
          have := ip u hu
          omega
        · have c : 0 < i := by
            cases i with
            | zero => rw [Tb.q0] at hu; cases hu
            | succ i => omega
          have := hb (Q i j + ((s : Int) + (e : Int))) (by rw [if_pos c]; simp)
          have := iq u hu
          omega
        · have c : 1 < j + 1 := by
            cases j with
            | zero => rw [Tb.r0] at hu; cases hu
            | succ j => omega
          have := hb (R i j + (e : Int)) (by rw [if_pos c]; simp)
          have := ir u hu
          omega
theorem shw_le {c : Nat} (hn : 0 < n) (H : Hold n m (fun i j => (w i j : Int)) (s : Int) (e : Int) P Q R) (h : Tb.best (Tb.T w s e n m) = some c) : shw n m P Q R ≤ (c : Int) := by
  obtain ⟨ip, iq, ir⟩ := under H (n + m) n m rfl (Nat.le_refl _) (Nat.le_refl _)
  obtain ⟨n, rfl⟩ : ∃ k, n = k + 1 := ⟨n - 1, by omega⟩
  have h : Tb.mn (Tb.mn _ _) _ = some c := h
  unfold shw
  split
  · next m0 =>
    subst m0
    rw [Tb.p10, Tb.r0] at h
    rcases mn_mem h with h | h
    · rcases mn_mem h with h | h
      · cases h
      · exact iq c h
    · cases h
  · rcases mn_mem h with h | h
    · rcases mn_mem h with h | h
      · have := ip c h
        omega
      · have := iq c h
        omega
    · have := ir c h
      omega
end
end Pp

namespace Lw
open PySem PySem.Spec PyProof.Rows L2 Fw Mi
section
variable {P : Program} {w : World} {K : PySem.W.Frag} {mg : Str → Option Value} {base : Heap}
noncomputable def m_shown (read : (List Nat)) (text : (List Nat)) (end_ : Int) (costs : (Int × Int × Int)) (told : ((List (List Int)) × (List (List Int)) × (List (List Int)))) : Option (Option Int) := fin (κ := Unit) (ρ := Unit) (ob (pck (read.length ≤ sz) (read.length : Int)) fun count => rb (forR (fun (x_ : (List (List Int))) (γ : ((List Nat) × (List Nat) × Int × (Int × Int × Int) × ((List (List Int)) × (List (List Int)) × (List (List Int))) × Int × Unit)) => let table := x_; let read := γ.1; let text := γ.2.1; let end_ := γ.2.2.1; let costs := γ.2.2.2.1; let told := γ.2.2.2.2.1; let count := γ.2.2.2.2.2.1; rb ((ob (ob (m_sized table count end_) fun x1 => some (!x1)) fun b2 => if b2 = true then (rb (some (.ret none)) fun γ => some (.nxt γ)) else (some (.nxt (read, text, end_, costs, told, count, table, ()))))) fun γ => let read := γ.1; let text := γ.2.1; let end_ := γ.2.2.1; let costs := γ.2.2.2.1; let told := γ.2.2.2.2.1; let count := γ.2.2.2.2.2.1; some (.nxt (read, text, end_, costs, told, count, ()))) [told.1, told.2.1, told.2.2] (read, text, end_, costs, told, count, ())) fun γ => let read := γ.1; let text := γ.2.1; let end_ := γ.2.2.1; let costs := γ.2.2.2.1; let told := γ.2.2.2.2.1; let count := γ.2.2.2.2.2.1; rb (ob (pck (-4611686018427387904 ≤ (count + (1 : Int)) ∧ (count + (1 : Int)) < 4611686018427387904) (prange (count + (1 : Int)))) fun xs30 => (forR (fun (x_ : Int) (γ : ((List Nat) × (List Nat) × Int × (Int × Int × Int) × ((List (List Int)) × (List (List Int)) × (List (List Int))) × Int × Unit)) => let i := x_; let read := γ.1; let text := γ.2.1; let end_ := γ.2.2.1; let costs := γ.2.2.2.1; let told := γ.2.2.2.2.1; let count := γ.2.2.2.2.2.1; rb (ob (pck (-4611686018427387904 ≤ (end_ + (1 : Int)) ∧ (end_ + (1 : Int)) < 4611686018427387904) (prange (end_ + (1 : Int)))) fun xs5 => (forR (fun (x_ : Int) (γ : ((List Nat) × (List Nat) × Int × (Int × Int × Int) × ((List (List Int)) × (List (List Int)) × (List (List Int))) × Int × Int × Unit)) => let j := x_; let read := γ.1; let text := γ.2.1; let end_ := γ.2.2.1; let costs := γ.2.2.2.1; let told := γ.2.2.2.2.1; let count := γ.2.2.2.2.2.1; let i := γ.2.2.2.2.2.2.1; rb ((ob (ob (m_cell_holds told read text i j costs) fun x3 => some (!x3)) fun b4 => if b4 = true then (rb (some (.ret none)) fun γ => some (.nxt γ)) else (some (.nxt (read, text, end_, costs, told, count, i, j, ()))))) fun γ => let read := γ.1; let text := γ.2.1; let end_ := γ.2.2.1; let costs := γ.2.2.2.1; let told := γ.2.2.2.2.1; let count := γ.2.2.2.2.2.1; let i := γ.2.2.2.2.2.2.1; some (.nxt (read, text, end_, costs, told, count, i, ()))) xs5 (read, text, end_, costs, told, count, i, ()))) fun γ => let read := γ.1; let text := γ.2.1; let end_ := γ.2.2.1; let costs := γ.2.2.2.1; let told := γ.2.2.2.2.1; let count := γ.2.2.2.2.2.1; some (.nxt (read, text, end_, costs, told, count, ()))) xs30 (read, text, end_, costs, told, count, ()))) fun γ => let read := γ.1; let text := γ.2.1; let end_ := γ.2.2.1; let costs := γ.2.2.2.1; let told := γ.2.2.2.2.1; let count := γ.2.2.2.2.2.1; rb (if (decide (end_ = (0 : Int))) = true then (rb (ob (ob (ob (pat told.2.1 count) fun x8 => (pat x8 (0 : Int))) fun x => some (some x)) fun r9 => some (.ret r9)) fun γ => some (.nxt γ)) else (some (.nxt (read, text, end_, costs, told, count, ())))) fun γ => let end_ := γ.2.2.1; let told := γ.2.2.2.2.1; let count := γ.2.2.2.2.2.1; rb (ob (ob (ob (ob (ob (pat told.1 count) fun x20 => (pat x20 end_)) fun x26 => (ob (ob (ob (pat told.2.1 count) fun x21 => (pat x21 end_)) fun x24 => (ob (ob (ob (pat told.2.2 count) fun x22 => (pat x22 end_)) fun x23 => some (x23, ())) fun r25 => some (x24, r25))) fun r27 => some (x26, r27))) fun z28 => some (min (min z28.1 z28.2.1) z28.2.2.1)) fun x => some (some x)) fun r29 => some (.ret r29)) fun γ => some (.nxt γ))
abbrev sp_shown (K : PySem.W.Frag) : Sp := spM (aC jS (aC jS (aC jI (aC (jT (yC jI (yC jI (y1 jI)))) (aC (jT (yC (jL (jL jI)) (yC (jL (jL jI)) (y1 (jL (jL jI)))))) aN))))) (sF (jO jI)) (fun γ => m_shown γ.1 γ.2.1 γ.2.2.1 γ.2.2.2.1 γ.2.2.2.2.1)
theorem ok_shown (T : Tx w K mg) : Dn P w K mg base 3 (He.ga K "shown") ["read", "text", "end", "costs", "told"] (sp_shown K) := by
  obtain ⟨fd_sized, G_sized, b_sized, kp_sized, _⟩ := ok_sized (P := P) (w := w) (base := base) T
  obtain ⟨fd_cell_holds, G_cell_holds, b_cell_holds, kp_cell_holds, _⟩ := ok_cell_holds (P := P) (w := w) (base := base) T
  refine dn_mk T.d_shown sc_shown (fun _ _ _ _ _ _ us hl => match us, hl with | [_, _, _, _, _], _ => rfl) (spM_len (an_C (an_C (an_C (an_C (an_C an_0)))))) fun cdv A outer s H vs Q E hr h => ?_
  refine ⟨_, (pss_cons (ps_set (i := 5) sc_shown.nd rfl (.inl rfl) (pe_callB k_lenS (by rfl) T.z_len (by decide +kernel) (pa_cons (pv 0) pa_nil)))
      (pss_cons (ps_for PassesOwn.never rfl (iT_ (K := K) (pv 4)) (pg_name (i := 6) sc_shown.nd rfl (.inl rfl))
      (pss_cons (ps_if (pt_not (pt_val (pe_call G_sized (hr.mono (by decide)) (by rfl) T.g_sized kp_sized b_sized .nil pass0 (pa_cons (pv 6) (pa_cons (pv 5) (pa_cons (pv 2) pa_nil))))))
      (pss_cons (ps_ret pe_non)
      pss_nil)
      pss_nil)
      pss_nil))
      (pss_cons (ps_for PassesOwn.never rfl (pi_range1 (by rfl) T.z_range (pa_cons (pe_op op_add (pv 5) pe_int) pa_nil)) (pg_name (i := 7) sc_shown.nd rfl (.inl rfl))
      (pss_cons (ps_for PassesOwn.never rfl (pi_range1 (by rfl) T.z_range (pa_cons (pe_op op_add (pv 2) pe_int) pa_nil)) (pg_name (i := 8) sc_shown.nd rfl (.inl rfl))
      (pss_cons (ps_if (pt_not (pt_val (pe_call G_cell_holds (hr.mono (by decide)) (by rfl) T.g_cell_holds kp_cell_holds b_cell_holds .nil pass0 (pa_cons (pv 4) (pa_cons (pv 0) (pa_cons (pv 1) (pa_cons (pv 7) (pa_cons (pv 8) (pa_cons (pv 3) pa_nil)))))))))
      (pss_cons (ps_ret pe_non)
      pss_nil)
      pss_nil)
      pss_nil))
      pss_nil))
      (pss_cons (ps_if (pt_cmpR op_eq (pv 2) pe_int (nomark _))
      (pss_cons (ps_ret (pe_ix (ixL_ (K := K)) (pe_ix (ixL_ (K := K)) (pe_ix (ixT_ (K := K)) (pv 4) pe_int (fun _ _ => rfl)) (pv 5) (fun _ _ => rfl)) pe_int (fun _ _ => rfl)))
      pss_nil)
      pss_nil)
      (pss_cons (ps_ret (pe_callB (min3_ rfl) (by rfl) T.z_min (by decide +kernel) (pa_cons (pe_ix (ixL_ (K := K)) (pe_ix (ixL_ (K := K)) (pe_ix (ixT_ (K := K)) (pv 4) pe_int (fun _ _ => rfl)) (pv 5) (fun _ _ => rfl)) (pv 2) (fun _ _ => rfl)) (pa_cons (pe_ix (ixL_ (K := K)) (pe_ix (ixL_ (K := K)) (pe_ix (ixT_ (K := K)) (pv 4) pe_int (fun _ _ => rfl)) (pv 5) (fun _ _ => rfl)) (pv 2) (fun _ _ => rfl)) (pa_cons (pe_ix (ixL_ (K := K)) (pe_ix (ixL_ (K := K)) (pe_ix (ixT_ (K := K)) (pv 4) pe_int (fun _ _ => rfl)) (pv 5) (fun _ _ => rfl)) (pv 2) (fun _ _ => rfl)) pa_nil)))))
      pss_nil))))), ?_⟩
  refine fin_runX (E := (eC (sF jS) (eC (sF jS) (eC (sF jI) (eC (sF (jT (yC jI (yC jI (y1 jI))))) (eC (sF (jT (yC (jL (jL jI)) (yC (jL (jL jI)) (y1 (jL (jL jI))))))) (eU (eU (eU (eU eN)))))))))) (E' := eN) (ae_C (ae_C (ae_C (ae_C (ae_C (ae_U rfl (ae_U rfl (ae_U rfl (ae_U rfl ae_0))))))))) (an_C (an_C (an_C (an_C (an_C an_0))))) rfl ?S h rfl
  exact ⟨_, (ss_asg (se_cb (sa_cons (se_var g0) sa_nil) sc_lenS) (pS (pS (pS (pS (pS p0U))))) (ss_seq (ss_for (si_tup (se_var (gS (gS (gS (gS g0))))) (tlC (tlC tl1))) (sg_name (pS (pS (pS (pS (pS (pS p0U))))))) (ss_seq (ss_if (st_not (st_B (se_call (sa_cons (se_var (gS (gS (gS (gS (gS (gS g0))))))) (sa_cons (se_var (gS (gS (gS (gS (gS g0)))))) (sa_cons (se_var (gS (gS g0))) sa_nil)))))) (ss_seq (ss_ret se_nonOp) ss_nil) ss_nil) (ss_co (cK (cK (cK (cK (cK (cK (cF cId)))))))))) (ss_seq (ss_for (si_r1 (sa_cons (se_op (se_var (gS (gS (gS (gS (gS g0)))))) se_int (s2_I0 (f := fun i j => i + j))) sa_nil)) (sg_name (pS (pS (pS (pS (pS (pS (pU p0U)))))))) (ss_seq (ss_for (si_r1 (sa_cons (se_op (se_var (gS (gS g0))) se_int (s2_I0 (f := fun i j => i + j))) sa_nil)) (sg_name (pS (pS (pS (pS (pS (pS (pU (pS p0U))))))))) (ss_seq (ss_if (st_not (st_B (se_call (sa_cons (se_var (gS (gS (gS (gS g0))))) (sa_cons (se_var g0) (sa_cons (se_var (gS g0)) (sa_cons (se_var (gS (gS (gS (gS (gS (gS (gU g0)))))))) (sa_cons (se_var (gS (gS (gS (gS (gS (gS (gU (gS g0))))))))) (sa_cons (se_var (gS (gS (gS g0)))) sa_nil))))))))) (ss_seq (ss_ret se_nonOp) ss_nil) ss_nil) (ss_co (cK (cK (cK (cK (cK (cK (cU (cK (cF cId)))))))))))) (ss_co (cK (cK (cK (cK (cK (cK (cU (cF cId))))))))))) (ss_seq (ss_if (st_test (se_op (se_var (gS (gS g0))) se_int (s2_eqI))) (ss_seq (ss_ret (se_toOp (se_op (se_op (se_ixT (K := K) (i := 1) (se_var (gS (gS (gS (gS g0))))) (ts (tz tz1))) (se_var (gS (gS (gS (gS (gS g0)))))) s2_ixL) se_int s2_ixL))) ss_nil) ss_nil) (ss_seq (ss_ret (se_toOp (se_cb (sa_cons (se_op (se_op (se_ixT (K := K) (i := 0) (se_var (gS (gS (gS (gS g0))))) (tz (tz tz1))) (se_var (gS (gS (gS (gS (gS g0)))))) s2_ixL) (se_var (gS (gS g0))) s2_ixL) (sa_cons (se_op (se_op (se_ixT (K := K) (i := 1) (se_var (gS (gS (gS (gS g0))))) (ts (tz tz1))) (se_var (gS (gS (gS (gS (gS g0)))))) s2_ixL) (se_var (gS (gS g0))) s2_ixL) (sa_cons (se_op (se_op (se_ixT (K := K) (i := 2) (se_var (gS (gS (gS (gS g0))))) (ts (ts tz1))) (se_var (gS (gS (gS (gS (gS g0)))))) s2_ixL) (se_var (gS (gS g0))) s2_ixL) sa_nil))) sc_min3))) ss_nil))))), by exact rfl⟩
end
end Lw
namespace Lw
open PySem PySem.Spec PyProof.Rows L2 Fw Mi
local macro_rules | `(tactic| walk_at "m") => `(tactic| simp only [pidx_one, pinS_one, pninS_one, W_some, W_none, W_ob, W_bind, W_pck, W_rb, W_fin, W_finN, W_T, W_F, W_Tr, W_Fa, Rw_nxt, Rw_ret, Rw_cnt, Rf_ret, Rf_nxt, RfN_ret, RfN_nxt, decide_true, decide_false, Bool.not_true, Bool.not_false])
theorem w_shown {rd tx : List Nat} {m rp : Nat} {s e : Int} {P Q' R : Nat → Nat → Int} {Q : Option Int → Prop} (hn : rd.length ≤ 1000) (hm : m ≤ tx.length) (ht : tx.length ≤ 1000)
    (yes : Pp.Hold rd.length m (fun i j => (wf rd tx rp i j : Int)) s e P Q' R → Q (some (Pp.shw rd.length m P Q' R))) (no : ¬ Pp.Hold rd.length m (fun i j => (wf rd tx rp i j : Int)) s e P Q' R → Q none) :
    W (m_shown rd tx (m : Int) ((rp : Int), s, e) (grid (rd.length + 1) (m + 1) P, grid (rd.length + 1) (m + 1) Q', grid (rd.length + 1) (m + 1) R)) Q := by
  have hz : ∀ k : Nat, k ≤ 4000 → k ≤ sz := fun k h => by unfold sz; omega
  have hpc : ∀ (M : Nat → Nat → Int) (a b : Nat), a ≤ rd.length → b ≤ m → (ob (pat (grid (rd.length + 1) (m + 1) M) (a : Int)) fun x => pat x (b : Int)) = some (M a b) := fun M a b ha hb => pcell_grid (by omega) (by omega)
  have hgz : ∀ M : Nat → Nat → Int, Szd rd.length m (grid (rd.length + 1) (m + 1) M) := fun M => ⟨grid_len .., fun r hr => by
    unfold grid at hr
    obtain ⟨i, _, rfl⟩ := List.mem_map.mp hr
    rw [List.length_map, List.length_range]⟩
  unfold m_shown
  walk_at "m"
  refine ⟨hz _ (by omega), ?_⟩
  refine W_for (fun _ γ => γ = (rd, tx, (m : Int), ((rp : Int), s, e), (grid (rd.length + 1) (m + 1) P, grid (rd.length + 1) (m + 1) Q', grid (rd.length + 1) (m + 1) R), (rd.length : Int), ())) rfl ?_ ?_
  · rintro k x γ hx rfl
    obtain ⟨M, rfl⟩ : ∃ M, x = grid (rd.length + 1) (m + 1) M := by
      have := List.mem_of_getElem? hx
      simp only [List.mem_cons, List.not_mem_nil, or_false] at this
      rcases this with h | h | h <;> exact ⟨_, h⟩
    walk_at "m"
    refine w_sized (hz _ (by rw [grid_len]; omega)) ?_
    rw [decide_eq_true (hgz M)]
    walk_at "m"
  rintro γ rfl
  walk_at "m"
  refine ⟨by omega, ?_⟩
  refine W_for (fun i γ => γ = (rd, tx, (m : Int), ((rp : Int), s, e), (grid (rd.length + 1) (m + 1) P, grid (rd.length + 1) (m + 1) Q', grid (rd.length + 1) (m + 1) R), (rd.length : Int), ()) ∧
    ∀ i' j', i' < i → j' ≤ m → Pp.Hd (fun i j => (wf rd tx rp i j : Int)) s e P Q' R i' j') ⟨rfl, fun _ _ h => by omega⟩ ?_ ?_
  · rintro i x γ hx ⟨rfl, hI⟩
    obtain ⟨rfl, hi⟩ := prange_get hx
    walk_at "m"
    refine ⟨by omega, ?_⟩
    refine W_for (fun j γ => γ = (rd, tx, (m : Int), ((rp : Int), s, e), (grid (rd.length + 1) (m + 1) P, grid (rd.length + 1) (m + 1) Q', grid (rd.length + 1) (m + 1) R), (rd.length : Int), (i : Int), ()) ∧
      ∀ j', j' < j → Pp.Hd (fun i j => (wf rd tx rp i j : Int)) s e P Q' R i j') ⟨rfl, fun _ h => by omega⟩ ?_ ?_
    · rintro j x γ hx ⟨rfl, hJ⟩
      obtain ⟨rfl, hj⟩ := prange_get hx
      have hin : i ≤ rd.length := by omega
      have hjm : j ≤ m := by omega
      walk_at "m"
      refine w_holds hn hm ht hin hjm fun b hb => ?_
      cases b with
      | false =>
        walk_at "m"
        exact no fun hh => by
          have := hb.mpr (hh i j hin hjm)
          cases this
      | true =>
        walk_at "m"
        refine ⟨by trivial, fun j' hj' => ?_⟩
        by_cases e1 : j' = j
        · rw [e1]
          exact hb.mp rfl
        · exact hJ j' (by omega)
    · rintro γ ⟨rfl, hJ⟩
      rw [prange_len] at hJ
      walk_at "m"
      refine ⟨by trivial, fun i' j' hi' hj' => ?_⟩
      by_cases e1 : i' = i
      · rw [e1]
        exact hJ j' (by omega)
      · exact hI i' j' (by omega) hj'
  · rintro γ ⟨rfl, hI⟩
    rw [prange_len] at hI
    have hold : Pp.Hold rd.length m (fun i j => (wf rd tx rp i j : Int)) s e P Q' R := fun i j hi hj => hI i j (by omega) hj
    have hy := yes hold
    unfold Pp.shw at hy
    walk_at "m"
    refine W_ifD (fun h => ?_) (fun h => ?_)
    · rw [if_pos (show m = 0 by omega)] at hy
      have := hpc Q' rd.length 0 (Nat.le_refl _) (Nat.zero_le _)
      walk_at "m"
      rw [← W_ob]
      exact W_of this hy
    · rw [if_neg (show ¬ m = 0 by omega)] at hy
      walk_at "m"
      rw [← W_ob]
      refine W_of (hpc P rd.length m (Nat.le_refl _) (Nat.le_refl _)) ?_
      rw [← W_ob]
      refine W_of (hpc Q' rd.length m (Nat.le_refl _) (Nat.le_refl _)) ?_
      rw [← W_ob]
      exact W_of (hpc R rd.length m (Nat.le_refl _) (Nat.le_refl _)) hy
/-- tables of wrong sizes -/
theorem w_shown_bad {rd tx : List Nat} {m rp : Nat} {s e : Int} {A B C : List (List Int)} {Q : Option Int → Prop} (hn : rd.length ≤ 1000) (hl : ∀ t ∈ [A, B, C], t.length ≤ sz) (hb : ¬ ∀ t ∈ [A, B, C], Szd rd.length m t) (q : Q none) :
    W (m_shown rd tx (m : Int) ((rp : Int), s, e) (A, B, C)) Q := by
  have hz : ∀ k : Nat, k ≤ 4000 → k ≤ sz := fun k h => by unfold sz; omega
  unfold m_shown
  walk_at "m"
  refine ⟨hz _ (by omega), ?_⟩
  refine W_for (fun k γ => γ = (rd, tx, (m : Int), ((rp : Int), s, e), (A, B, C), (rd.length : Int), ()) ∧ ∀ k' t, k' < k → [A, B, C][k']? = some t → Szd rd.length m t) ⟨rfl, fun _ _ h => by omega⟩ ?_ ?_
  · rintro k x γ hx ⟨rfl, hI⟩
    walk_at "m"
    refine w_sized (hl _ (List.mem_of_getElem? hx)) ?_
    by_cases h : Szd rd.length m x
    · rw [decide_eq_true h]
      walk_at "m"
      refine ⟨by trivial, fun k' t hk ht => ?_⟩
      by_cases e1 : k' = k
      · rw [e1, hx] at ht
        cases ht
        exact h
      · exact hI k' t (by omega) ht
    · rw [decide_eq_false h]
      walk_at "m"
      exact q
  · rintro γ ⟨rfl, hI⟩
    refine absurd (fun t ht => ?_) hb
    obtain ⟨k, hk⟩ := List.mem_iff_getElem?.mp ht
    exact hI k t (List.getElem?_eq_some_iff.mp hk).1 hk

end Lw
namespace Lw
open PySem PySem.Spec PyProof.Rows L2 Fw Mi
section
variable {P : Program} {w : World} {K : PySem.W.Frag} {mg : Str → Option Value} {base : Heap}
noncomputable def m_law_cell_bounds (p : (List (List Int))) (q : (List (List Int))) (r : (List (List Int))) (i : Int) (j : Int) (w : Int) (open_cost : Int) (each : Int) : Option ((List Int) × (List Int) × (List Int)) := fin (κ := Unit) (ρ := Unit) (ob (pck (([] : List Int).length ≤ sz) []) fun pair => ob (pck (([] : List Int).length ≤ sz) []) fun extra => ob (pck (([] : List Int).length ≤ sz) []) fun gap => rb ((ob (if (decide ((0 : Int) < i)) = true then (some (decide ((0 : Int) < j))) else some false) fun b20 => if b20 = true then (ob (ob (ob (ob (ob (ob (if (decide (i = (1 : Int))) = true then some true else (some (decide ((1 : Int) < j)))) fun x1 => some (x1, ())) fun z2 => some (if z2.1 = true then (1 : Int) else 0)) fun x3 => some (x3, ())) fun z4 => (pck (-4611686018427387904 ≤ z4.1 ∧ z4.1 < 4611686018427387904) (prange z4.1))) fun xs8 => (ob (lcM (fun c5 => (ob (ob (pat p (i - (1 : Int))) fun x6 => (pat x6 (j - (1 : Int)))) fun x7 => some (x7 + w))) xs8) fun r => pck (r.length ≤ sz) r)) fun pair => ob (ob (ob (ob (pck (-4611686018427387904 ≤ (if (decide ((1 : Int) < i)) = true then (1 : Int) else 0) ∧ (if (decide ((1 : Int) < i)) = true then (1 : Int) else 0) < 4611686018427387904) (prange (if (decide ((1 : Int) < i)) = true then (1 : Int) else 0))) fun xs12 => (ob (lcM (fun c9 => (ob (ob (pat q (i - (1 : Int))) fun x10 => (pat x10 (j - (1 : Int)))) fun x11 => some (x11 + w))) xs12) fun r => pck (r.length ≤ sz) r)) fun y13 => (pck (pair.length + y13.length ≤ sz) (pair ++ y13))) fun x18 => (ob (ob (pck (-4611686018427387904 ≤ (if (decide ((1 : Int) < j)) = true then (1 : Int) else 0) ∧ (if (decide ((1 : Int) < j)) = true then (1 : Int) else 0) < 4611686018427387904) (prange (if (decide ((1 : Int) < j)) = true then (1 : Int) else 0))) fun xs17 => (ob (lcM (fun c14 => (ob (ob (pat r (i - (1 : Int))) fun x15 => (pat x15 (j - (1 : Int)))) fun x16 => some (x16 + w))) xs17) fun r => pck (r.length ≤ sz) r)) fun y19 => (pck (x18.length + y19.length ≤ sz) (x18 ++ y19)))) fun pair => some (.nxt (p, q, r, i, j, w, open_cost, each, pair, extra, gap, ()))) else (some (.nxt (p, q, r, i, j, w, open_cost, each, pair, extra, gap, ()))))) fun γ => let p := γ.1; let q := γ.2.1; let r := γ.2.2.1; let i := γ.2.2.2.1; let j := γ.2.2.2.2.1; let w := γ.2.2.2.2.2.1; let open_cost := γ.2.2.2.2.2.2.1; let each := γ.2.2.2.2.2.2.2.1; let pair := γ.2.2.2.2.2.2.2.2.1; let extra := γ.2.2.2.2.2.2.2.2.2.1; let gap := γ.2.2.2.2.2.2.2.2.2.2.1; rb (if (decide ((0 : Int) < i)) = true then (ob (ob (ob (ob (ob (ob (if (decide (i = (1 : Int))) = true then some true else (some (decide ((0 : Int) < j)))) fun x21 => some (x21, ())) fun z22 => some (if z22.1 = true then (1 : Int) else 0)) fun x23 => some (x23, ())) fun z24 => (pck (-4611686018427387904 ≤ z24.1 ∧ z24.1 < 4611686018427387904) (prange z24.1))) fun xs28 => (ob (lcM (fun c25 => (ob (ob (pat p (i - (1 : Int))) fun x26 => (pat x26 j)) fun x27 => some (x27 + open_cost))) xs28) fun r => pck (r.length ≤ sz) r)) fun extra => ob (ob (ob (ob (pck (-4611686018427387904 ≤ (if (decide ((0 : Int) < j)) = true then (1 : Int) else 0) ∧ (if (decide ((0 : Int) < j)) = true then (1 : Int) else 0) < 4611686018427387904) (prange (if (decide ((0 : Int) < j)) = true then (1 : Int) else 0))) fun xs32 => (ob (lcM (fun c29 => (ob (ob (pat r (i - (1 : Int))) fun x30 => (pat x30 j)) fun x31 => some (x31 + open_cost))) xs32) fun r => pck (r.length ≤ sz) r)) fun y33 => (pck (extra.length + y33.length ≤ sz) (extra ++ y33))) fun x38 => (ob (ob (pck (-4611686018427387904 ≤ (if (decide ((1 : Int) < i)) = true then (1 : Int) else 0) ∧ (if (decide ((1 : Int) < i)) = true then (1 : Int) else 0) < 4611686018427387904) (prange (if (decide ((1 : Int) < i)) = true then (1 : Int) else 0))) fun xs37 => (ob (lcM (fun c34 => (ob (ob (pat q (i - (1 : Int))) fun x35 => (pat x35 j)) fun x36 => some (x36 + each))) xs37) fun r => pck (r.length ≤ sz) r)) fun y39 => (pck (x38.length + y39.length ≤ sz) (x38 ++ y39)))) fun extra => some (.nxt (p, q, r, i, j, w, open_cost, each, pair, extra, gap, ()))) else (some (.nxt (p, q, r, i, j, w, open_cost, each, pair, extra, gap, ())))) fun γ => let p := γ.1; let q := γ.2.1; let r := γ.2.2.1; let i := γ.2.2.2.1; let j := γ.2.2.2.2.1; let w := γ.2.2.2.2.2.1; let open_cost := γ.2.2.2.2.2.2.1; let each := γ.2.2.2.2.2.2.2.1; let pair := γ.2.2.2.2.2.2.2.2.1; let extra := γ.2.2.2.2.2.2.2.2.2.1; let gap := γ.2.2.2.2.2.2.2.2.2.2.1; rb (if (decide ((0 : Int) < j)) = true then (ob (ob (ob (ob (ob (ob (if (decide (i = (0 : Int))) = true then some true else (some (decide ((1 : Int) < j)))) fun x40 => some (x40, ())) fun z41 => some (if z41.1 = true then (1 : Int) else 0)) fun x42 => some (x42, ())) fun z43 => (pck (-4611686018427387904 ≤ z43.1 ∧ z43.1 < 4611686018427387904) (prange z43.1))) fun xs47 => (ob (lcM (fun c44 => (ob (ob (pat p i) fun x45 => (pat x45 (j - (1 : Int)))) fun x46 => some (x46 + open_cost))) xs47) fun r => pck (r.length ≤ sz) r)) fun gap => ob (ob (ob (ob (pck (-4611686018427387904 ≤ (if (decide ((0 : Int) < i)) = true then (1 : Int) else 0) ∧ (if (decide ((0 : Int) < i)) = true then (1 : Int) else 0) < 4611686018427387904) (prange (if (decide ((0 : Int) < i)) = true then (1 : Int) else 0))) fun xs51 => (ob (lcM (fun c48 => (ob (ob (pat q i) fun x49 => (pat x49 (j - (1 : Int)))) fun x50 => some (x50 + open_cost))) xs51) fun r => pck (r.length ≤ sz) r)) fun y52 => (pck (gap.length + y52.length ≤ sz) (gap ++ y52))) fun x57 => (ob (ob (pck (-4611686018427387904 ≤ (if (decide ((1 : Int) < j)) = true then (1 : Int) else 0) ∧ (if (decide ((1 : Int) < j)) = true then (1 : Int) else 0) < 4611686018427387904) (prange (if (decide ((1 : Int) < j)) = true then (1 : Int) else 0))) fun xs56 => (ob (lcM (fun c53 => (ob (ob (pat r i) fun x54 => (pat x54 (j - (1 : Int)))) fun x55 => some (x55 + each))) xs56) fun r => pck (r.length ≤ sz) r)) fun y58 => (pck (x57.length + y58.length ≤ sz) (x57 ++ y58)))) fun gap => some (.nxt (p, q, r, i, j, w, open_cost, each, pair, extra, gap, ()))) else (some (.nxt (p, q, r, i, j, w, open_cost, each, pair, extra, gap, ())))) fun γ => let p := γ.1; let q := γ.2.1; let r := γ.2.2.1; let i := γ.2.2.2.1; let j := γ.2.2.2.2.1; let w := γ.2.2.2.2.2.1; let open_cost := γ.2.2.2.2.2.2.1; let each := γ.2.2.2.2.2.2.2.1; let pair := γ.2.2.2.2.2.2.2.2.1; let extra := γ.2.2.2.2.2.2.2.2.2.1; let gap := γ.2.2.2.2.2.2.2.2.2.2.1; rb (if (decide (i = (0 : Int))) = true then (ob (pck (([(0 : Int)] : List Int).length ≤ sz) [(0 : Int)]) fun pair => some (.nxt (p, q, r, i, j, w, open_cost, each, pair, extra, gap, ()))) else (some (.nxt (p, q, r, i, j, w, open_cost, each, pair, extra, gap, ())))) fun γ => let pair := γ.2.2.2.2.2.2.2.2.1; let extra := γ.2.2.2.2.2.2.2.2.2.1; let gap := γ.2.2.2.2.2.2.2.2.2.2.1; rb (some (.ret (pair, extra, gap))) fun γ => some (.nxt γ))
abbrev sp_law_cell_bounds (K : PySem.W.Frag) : Sp := spM (aC (jL (jL jI)) (aC (jL (jL jI)) (aC (jL (jL jI)) (aC jI (aC jI (aC jI (aC jI (aC jI aN)))))))) (sF (jT (yC (jL jI) (yC (jL jI) (y1 (jL jI)))))) (fun γ => m_law_cell_bounds γ.1 γ.2.1 γ.2.2.1 γ.2.2.2.1 γ.2.2.2.2.1 γ.2.2.2.2.2.1 γ.2.2.2.2.2.2.1 γ.2.2.2.2.2.2.2.1)
theorem ok_law_cell_bounds (T : Tx w K mg) : Dn P w K mg base 1 (He.ga K "_law_cell_bounds") ["_law_p", "_law_q", "_law_r", "_law_i", "_law_j", "_law_w", "_law_open_cost", "_law_each"] (sp_law_cell_bounds K) := by
  refine dn_mk T.d_law_cell_bounds sc_law_cell_bounds (fun _ _ _ _ _ _ us hl => match us, hl with | [_, _, _, _, _, _, _, _], _ => rfl) (spM_len (an_C (an_C (an_C (an_C (an_C (an_C (an_C (an_C an_0))))))))) fun cdv A outer s H vs Q E hr h => ?_
  refine ⟨_, (pss_cons (ps_set (i := 8) sc_law_cell_bounds.nd rfl (.inl rfl) (pe_lst pa_nil))
      (pss_cons (ps_set (i := 9) sc_law_cell_bounds.nd rfl (.inl rfl) (pe_lst pa_nil))
      (pss_cons (ps_set (i := 10) sc_law_cell_bounds.nd rfl (.inl rfl) (pe_lst pa_nil))
      (pss_cons (ps_if (PW.pt (pw_and (pt_cmpR op_gt (pv 3) pe_int (nomark _)) (pw_and1 (pt_cmpR op_gt (pv 4) pe_int (nomark _)))))
      (pss_cons (ps_setLc (i := 8) (own := [("_law_k", 11)]) rfl sc_law_cell_bounds.nd rfl rfl (sw_true rfl rfl rfl (by decide +kernel)) (pi_range1 (by rfl) T.z_range (pa_cons (pe_callTy k_intB (by rfl) T.z_int (by decide +kernel) (pa_cons (pe_or (pe_cmpR op_eq (pv 3) pe_int (nomark _)) (pe_one (pe_cmpR op_gt (pv 4) pe_int (nomark _)))) pa_nil)) pa_nil)) (blkOk_by (own := [("_law_k", 11)]) (N := ["_law_p", "_law_q", "_law_r", "_law_i", "_law_j", "_law_w", "_law_open_cost", "_law_each", "_law_pair", "_law_extra", "_law_gap", "_law_k"]) (sc := defScope s_law_cell_bounds) (by decide +kernel)) (fun _ _ _ _ _ => (pg_name (i := 11) sc_law_cell_bounds.nd rfl (.inl rfl))) (fun _ _ _ _ _ => pts_nil) (fun _ _ _ _ _ => (pe_op op_add (pe_ix (ixL_ (K := K)) (pe_ix (ixL_ (K := K)) (pv 0) (pe_op op_sub (pv 3) pe_int) (fun _ _ => rfl)) (pe_op op_sub (pv 4) pe_int) (fun _ _ => rfl)) (pv 5))))
      (pss_cons (ps_set (i := 8) sc_law_cell_bounds.nd rfl (.inl rfl) (pe_op op_cat (pe_op op_cat (pv 8) (pe_lc (own := [("_law_k", 11)]) rfl sc_law_cell_bounds.nd (pi_range1 (by rfl) T.z_range (pa_cons (pe_callTy k_intB (by rfl) T.z_int (by decide +kernel) (pa_cons (pe_cmpR op_gt (pv 3) pe_int (nomark _)) pa_nil)) pa_nil)) (blkOk_by (own := [("_law_k", 11)]) (N := ["_law_p", "_law_q", "_law_r", "_law_i", "_law_j", "_law_w", "_law_open_cost", "_law_each", "_law_pair", "_law_extra", "_law_gap", "_law_k"]) (sc := defScope s_law_cell_bounds) (by decide +kernel)) (fun _ _ _ _ _ => (pg_name (i := 11) sc_law_cell_bounds.nd rfl (.inl rfl))) (fun _ _ _ _ _ => pts_nil) (fun _ _ _ _ _ => (pe_op op_add (pe_ix (ixL_ (K := K)) (pe_ix (ixL_ (K := K)) (pv 1) (pe_op op_sub (pv 3) pe_int) (fun _ _ => rfl)) (pe_op op_sub (pv 4) pe_int) (fun _ _ => rfl)) (pv 5))))) (pe_lc (own := [("_law_k", 11)]) rfl sc_law_cell_bounds.nd (pi_range1 (by rfl) T.z_range (pa_cons (pe_callTy k_intB (by rfl) T.z_int (by decide +kernel) (pa_cons (pe_cmpR op_gt (pv 4) pe_int (nomark _)) pa_nil)) pa_nil)) (blkOk_by (own := [("_law_k", 11)]) (N := ["_law_p", "_law_q", "_law_r", "_law_i", "_law_j", "_law_w", "_law_open_cost", "_law_each", "_law_pair", "_law_extra", "_law_gap", "_law_k"]) (sc := defScope s_law_cell_bounds) (by decide +kernel)) (fun _ _ _ _ _ => (pg_name (i := 11) sc_law_cell_bounds.nd rfl (.inl rfl))) (fun _ _ _ _ _ => pts_nil) (fun _ _ _ _ _ => (pe_op op_add (pe_ix (ixL_ (K := K)) (pe_ix (ixL_ (K := K)) (pv 2) (pe_op op_sub (pv 3) pe_int) (fun _ _ => rfl)) (pe_op op_sub (pv 4) pe_int) (fun _ _ => rfl)) (pv 5))))))
      pss_nil))
      pss_nil)
      (pss_cons (ps_if (pt_cmpR op_gt (pv 3) pe_int (nomark _))
      (pss_cons (ps_setLc (i := 9) (own := [("_law_k", 11)]) rfl sc_law_cell_bounds.nd rfl rfl (sw_true rfl rfl rfl (by decide +kernel)) (pi_range1 (by rfl) T.z_range (pa_cons (pe_callTy k_intB (by rfl) T.z_int (by decide +kernel) (pa_cons (pe_or (pe_cmpR op_eq (pv 3) pe_int (nomark _)) (pe_one (pe_cmpR op_gt (pv 4) pe_int (nomark _)))) pa_nil)) pa_nil)) (blkOk_by (own := [("_law_k", 11)]) (N := ["_law_p", "_law_q", "_law_r", "_law_i", "_law_j", "_law_w", "_law_open_cost", "_law_each", "_law_pair", "_law_extra", "_law_gap", "_law_k"]) (sc := defScope s_law_cell_bounds) (by decide +kernel)) (fun _ _ _ _ _ => (pg_name (i := 11) sc_law_cell_bounds.nd rfl (.inl rfl))) (fun _ _ _ _ _ => pts_nil) (fun _ _ _ _ _ => (pe_op op_add (pe_ix (ixL_ (K := K)) (pe_ix (ixL_ (K := K)) (pv 0) (pe_op op_sub (pv 3) pe_int) (fun _ _ => rfl)) (pv 4) (fun _ _ => rfl)) (pv 6))))
      (pss_cons (ps_set (i := 9) sc_law_cell_bounds.nd rfl (.inl rfl) (pe_op op_cat (pe_op op_cat (pv 9) (pe_lc (own := [("_law_k", 11)]) rfl sc_law_cell_bounds.nd (pi_range1 (by rfl) T.z_range (pa_cons (pe_callTy k_intB (by rfl) T.z_int (by decide +kernel) (pa_cons (pe_cmpR op_gt (pv 4) pe_int (nomark _)) pa_nil)) pa_nil)) (blkOk_by (own := [("_law_k", 11)]) (N := ["_law_p", "_law_q", "_law_r", "_law_i", "_law_j", "_law_w", "_law_open_cost", "_law_each", "_law_pair", "_law_extra", "_law_gap", "_law_k"]) (sc := defScope s_law_cell_bounds) (by decide +kernel)) (fun _ _ _ _ _ => (pg_name (i := 11) sc_law_cell_bounds.nd rfl (.inl rfl))) (fun _ _ _ _ _ => pts_nil) (fun _ _ _ _ _ => (pe_op op_add (pe_ix (ixL_ (K := K)) (pe_ix (ixL_ (K := K)) (pv 2) (pe_op op_sub (pv 3) pe_int) (fun _ _ => rfl)) (pv 4) (fun _ _ => rfl)) (pv 6))))) (pe_lc (own := [("_law_k", 11)]) rfl sc_law_cell_bounds.nd (pi_range1 (by rfl) T.z_range (pa_cons (pe_callTy k_intB (by rfl) T.z_int (by decide +kernel) (pa_cons (pe_cmpR op_gt (pv 3) pe_int (nomark _)) pa_nil)) pa_nil)) (blkOk_by (own := [("_law_k", 11)]) (N := ["_law_p", "_law_q", "_law_r", "_law_i", "_law_j", "_law_w", "_law_open_cost", "_law_each", "_law_pair", "_law_extra", "_law_gap", "_law_k"]) (sc := defScope s_law_cell_bounds) (by decide +kernel)) (fun _ _ _ _ _ => (pg_name (i := 11) sc_law_cell_bounds.nd rfl (.inl rfl))) (fun _ _ _ _ _ => pts_nil) (fun _ _ _ _ _ => (pe_op op_add (pe_ix (ixL_ (K := K)) (pe_ix (ixL_ (K := K)) (pv 1) (pe_op op_sub (pv 3) pe_int) (fun _ _ => rfl)) (pv 4) (fun _ _ => rfl)) (pv 7))))))
      pss_nil))
      pss_nil)
      (pss_cons (ps_if (pt_cmpR op_gt (pv 4) pe_int (nomark _))
      (pss_cons (ps_setLc (i := 10) (own := [("_law_k", 11)]) rfl sc_law_cell_bounds.nd rfl rfl (sw_true rfl rfl rfl (by decide +kernel)) (pi_range1 (by rfl) T.z_range (pa_cons (pe_callTy k_intB (by rfl) T.z_int (by decide +kernel) (pa_cons (pe_or (pe_cmpR op_eq (pv 3) pe_int (nomark _)) (pe_one (pe_cmpR op_gt (pv 4) pe_int (nomark _)))) pa_nil)) pa_nil)) (blkOk_by (own := [("_law_k", 11)]) (N := ["_law_p", "_law_q", "_law_r", "_law_i", "_law_j", "_law_w", "_law_open_cost", "_law_each", "_law_pair", "_law_extra", "_law_gap", "_law_k"]) (sc := defScope s_law_cell_bounds) (by decide +kernel)) (fun _ _ _ _ _ => (pg_name (i := 11) sc_law_cell_bounds.nd rfl (.inl rfl))) (fun _ _ _ _ _ => pts_nil) (fun _ _ _ _ _ => (pe_op op_add (pe_ix (ixL_ (K := K)) (pe_ix (ixL_ (K := K)) (pv 0) (pv 3) (fun _ _ => rfl)) (pe_op op_sub (pv 4) pe_int) (fun _ _ => rfl)) (pv 6))))
      (pss_cons (ps_set (i := 10) sc_law_cell_bounds.nd rfl (.inl rfl) (pe_op op_cat (pe_op op_cat (pv 10) (pe_lc (own := [("_law_k", 11)]) rfl sc_law_cell_bounds.nd (pi_range1 (by rfl) T.z_range (pa_cons (pe_callTy k_intB (by rfl) T.z_int (by decide +kernel) (pa_cons (pe_cmpR op_gt (pv 3) pe_int (nomark _)) pa_nil)) pa_nil)) (blkOk_by (own := [("_law_k", 11)]) (N := ["_law_p", "_law_q", "_law_r", "_law_i", "_law_j", "_law_w", "_law_open_cost", "_law_each", "_law_pair", "_law_extra", "_law_gap", "_law_k"]) (sc := defScope s_law_cell_bounds) (by decide +kernel)) (fun _ _ _ _ _ => (pg_name (i := 11) sc_law_cell_bounds.nd rfl (.inl rfl))) (fun _ _ _ _ _ => pts_nil) (fun _ _ _ _ _ => (pe_op op_add (pe_ix (ixL_ (K := K)) (pe_ix (ixL_ (K := K)) (pv 1) (pv 3) (fun _ _ => rfl)) (pe_op op_sub (pv 4) pe_int) (fun _ _ => rfl)) (pv 6))))) (pe_lc (own := [("_law_k", 11)]) rfl sc_law_cell_bounds.nd (pi_range1 (by rfl) T.z_range (pa_cons (pe_callTy k_intB (by rfl) T.z_int (by decide +kernel) (pa_cons (pe_cmpR op_gt (pv 4) pe_int (nomark _)) pa_nil)) pa_nil)) (blkOk_by (own := [("_law_k", 11)]) (N := ["_law_p", "_law_q", "_law_r", "_law_i", "_law_j", "_law_w", "_law_open_cost", "_law_each", "_law_pair", "_law_extra", "_law_gap", "_law_k"]) (sc := defScope s_law_cell_bounds) (by decide +kernel)) (fun _ _ _ _ _ => (pg_name (i := 11) sc_law_cell_bounds.nd rfl (.inl rfl))) (fun _ _ _ _ _ => pts_nil) (fun _ _ _ _ _ => (pe_op op_add (pe_ix (ixL_ (K := K)) (pe_ix (ixL_ (K := K)) (pv 2) (pv 3) (fun _ _ => rfl)) (pe_op op_sub (pv 4) pe_int) (fun _ _ => rfl)) (pv 7))))))
      pss_nil))
      pss_nil)
      (pss_cons (ps_if (pt_cmpR op_eq (pv 3) pe_int (nomark _))
      (pss_cons (ps_set (i := 8) sc_law_cell_bounds.nd rfl (.inl rfl) (pe_lst (pa_cons pe_int pa_nil)))
      pss_nil)
      pss_nil)
      (pss_cons (ps_ret (pe_tup (pa_cons (pv 8) (pa_cons (pv 9) (pa_cons (pv 10) pa_nil)))))
      pss_nil)))))))), ?_⟩
  refine fin_runX (E := (eC (sF (jL (jL jI))) (eC (sF (jL (jL jI))) (eC (sF (jL (jL jI))) (eC (sF jI) (eC (sF jI) (eC (sF jI) (eC (sF jI) (eC (sF jI) (eU (eU (eU (eU eN))))))))))))) (E' := eN) (ae_C (ae_C (ae_C (ae_C (ae_C (ae_C (ae_C (ae_C (ae_U rfl (ae_U rfl (ae_U rfl (ae_U rfl ae_0)))))))))))) (an_C (an_C (an_C (an_C (an_C (an_C (an_C (an_C an_0)))))))) rfl ?S h rfl
  exact ⟨_, (ss_asg (se_fz (se_lst (A := jI) sl_nil)) (pS (pS (pS (pS (pS (pS (pS (pS p0U)))))))) (ss_asg (se_fz (se_lst (A := jI) sl_nil)) (pS (pS (pS (pS (pS (pS (pS (pS (pS p0U))))))))) (ss_asg (se_fz (se_lst (A := jI) sl_nil)) (pS (pS (pS (pS (pS (pS (pS (pS (pS (pS p0U)))))))))) (ss_seq (ss_if (st_and (st_test (se_op (se_var (gS (gS (gS g0)))) se_int (s2_C0 (f := fun i j => decide (j < i))))) (st_test (se_op (se_var (gS (gS (gS (gS g0))))) se_int (s2_C0 (f := fun i j => decide (j < i)))))) (ss_asg (se_fz (se_lc (si_r1 (sa_cons (se_cb (sa_cons (se_orV (se_op (se_var (gS (gS (gS g0)))) se_int (s2_eqI)) (se_op (se_var (gS (gS (gS (gS g0))))) se_int (s2_C0 (f := fun i j => decide (j < i))))) sa_nil) sc_intB) sa_nil)) (wp_cons (nS (nS (nS (nS (nS (nS (nS (nS (nS (nS (nS n0))))))))))) wp_nil) (sg_name (pS (pS (pS (pS (pS (pS (pS (pS (pS (pS (pS p0U)))))))))))) (se_op (se_op (se_op (se_var g0) (se_op (se_var (gS (gS (gS g0)))) se_int (s2_I0 (f := fun i j => i - j))) s2_ixL) (se_op (se_var (gS (gS (gS (gS g0))))) se_int (s2_I0 (f := fun i j => i - j))) s2_ixL) (se_var (gS (gS (gS (gS (gS g0)))))) (s2_I0 (f := fun i j => i + j))))) (pS (pS (pS (pS (pS (pS (pS (pS p0)))))))) (ss_asg (se_fz (se_op (se_fz (se_op (se_var (gS (gS (gS (gS (gS (gS (gS (gS g0))))))))) (se_fz (se_lc (si_r1 (sa_cons (se_cb (sa_cons (se_op (se_var (gS (gS (gS g0)))) se_int (s2_C0 (f := fun i j => decide (j < i)))) sa_nil) sc_intB) sa_nil)) (wp_cons (nS (nS (nS (nS (nS (nS (nS (nS (nS (nS (nS n0))))))))))) wp_nil) (sg_name (pS (pS (pS (pS (pS (pS (pS (pS (pS (pS (pS p0U)))))))))))) (se_op (se_op (se_op (se_var (gS g0)) (se_op (se_var (gS (gS (gS g0)))) se_int (s2_I0 (f := fun i j => i - j))) s2_ixL) (se_op (se_var (gS (gS (gS (gS g0))))) se_int (s2_I0 (f := fun i j => i - j))) s2_ixL) (se_var (gS (gS (gS (gS (gS g0)))))) (s2_I0 (f := fun i j => i + j))))) s2_cat)) (se_fz (se_lc (si_r1 (sa_cons (se_cb (sa_cons (se_op (se_var (gS (gS (gS (gS g0))))) se_int (s2_C0 (f := fun i j => decide (j < i)))) sa_nil) sc_intB) sa_nil)) (wp_cons (nS (nS (nS (nS (nS (nS (nS (nS (nS (nS (nS n0))))))))))) wp_nil) (sg_name (pS (pS (pS (pS (pS (pS (pS (pS (pS (pS (pS p0U)))))))))))) (se_op (se_op (se_op (se_var (gS (gS g0))) (se_op (se_var (gS (gS (gS g0)))) se_int (s2_I0 (f := fun i j => i - j))) s2_ixL) (se_op (se_var (gS (gS (gS (gS g0))))) se_int (s2_I0 (f := fun i j => i - j))) s2_ixL) (se_var (gS (gS (gS (gS (gS g0)))))) (s2_I0 (f := fun i j => i + j))))) s2_cat)) (pS (pS (pS (pS (pS (pS (pS (pS p0)))))))) ss_nil)) ss_nil) (ss_seq (ss_if (st_test (se_op (se_var (gS (gS (gS g0)))) se_int (s2_C0 (f := fun i j => decide (j < i))))) (ss_asg (se_fz (se_lc (si_r1 (sa_cons (se_cb (sa_cons (se_orV (se_op (se_var (gS (gS (gS g0)))) se_int (s2_eqI)) (se_op (se_var (gS (gS (gS (gS g0))))) se_int (s2_C0 (f := fun i j => decide (j < i))))) sa_nil) sc_intB) sa_nil)) (wp_cons (nS (nS (nS (nS (nS (nS (nS (nS (nS (nS (nS n0))))))))))) wp_nil) (sg_name (pS (pS (pS (pS (pS (pS (pS (pS (pS (pS (pS p0U)))))))))))) (se_op (se_op (se_op (se_var g0) (se_op (se_var (gS (gS (gS g0)))) se_int (s2_I0 (f := fun i j => i - j))) s2_ixL) (se_var (gS (gS (gS (gS g0))))) s2_ixL) (se_var (gS (gS (gS (gS (gS (gS g0))))))) (s2_I0 (f := fun i j => i + j))))) (pS (pS (pS (pS (pS (pS (pS (pS (pS p0))))))))) (ss_asg (se_fz (se_op (se_fz (se_op (se_var (gS (gS (gS (gS (gS (gS (gS (gS (gS g0)))))))))) (se_fz (se_lc (si_r1 (sa_cons (se_cb (sa_cons (se_op (se_var (gS (gS (gS (gS g0))))) se_int (s2_C0 (f := fun i j => decide (j < i)))) sa_nil) sc_intB) sa_nil)) (wp_cons (nS (nS (nS (nS (nS (nS (nS (nS (nS (nS (nS n0))))))))))) wp_nil) (sg_name (pS (pS (pS (pS (pS (pS (pS (pS (pS (pS (pS p0U)))))))))))) (se_op (se_op (se_op (se_var (gS (gS g0))) (se_op (se_var (gS (gS (gS g0)))) se_int (s2_I0 (f := fun i j => i - j))) s2_ixL) (se_var (gS (gS (gS (gS g0))))) s2_ixL) (se_var (gS (gS (gS (gS (gS (gS g0))))))) (s2_I0 (f := fun i j => i + j))))) s2_cat)) (se_fz (se_lc (si_r1 (sa_cons (se_cb (sa_cons (se_op (se_var (gS (gS (gS g0)))) se_int (s2_C0 (f := fun i j => decide (j < i)))) sa_nil) sc_intB) sa_nil)) (wp_cons (nS (nS (nS (nS (nS (nS (nS (nS (nS (nS (nS n0))))))))))) wp_nil) (sg_name (pS (pS (pS (pS (pS (pS (pS (pS (pS (pS (pS p0U)))))))))))) (se_op (se_op (se_op (se_var (gS g0)) (se_op (se_var (gS (gS (gS g0)))) se_int (s2_I0 (f := fun i j => i - j))) s2_ixL) (se_var (gS (gS (gS (gS g0))))) s2_ixL) (se_var (gS (gS (gS (gS (gS (gS (gS g0)))))))) (s2_I0 (f := fun i j => i + j))))) s2_cat)) (pS (pS (pS (pS (pS (pS (pS (pS (pS p0))))))))) ss_nil)) ss_nil) (ss_seq (ss_if (st_test (se_op (se_var (gS (gS (gS (gS g0))))) se_int (s2_C0 (f := fun i j => decide (j < i))))) (ss_asg (se_fz (se_lc (si_r1 (sa_cons (se_cb (sa_cons (se_orV (se_op (se_var (gS (gS (gS g0)))) se_int (s2_eqI)) (se_op (se_var (gS (gS (gS (gS g0))))) se_int (s2_C0 (f := fun i j => decide (j < i))))) sa_nil) sc_intB) sa_nil)) (wp_cons (nS (nS (nS (nS (nS (nS (nS (nS (nS (nS (nS n0))))))))))) wp_nil) (sg_name (pS (pS (pS (pS (pS (pS (pS (pS (pS (pS (pS p0U)))))))))))) (se_op (se_op (se_op (se_var g0) (se_var (gS (gS (gS g0)))) s2_ixL) (se_op (se_var (gS (gS (gS (gS g0))))) se_int (s2_I0 (f := fun i j => i - j))) s2_ixL) (se_var (gS (gS (gS (gS (gS (gS g0))))))) (s2_I0 (f := fun i j => i + j))))) (pS (pS (pS (pS (pS (pS (pS (pS (pS (pS p0)))))))))) (ss_asg (se_fz (se_op (se_fz (se_op (se_var (gS (gS (gS (gS (gS (gS (gS (gS (gS (gS g0))))))))))) (se_fz (se_lc (si_r1 (sa_cons (se_cb (sa_cons (se_op (se_var (gS (gS (gS g0)))) se_int (s2_C0 (f := fun i j => decide (j < i)))) sa_nil) sc_intB) sa_nil)) (wp_cons (nS (nS (nS (nS (nS (nS (nS (nS (nS (nS (nS n0))))))))))) wp_nil) (sg_name (pS (pS (pS (pS (pS (pS (pS (pS (pS (pS (pS p0U)))))))))))) (se_op (se_op (se_op (se_var (gS g0)) (se_var (gS (gS (gS g0)))) s2_ixL) (se_op (se_var (gS (gS (gS (gS g0))))) se_int (s2_I0 (f := fun i j => i - j))) s2_ixL) (se_var (gS (gS (gS (gS (gS (gS g0))))))) (s2_I0 (f := fun i j => i + j))))) s2_cat)) (se_fz (se_lc (si_r1 (sa_cons (se_cb (sa_cons (se_op (se_var (gS (gS (gS (gS g0))))) se_int (s2_C0 (f := fun i j => decide (j < i)))) sa_nil) sc_intB) sa_nil)) (wp_cons (nS (nS (nS (nS (nS (nS (nS (nS (nS (nS (nS n0))))))))))) wp_nil) (sg_name (pS (pS (pS (pS (pS (pS (pS (pS (pS (pS (pS p0U)))))))))))) (se_op (se_op (se_op (se_var (gS (gS g0))) (se_var (gS (gS (gS g0)))) s2_ixL) (se_op (se_var (gS (gS (gS (gS g0))))) se_int (s2_I0 (f := fun i j => i - j))) s2_ixL) (se_var (gS (gS (gS (gS (gS (gS (gS g0)))))))) (s2_I0 (f := fun i j => i + j))))) s2_cat)) (pS (pS (pS (pS (pS (pS (pS (pS (pS (pS p0)))))))))) ss_nil)) ss_nil) (ss_seq (ss_if (st_test (se_op (se_var (gS (gS (gS g0)))) se_int (s2_eqI))) (ss_asg (se_fz (se_lst (sl_cons se_int sl_nil))) (pS (pS (pS (pS (pS (pS (pS (pS p0)))))))) ss_nil) ss_nil) (ss_seq (ss_ret (se_tup (stC (se_var (gS (gS (gS (gS (gS (gS (gS (gS g0))))))))) (stC (se_var (gS (gS (gS (gS (gS (gS (gS (gS (gS g0)))))))))) (st1 (se_var (gS (gS (gS (gS (gS (gS (gS (gS (gS (gS g0)))))))))))))) (tz (tz tz1)))) ss_nil)))))))), by exact rfl⟩
end
end Lw
namespace Lw
open PySem PySem.Spec PyProof.Rows L2 Fw Mi
local macro_rules | `(tactic| walk_at "m") => `(tactic| simp only [pidx_one, pinS_one, pninS_one, W_some, W_none, W_ob, W_bind, W_pck, W_rb, W_fin, W_finN, W_T, W_F, W_Tr, W_Fa, Rw_nxt, Rw_ret, Rw_cnt, Rf_ret, Rf_nxt, RfN_ret, RfN_nxt, decide_true, decide_false, Bool.not_true, Bool.not_false])
theorem W_one {b : Bool} {c : Prop} [Decidable c] {f : Int → Option Int} {x : Int} {Q : List Int → Prop} (hb : b = decide c) (h : c → f 0 = some x) (q : Q (if c then [x] else [])) : W (lcM f (prange (if b = true then (1 : Int) else 0))) Q := by
  subst hb
  by_cases hc : c
  · rw [decide_eq_true hc, if_pos rfl]
    refine ⟨[x], ?_, by rw [if_pos hc] at q; exact q⟩
    show ob (f 0) _ = _
    rw [h hc]
    rfl
  · rw [decide_eq_false hc, if_neg Bool.false_ne_true]
    exact ⟨[], rfl, by rw [if_neg hc] at q; exact q⟩
theorem one_len {c : Prop} [Decidable c] (x : Int) : (if c then [x] else ([] : List Int)).length ≤ 1 := by
  split
  · exact Nat.le_refl 1
  · exact Nat.zero_le 1
theorem w_bounds {n m i j : Nat} {P Q' R : Nat → Nat → Int} {w s e : Int} {wf : Nat → Nat → Int} {Q : List Int × List Int × List Int → Prop} (hi : i ≤ n) (hj : j ≤ m) (hw : 0 < i → 0 < j → w = wf (i - 1) (j - 1))
    (q : Q (Pp.lP wf P Q' R i j, Pp.lQ s e P Q' R i j, Pp.lR s e P Q' R i j)) : W (m_law_cell_bounds (grid (n + 1) (m + 1) P) (grid (n + 1) (m + 1) Q') (grid (n + 1) (m + 1) R) (i : Int) (j : Int) w (s + e) e) Q := by
  have pc : ∀ (M : Nat → Nat → Int) (a b : Nat) (v : Int), a ≤ n → b ≤ m → (ob (ob (pat (grid (n + 1) (m + 1) M) (a : Int)) fun x => pat x (b : Int)) fun x => some (x + v)) = some (M a b + v) := fun M a b v ha hb => by
    have : (ob (pat (grid (n + 1) (m + 1) M) (a : Int)) fun x => pat x (b : Int)) = some (M a b) := pcell_grid (by omega) (by omega)
    rw [this]
    rfl
  have hz : ∀ k : Nat, k ≤ 10 → k ≤ sz := fun k h => by unfold sz; omega
  have b01 : ∀ b : Bool, -4611686018427387904 ≤ (if b = true then (1 : Int) else 0) ∧ (if b = true then (1 : Int) else 0) < 4611686018427387904 := fun b => by split <;> omega
  unfold m_law_cell_bounds
  walk_at "m"
  refine ⟨hz _ (by simp), hz _ (by simp), hz _ (by simp), ?_⟩
  refine W.mono (Q := fun b => b = decide (0 < i ∧ 0 < j)) ?_ ?_
  · refine W_ifD (fun h => ?_) (fun h => ?_)
    · walk_at "m"
      rw [decide_eq_decide]
      omega
    · walk_at "m"
      rw [eq_comm, decide_eq_false_iff_not]
      omega
  rintro _ rfl
  refine W.mono (Q := fun r => r = Res.nxt (grid (n + 1) (m + 1) P, grid (n + 1) (m + 1) Q', grid (n + 1) (m + 1) R, (i : Int), (j : Int), w, s + e, e, (if 0 < i ∧ 0 < j then Pp.bP wf P Q' R i j else []), [], [], ())) ?_ ?_
  · refine W_ifD (fun h => ?_) (fun h => ?_)
    · rw [if_pos h]
      have ew := hw h.1 h.2
      walk_at "m"
      rw [show (i : Int) - 1 = ((i - 1 : Nat) : Int) by omega, show (j : Int) - 1 = ((j - 1 : Nat) : Int) by omega]
      simp only [pc _ (i - 1) (j - 1) _ (show i - 1 ≤ n by omega) (show j - 1 ≤ m by omega)]
      refine W.mono (Q := fun b => b = decide (i = 1 ∨ 1 < j)) ?_ ?_
      · refine W_ifD (fun h => ?_) (fun h => ?_)
        · walk_at "m"
          rw [eq_comm, decide_eq_true_iff]
          omega
        · walk_at "m"
          rw [decide_eq_decide]
          omega
      rintro _ rfl
      refine ⟨b01 _, W_one (c := i = 1 ∨ 1 < j) rfl (fun _ => rfl) ⟨hz _ (Nat.le_trans (one_len _) (by decide)), b01 _, W_one (c := 1 < i) (by rw [decide_eq_decide]; omega) (fun _ => rfl) ⟨hz _ (Nat.le_trans (one_len _) (by decide)), hz _ ?_, b01 _, W_one (c := 1 < j) (by rw [decide_eq_decide]; omega) (fun _ => rfl) ⟨hz _ (Nat.le_trans (one_len _) (by decide)), hz _ ?_, ?_⟩⟩⟩⟩
      · have := one_len (c := i = 1 ∨ 1 < j) (P (i - 1) (j - 1) + w)
        have := one_len (c := 1 < i) (Q' (i - 1) (j - 1) + w)
        omega
      · rw [List.length_append]
        have := one_len (c := i = 1 ∨ 1 < j) (P (i - 1) (j - 1) + w)
        have := one_len (c := 1 < i) (Q' (i - 1) (j - 1) + w)
        have := one_len (c := 1 < j) (R (i - 1) (j - 1) + w)
        omega
      · rw [ew]
        rfl
    · rw [if_neg h]
      walk_at "m"
  rintro _ rfl
  walk_at "m"
  refine W.mono (Q := fun r => r = Res.nxt (grid (n + 1) (m + 1) P, grid (n + 1) (m + 1) Q', grid (n + 1) (m + 1) R, (i : Int), (j : Int), w, s + e, e, (if 0 < i ∧ 0 < j then Pp.bP wf P Q' R i j else []), Pp.lQ s e P Q' R i j, [], ())) ?_ ?_
  · refine W_ifD (fun h => ?_) (fun h => ?_)
    · unfold Pp.lQ
      rw [if_pos (show 0 < i by omega)]
      walk_at "m"
      rw [show (i : Int) - 1 = ((i - 1 : Nat) : Int) by omega]
      simp only [pc _ (i - 1) j _ (show i - 1 ≤ n by omega) hj]
      refine W.mono (Q := fun b => b = decide (i = 1 ∨ 0 < j)) ?_ ?_
      · refine W_ifD (fun h => ?_) (fun h => ?_)
        · walk_at "m"
          rw [eq_comm, decide_eq_true_iff]
          omega
        · walk_at "m"
          rw [decide_eq_decide]
          omega
      rintro _ rfl
      refine ⟨b01 _, W_one (c := i = 1 ∨ 0 < j) rfl (fun _ => rfl) ⟨hz _ (Nat.le_trans (one_len _) (by decide)), b01 _, W_one (c := 0 < j) (by rw [decide_eq_decide]; omega) (fun _ => rfl) ⟨hz _ (Nat.le_trans (one_len _) (by decide)), hz _ ?_, b01 _, W_one (c := 1 < i) (by rw [decide_eq_decide]; omega) (fun _ => rfl) ⟨hz _ (Nat.le_trans (one_len _) (by decide)), hz _ ?_, rfl⟩⟩⟩⟩
      · have := one_len (c := i = 1 ∨ 0 < j) (P (i - 1) j + (s + e))
        have := one_len (c := 0 < j) (R (i - 1) j + (s + e))
        omega
      · rw [List.length_append]
        have := one_len (c := i = 1 ∨ 0 < j) (P (i - 1) j + (s + e))
        have := one_len (c := 0 < j) (R (i - 1) j + (s + e))
        have := one_len (c := 1 < i) (Q' (i - 1) j + e)
        omega
    · unfold Pp.lQ
      rw [if_neg (show ¬ 0 < i by omega)]
      walk_at "m"
  rintro _ rfl
  walk_at "m"
  refine W.mono (Q := fun r => r = Res.nxt (grid (n + 1) (m + 1) P, grid (n + 1) (m + 1) Q', grid (n + 1) (m + 1) R, (i : Int), (j : Int), w, s + e, e, (if 0 < i ∧ 0 < j then Pp.bP wf P Q' R i j else []), Pp.lQ s e P Q' R i j, Pp.lR s e P Q' R i j, ())) ?_ ?_
  · refine W_ifD (fun h => ?_) (fun h => ?_)
    · unfold Pp.lR
      rw [if_pos (show 0 < j by omega)]
      walk_at "m"
      rw [show (j : Int) - 1 = ((j - 1 : Nat) : Int) by omega]
      simp only [pc _ i (j - 1) _ hi (show j - 1 ≤ m by omega)]
      refine W.mono (Q := fun b => b = decide (i = 0 ∨ 1 < j)) ?_ ?_
      · refine W_ifD (fun h => ?_) (fun h => ?_)
        · walk_at "m"
          rw [eq_comm, decide_eq_true_iff]
          omega
        · walk_at "m"
          rw [decide_eq_decide]
          omega
      rintro _ rfl
      refine ⟨b01 _, W_one (c := i = 0 ∨ 1 < j) rfl (fun _ => rfl) ⟨hz _ (Nat.le_trans (one_len _) (by decide)), b01 _, W_one (c := 0 < i) (by rw [decide_eq_decide]; omega) (fun _ => rfl) ⟨hz _ (Nat.le_trans (one_len _) (by decide)), hz _ ?_, b01 _, W_one (c := 1 < j) (by rw [decide_eq_decide]; omega) (fun _ => rfl) ⟨hz _ (Nat.le_trans (one_len _) (by decide)), hz _ ?_, rfl⟩⟩⟩⟩
      · have := one_len (c := i = 0 ∨ 1 < j) (P i (j - 1) + (s + e))
        have := one_len (c := 0 < i) (Q' i (j - 1) + (s + e))
        omega
      · rw [List.length_append]
        have := one_len (c := i = 0 ∨ 1 < j) (P i (j - 1) + (s + e))
        have := one_len (c := 0 < i) (Q' i (j - 1) + (s + e))
        have := one_len (c := 1 < j) (R i (j - 1) + e)
        omega
    · unfold Pp.lR
      rw [if_neg (show ¬ 0 < j by omega)]
      walk_at "m"
  rintro _ rfl
  walk_at "m"
  unfold Pp.lP at q
  refine W_ifD (fun h => ?_) (fun h => ?_)
  · walk_at "m"
    rw [if_pos (show i = 0 by omega)] at q
    exact ⟨(by decide : (1 : Nat) ≤ sz), q⟩
  · walk_at "m"
    rw [if_neg (show ¬ i = 0 by omega)] at q
    have e2 : (if 0 < i ∧ 0 < j then Pp.bP wf P Q' R i j else []) = if 0 < j then Pp.bP wf P Q' R i j else [] := by
      by_cases hj0 : 0 < j
      · rw [if_pos hj0, if_pos ⟨by omega, hj0⟩]
      · rw [if_neg hj0, if_neg fun z => hj0 z.2]
    rw [e2]
    exact q

end Lw
namespace Lw
open PySem PySem.Spec PyProof.Rows L2 Fw Mi
section
variable {P : Program} {w : World} {K : PySem.W.Frag} {mg : Str → Option Value} {base : Heap}
noncomputable def m_law_agree (a : (List Nat)) (b : (List Nat)) : Option Bool := fin (κ := Unit) (ρ := Unit) (rb (ob (if (decide (a = b)) = true then (some (!decide (a = ([78] : List Nat)))) else some false) fun r2 => some (.ret r2)) fun γ => some (.nxt γ))
abbrev sp_law_agree (K : PySem.W.Frag) : Sp := spM (aC jS (aC jS aN)) (sF jB) (fun γ => m_law_agree γ.1 γ.2.1)
theorem ok_law_agree (T : Tx w K mg) : Dn P w K mg base 1 (He.ga K "_law_agree") ["_law_a", "_law_b"] (sp_law_agree K) := by
  refine dn_mk T.d_law_agree sc_law_agree (fun _ _ _ _ _ _ us hl => match us, hl with | [_, _], _ => rfl) (spM_len (an_C (an_C an_0))) fun cdv A outer s H vs Q E hr h => ?_
  refine ⟨_, (pss_cons (ps_ret (pe_and (pe_cmpR op_eq (pv 0) (pv 1) (nomark _)) (pe_one (pe_cmpR op_ne (pv 0) (pe_strL (l := [78]) (by decide +kernel)) (nomark _)))))
      pss_nil), ?_⟩
  refine fin_runX (E := (eC (sF jS) (eC (sF jS) eN))) (E' := eN) (ae_C (ae_C ae_0)) (an_C (an_C an_0)) rfl ?S h rfl
  exact ⟨_, (ss_seq (ss_ret (se_andV (se_op (se_var g0) (se_var (gS g0)) (s2_eqS)) (se_op (se_var g0) (se_str (l := [78])) (s2_neS)))) ss_nil), by exact rfl⟩
end
end Lw
namespace Lw
open PySem PySem.Spec PyProof.Rows L2 Fw Mi
local macro_rules | `(tactic| walk_at "m") => `(tactic| simp only [pidx_one, pinS_one, pninS_one, W_some, W_none, W_ob, W_bind, W_pck, W_rb, W_fin, W_finN, W_T, W_F, W_Tr, W_Fa, Rw_nxt, Rw_ret, Rw_cnt, Rf_ret, Rf_nxt, RfN_ret, RfN_nxt, decide_true, decide_false, Bool.not_true, Bool.not_false])
theorem m_law_agree_eq (a b : Nat) : m_law_agree [a] [b] = some (agr a b) := by
  refine W.eq ?_
  unfold m_law_agree
  simp only [sing_eq]
  walk_at "m"
  refine W_ifD (fun h => ?_) (fun h => ?_)
  · walk_at "m"
    unfold agr
    rw [decide_eq_true h]
    rfl
  · walk_at "m"
    unfold agr
    rw [decide_eq_false h]
    rfl

end Lw
namespace Lw
open PySem PySem.Spec PyProof.Rows L2 Fw Mi
section
variable {P : Program} {w : World} {K : PySem.W.Frag} {mg : Str → Option Value} {base : Heap}
noncomputable def m_law_judged (read : (List Nat)) (text : (List Nat)) (end_ : Int) (costs : (Int × Int × Int)) (told : ((List (List Int)) × (List (List Int)) × (List (List Int)))) : Option (Option Int) := fin (κ := Unit) (ρ := Unit) (rb (forR (fun (x_ : (List (List Int))) (γ : ((List Nat) × (List Nat) × Int × (Int × Int × Int) × ((List (List Int)) × (List (List Int)) × (List (List Int))) × (List (List Int)) × (List (List Int)) × (List (List Int)) × Unit)) => let table := x_; let read := γ.1; let text := γ.2.1; let end_ := γ.2.2.1; let costs := γ.2.2.2.1; let told := γ.2.2.2.2.1; let p := γ.2.2.2.2.2.1; let q := γ.2.2.2.2.2.2.1; let r := γ.2.2.2.2.2.2.2.1; rb ((ob ((ob (ob (ob (pck (read.length ≤ sz) (read.length : Int)) fun x1 => some (x1 + (1 : Int))) fun y2 => some (!decide ((table.length : Int) = y2))) fun b7 => if b7 = true then some true else (ob (ob (ob (ob (lcM (fun c3 => (some (decide ((c3.length : Int) = (end_ + (1 : Int)))))) table) fun r => pck (r.length ≤ sz) r) fun x4 => some (x4, ())) fun z5 => some (z5.1.all id)) fun x6 => some (!x6)))) fun b8 => if b8 = true then (rb (some (.ret none)) fun γ => some (.nxt γ)) else (some (.nxt (read, text, end_, costs, told, p, q, r, table, ()))))) fun γ => let read := γ.1; let text := γ.2.1; let end_ := γ.2.2.1; let costs := γ.2.2.2.1; let told := γ.2.2.2.2.1; let p := γ.2.2.2.2.2.1; let q := γ.2.2.2.2.2.2.1; let r := γ.2.2.2.2.2.2.2.1; some (.nxt (read, text, end_, costs, told, p, q, r, ()))) [told.1, told.2.1, told.2.2] (read, text, end_, costs, told, told.1, told.2.1, told.2.2, ())) fun γ => let read := γ.1; let text := γ.2.1; let end_ := γ.2.2.1; let costs := γ.2.2.2.1; let told := γ.2.2.2.2.1; let p := γ.2.2.2.2.2.1; let q := γ.2.2.2.2.2.2.1; let r := γ.2.2.2.2.2.2.2.1; rb (ob (ob (ob (ob (pck (read.length ≤ sz) (read.length : Int)) fun x59 => some (x59 + (1 : Int))) fun x60 => some (x60, ())) fun z61 => (pck (-4611686018427387904 ≤ z61.1 ∧ z61.1 < 4611686018427387904) (prange z61.1))) fun xs62 => (forR (fun (x_ : Int) (γ : ((List Nat) × (List Nat) × Int × (Int × Int × Int) × ((List (List Int)) × (List (List Int)) × (List (List Int))) × (List (List Int)) × (List (List Int)) × (List (List Int)) × Unit)) => let i := x_; let read := γ.1; let text := γ.2.1; let end_ := γ.2.2.1; let costs := γ.2.2.2.1; let told := γ.2.2.2.2.1; let p := γ.2.2.2.2.2.1; let q := γ.2.2.2.2.2.2.1; let r := γ.2.2.2.2.2.2.2.1; rb (ob (pck (-4611686018427387904 ≤ (end_ + (1 : Int)) ∧ (end_ + (1 : Int)) < 4611686018427387904) (prange (end_ + (1 : Int)))) fun xs34 => (forR (fun (x_ : Int) (γ : ((List Nat) × (List Nat) × Int × (Int × Int × Int) × ((List (List Int)) × (List (List Int)) × (List (List Int))) × (List (List Int)) × (List (List Int)) × (List (List Int)) × Int × Unit)) => let j := x_; let read := γ.1; let text := γ.2.1; let end_ := γ.2.2.1; let costs := γ.2.2.2.1; let told := γ.2.2.2.2.1; let p := γ.2.2.2.2.2.1; let q := γ.2.2.2.2.2.2.1; let r := γ.2.2.2.2.2.2.2.1; let i := γ.2.2.2.2.2.2.2.2.1; rb ((ob (if (decide ((0 : Int) < i)) = true then (some (decide ((0 : Int) < j))) else some false) fun b20 => if b20 = true then (ob (ob (ob (ob (ob (ob (ob (pixS read (i - (1 : Int))) fun x13 => (ob (ob (pixS text (j - (1 : Int))) fun x12 => some (x12, ())) fun r14 => some (x13, r14))) fun z15 => (m_law_agree z15.1 z15.2.1)) fun x16 => some (!x16)) fun x17 => some (x17, ())) fun z18 => some (if z18.1 = true then (1 : Int) else 0)) fun y19 => (pck (PMul costs.1 y19) (costs.1 * y19))) fun w => some (.nxt (read, text, end_, costs, told, p, q, r, i, j, w, ()))) else (some (.nxt (read, text, end_, costs, told, p, q, r, i, j, (0 : Int), ()))))) fun γ => let read := γ.1; let text := γ.2.1; let end_ := γ.2.2.1; let costs := γ.2.2.2.1; let told := γ.2.2.2.2.1; let p := γ.2.2.2.2.2.1; let q := γ.2.2.2.2.2.2.1; let r := γ.2.2.2.2.2.2.2.1; let i := γ.2.2.2.2.2.2.2.2.1; let j := γ.2.2.2.2.2.2.2.2.2.1; let w := γ.2.2.2.2.2.2.2.2.2.2.1; ob (m_law_cell_bounds p q r i j w (costs.2.1 + costs.2.2) costs.2.2) fun q21 => rb ((ob ((ob (if (decide ((0 : Int) < (q21.1.length : Int))) = true then (ob (ob (pat p i) fun x22 => (pat x22 j)) fun x23 => (ob (pmin q21.1) fun y24 => some (decide (y24 < x23)))) else some false) fun b28 => if b28 = true then some true else (if (decide ((0 : Int) < (q21.2.1.length : Int))) = true then (ob (ob (pat q i) fun x25 => (pat x25 j)) fun x26 => (ob (pmin q21.2.1) fun y27 => some (decide (y27 < x26)))) else some false))) fun b29 => if b29 = true then (rb (some (.ret none)) fun γ => some (.nxt γ)) else (some (.nxt (read, text, end_, costs, told, p, q, r, i, j, w, q21.1, q21.2.1, q21.2.2, ()))))) fun γ => let read := γ.1; let text := γ.2.1; let end_ := γ.2.2.1; let costs := γ.2.2.2.1; let told := γ.2.2.2.2.1; let p := γ.2.2.2.2.2.1; let q := γ.2.2.2.2.2.2.1; let r := γ.2.2.2.2.2.2.2.1; let i := γ.2.2.2.2.2.2.2.2.1; let j := γ.2.2.2.2.2.2.2.2.2.1; let w := γ.2.2.2.2.2.2.2.2.2.2.1; let pair := γ.2.2.2.2.2.2.2.2.2.2.2.1; let extra := γ.2.2.2.2.2.2.2.2.2.2.2.2.1; let gap := γ.2.2.2.2.2.2.2.2.2.2.2.2.2.1; rb ((ob (if (decide ((0 : Int) < (gap.length : Int))) = true then (ob (ob (pat r i) fun x30 => (pat x30 j)) fun x31 => (ob (pmin gap) fun y32 => some (decide (y32 < x31)))) else some false) fun b33 => if b33 = true then (rb (some (.ret none)) fun γ => some (.nxt γ)) else (some (.nxt (read, text, end_, costs, told, p, q, r, i, j, w, pair, extra, gap, ()))))) fun γ => let read := γ.1; let text := γ.2.1; let end_ := γ.2.2.1; let costs := γ.2.2.2.1; let told := γ.2.2.2.2.1; let p := γ.2.2.2.2.2.1; let q := γ.2.2.2.2.2.2.1; let r := γ.2.2.2.2.2.2.2.1; let i := γ.2.2.2.2.2.2.2.2.1; some (.nxt (read, text, end_, costs, told, p, q, r, i, ()))) xs34 (read, text, end_, costs, told, p, q, r, i, ()))) fun γ => let read := γ.1; let text := γ.2.1; let end_ := γ.2.2.1; let costs := γ.2.2.2.1; let told := γ.2.2.2.2.1; let p := γ.2.2.2.2.2.1; let q := γ.2.2.2.2.2.2.1; let r := γ.2.2.2.2.2.2.2.1; some (.nxt (read, text, end_, costs, told, p, q, r, ()))) xs62 (read, text, end_, costs, told, p, q, r, ()))) fun γ => let read := γ.1; let text := γ.2.1; let end_ := γ.2.2.1; let costs := γ.2.2.2.1; let told := γ.2.2.2.2.1; let p := γ.2.2.2.2.2.1; let q := γ.2.2.2.2.2.2.1; let r := γ.2.2.2.2.2.2.2.1; ob (pck (read.length ≤ sz) (read.length : Int)) fun n => rb (if (decide (end_ = (0 : Int))) = true then (rb (ob (ob (ob (pat q n) fun x37 => (pat x37 (0 : Int))) fun x => some (some x)) fun r38 => some (.ret r38)) fun γ => some (.nxt γ)) else (some (.nxt (read, text, end_, costs, told, p, q, r, n, ())))) fun γ => let end_ := γ.2.2.1; let p := γ.2.2.2.2.2.1; let q := γ.2.2.2.2.2.2.1; let r := γ.2.2.2.2.2.2.2.1; let n := γ.2.2.2.2.2.2.2.2.1; rb (ob (ob (ob (ob (ob (pat p n) fun x49 => (pat x49 end_)) fun x55 => (ob (ob (ob (pat q n) fun x50 => (pat x50 end_)) fun x53 => (ob (ob (ob (pat r n) fun x51 => (pat x51 end_)) fun x52 => some (x52, ())) fun r54 => some (x53, r54))) fun r56 => some (x55, r56))) fun z57 => some (min (min z57.1 z57.2.1) z57.2.2.1)) fun x => some (some x)) fun r58 => some (.ret r58)) fun γ => some (.nxt γ))
abbrev sp_law_judged (K : PySem.W.Frag) : Sp := spM (aC jS (aC jS (aC jI (aC (jT (yC jI (yC jI (y1 jI)))) (aC (jT (yC (jL (jL jI)) (yC (jL (jL jI)) (y1 (jL (jL jI)))))) aN))))) (sF (jO jI)) (fun γ => m_law_judged γ.1 γ.2.1 γ.2.2.1 γ.2.2.2.1 γ.2.2.2.2.1)
theorem ok_law_judged (T : Tx w K mg) : Dn P w K mg base 2 (He.ga K "_law_judged") ["_law_read_here", "_law_text_here", "_law_end", "_law_costs_here", "_law_told"] (sp_law_judged K) := by
  obtain ⟨fd_law_cell_bounds, G_law_cell_bounds, b_law_cell_bounds, kp_law_cell_bounds, _⟩ := ok_law_cell_bounds (P := P) (w := w) (base := base) T
  obtain ⟨fd_law_agree, G_law_agree, b_law_agree, kp_law_agree, _⟩ := ok_law_agree (P := P) (w := w) (base := base) T
  refine dn_mk T.d_law_judged sc_law_judged (fun _ _ _ _ _ _ us hl => match us, hl with | [_, _, _, _, _], _ => rfl) (spM_len (an_C (an_C (an_C (an_C (an_C an_0)))))) fun cdv A outer s H vs Q E hr h => ?_
  refine ⟨_, (pss_cons (ps_asg (pv 4) (gt_ (K := K) (n := 3) (by rfl) (pgs_cons (pg_name (i := 5) sc_law_judged.nd rfl (.inl rfl)) (pgs_cons (pg_name (i := 6) sc_law_judged.nd rfl (.inl rfl)) (pgs_cons (pg_name (i := 7) sc_law_judged.nd rfl (.inl rfl)) pgs_nil)))))
      (pss_cons (ps_for PassesOwn.never rfl (iT_ (K := K) (pv 4)) (pg_name (i := 8) sc_law_judged.nd rfl (.inl rfl))
      (pss_cons (ps_if (PW.pt (pw_or (pt_cmpR op_ne (pe_callB (lenQ_ (K := K)) (by rfl) T.z_len (by decide +kernel) (pa_cons (pv 8) pa_nil)) (pe_op op_add (pe_callB k_lenS (by rfl) T.z_len (by decide +kernel) (pa_cons (pv 0) pa_nil)) pe_int) (nomark _)) (pw_or1 (pt_not (pt_val (pe_callB (all_ (K := K) rfl) (by rfl) T.z_all (by decide +kernel) (pa_cons (pe_lc (own := [("_law_row_here", 9)]) rfl sc_law_judged.nd (iL_ (K := K) (pv 8)) (blkOk_by (own := [("_law_row_here", 9)]) (N := ["_law_read_here", "_law_text_here", "_law_end", "_law_costs_here", "_law_told", "_law_p", "_law_q", "_law_r", "_law_table", "_law_row_here", "_law_i", "_law_j", "_law_w", "_law_pair", "_law_extra", "_law_gap", "_law_n"]) (sc := defScope s_law_judged) (by decide +kernel)) (fun _ _ _ _ _ => (pg_name (i := 9) sc_law_judged.nd rfl (.inl rfl))) (fun _ _ _ _ _ => pts_nil) (fun _ _ _ _ _ => (pe_cmpR op_eq (pe_callB (lenQ_ (K := K)) (by rfl) T.z_len (by decide +kernel) (pa_cons (pv 9) pa_nil)) (pe_op op_add (pv 2) pe_int) (nomark _)))) pa_nil)))))))
      (pss_cons (ps_ret pe_non)
      pss_nil)
      pss_nil)
      pss_nil))
      (pss_cons (ps_for PassesOwn.never rfl (pi_range1 (by rfl) T.z_range (pa_cons (pe_op op_add (pe_callB k_lenS (by rfl) T.z_len (by decide +kernel) (pa_cons (pv 0) pa_nil)) pe_int) pa_nil)) (pg_name (i := 10) sc_law_judged.nd rfl (.inl rfl))
      (pss_cons (ps_for PassesOwn.never rfl (pi_range1 (by rfl) T.z_range (pa_cons (pe_op op_add (pv 2) pe_int) pa_nil)) (pg_name (i := 11) sc_law_judged.nd rfl (.inl rfl))
      (pss_cons (ps_set (i := 12) sc_law_judged.nd rfl (.inl rfl) pe_int)
      (pss_cons (ps_if (PW.pt (pw_and (pt_cmpR op_gt (pv 10) pe_int (nomark _)) (pw_and1 (pt_cmpR op_gt (pv 11) pe_int (nomark _)))))
      (pss_cons (ps_set (i := 12) sc_law_judged.nd rfl (.inl rfl) (pe_op op_mul (pe_ix (ixT_ (K := K)) (pv 3) pe_int (fun _ _ => rfl)) (pe_callTy k_intB (by rfl) T.z_int (by decide +kernel) (pa_cons (pe_not (pe_call G_law_agree (hr.mono (by decide)) (by rfl) T.g_law_agree kp_law_agree b_law_agree .nil pass0 (pa_cons (pe_ix k_ixS (pv 0) (pe_op op_sub (pv 10) pe_int) (fun _ _ => rfl)) (pa_cons (pe_ix k_ixS (pv 1) (pe_op op_sub (pv 11) pe_int) (fun _ _ => rfl)) pa_nil)))) pa_nil))))
      pss_nil)
      pss_nil)
      (pss_cons (ps_asg (pe_call G_law_cell_bounds (hr.mono (by decide)) (by rfl) T.g_law_cell_bounds kp_law_cell_bounds b_law_cell_bounds .nil pass0 (pa_cons (pv 5) (pa_cons (pv 6) (pa_cons (pv 7) (pa_cons (pv 10) (pa_cons (pv 11) (pa_cons (pv 12) (pa_cons (pe_op op_add (pe_ix (ixT_ (K := K)) (pv 3) pe_int (fun _ _ => rfl)) (pe_ix (ixT_ (K := K)) (pv 3) pe_int (fun _ _ => rfl))) (pa_cons (pe_ix (ixT_ (K := K)) (pv 3) pe_int (fun _ _ => rfl)) pa_nil))))))))) (gt_ (K := K) (n := 3) (by rfl) (pgs_cons (pg_name (i := 13) sc_law_judged.nd rfl (.inl rfl)) (pgs_cons (pg_name (i := 14) sc_law_judged.nd rfl (.inl rfl)) (pgs_cons (pg_name (i := 15) sc_law_judged.nd rfl (.inl rfl)) pgs_nil)))))
      (pss_cons (ps_if (PW.pt (pw_or (PW.pt (pw_and (pt_cmpR op_gt (pe_callB (lenQ_ (K := K)) (by rfl) T.z_len (by decide +kernel) (pa_cons (pv 13) pa_nil)) pe_int (nomark _)) (pw_and1 (pt_cmpR op_gt (pe_ix (ixL_ (K := K)) (pe_ix (ixL_ (K := K)) (pv 5) (pv 10) (fun _ _ => rfl)) (pv 11) (fun _ _ => rfl)) (pe_callB (min_ (K := K) rfl) (by rfl) T.z_min (by decide +kernel) (pa_cons (pv 13) pa_nil)) (nomark _))))) (pw_or1 (PW.pt (pw_and (pt_cmpR op_gt (pe_callB (lenQ_ (K := K)) (by rfl) T.z_len (by decide +kernel) (pa_cons (pv 14) pa_nil)) pe_int (nomark _)) (pw_and1 (pt_cmpR op_gt (pe_ix (ixL_ (K := K)) (pe_ix (ixL_ (K := K)) (pv 6) (pv 10) (fun _ _ => rfl)) (pv 11) (fun _ _ => rfl)) (pe_callB (min_ (K := K) rfl) (by rfl) T.z_min (by decide +kernel) (pa_cons (pv 14) pa_nil)) (nomark _))))))))
      (pss_cons (ps_ret pe_non)
      pss_nil)
      pss_nil)
      (pss_cons (ps_if (PW.pt (pw_and (pt_cmpR op_gt (pe_callB (lenQ_ (K := K)) (by rfl) T.z_len (by decide +kernel) (pa_cons (pv 15) pa_nil)) pe_int (nomark _)) (pw_and1 (pt_cmpR op_gt (pe_ix (ixL_ (K := K)) (pe_ix (ixL_ (K := K)) (pv 7) (pv 10) (fun _ _ => rfl)) (pv 11) (fun _ _ => rfl)) (pe_callB (min_ (K := K) rfl) (by rfl) T.z_min (by decide +kernel) (pa_cons (pv 15) pa_nil)) (nomark _)))))
      (pss_cons (ps_ret pe_non)
      pss_nil)
      pss_nil)
      pss_nil))))))
      pss_nil))
      (pss_cons (ps_set (i := 16) sc_law_judged.nd rfl (.inl rfl) (pe_callB k_lenS (by rfl) T.z_len (by decide +kernel) (pa_cons (pv 0) pa_nil)))
      (pss_cons (ps_if (pt_cmpR op_eq (pv 2) pe_int (nomark _))
      (pss_cons (ps_ret (pe_ix (ixL_ (K := K)) (pe_ix (ixL_ (K := K)) (pv 6) (pv 16) (fun _ _ => rfl)) pe_int (fun _ _ => rfl)))
      pss_nil)
      pss_nil)
      (pss_cons (ps_ret (pe_callB (min3_ rfl) (by rfl) T.z_min (by decide +kernel) (pa_cons (pe_ix (ixL_ (K := K)) (pe_ix (ixL_ (K := K)) (pv 5) (pv 16) (fun _ _ => rfl)) (pv 2) (fun _ _ => rfl)) (pa_cons (pe_ix (ixL_ (K := K)) (pe_ix (ixL_ (K := K)) (pv 6) (pv 16) (fun _ _ => rfl)) (pv 2) (fun _ _ => rfl)) (pa_cons (pe_ix (ixL_ (K := K)) (pe_ix (ixL_ (K := K)) (pv 7) (pv 16) (fun _ _ => rfl)) (pv 2) (fun _ _ => rfl)) pa_nil)))))
      pss_nil)))))), ?_⟩
  refine fin_runX (E := (eC (sF jS) (eC (sF jS) (eC (sF jI) (eC (sF (jT (yC jI (yC jI (y1 jI))))) (eC (sF (jT (yC (jL (jL jI)) (yC (jL (jL jI)) (y1 (jL (jL jI))))))) (eU (eU (eU (eU (eU (eU (eU (eU (eU (eU (eU (eU eN)))))))))))))))))) (E' := eN) (ae_C (ae_C (ae_C (ae_C (ae_C (ae_U rfl (ae_U rfl (ae_U rfl (ae_U rfl (ae_U rfl (ae_U rfl (ae_U rfl (ae_U rfl (ae_U rfl (ae_U rfl (ae_U rfl (ae_U rfl ae_0))))))))))))))))) (an_C (an_C (an_C (an_C (an_C an_0))))) rfl ?S h rfl
  exact ⟨_, (ss_asgG (se_var (gS (gS (gS (gS g0))))) (sg_tup (K := K) (sgs_C (sg_name (pS (pS (pS (pS (pS p0U)))))) (sgs_C (sg_name (pS (pS (pS (pS (pS (pS p0U))))))) (sgs_1 (sg_name (pS (pS (pS (pS (pS (pS (pS p0U))))))))))) (tz (tz tz1))) (ss_seq (ss_for (si_tup (se_var (gS (gS (gS (gS g0))))) (tlC (tlC tl1))) (sg_name (pS (pS (pS (pS (pS (pS (pS (pS p0U))))))))) (ss_seq (ss_if (st_or (st_test (se_op (se_cb (sa_cons (se_var (gS (gS (gS (gS (gS (gS (gS (gS g0))))))))) sa_nil) (sc_lenL (K := K))) (se_op (se_cb (sa_cons (se_var g0) sa_nil) sc_lenS) se_int (s2_I0 (f := fun i j => i + j))) (s2_neI))) (st_not (st_B (se_cb (sa_cons (se_fz (se_lc (si_list (se_var (gS (gS (gS (gS (gS (gS (gS (gS g0)))))))))) (wp_cons (nS (nS (nS (nS (nS (nS (nS (nS (nS n0))))))))) wp_nil) (sg_name (pS (pS (pS (pS (pS (pS (pS (pS (pS p0U)))))))))) (se_op (se_cb (sa_cons (se_var (gS (gS (gS (gS (gS (gS (gS (gS (gS g0)))))))))) sa_nil) (sc_lenL (K := K))) (se_op (se_var (gS (gS g0))) se_int (s2_I0 (f := fun i j => i + j))) (s2_eqI)))) sa_nil) (sc_all (K := K)))))) (ss_seq (ss_ret se_nonOp) ss_nil) ss_nil) (ss_co (cK (cK (cK (cK (cK (cK (cK (cK (cF cId)))))))))))) (ss_seq (ss_for (si_r1 (sa_cons (se_op (se_cb (sa_cons (se_var g0) sa_nil) sc_lenS) se_int (s2_I0 (f := fun i j => i + j))) sa_nil)) (sg_name (pS (pS (pS (pS (pS (pS (pS (pS (pU (pU p0U))))))))))) (ss_seq (ss_for (si_r1 (sa_cons (se_op (se_var (gS (gS g0))) se_int (s2_I0 (f := fun i j => i + j))) sa_nil)) (sg_name (pS (pS (pS (pS (pS (pS (pS (pS (pU (pU (pS p0U)))))))))))) (ss_asg se_int (pS (pS (pS (pS (pS (pS (pS (pS (pU (pU (pS (pS p0U)))))))))))) (ss_seq (ss_if (st_and (st_test (se_op (se_var (gS (gS (gS (gS (gS (gS (gS (gS (gU (gU g0))))))))))) se_int (s2_C0 (f := fun i j => decide (j < i))))) (st_test (se_op (se_var (gS (gS (gS (gS (gS (gS (gS (gS (gU (gU (gS g0)))))))))))) se_int (s2_C0 (f := fun i j => decide (j < i)))))) (ss_asg (se_op (se_ixT (K := K) (i := 0) (se_var (gS (gS (gS g0)))) (tz (tz tz1))) (se_cb (sa_cons (se_notV (se_call (sa_cons (se_op (se_var g0) (se_op (se_var (gS (gS (gS (gS (gS (gS (gS (gS (gU (gU g0))))))))))) se_int (s2_I0 (f := fun i j => i - j))) s2_ixS) (sa_cons (se_op (se_var (gS g0)) (se_op (se_var (gS (gS (gS (gS (gS (gS (gS (gS (gU (gU (gS g0)))))))))))) se_int (s2_I0 (f := fun i j => i - j))) s2_ixS) sa_nil)))) sa_nil) sc_intB) s2_mul) (pS (pS (pS (pS (pS (pS (pS (pS (pU (pU (pS (pS p0)))))))))))) ss_nil) ss_nil) (ss_asgG (se_call (sa_cons (se_var (gS (gS (gS (gS (gS g0)))))) (sa_cons (se_var (gS (gS (gS (gS (gS (gS g0))))))) (sa_cons (se_var (gS (gS (gS (gS (gS (gS (gS g0)))))))) (sa_cons (se_var (gS (gS (gS (gS (gS (gS (gS (gS (gU (gU g0))))))))))) (sa_cons (se_var (gS (gS (gS (gS (gS (gS (gS (gS (gU (gU (gS g0)))))))))))) (sa_cons (se_var (gS (gS (gS (gS (gS (gS (gS (gS (gU (gU (gS (gS g0))))))))))))) (sa_cons (se_op (se_ixT (K := K) (i := 1) (se_var (gS (gS (gS g0)))) (ts (tz tz1))) (se_ixT (K := K) (i := 2) (se_var (gS (gS (gS g0)))) (ts (ts tz1))) (s2_I0 (f := fun i j => i + j))) (sa_cons (se_ixT (K := K) (i := 2) (se_var (gS (gS (gS g0)))) (ts (ts tz1))) sa_nil))))))))) (sg_tup (K := K) (sgs_C (sg_name (pS (pS (pS (pS (pS (pS (pS (pS (pU (pU (pS (pS (pS p0U)))))))))))))) (sgs_C (sg_name (pS (pS (pS (pS (pS (pS (pS (pS (pU (pU (pS (pS (pS (pS p0U))))))))))))))) (sgs_1 (sg_name (pS (pS (pS (pS (pS (pS (pS (pS (pU (pU (pS (pS (pS (pS (pS p0U))))))))))))))))))) (tz (tz tz1))) (ss_seq (ss_if (st_or (st_and (st_test (se_op (se_cb (sa_cons (se_var (gS (gS (gS (gS (gS (gS (gS (gS (gU (gU (gS (gS (gS g0)))))))))))))) sa_nil) (sc_lenL (K := K))) se_int (s2_C0 (f := fun i j => decide (j < i))))) (st_test (se_op (se_op (se_op (se_var (gS (gS (gS (gS (gS g0)))))) (se_var (gS (gS (gS (gS (gS (gS (gS (gS (gU (gU g0))))))))))) s2_ixL) (se_var (gS (gS (gS (gS (gS (gS (gS (gS (gU (gU (gS g0)))))))))))) s2_ixL) (se_cb (sa_cons (se_var (gS (gS (gS (gS (gS (gS (gS (gS (gU (gU (gS (gS (gS g0)))))))))))))) sa_nil) (sc_min (K := K))) (s2_C0 (f := fun i j => decide (j < i)))))) (st_and (st_test (se_op (se_cb (sa_cons (se_var (gS (gS (gS (gS (gS (gS (gS (gS (gU (gU (gS (gS (gS (gS g0))))))))))))))) sa_nil) (sc_lenL (K := K))) se_int (s2_C0 (f := fun i j => decide (j < i))))) (st_test (se_op (se_op (se_op (se_var (gS (gS (gS (gS (gS (gS g0))))))) (se_var (gS (gS (gS (gS (gS (gS (gS (gS (gU (gU g0))))))))))) s2_ixL) (se_var (gS (gS (gS (gS (gS (gS (gS (gS (gU (gU (gS g0)))))))))))) s2_ixL) (se_cb (sa_cons (se_var (gS (gS (gS (gS (gS (gS (gS (gS (gU (gU (gS (gS (gS (gS g0))))))))))))))) sa_nil) (sc_min (K := K))) (s2_C0 (f := fun i j => decide (j < i))))))) (ss_seq (ss_ret se_nonOp) ss_nil) ss_nil) (ss_seq (ss_if (st_and (st_test (se_op (se_cb (sa_cons (se_var (gS (gS (gS (gS (gS (gS (gS (gS (gU (gU (gS (gS (gS (gS (gS g0)))))))))))))))) sa_nil) (sc_lenL (K := K))) se_int (s2_C0 (f := fun i j => decide (j < i))))) (st_test (se_op (se_op (se_op (se_var (gS (gS (gS (gS (gS (gS (gS g0)))))))) (se_var (gS (gS (gS (gS (gS (gS (gS (gS (gU (gU g0))))))))))) s2_ixL) (se_var (gS (gS (gS (gS (gS (gS (gS (gS (gU (gU (gS g0)))))))))))) s2_ixL) (se_cb (sa_cons (se_var (gS (gS (gS (gS (gS (gS (gS (gS (gU (gU (gS (gS (gS (gS (gS g0)))))))))))))))) sa_nil) (sc_min (K := K))) (s2_C0 (f := fun i j => decide (j < i)))))) (ss_seq (ss_ret se_nonOp) ss_nil) ss_nil) (ss_co (cK (cK (cK (cK (cK (cK (cK (cK (cU (cU (cK (cF (cF (cF (cF (cF cId))))))))))))))))))))))) (ss_co (cK (cK (cK (cK (cK (cK (cK (cK (cU (cU (cF cId)))))))))))))) (ss_asg (se_cb (sa_cons (se_var g0) sa_nil) sc_lenS) (pS (pS (pS (pS (pS (pS (pS (pS (pU (pU (pU (pU (pU (pU (pU (pU p0U)))))))))))))))) (ss_seq (ss_if (st_test (se_op (se_var (gS (gS g0))) se_int (s2_eqI))) (ss_seq (ss_ret (se_toOp (se_op (se_op (se_var (gS (gS (gS (gS (gS (gS g0))))))) (se_var (gS (gS (gS (gS (gS (gS (gS (gS (gU (gU (gU (gU (gU (gU (gU (gU g0))))))))))))))))) s2_ixL) se_int s2_ixL))) ss_nil) ss_nil) (ss_seq (ss_ret (se_toOp (se_cb (sa_cons (se_op (se_op (se_var (gS (gS (gS (gS (gS g0)))))) (se_var (gS (gS (gS (gS (gS (gS (gS (gS (gU (gU (gU (gU (gU (gU (gU (gU g0))))))))))))))))) s2_ixL) (se_var (gS (gS g0))) s2_ixL) (sa_cons (se_op (se_op (se_var (gS (gS (gS (gS (gS (gS g0))))))) (se_var (gS (gS (gS (gS (gS (gS (gS (gS (gU (gU (gU (gU (gU (gU (gU (gU g0))))))))))))))))) s2_ixL) (se_var (gS (gS g0))) s2_ixL) (sa_cons (se_op (se_op (se_var (gS (gS (gS (gS (gS (gS (gS g0)))))))) (se_var (gS (gS (gS (gS (gS (gS (gS (gS (gU (gU (gU (gU (gU (gU (gU (gU g0))))))))))))))))) s2_ixL) (se_var (gS (gS g0))) s2_ixL) sa_nil))) sc_min3))) ss_nil)))))), by exact rfl⟩
end
end Lw
namespace Lw
open PySem PySem.Spec PyProof.Rows L2 Fw Mi
local macro_rules | `(tactic| walk_at "m") => `(tactic| simp only [pidx_one, pinS_one, pninS_one, W_some, W_none, W_ob, W_bind, W_pck, W_rb, W_fin, W_finN, W_T, W_F, W_Tr, W_Fa, Rw_nxt, Rw_ret, Rw_cnt, Rf_ret, Rf_nxt, RfN_ret, RfN_nxt, decide_true, decide_false, Bool.not_true, Bool.not_false])
theorem w_test {l : List Int} {c : Option Int} {x : Int} {Q : Bool → Prop} (hc : c = some x) (q : ∀ b, (b = true ↔ ¬ ∀ y ∈ l, x ≤ y) → Q b) : W (if decide ((0 : Int) < (l.length : Int)) = true then ob c fun x => ob (pmin l) fun y => some (decide (y < x)) else some false) Q := by
  subst hc
  refine W_ifD (fun h => ?_) (fun h => ?_)
  · cases hp : pmin l with
    | none => cases l with
      | nil => exact absurd h (by decide)
      | cons _ _ => cases hp
    | some v =>
      walk_at "m"
      refine q _ ?_
      rw [decide_eq_true_iff, ← Pp.min_le hp]
      omega
  · walk_at "m"
    have : l = [] := by
      cases l with
      | nil => rfl
      | cons a l => exact absurd (by simp) h
    subst this
    exact q _ ⟨fun h => (nomatch h), fun h => absurd (fun _ h => nomatch h) h⟩
theorem w_judged {rd tx : List Nat} {m rp : Nat} {s e : Int} {P Q' R : Nat → Nat → Int} {Q : Option Int → Prop} (hn : rd.length ≤ 1000) (hm : m ≤ tx.length) (ht : tx.length ≤ 1000) (h1 : rp ≤ 100)
    (yes : Pp.Hold rd.length m (fun i j => (wf rd tx rp i j : Int)) s e P Q' R → Q (some (Pp.shw rd.length m P Q' R))) (no : ¬ Pp.Hold rd.length m (fun i j => (wf rd tx rp i j : Int)) s e P Q' R → Q none) :
    W (m_law_judged rd tx (m : Int) ((rp : Int), s, e) (grid (rd.length + 1) (m + 1) P, grid (rd.length + 1) (m + 1) Q', grid (rd.length + 1) (m + 1) R)) Q := by
  have hz : ∀ k : Nat, k ≤ 4000 → k ≤ sz := fun k h => by unfold sz; omega
  generalize hw : (fun i j => (wf rd tx rp i j : Int)) = w at yes no
  have hpc : ∀ (M : Nat → Nat → Int) (a b : Nat), a ≤ rd.length → b ≤ m → (ob (pat (grid (rd.length + 1) (m + 1) M) (a : Int)) fun x => pat x (b : Int)) = some (M a b) := fun M a b ha hb => pcell_grid (by omega) (by omega)
  unfold m_law_judged
  rw [W_fin, W_rb]
  refine W_for (fun _ γ => γ = (rd, tx, (m : Int), ((rp : Int), s, e), (grid (rd.length + 1) (m + 1) P, grid (rd.length + 1) (m + 1) Q', grid (rd.length + 1) (m + 1) R), grid (rd.length + 1) (m + 1) P, grid (rd.length + 1) (m + 1) Q', grid (rd.length + 1) (m + 1) R, ())) rfl ?_ ?_
  · rintro k x γ hx rfl
    obtain ⟨M, rfl⟩ : ∃ M, x = grid (rd.length + 1) (m + 1) M := by
      have := List.mem_of_getElem? hx
      simp only [List.mem_cons, List.not_mem_nil, or_false] at this
      rcases this with h | h | h <;> exact ⟨_, h⟩
    walk_at "m"
    refine ⟨hz _ (by omega), ?_⟩
    rw [grid_len]
    rw [decide_eq_true (show ((rd.length + 1 : Nat) : Int) = (rd.length : Int) + 1 by omega)]
    walk_at "m"
    have hl : lcM (fun c3 : List Int => some (decide ((c3.length : Int) = (m : Int) + 1))) (grid (rd.length + 1) (m + 1) M) = some ((List.range (rd.length + 1)).map fun _ => true) := by
      unfold grid
      rw [lcM_map (g := fun _ => true) fun l hl => by
        obtain ⟨i, _, rfl⟩ := List.mem_map.mp hl
        rw [List.length_map, List.length_range, decide_eq_true (by omega)]]
      rw [List.map_map]
      rfl
    refine W_of hl ⟨hz _ (by simp; omega), ?_⟩
    have ha : (((List.range (rd.length + 1)).map fun _ => true).all id) = true := by
      rw [List.all_eq_true]
      intro x hx
      obtain ⟨_, _, rfl⟩ := List.mem_map.mp hx
      rfl
    rw [ha]
    walk_at "m"
  rintro γ rfl
  walk_at "m"
  refine ⟨hz _ (by omega), by omega, ?_⟩
  refine W_for (fun i γ => γ = (rd, tx, (m : Int), ((rp : Int), s, e), (grid (rd.length + 1) (m + 1) P, grid (rd.length + 1) (m + 1) Q', grid (rd.length + 1) (m + 1) R), grid (rd.length + 1) (m + 1) P, grid (rd.length + 1) (m + 1) Q', grid (rd.length + 1) (m + 1) R, ()) ∧
    ∀ i' j', i' < i → j' ≤ m → Pp.Hd w s e P Q' R i' j') ⟨rfl, fun _ _ h => by omega⟩ ?_ ?_
  · rintro i x γ hx ⟨rfl, hI⟩
    obtain ⟨rfl, hi⟩ := prange_get hx
    walk_at "m"
    refine ⟨by omega, ?_⟩
    refine W_for (fun j γ => γ = (rd, tx, (m : Int), ((rp : Int), s, e), (grid (rd.length + 1) (m + 1) P, grid (rd.length + 1) (m + 1) Q', grid (rd.length + 1) (m + 1) R), grid (rd.length + 1) (m + 1) P, grid (rd.length + 1) (m + 1) Q', grid (rd.length + 1) (m + 1) R, (i : Int), ()) ∧
      ∀ j', j' < j → Pp.Hd w s e P Q' R i j') ⟨rfl, fun _ h => by omega⟩ ?_ ?_
    · rintro j x γ hx ⟨rfl, hJ⟩
      obtain ⟨rfl, hj⟩ := prange_get hx
      have hin : i ≤ rd.length := by omega
      have hjm : j ≤ m := by omega
      walk_at "m"
      refine W.mono (Q := fun b => b = decide (0 < i ∧ 0 < j)) ?_ ?_
      · refine W_ifD (fun h => ?_) (fun h => ?_)
        · walk_at "m"
          rw [decide_eq_decide]
          omega
        · walk_at "m"
          rw [eq_comm, decide_eq_false_iff_not]
          omega
      rintro _ rfl
      refine W.mono (Q := fun r => ∃ v, r = Res.nxt (rd, tx, (m : Int), ((rp : Int), s, e), (grid (rd.length + 1) (m + 1) P, grid (rd.length + 1) (m + 1) Q', grid (rd.length + 1) (m + 1) R), grid (rd.length + 1) (m + 1) P, grid (rd.length + 1) (m + 1) Q', grid (rd.length + 1) (m + 1) R, (i : Int), (j : Int), v, ()) ∧ (0 < i → 0 < j → v = w (i - 1) (j - 1))) ?_ ?_
      · refine W_ifD (fun h => ?_) (fun h => ?_)
        · walk_at "m"
          have g1 : rd[i - 1]? = some (rd.getD (i - 1) 0) := by rw [List.getD_eq_getElem?_getD, List.getElem?_eq_getElem (by omega)]; rfl
          have g2 : tx[j - 1]? = some (tx.getD (j - 1) 0) := by rw [List.getD_eq_getElem?_getD, List.getElem?_eq_getElem (by omega)]; rfl
          rw [show (i : Int) - 1 = ((i - 1 : Nat) : Int) by omega, show (j : Int) - 1 = ((j - 1 : Nat) : Int) by omega]
          rw [pixS_nat g1 (hz _ (by omega)), pixS_nat g2 (hz _ (by omega))]
          walk_at "m"
          rw [m_law_agree_eq]
          walk_at "m"
          refine ⟨by left; constructor <;> omega, _, rfl, fun _ _ => ?_⟩
          rw [← hw]
          show _ = ((wf rd tx rp (i - 1) (j - 1) : Nat) : Int)
          unfold wf
          cases agr (rd.getD (i - 1) 0) (tx.getD (j - 1) 0) <;> simp
        · walk_at "m"
          exact ⟨0, rfl, fun a b => absurd ⟨a, b⟩ h⟩
      rintro _ ⟨v, rfl, hv⟩
      walk_at "m"
      refine w_bounds (wf := w) hin hjm hv ?_
      have nope : ¬ Pp.Hd w s e P Q' R i j → Q none := fun h => no fun hh => h (hh i j hin hjm)
      refine w_test (hpc P i j hin hjm) fun b1 hb1 => W_ifB (fun h => ?_) (fun h => ?_)
      · walk_at "m"
        exact nope fun hh => (hb1.mp h) hh.1
      · refine w_test (hpc Q' i j hin hjm) fun b2 hb2 => W_ifB (fun h' => ?_) (fun h' => ?_)
        · walk_at "m"
          exact nope fun hh => (hb2.mp h') hh.2.1
        · walk_at "m"
          refine w_test (hpc R i j hin hjm) fun b3 hb3 => W_ifB (fun h3 => ?_) (fun h3 => ?_)
          · walk_at "m"
            exact nope fun hh => (hb3.mp h3) hh.2.2
          · walk_at "m"
            refine ⟨trivial, fun j' hj' => ?_⟩
            by_cases e1 : j' = j
            · subst e1
              refine ⟨Classical.byContradiction fun z => ?_, Classical.byContradiction fun z => ?_, Classical.byContradiction fun z => ?_⟩
              · rw [hb1.mpr z] at h; cases h
              · rw [hb2.mpr z] at h'; cases h'
              · rw [hb3.mpr z] at h3; cases h3
            · exact hJ j' (by omega)
    · rintro γ ⟨rfl, hJ⟩
      rw [prange_len] at hJ
      walk_at "m"
      refine ⟨trivial, fun i' j' hi' hj' => ?_⟩
      by_cases e1 : i' = i
      · subst e1
        exact hJ j' (by omega)
      · exact hI i' j' (by omega) hj'
  · rintro γ ⟨rfl, hI⟩
    rw [prange_len] at hI
    have hold : Pp.Hold rd.length m w s e P Q' R := fun i j hi hj => hI i j (by omega) hj
    have hy := yes hold
    unfold Pp.shw at hy
    walk_at "m"
    refine ⟨hz _ (by omega), ?_⟩
    refine W_ifD (fun h => ?_) (fun h => ?_)
    · rw [if_pos (show m = 0 by omega)] at hy
      have := hpc Q' rd.length 0 (Nat.le_refl _) (Nat.zero_le _)
      walk_at "m"
      rw [← W_ob]
      exact W_of this hy
    · rw [if_neg (show ¬ m = 0 by omega)] at hy
      walk_at "m"
      rw [← W_ob]
      refine W_of (hpc P rd.length m (Nat.le_refl _) (Nat.le_refl _)) ?_
      rw [← W_ob]
      refine W_of (hpc Q' rd.length m (Nat.le_refl _) (Nat.le_refl _)) ?_
      rw [← W_ob]
      exact W_of (hpc R rd.length m (Nat.le_refl _) (Nat.le_refl _)) hy
/-- tables of wrong sizes -/
theorem w_judged_bad {rd tx : List Nat} {m : Nat} {rp s e : Int} {A B C : List (List Int)} {Q : Option Int → Prop} (hn : rd.length ≤ 1000) (hl : ∀ t ∈ [A, B, C], t.length ≤ sz) (hb : ¬ ∀ t ∈ [A, B, C], t.length = rd.length + 1 ∧ ∀ r ∈ t, r.length = m + 1) (q : Q none) :
    W (m_law_judged rd tx (m : Int) (rp, s, e) (A, B, C)) Q := by
  have hz : ∀ k : Nat, k ≤ 4000 → k ≤ sz := fun k h => by unfold sz; omega
  unfold m_law_judged
  rw [W_fin, W_rb]
  refine W_for (fun k γ => γ = (rd, tx, (m : Int), (rp, s, e), (A, B, C), A, B, C, ()) ∧ ∀ k' t, k' < k → [A, B, C][k']? = some t → t.length = rd.length + 1 ∧ ∀ r ∈ t, r.length = m + 1) ⟨rfl, fun _ _ h => by omega⟩ ?_ ?_
  · rintro k x γ hx ⟨rfl, hI⟩
    walk_at "m"
    refine ⟨hz _ (by omega), ?_⟩
    refine W.mono (Q := fun b => b = decide (¬ (x.length = rd.length + 1 ∧ ∀ r ∈ x, r.length = m + 1))) ?_ ?_
    · by_cases h : x.length = rd.length + 1
      · rw [decide_eq_true (show (x.length : Int) = (rd.length : Int) + 1 by omega)]
        walk_at "m"
        refine W_of (lcM_map (g := fun r => decide ((r.length : Int) = (m : Int) + 1)) fun _ _ => rfl) ⟨by rw [List.length_map]; exact hl _ (List.mem_of_getElem? hx), ?_⟩
        have ha : ((x.map fun r => decide ((r.length : Int) = (m : Int) + 1)).all id) = decide (∀ r ∈ x, r.length = m + 1) := by
          rw [Bool.eq_iff_iff, List.all_eq_true, decide_eq_true_iff]
          constructor
          · intro h r hr
            have := of_decide_eq_true (h _ (List.mem_map.mpr ⟨r, hr, rfl⟩))
            omega
          · intro h b hb
            obtain ⟨r, hr, rfl⟩ := List.mem_map.mp hb
            have := h r hr
            exact decide_eq_true (by omega)
        rw [ha, ← decide_not, decide_eq_decide]
        exact ⟨fun z y => z y.2, fun z y => z ⟨h, y⟩⟩
      · rw [decide_eq_false (show ¬ (x.length : Int) = (rd.length : Int) + 1 by omega)]
        walk_at "m"
        rw [eq_comm, decide_eq_true_iff]
        exact fun y => h y.1
    rintro _ rfl
    refine W_ifD (fun h => ?_) (fun h => ?_)
    · walk_at "m"
      exact q
    · walk_at "m"
      refine ⟨by trivial, fun k' t hk ht => ?_⟩
      by_cases e1 : k' = k
      · rw [e1, hx] at ht
        cases ht
        exact Classical.not_not.mp h
      · exact hI k' t (by omega) ht
  · rintro γ ⟨rfl, hI⟩
    refine absurd (fun t ht => ?_) hb
    obtain ⟨k, hk⟩ := List.mem_iff_getElem?.mp ht
    exact hI k t (List.getElem?_eq_some_iff.mp hk).1 hk

end Lw
namespace Lw
open PySem PySem.Spec PyProof.Rows L2 Fw Mi
section
variable {P : Program} {w : World} {K : PySem.W.Frag} {mg : Str → Option Value} {base : Heap}
noncomputable def m_law_turned (text : (List Nat)) : Option (List Nat) := fin (κ := Unit) (ρ := Unit) (let news := ([] : List Nat); rb (forR (fun (x_ : (List Nat)) (γ : ((List Nat) × (List Nat) × Unit)) => let letter := x_; let text := γ.1; let news := γ.2.1; ob (ob (ob (pidx ([65, 67, 71, 84, 78] : List Nat) letter) fun y1 => (pixS ([84, 71, 67, 65, 78] : List Nat) y1)) fun x2 => (pck (x2.length + news.length ≤ sz) (x2 ++ news))) fun news => some (.nxt (text, news, ()))) (text.map fun c => [c]) (text, news, ())) fun γ => let news := γ.2.1; rb (some (.ret news)) fun γ => some (.nxt γ))
abbrev sp_law_turned (K : PySem.W.Frag) : Sp := spM (aC jS aN) (sF jS) (fun γ => m_law_turned γ.1)
theorem ok_law_turned (T : Tx w K mg) : Dn P w K mg base 1 (He.ga K "_law_turned") ["_law_text_here"] (sp_law_turned K) := by
  refine dn_mk T.d_law_turned sc_law_turned (fun _ _ _ _ _ _ us hl => match us, hl with | [_], _ => rfl) (spM_len (an_C an_0)) fun cdv A outer s H vs Q E hr h => ?_
  refine ⟨_, (pss_cons (ps_set (i := 1) sc_law_turned.nd rfl (.inl rfl) (pe_strL (l := []) (by decide +kernel)))
      (pss_cons (ps_for PassesOwn.never rfl (pi_str (pv 0)) (pg_name (i := 2) sc_law_turned.nd rfl (.inl rfl))
      (pss_cons (ps_set (i := 1) sc_law_turned.nd rfl (.inl rfl) (pe_op k_addS (pe_ix k_ixS (pe_strL (l := [84, 71, 67, 65, 78]) (by decide +kernel)) (pe_indexL (pe_strL (l := [65, 67, 71, 84, 78]) (by decide +kernel)) (pv 2)) (fun _ _ => rfl)) (pv 1)))
      pss_nil))
      (pss_cons (ps_ret (pv 1))
      pss_nil))), ?_⟩
  refine fin_runX (E := (eC (sF jS) (eU (eU eN)))) (E' := eN) (ae_C (ae_U rfl (ae_U rfl ae_0))) (an_C an_0) rfl ?S h rfl
  exact ⟨_, (ss_asg (se_str (l := [])) (pS p0U) (ss_seq (ss_for (si_str (se_var g0)) (sg_name (pS (pS p0U))) (ss_asg (se_op (se_op (se_str (l := [84, 71, 67, 65, 78])) (se_m1 (se_str (l := [65, 67, 71, 84, 78])) (se_var (gS (gS g0))) sm_idx) s2_ixS) (se_var (gS g0)) s2_addS) (pS p0) (ss_co (cK (cK (cF cId)))))) (ss_seq (ss_ret (se_var (gS g0))) ss_nil))), by exact rfl⟩
end
end Lw
namespace Lw
open PySem PySem.Spec PyProof.Rows L2 Fw Mi
local macro_rules | `(tactic| walk_at "m") => `(tactic| simp only [pidx_one, pinS_one, pninS_one, W_some, W_none, W_ob, W_bind, W_pck, W_rb, W_fin, W_finN, W_T, W_F, W_Tr, W_Fa, Rw_nxt, Rw_ret, Rw_cnt, Rf_ret, Rf_nxt, RfN_ret, RfN_nxt, decide_true, decide_false, Bool.not_true, Bool.not_false])
theorem m_turned_eq {l : List Nat} (hl : Ltr l) (hz : l.length ≤ 1000000) : m_law_turned l = some (trn l) := by
  refine W.eq ?_
  unfold m_law_turned
  walk_at "m"
  refine W_for (fun i γ => γ = (l, trn (l.take i), ())) (by rw [List.take_zero]; rfl) ?_ ?_
  · rintro i x γ hx rfl
    obtain ⟨c, hc, rfl⟩ := sing_get hx
    have hi := (List.getElem?_eq_some_iff.mp hc).1
    have hcl := hl c (List.mem_of_getElem? hc)
    walk_at "m"
    refine ⟨hcl, ?_⟩
    have hidx : ([65, 67, 71, 84, 78] : List Nat).idxOf c < 5 := List.idxOf_lt_length_of_mem hcl
    refine W_pixS (by decide) (by show 0 ≤ (([65, 67, 71, 84, 78] : List Nat).idxOf c : Int) ∧ (([65, 67, 71, 84, 78] : List Nat).idxOf c : Int) < 5; omega) fun d hd => ?_
    refine ⟨by rw [trn_len, List.length_take]; unfold sz; simp; omega, ?_⟩
    rw [Int.toNat_natCast] at hd
    have ed : d = opp c := by unfold opp; rw [List.getD_eq_getElem?_getD, hd]; rfl
    rw [ed, List.take_add_one, hc]
    show _ = (l, trn (l.take i ++ [c]), ())
    unfold trn
    rw [List.map_append, List.reverse_append]
    rfl
  · rintro γ rfl
    walk_at "m"
    rw [List.length_map, List.take_length]

end Lw
namespace Lw
open PySem PySem.Spec PyProof.Rows L2 Fw Mi
section
variable {P : Program} {w : World} {K : PySem.W.Frag} {mg : Str → Option Value} {base : Heap}
noncomputable def m_law_read (cell : Int) (text : (List Nat)) (size : Int) : Option (List Nat) := fin (κ := Unit) (ρ := Unit) (ob (ob (pck (text.length ≤ sz) (text.length : Int)) fun y1 => (pck (PMod (cell.natAbs : Int) y1) ((cell.natAbs : Int) % y1))) fun start => ob (pck (text.length ≤ sz) (pcut text (some start) (some (start + size)))) fun read => rb (ob (ob (ob (ob (pck (PDiv (cell.natAbs : Int) (101 : Int)) ((cell.natAbs : Int) / (101 : Int))) fun x32 => (pck (PMod x32 (4 : Int)) (x32 % (4 : Int)))) fun x33 => some (x33, ())) fun z34 => (pck (-4611686018427387904 ≤ z34.1 ∧ z34.1 < 4611686018427387904) (prange z34.1))) fun xs35 => (forR (fun (x_ : Int) (γ : (Int × (List Nat) × Int × Int × Int × (List Nat) × Unit)) => let k := x_; let cell := γ.1; let text := γ.2.1; let size := γ.2.2.1; let x := γ.2.2.2.1; let start := γ.2.2.2.2.1; let read := γ.2.2.2.2.2.1; ob (ob (ob (pck (PMul (17 : Int) k) ((17 : Int) * k)) fun y5 => some ((303 : Int) + y5)) fun y6 => (pck (PDiv x y6) (x / y6))) fun y => ob (ob (ob (pck (read.length ≤ sz) (read.length : Int)) fun x7 => some (x7 + (1 : Int))) fun y8 => (pck (PMod y y8) (y % y8))) fun at_ => ob (ob (ob (pck (PDiv y (7 : Int)) (y / (7 : Int))) fun x9 => (pck (PMod x9 (5 : Int)) (x9 % (5 : Int)))) fun y10 => (pixS ([65, 67, 71, 84, 78] : List Nat) y10)) fun letter => rb ((ob (ob (ob (pck (PDiv y (35 : Int)) (y / (35 : Int))) fun x11 => (pck (PMod x11 (3 : Int)) (x11 % (3 : Int)))) fun x12 => some (decide (x12 = (0 : Int)))) fun b26 => if b26 = true then (ob (ob (ob (pck (read.length ≤ sz) (pcut read none (some at_))) fun x13 => (pck (x13.length + letter.length ≤ sz) (x13 ++ letter))) fun x14 => (ob (pck (read.length ≤ sz) (pcut read (some at_) none)) fun y15 => (pck (x14.length + y15.length ≤ sz) (x14 ++ y15)))) fun read => some (.nxt (cell, text, size, x, start, read, k, y, at_, letter, ()))) else (rb ((ob ((ob (ob (ob (pck (PDiv y (35 : Int)) (y / (35 : Int))) fun x16 => (pck (PMod x16 (3 : Int)) (x16 % (3 : Int)))) fun x17 => some (decide (x17 = (1 : Int)))) fun b19 => if b19 = true then (ob (pck (read.length ≤ sz) (read.length : Int)) fun x18 => some (decide ((1 : Int) < x18))) else some false)) fun b25 => if b25 = true then (ob (ob (pck (read.length ≤ sz) (pcut read none (some at_))) fun x20 => (ob (pck (read.length ≤ sz) (pcut read (some (at_ + (1 : Int))) none)) fun y21 => (pck (x20.length + y21.length ≤ sz) (x20 ++ y21)))) fun read => some (.nxt (cell, text, size, x, start, read, k, y, at_, letter, ()))) else (ob (ob (ob (pck (read.length ≤ sz) (pcut read none (some at_))) fun x22 => (pck (x22.length + letter.length ≤ sz) (x22 ++ letter))) fun x23 => (ob (pck (read.length ≤ sz) (pcut read (some (at_ + (1 : Int))) none)) fun y24 => (pck (x23.length + y24.length ≤ sz) (x23 ++ y24)))) fun read => some (.nxt (cell, text, size, x, start, read, k, y, at_, letter, ()))))) fun γ => let cell := γ.1; let text := γ.2.1; let size := γ.2.2.1; let x := γ.2.2.2.1; let start := γ.2.2.2.2.1; let read := γ.2.2.2.2.2.1; let k := γ.2.2.2.2.2.2.1; let y := γ.2.2.2.2.2.2.2.1; let at_ := γ.2.2.2.2.2.2.2.2.1; let letter := γ.2.2.2.2.2.2.2.2.2.1; some (.nxt (cell, text, size, x, start, read, k, y, at_, letter, ()))))) fun γ => let cell := γ.1; let text := γ.2.1; let size := γ.2.2.1; let x := γ.2.2.2.1; let start := γ.2.2.2.2.1; let read := γ.2.2.2.2.2.1; some (.nxt (cell, text, size, x, start, read, ()))) xs35 (cell, text, size, (cell.natAbs : Int), start, read, ()))) fun γ => let cell := γ.1; let text := γ.2.1; let size := γ.2.2.1; let x := γ.2.2.2.1; let start := γ.2.2.2.2.1; let read := γ.2.2.2.2.2.1; rb ((ob (ob (ob (pck (PDiv x (7777 : Int)) (x / (7777 : Int))) fun x27 => (pck (PMod x27 (2 : Int)) (x27 % (2 : Int)))) fun x28 => some (decide (x28 = (1 : Int)))) fun b31 => if b31 = true then (rb (ob (m_law_turned read) fun r30 => some (.ret r30)) fun γ => some (.nxt γ)) else (some (.nxt (cell, text, size, x, start, read, ()))))) fun γ => let read := γ.2.2.2.2.2.1; rb (some (.ret read)) fun γ => some (.nxt γ))
abbrev sp_law_read (K : PySem.W.Frag) : Sp := spM (aC jI (aC jS (aC jI aN))) (sF jS) (fun γ => m_law_read γ.1 γ.2.1 γ.2.2.1)
theorem ok_law_read (T : Tx w K mg) : Dn P w K mg base 2 (He.ga K "_law_read") ["_law_cell_here", "_law_text_here", "_law_size"] (sp_law_read K) := by
  obtain ⟨fd_law_turned, G_law_turned, b_law_turned, kp_law_turned, _⟩ := ok_law_turned (P := P) (w := w) (base := base) T
  refine dn_mk T.d_law_read sc_law_read (fun _ _ _ _ _ _ us hl => match us, hl with | [_, _, _], _ => rfl) (spM_len (an_C (an_C (an_C an_0)))) fun cdv A outer s H vs Q E hr h => ?_
  refine ⟨_, (pss_cons (ps_set (i := 3) sc_law_read.nd rfl (.inl rfl) (pe_callB k_abs (by rfl) T.z_abs (by decide +kernel) (pa_cons (pe_callTy k_int (by rfl) T.z_int (by decide +kernel) (pa_cons (pv 0) pa_nil)) pa_nil)))
      (pss_cons (ps_set (i := 4) sc_law_read.nd rfl (.inl rfl) (pe_op op_mod (pv 3) (pe_callB k_lenS (by rfl) T.z_len (by decide +kernel) (pa_cons (pv 1) pa_nil))))
      (pss_cons (ps_set (i := 5) sc_law_read.nd rfl (.inl rfl) (pe_slice k_slS (pv 1) (po_some (pv 4)) (po_some (pe_op op_add (pv 4) (pv 2)))))
      (pss_cons (ps_for PassesOwn.never rfl (pi_range1 (by rfl) T.z_range (pa_cons (pe_op op_mod (pe_op op_fdiv (pv 3) pe_int) pe_int) pa_nil)) (pg_name (i := 6) sc_law_read.nd rfl (.inl rfl))
      (pss_cons (ps_set (i := 7) sc_law_read.nd rfl (.inl rfl) (pe_op op_fdiv (pv 3) (pe_op op_add pe_int (pe_op op_mul pe_int (pv 6)))))
      (pss_cons (ps_set (i := 8) sc_law_read.nd rfl (.inl rfl) (pe_op op_mod (pv 7) (pe_op op_add (pe_callB k_lenS (by rfl) T.z_len (by decide +kernel) (pa_cons (pv 5) pa_nil)) pe_int)))
      (pss_cons (ps_set (i := 9) sc_law_read.nd rfl (.inl rfl) (pe_ix k_ixS (pe_strL (l := [65, 67, 71, 84, 78]) (by decide +kernel)) (pe_op op_mod (pe_op op_fdiv (pv 7) pe_int) pe_int) (fun _ _ => rfl)))
      (pss_cons (ps_if (pt_cmpR op_eq (pe_op op_mod (pe_op op_fdiv (pv 7) pe_int) pe_int) pe_int (nomark _))
      (pss_cons (ps_set (i := 5) sc_law_read.nd rfl (.inl rfl) (pe_op k_addS (pe_op k_addS (pe_slice k_slS (pv 5) po_none (po_some (pv 8))) (pv 9)) (pe_slice k_slS (pv 5) (po_some (pv 8)) po_none)))
      pss_nil)
      (pss_cons (ps_if (PW.pt (pw_and (pt_cmpR op_eq (pe_op op_mod (pe_op op_fdiv (pv 7) pe_int) pe_int) pe_int (nomark _)) (pw_and1 (pt_cmpR op_gt (pe_callB k_lenS (by rfl) T.z_len (by decide +kernel) (pa_cons (pv 5) pa_nil)) pe_int (nomark _)))))
      (pss_cons (ps_set (i := 5) sc_law_read.nd rfl (.inl rfl) (pe_op k_addS (pe_slice k_slS (pv 5) po_none (po_some (pv 8))) (pe_slice k_slS (pv 5) (po_some (pe_op op_add (pv 8) pe_int)) po_none)))
      pss_nil)
      (pss_cons (ps_set (i := 5) sc_law_read.nd rfl (.inl rfl) (pe_op k_addS (pe_op k_addS (pe_slice k_slS (pv 5) po_none (po_some (pv 8))) (pv 9)) (pe_slice k_slS (pv 5) (po_some (pe_op op_add (pv 8) pe_int)) po_none)))
      pss_nil))
      pss_nil))
      pss_nil)))))
      (pss_cons (ps_if (pt_cmpR op_eq (pe_op op_mod (pe_op op_fdiv (pv 3) pe_int) pe_int) pe_int (nomark _))
      (pss_cons (ps_ret (pe_call G_law_turned (hr.mono (by decide)) (by rfl) T.g_law_turned kp_law_turned b_law_turned .nil pass0 (pa_cons (pv 5) pa_nil)))
      pss_nil)
      pss_nil)
      (pss_cons (ps_ret (pv 5))
      pss_nil)))))), ?_⟩
  refine fin_runX (E := (eC (sF jI) (eC (sF jS) (eC (sF jI) (eU (eU (eU (eU (eU (eU (eU eN))))))))))) (E' := eN) (ae_C (ae_C (ae_C (ae_U rfl (ae_U rfl (ae_U rfl (ae_U rfl (ae_U rfl (ae_U rfl (ae_U rfl ae_0)))))))))) (an_C (an_C (an_C an_0))) rfl ?S h rfl
  exact ⟨_, (ss_asg (se_cb (sa_cons (se_cb (sa_cons (se_var g0) sa_nil) sc_int) sa_nil) sc_abs) (pS (pS (pS p0U))) (ss_asg (se_op (se_var (gS (gS (gS g0)))) (se_cb (sa_cons (se_var (gS g0)) sa_nil) sc_lenS) s2_mod) (pS (pS (pS (pS p0U)))) (ss_asg (se_sl (se_var (gS g0)) (sp_so (se_var (gS (gS (gS (gS g0)))))) (sp_so (se_op (se_var (gS (gS (gS (gS g0))))) (se_var (gS (gS g0))) (s2_I0 (f := fun i j => i + j)))) s3_S) (pS (pS (pS (pS (pS p0U))))) (ss_seq (ss_for (si_r1 (sa_cons (se_op (se_op (se_var (gS (gS (gS g0)))) se_int s2_div) se_int s2_mod) sa_nil)) (sg_name (pS (pS (pS (pS (pS (pS p0U))))))) (ss_asg (se_op (se_var (gS (gS (gS g0)))) (se_op se_int (se_op se_int (se_var (gS (gS (gS (gS (gS (gS g0))))))) s2_mul) (s2_I0 (f := fun i j => i + j))) s2_div) (pS (pS (pS (pS (pS (pS (pS p0U))))))) (ss_asg (se_op (se_var (gS (gS (gS (gS (gS (gS (gS g0)))))))) (se_op (se_cb (sa_cons (se_var (gS (gS (gS (gS (gS g0)))))) sa_nil) sc_lenS) se_int (s2_I0 (f := fun i j => i + j))) s2_mod) (pS (pS (pS (pS (pS (pS (pS (pS p0U)))))))) (ss_asg (se_op (se_str (l := [65, 67, 71, 84, 78])) (se_op (se_op (se_var (gS (gS (gS (gS (gS (gS (gS g0)))))))) se_int s2_div) se_int s2_mod) s2_ixS) (pS (pS (pS (pS (pS (pS (pS (pS (pS p0U))))))))) (ss_seq (ss_if (st_test (se_op (se_op (se_op (se_var (gS (gS (gS (gS (gS (gS (gS g0)))))))) se_int s2_div) se_int s2_mod) se_int (s2_eqI))) (ss_asg (se_op (se_op (se_sl (se_var (gS (gS (gS (gS (gS g0)))))) sp_no (sp_so (se_var (gS (gS (gS (gS (gS (gS (gS (gS g0)))))))))) s3_S) (se_var (gS (gS (gS (gS (gS (gS (gS (gS (gS g0)))))))))) s2_addS) (se_sl (se_var (gS (gS (gS (gS (gS g0)))))) (sp_so (se_var (gS (gS (gS (gS (gS (gS (gS (gS g0)))))))))) sp_no s3_S) s2_addS) (pS (pS (pS (pS (pS p0))))) ss_nil) (ss_seq (ss_if (st_and (st_test (se_op (se_op (se_op (se_var (gS (gS (gS (gS (gS (gS (gS g0)))))))) se_int s2_div) se_int s2_mod) se_int (s2_eqI))) (st_test (se_op (se_cb (sa_cons (se_var (gS (gS (gS (gS (gS g0)))))) sa_nil) sc_lenS) se_int (s2_C0 (f := fun i j => decide (j < i)))))) (ss_asg (se_op (se_sl (se_var (gS (gS (gS (gS (gS g0)))))) sp_no (sp_so (se_var (gS (gS (gS (gS (gS (gS (gS (gS g0)))))))))) s3_S) (se_sl (se_var (gS (gS (gS (gS (gS g0)))))) (sp_so (se_op (se_var (gS (gS (gS (gS (gS (gS (gS (gS g0))))))))) se_int (s2_I0 (f := fun i j => i + j)))) sp_no s3_S) s2_addS) (pS (pS (pS (pS (pS p0))))) ss_nil) (ss_asg (se_op (se_op (se_sl (se_var (gS (gS (gS (gS (gS g0)))))) sp_no (sp_so (se_var (gS (gS (gS (gS (gS (gS (gS (gS g0)))))))))) s3_S) (se_var (gS (gS (gS (gS (gS (gS (gS (gS (gS g0)))))))))) s2_addS) (se_sl (se_var (gS (gS (gS (gS (gS g0)))))) (sp_so (se_op (se_var (gS (gS (gS (gS (gS (gS (gS (gS g0))))))))) se_int (s2_I0 (f := fun i j => i + j)))) sp_no s3_S) s2_addS) (pS (pS (pS (pS (pS p0))))) ss_nil)) ss_nil)) (ss_co (cK (cK (cK (cK (cK (cK (cF (cF (cF (cF cId)))))))))))))))) (ss_seq (ss_if (st_test (se_op (se_op (se_op (se_var (gS (gS (gS g0)))) se_int s2_div) se_int s2_mod) se_int (s2_eqI))) (ss_seq (ss_ret (se_call (sa_cons (se_var (gS (gS (gS (gS (gS g0)))))) sa_nil))) ss_nil) ss_nil) (ss_seq (ss_ret (se_var (gS (gS (gS (gS (gS g0))))))) ss_nil)))))), by exact rfl⟩
end
end Lw
namespace Lw
open PySem PySem.Spec PyProof.Rows L2 Fw Mi
local macro_rules | `(tactic| walk_at "m") => `(tactic| simp only [pidx_one, pinS_one, pninS_one, W_some, W_none, W_ob, W_bind, W_pck, W_rb, W_fin, W_finN, W_T, W_F, W_Tr, W_Fa, Rw_nxt, Rw_ret, Rw_cnt, Rf_ret, Rf_nxt, RfN_ret, RfN_nxt, decide_true, decide_false, Bool.not_true, Bool.not_false])
theorem w_read {c s : Int} {l : List Nat} {Q : List Nat → Prop} (hl : Ltr l) (h1 : 1 ≤ l.length ∧ l.length ≤ 1000) (hs : 1 ≤ s ∧ s ≤ 1000) (q : ∀ r : List Nat, Ltr r → 1 ≤ r.length → r.length ≤ s.toNat + 3 → Q r) : W (m_law_read c l s) Q := by
  unfold m_law_read
  walk_at "m"
  refine ⟨by unfold sz; omega, by omega, by unfold sz; omega, ?_⟩
  generalize hx : (c.natAbs : Int) = x
  have hx0 : 0 ≤ x := by omega
  obtain ⟨st, hst, hst2⟩ : ∃ st : Nat, x % (l.length : Int) = (st : Int) ∧ st < l.length := by
    have a := Int.emod_nonneg x (show (l.length : Int) ≠ 0 by omega)
    have b := Int.emod_lt_of_pos x (show 0 < (l.length : Int) by omega)
    exact ⟨(x % (l.length : Int)).toNat, by omega, by omega⟩
  rw [hst]
  have es : (st : Int) + s = ((st + s.toNat : Nat) : Int) := by omega
  rw [es, pcut_nat, show st + s.toNat - st = s.toNat by omega]
  refine ⟨by omega, by omega, by omega, ?_⟩
  refine W_for (fun i γ => ∃ r : List Nat, ∃ start, γ = (c, l, s, x, start, r, ()) ∧ Ltr r ∧ 1 ≤ r.length ∧ r.length ≤ s.toNat + i) ⟨_, _, rfl, hl.sub fun c hc => List.mem_of_mem_drop (List.mem_of_mem_take hc), by rw [List.length_take, List.length_drop]; omega, by rw [List.length_take]; omega⟩ ?_ ?_
  · rintro i k γ hk ⟨r, start, rfl, a1, a2, a3⟩
    obtain ⟨rfl, hi⟩ := prange_get hk
    walk_at "m"
    have hi3 : i ≤ 2 := by omega
    refine ⟨by omega, ⟨by omega, by omega⟩, by unfold sz; omega, by omega, ⟨by omega, by omega⟩, by omega, ?_⟩
    generalize x / (303 + 17 * (i : Int)) = y
    obtain ⟨at_, hat, hat2⟩ : ∃ at_ : Nat, y % ((r.length : Int) + 1) = (at_ : Int) ∧ at_ ≤ r.length := by
      have a := Int.emod_nonneg y (show (r.length : Int) + 1 ≠ 0 by omega)
      have b := Int.emod_lt_of_pos y (show 0 < (r.length : Int) + 1 by omega)
      exact ⟨(y % ((r.length : Int) + 1)).toNat, by omega, by omega⟩
    rw [hat]
    refine W_pixS (by decide) (by show 0 ≤ y / 7 % 5 ∧ y / 7 % 5 < 5; omega) fun d hd => ?_
    have ld : Ltr [d] := fun c hc => by rw [List.mem_singleton.mp hc]; exact List.mem_of_getElem? hd
    have e1 : (at_ : Int) + 1 = ((at_ + 1 : Nat) : Int) := by omega
    refine ⟨⟨by omega, by omega⟩, by omega, ?_⟩
    rw [e1]
    rw [pcut_to, pcut_from, pcut_from]
    have q1 : Ltr (r.take at_) := a1.sub fun c hc => List.mem_of_mem_take hc
    have q2 : ∀ k, Ltr (r.drop k) := fun k => a1.sub fun c hc => List.mem_of_mem_drop hc
    have n1 : (r.take at_).length = at_ := by rw [List.length_take]; omega
    have hz : ∀ m : Nat, m ≤ 2000 → m ≤ sz := fun m h => by unfold sz; omega
    refine W_ifD (fun h => ?_) (fun h => ?_)
    · walk_at "m"
      refine ⟨hz _ (by omega), hz _ (by rw [n1]; simp; omega), hz _ (by omega), hz _ (by rw [List.length_append, n1, List.length_drop]; simp; omega), _, _, rfl, (q1.app ld).app (q2 _), by simp; omega, by simp only [List.length_append, n1, List.length_drop, List.length_singleton]; omega⟩
    · walk_at "m"
      refine ⟨⟨by omega, by omega⟩, by omega, ?_⟩
      rw [← W_ob]
      refine W.mono (Q := fun r' => ∃ r2 : List Nat, r' = Res.nxt (c, l, s, x, start, r2, (i : Int), y, (at_ : Int), [d], ()) ∧ Ltr r2 ∧ 1 ≤ r2.length ∧ r2.length ≤ s.toNat + (i + 1)) ?_ ?_
      · walk_at "m"
        refine W.mono (Q := fun b => b = true → 1 < (r.length : Int)) ?_ fun b hb => W_ifB (fun h => ?_) (fun h => ?_)
        · refine W_ifD (fun h => ?_) (fun h => ?_)
          · walk_at "m"
            exact ⟨hz _ (by omega), fun h => of_decide_eq_true h⟩
          · walk_at "m"
            exact fun h => nomatch h
        · have h1 := hb h
          walk_at "m"
          refine ⟨hz _ (by omega), hz _ (by omega), hz _ (by rw [n1, List.length_drop]; omega), _, rfl, q1.app (q2 _), ?_, ?_⟩
          · rw [List.length_append, n1, List.length_drop]; omega
          · rw [List.length_append, n1, List.length_drop]; omega
        · walk_at "m"
          refine ⟨hz _ (by omega), hz _ (by rw [n1]; simp; omega), hz _ (by omega), hz _ (by rw [List.length_append, n1, List.length_drop]; simp; omega), _, rfl, (q1.app ld).app (q2 _), by simp; omega, by simp only [List.length_append, n1, List.length_drop, List.length_singleton]; omega⟩
      · rintro _ ⟨r2, rfl, b1, b2, b3⟩
        walk_at "m"
        exact ⟨_, _, rfl, b1, b2, b3⟩
  · rintro γ ⟨r, start, rfl, a1, a2, a3⟩
    walk_at "m"
    refine ⟨by omega, by omega, ?_⟩
    rw [prange_len] at a3
    have a4 : r.length ≤ s.toNat + 3 := by omega
    refine W_ifD (fun h => ?_) (fun h => ?_)
    · walk_at "m"
      rw [m_turned_eq a1 (by omega)]
      walk_at "m"
      exact q _ (trn_ltr a1) (by rw [trn_len]; exact a2) (by rw [trn_len]; exact a4)
    · walk_at "m"
      exact q _ a1 a2 a4

end Lw
namespace Lw
open PySem PySem.Spec PyProof.Rows L2 Fw Mi
section
variable {P : Program} {w : World} {K : PySem.W.Frag} {mg : Str → Option Value} {base : Heap}
noncomputable def m_law_integer (value : Int) : Option Bool := fin (κ := Unit) (ρ := Unit) (rb (ob (if true = true then (some (!false)) else some false) fun r2 => some (.ret r2)) fun γ => some (.nxt γ))
abbrev sp_law_integer (K : PySem.W.Frag) : Sp := spM (aC jI aN) (sF jB) (fun γ => m_law_integer γ.1)
theorem ok_law_integer (T : Tx w K mg) : Dn P w K mg base 1 (He.ga K "_law_integer") ["_law_value"] (sp_law_integer K) := by
  refine dn_mk T.d_law_integer sc_law_integer (fun _ _ _ _ _ _ us hl => match us, hl with | [_], _ => rfl) (spM_len (an_C an_0)) fun cdv A outer s H vs Q E hr h => ?_
  refine ⟨_, (pss_cons (ps_ret (pe_and (pe_callB (isi_ (K := K)) (by rfl) T.z_isinstance (by decide +kernel) (pa_cons (pv 0) (pa_cons (pe_bltn (v := .ty "int") (by rfl) T.z_int (by decide +kernel) rfl) pa_nil))) (pe_one (pe_not (pe_callB (isi_ (K := K)) (by rfl) T.z_isinstance (by decide +kernel) (pa_cons (pv 0) (pa_cons (pe_bltn (v := .ty "bool") (by rfl) T.z_bool (by decide +kernel) rfl) pa_nil)))))))
      pss_nil), ?_⟩
  refine fin_runX (E := (eC (sF jI) eN)) (E' := eN) (ae_C ae_0) (an_C an_0) rfl ?S h rfl
  exact ⟨_, (ss_seq (ss_ret (se_andV (se_cb (sa_cons (se_var g0) (sa_cons se_v sa_nil)) (is_II (K := K))) (se_notV (se_cb (sa_cons (se_var g0) (sa_cons se_v sa_nil)) (is_IB (K := K)))))) ss_nil), by exact rfl⟩
end
end Lw
namespace Lw
open PySem PySem.Spec PyProof.Rows L2 Fw Mi
local macro_rules | `(tactic| walk_at "m") => `(tactic| simp only [pidx_one, pinS_one, pninS_one, W_some, W_none, W_ob, W_bind, W_pck, W_rb, W_fin, W_finN, W_T, W_F, W_Tr, W_Fa, Rw_nxt, Rw_ret, Rw_cnt, Rf_ret, Rf_nxt, RfN_ret, RfN_nxt, decide_true, decide_false, Bool.not_true, Bool.not_false])
theorem m_integer_eq (i : Int) : m_law_integer i = some true := rfl

end Lw
namespace Lw
open PySem PySem.Spec PyProof.Rows L2 Fw Mi
section
variable {P : Program} {w : World} {K : PySem.W.Frag} {mg : Str → Option Value} {base : Heap}
noncomputable def m_law_least (read : (List Nat)) (text : (List Nat)) (end_ : Int) (costs : (Int × Int × Int)) : Option Int := fin (κ := Unit) (ρ := Unit) (ob (ob (pck (([(0 : Int)] : List Int).length ≤ sz) [(0 : Int)]) fun x1 => (pck ((-9223372036854775808 ≤ (end_ + (1 : Int)) ∧ (end_ + (1 : Int)) < 9223372036854775808) ∧ x1.length * ((end_ + (1 : Int))).toNat ≤ sz) (prep x1 (end_ + (1 : Int))))) fun p => ob (ob (pck (([(1000000000 : Int)] : List Int).length ≤ sz) [(1000000000 : Int)]) fun x2 => (pck ((-9223372036854775808 ≤ (end_ + (1 : Int)) ∧ (end_ + (1 : Int)) < 9223372036854775808) ∧ x2.length * ((end_ + (1 : Int))).toNat ≤ sz) (prep x2 (end_ + (1 : Int))))) fun q => ob (ob (pck (([(1000000000 : Int)] : List Int).length ≤ sz) [(1000000000 : Int)]) fun x3 => (pck ((-9223372036854775808 ≤ (end_ + (1 : Int)) ∧ (end_ + (1 : Int)) < 9223372036854775808) ∧ x3.length * ((end_ + (1 : Int))).toNat ≤ sz) (prep x3 (end_ + (1 : Int))))) fun r => rb (ob (pck (-4611686018427387904 ≤ (1 : Int) ∧ (1 : Int) < 4611686018427387904 ∧ -4611686018427387904 ≤ (end_ + (1 : Int)) ∧ (end_ + (1 : Int)) < 4611686018427387904) (prange2 (1 : Int) (end_ + (1 : Int)))) fun xs71 => (forR (fun (x_ : Int) (γ : ((List Nat) × (List Nat) × Int × (Int × Int × Int) × Int × Int × Int × Int × (List Int) × (List Int) × (List Int) × Unit)) => let j := x_; let read := γ.1; let text := γ.2.1; let end_ := γ.2.2.1; let costs := γ.2.2.2.1; let replace := γ.2.2.2.2.1; let start := γ.2.2.2.2.2.1; let each := γ.2.2.2.2.2.2.1; let far := γ.2.2.2.2.2.2.2.1; let p := γ.2.2.2.2.2.2.2.2.1; let q := γ.2.2.2.2.2.2.2.2.2.1; let r := γ.2.2.2.2.2.2.2.2.2.2.1; (ob (ob (ob (ob (ob (pat p (j - (1 : Int))) fun x4 => some (x4 + start)) fun x6 => (ob (ob (pat r (j - (1 : Int))) fun x5 => some (x5, ())) fun r7 => some (x6, r7))) fun z8 => some (min z8.1 z8.2.1)) fun x9 => some (x9 + each)) fun x11 => ob (pset r j x11) fun w10 => some (.nxt (read, text, end_, costs, replace, start, each, far, p, q, w10, ())))) xs71 (read, text, end_, costs, costs.1, costs.2.1, costs.2.2, (1000000000 : Int), p, q, r, ()))) fun γ => let read := γ.1; let text := γ.2.1; let end_ := γ.2.2.1; let costs := γ.2.2.2.1; let replace := γ.2.2.2.2.1; let start := γ.2.2.2.2.2.1; let each := γ.2.2.2.2.2.2.1; let far := γ.2.2.2.2.2.2.2.1; let p := γ.2.2.2.2.2.2.2.2.1; let q := γ.2.2.2.2.2.2.2.2.2.1; let r := γ.2.2.2.2.2.2.2.2.2.2.1; rb (forR (fun (x_ : (List Nat)) (γ : ((List Nat) × (List Nat) × Int × (Int × Int × Int) × Int × Int × Int × Int × (List Int) × (List Int) × (List Int) × Unit)) => let letter := x_; let read := γ.1; let text := γ.2.1; let end_ := γ.2.2.1; let costs := γ.2.2.2.1; let replace := γ.2.2.2.2.1; let start := γ.2.2.2.2.2.1; let each := γ.2.2.2.2.2.2.1; let far := γ.2.2.2.2.2.2.2.1; let p := γ.2.2.2.2.2.2.2.2.1; let q := γ.2.2.2.2.2.2.2.2.2.1; let r := γ.2.2.2.2.2.2.2.2.2.2.1; ob (ob (pck (([far] : List Int).length ≤ sz) [far]) fun x12 => (pck ((-9223372036854775808 ≤ (end_ + (1 : Int)) ∧ (end_ + (1 : Int)) < 9223372036854775808) ∧ x12.length * ((end_ + (1 : Int))).toNat ≤ sz) (prep x12 (end_ + (1 : Int))))) fun news => ob (ob (pck (([far] : List Int).length ≤ sz) [far]) fun x13 => (pck ((-9223372036854775808 ≤ (end_ + (1 : Int)) ∧ (end_ + (1 : Int)) < 9223372036854775808) ∧ x13.length * ((end_ + (1 : Int))).toNat ≤ sz) (prep x13 (end_ + (1 : Int))))) fun extra => ob (ob (pck (([far] : List Int).length ≤ sz) [far]) fun x14 => (pck ((-9223372036854775808 ≤ (end_ + (1 : Int)) ∧ (end_ + (1 : Int)) < 9223372036854775808) ∧ x14.length * ((end_ + (1 : Int))).toNat ≤ sz) (prep x14 (end_ + (1 : Int))))) fun gaps => rb (ob (pck (-4611686018427387904 ≤ (end_ + (1 : Int)) ∧ (end_ + (1 : Int)) < 4611686018427387904) (prange (end_ + (1 : Int)))) fun xs56 => (forR (fun (x_ : Int) (γ : ((List Nat) × (List Nat) × Int × (Int × Int × Int) × Int × Int × Int × Int × (List Int) × (List Int) × (List Int) × (List Nat) × (List Int) × (List Int) × (List Int) × Unit)) => let j := x_; let read := γ.1; let text := γ.2.1; let end_ := γ.2.2.1; let costs := γ.2.2.2.1; let replace := γ.2.2.2.2.1; let start := γ.2.2.2.2.2.1; let each := γ.2.2.2.2.2.2.1; let far := γ.2.2.2.2.2.2.2.1; let p := γ.2.2.2.2.2.2.2.2.1; let q := γ.2.2.2.2.2.2.2.2.2.1; let r := γ.2.2.2.2.2.2.2.2.2.2.1; let letter := γ.2.2.2.2.2.2.2.2.2.2.2.1; let news := γ.2.2.2.2.2.2.2.2.2.2.2.2.1; let extra := γ.2.2.2.2.2.2.2.2.2.2.2.2.2.1; let gaps := γ.2.2.2.2.2.2.2.2.2.2.2.2.2.2.1; (ob (ob (ob (ob (ob (ob (ob (pat p j) fun x16 => (ob (ob (pat r j) fun x15 => some (x15, ())) fun r17 => some (x16, r17))) fun z18 => some (min z18.1 z18.2.1)) fun x19 => some (x19 + start)) fun x21 => (ob (ob (pat q j) fun x20 => some (x20, ())) fun r22 => some (x21, r22))) fun z23 => some (min z23.1 z23.2.1)) fun x24 => some (x24 + each)) fun x55 => ob (pset extra j x55) fun w25 => rb (if (decide ((0 : Int) < j)) = true then ((ob (ob (ob (ob (pat p (j - (1 : Int))) fun x29 => (ob (ob (pat q (j - (1 : Int))) fun x27 => (ob (ob (pat r (j - (1 : Int))) fun x26 => some (x26, ())) fun r28 => some (x27, r28))) fun r30 => some (x29, r30))) fun z31 => some (min (min z31.1 z31.2.1) z31.2.2.1)) fun x39 => (ob (ob (ob (ob (ob (ob (ob (ob (pixS text (j - (1 : Int))) fun x32 => some (x32, ())) fun r33 => some (letter, r33)) fun z34 => (m_law_agree z34.1 z34.2.1)) fun x35 => some (!x35)) fun x36 => some (x36, ())) fun z37 => some (if z37.1 = true then (1 : Int) else 0)) fun y38 => (pck (PMul replace y38) (replace * y38))) fun y40 => some (x39 + y40))) fun x54 => ob (pset news j x54) fun w41 => (ob (ob (ob (ob (ob (ob (ob (pat w41 (j - (1 : Int))) fun x43 => (ob (ob (pat w25 (j - (1 : Int))) fun x42 => some (x42, ())) fun r44 => some (x43, r44))) fun z45 => some (min z45.1 z45.2.1)) fun x46 => some (x46 + start)) fun x48 => (ob (ob (pat gaps (j - (1 : Int))) fun x47 => some (x47, ())) fun r49 => some (x48, r49))) fun z50 => some (min z50.1 z50.2.1)) fun x51 => some (x51 + each)) fun x53 => ob (pset gaps j x53) fun w52 => some (.nxt (read, text, end_, costs, replace, start, each, far, p, q, r, j, letter, w41, w25, w52, ()))))) else (some (.nxt (read, text, end_, costs, replace, start, each, far, p, q, r, j, letter, news, w25, gaps, ())))) fun γ => let read := γ.1; let text := γ.2.1; let end_ := γ.2.2.1; let costs := γ.2.2.2.1; let replace := γ.2.2.2.2.1; let start := γ.2.2.2.2.2.1; let each := γ.2.2.2.2.2.2.1; let far := γ.2.2.2.2.2.2.2.1; let p := γ.2.2.2.2.2.2.2.2.1; let q := γ.2.2.2.2.2.2.2.2.2.1; let r := γ.2.2.2.2.2.2.2.2.2.2.1; let letter := γ.2.2.2.2.2.2.2.2.2.2.2.2.1; let news := γ.2.2.2.2.2.2.2.2.2.2.2.2.2.1; let extra := γ.2.2.2.2.2.2.2.2.2.2.2.2.2.2.1; let gaps := γ.2.2.2.2.2.2.2.2.2.2.2.2.2.2.2.1; some (.nxt (read, text, end_, costs, replace, start, each, far, p, q, r, letter, news, extra, gaps, ())))) xs56 (read, text, end_, costs, replace, start, each, far, p, q, r, letter, news, extra, gaps, ()))) fun γ => let read := γ.1; let text := γ.2.1; let end_ := γ.2.2.1; let costs := γ.2.2.2.1; let replace := γ.2.2.2.2.1; let start := γ.2.2.2.2.2.1; let each := γ.2.2.2.2.2.2.1; let far := γ.2.2.2.2.2.2.2.1; let news := γ.2.2.2.2.2.2.2.2.2.2.2.2.1; let extra := γ.2.2.2.2.2.2.2.2.2.2.2.2.2.1; let gaps := γ.2.2.2.2.2.2.2.2.2.2.2.2.2.2.1; some (.nxt (read, text, end_, costs, replace, start, each, far, news, extra, gaps, ()))) (read.map fun c => [c]) (read, text, end_, costs, replace, start, each, far, p, q, r, ())) fun γ => let end_ := γ.2.2.1; let p := γ.2.2.2.2.2.2.2.2.1; let q := γ.2.2.2.2.2.2.2.2.2.1; let r := γ.2.2.2.2.2.2.2.2.2.2.1; rb (ob (ob (ob (pat p end_) fun x67 => (ob (ob (pat q end_) fun x65 => (ob (ob (pat r end_) fun x64 => some (x64, ())) fun r66 => some (x65, r66))) fun r68 => some (x67, r68))) fun z69 => some (min (min z69.1 z69.2.1) z69.2.2.1)) fun r70 => some (.ret r70)) fun γ => some (.nxt γ))
abbrev sp_law_least (K : PySem.W.Frag) : Sp := spM (aC jS (aC jS (aC jI (aC (jT (yC jI (yC jI (y1 jI)))) aN)))) (sF jI) (fun γ => m_law_least γ.1 γ.2.1 γ.2.2.1 γ.2.2.2.1)
theorem ok_law_least (T : Tx w K mg) : Dn P w K mg base 2 (He.ga K "_law_least") ["_law_read_here", "_law_text_here", "_law_end", "_law_costs_here"] (sp_law_least K) := by
  obtain ⟨fd_law_agree, G_law_agree, b_law_agree, kp_law_agree, _⟩ := ok_law_agree (P := P) (w := w) (base := base) T
  refine dn_mk T.d_law_least sc_law_least (fun _ _ _ _ _ _ us hl => match us, hl with | [_, _, _, _], _ => rfl) (spM_len (an_C (an_C (an_C (an_C an_0))))) fun cdv A outer s H vs Q E hr h => ?_
  refine ⟨_, (pss_cons (ps_asg (pv 3) (gt_ (K := K) (n := 3) (by rfl) (pgs_cons (pg_name (i := 4) sc_law_least.nd rfl (.inl rfl)) (pgs_cons (pg_name (i := 5) sc_law_least.nd rfl (.inl rfl)) (pgs_cons (pg_name (i := 6) sc_law_least.nd rfl (.inl rfl)) pgs_nil)))))
      (pss_cons (ps_set (i := 7) sc_law_least.nd rfl (.inl rfl) pe_int)
      (pss_cons (ps_set (i := 8) sc_law_least.nd rfl (.inl rfl) (pe_op op_rep (pe_lst (pa_cons pe_int pa_nil)) (pe_op op_add (pv 2) pe_int)))
      (pss_cons (ps_set (i := 9) sc_law_least.nd rfl (.inl rfl) (pe_op op_rep (pe_lst (pa_cons (pv 7) pa_nil)) (pe_op op_add (pv 2) pe_int)))
      (pss_cons (ps_set (i := 10) sc_law_least.nd rfl (.inl rfl) (pe_op op_rep (pe_lst (pa_cons (pv 7) pa_nil)) (pe_op op_add (pv 2) pe_int)))
      (pss_cons (ps_for PassesOwn.never rfl (pi_range2 (by rfl) T.z_range (pa_cons pe_int (pa_cons (pe_op op_add (pv 2) pe_int) pa_nil))) (pg_name (i := 11) sc_law_least.nd rfl (.inl rfl))
      (pss_cons (ps_asg (pe_op op_add (pe_callB (min2_ rfl) (by rfl) T.z_min (by decide +kernel) (pa_cons (pe_op op_add (pe_ix (ixL_ (K := K)) (pv 8) (pe_op op_sub (pv 11) pe_int) (fun _ _ => rfl)) (pv 5)) (pa_cons (pe_ix (ixL_ (K := K)) (pv 10) (pe_op op_sub (pv 11) pe_int) (fun _ _ => rfl)) pa_nil))) (pv 6)) (pg_sub (pv 10) (pv 11) set_list))
      pss_nil))
      (pss_cons (ps_for PassesOwn.never rfl (pi_str (pv 0)) (pg_name (i := 12) sc_law_least.nd rfl (.inl rfl))
      (pss_cons (ps_set (i := 13) sc_law_least.nd rfl (.inl rfl) (pe_op op_rep (pe_lst (pa_cons (pv 7) pa_nil)) (pe_op op_add (pv 2) pe_int)))
      (pss_cons (ps_set (i := 14) sc_law_least.nd rfl (.inl rfl) (pe_op op_rep (pe_lst (pa_cons (pv 7) pa_nil)) (pe_op op_add (pv 2) pe_int)))
      (pss_cons (ps_set (i := 15) sc_law_least.nd rfl (.inl rfl) (pe_op op_rep (pe_lst (pa_cons (pv 7) pa_nil)) (pe_op op_add (pv 2) pe_int)))
      (pss_cons (ps_for PassesOwn.never rfl (pi_range1 (by rfl) T.z_range (pa_cons (pe_op op_add (pv 2) pe_int) pa_nil)) (pg_name (i := 11) sc_law_least.nd rfl (.inl rfl))
      (pss_cons (ps_asg (pe_op op_add (pe_callB (min2_ rfl) (by rfl) T.z_min (by decide +kernel) (pa_cons (pe_op op_add (pe_callB (min2_ rfl) (by rfl) T.z_min (by decide +kernel) (pa_cons (pe_ix (ixL_ (K := K)) (pv 8) (pv 11) (fun _ _ => rfl)) (pa_cons (pe_ix (ixL_ (K := K)) (pv 10) (pv 11) (fun _ _ => rfl)) pa_nil))) (pv 5)) (pa_cons (pe_ix (ixL_ (K := K)) (pv 9) (pv 11) (fun _ _ => rfl)) pa_nil))) (pv 6)) (pg_sub (pv 14) (pv 11) set_list))
      (pss_cons (ps_if (pt_cmpR op_gt (pv 11) pe_int (nomark _))
      (pss_cons (ps_asg (pe_op op_add (pe_callB (min3_ rfl) (by rfl) T.z_min (by decide +kernel) (pa_cons (pe_ix (ixL_ (K := K)) (pv 8) (pe_op op_sub (pv 11) pe_int) (fun _ _ => rfl)) (pa_cons (pe_ix (ixL_ (K := K)) (pv 9) (pe_op op_sub (pv 11) pe_int) (fun _ _ => rfl)) (pa_cons (pe_ix (ixL_ (K := K)) (pv 10) (pe_op op_sub (pv 11) pe_int) (fun _ _ => rfl)) pa_nil)))) (pe_op op_mul (pv 4) (pe_callTy k_intB (by rfl) T.z_int (by decide +kernel) (pa_cons (pe_not (pe_call G_law_agree (hr.mono (by decide)) (by rfl) T.g_law_agree kp_law_agree b_law_agree .nil pass0 (pa_cons (pv 12) (pa_cons (pe_ix k_ixS (pv 1) (pe_op op_sub (pv 11) pe_int) (fun _ _ => rfl)) pa_nil)))) pa_nil)))) (pg_sub (pv 13) (pv 11) set_list))
      (pss_cons (ps_asg (pe_op op_add (pe_callB (min2_ rfl) (by rfl) T.z_min (by decide +kernel) (pa_cons (pe_op op_add (pe_callB (min2_ rfl) (by rfl) T.z_min (by decide +kernel) (pa_cons (pe_ix (ixL_ (K := K)) (pv 13) (pe_op op_sub (pv 11) pe_int) (fun _ _ => rfl)) (pa_cons (pe_ix (ixL_ (K := K)) (pv 14) (pe_op op_sub (pv 11) pe_int) (fun _ _ => rfl)) pa_nil))) (pv 5)) (pa_cons (pe_ix (ixL_ (K := K)) (pv 15) (pe_op op_sub (pv 11) pe_int) (fun _ _ => rfl)) pa_nil))) (pv 6)) (pg_sub (pv 15) (pv 11) set_list))
      pss_nil))
      pss_nil)
      pss_nil)))
      (pss_cons (ps_set (i := 8) sc_law_least.nd rfl (.inl rfl) (pv 13))
      (pss_cons (ps_set (i := 9) sc_law_least.nd rfl (.inl rfl) (pv 14))
      (pss_cons (ps_set (i := 10) sc_law_least.nd rfl (.inl rfl) (pv 15))
      pss_nil))))))))
      (pss_cons (ps_ret (pe_callB (min3_ rfl) (by rfl) T.z_min (by decide +kernel) (pa_cons (pe_ix (ixL_ (K := K)) (pv 8) (pv 2) (fun _ _ => rfl)) (pa_cons (pe_ix (ixL_ (K := K)) (pv 9) (pv 2) (fun _ _ => rfl)) (pa_cons (pe_ix (ixL_ (K := K)) (pv 10) (pv 2) (fun _ _ => rfl)) pa_nil)))))
      pss_nil)))))))), ?_⟩
  refine fin_runX (E := (eC (sF jS) (eC (sF jS) (eC (sF jI) (eC (sF (jT (yC jI (yC jI (y1 jI))))) (eU (eU (eU (eU (eU (eU (eU (eU (eU (eU (eU (eU eN))))))))))))))))) (E' := eN) (ae_C (ae_C (ae_C (ae_C (ae_U rfl (ae_U rfl (ae_U rfl (ae_U rfl (ae_U rfl (ae_U rfl (ae_U rfl (ae_U rfl (ae_U rfl (ae_U rfl (ae_U rfl (ae_U rfl ae_0)))))))))))))))) (an_C (an_C (an_C (an_C an_0)))) rfl ?S h rfl
  exact ⟨_, (ss_asgG (se_var (gS (gS (gS g0)))) (sg_tup (K := K) (sgs_C (sg_name (pS (pS (pS (pS p0U))))) (sgs_C (sg_name (pS (pS (pS (pS (pS p0U)))))) (sgs_1 (sg_name (pS (pS (pS (pS (pS (pS p0U)))))))))) (tz (tz tz1))) (ss_asg se_int (pS (pS (pS (pS (pS (pS (pS p0U))))))) (ss_asg (se_op (se_fz (se_lst (sl_cons se_int sl_nil))) (se_op (se_var (gS (gS g0))) se_int (s2_I0 (f := fun i j => i + j))) s2_rep) (pS (pS (pS (pS (pS (pS (pS (pS p0U)))))))) (ss_asg (se_op (se_fz (se_lst (sl_cons (se_var (gS (gS (gS (gS (gS (gS (gS g0)))))))) sl_nil))) (se_op (se_var (gS (gS g0))) se_int (s2_I0 (f := fun i j => i + j))) s2_rep) (pS (pS (pS (pS (pS (pS (pS (pS (pS p0U))))))))) (ss_asg (se_op (se_fz (se_lst (sl_cons (se_var (gS (gS (gS (gS (gS (gS (gS g0)))))))) sl_nil))) (se_op (se_var (gS (gS g0))) se_int (s2_I0 (f := fun i j => i + j))) s2_rep) (pS (pS (pS (pS (pS (pS (pS (pS (pS (pS p0U)))))))))) (ss_seq (ss_for (si_r2 (sa_cons se_int (sa_cons (se_op (se_var (gS (gS g0))) se_int (s2_I0 (f := fun i j => i + j))) sa_nil))) (sg_name (pS (pS (pS (pS (pS (pS (pS (pS (pS (pS (pS p0U)))))))))))) (ss_setI (uS (uS (uS (uS (uS (uS (uS (uS (uS (uS u0)))))))))) (se_op (se_cb (sa_cons (se_op (se_ixB (K := K) (sb_var (gS (gS (gS (gS (gS (gS (gS (gS g0))))))))) (se_op (se_var (gS (gS (gS (gS (gS (gS (gS (gS (gS (gS (gS g0)))))))))))) se_int (s2_I0 (f := fun i j => i - j)))) (se_var (gS (gS (gS (gS (gS g0)))))) (s2_I0 (f := fun i j => i + j))) (sa_cons (se_ixB (K := K) (sb_var (gS (gS (gS (gS (gS (gS (gS (gS (gS (gS g0))))))))))) (se_op (se_var (gS (gS (gS (gS (gS (gS (gS (gS (gS (gS (gS g0)))))))))))) se_int (s2_I0 (f := fun i j => i - j)))) sa_nil)) sc_min2) (se_var (gS (gS (gS (gS (gS (gS g0))))))) (s2_I0 (f := fun i j => i + j))) (se_var (gS (gS (gS (gS (gS (gS (gS (gS (gS (gS (gS g0)))))))))))) (ss_co (cK (cK (cK (cK (cK (cK (cK (cK (cK (cK (cK (cF cId))))))))))))))) (ss_pre (cK (cK (cK (cK (cK (cK (cK (cK (cI (cI (cI cId))))))))))) (ss_seq (ss_for (si_str (se_var g0)) (sg_name (pS (pS (pS (pS (pS (pS (pS (pS (pS (pS (pS (pU p0U))))))))))))) (ss_asg (se_op (se_fz (se_lst (sl_cons (se_var (gS (gS (gS (gS (gS (gS (gS g0)))))))) sl_nil))) (se_op (se_var (gS (gS g0))) se_int (s2_I0 (f := fun i j => i + j))) s2_rep) (pS (pS (pS (pS (pS (pS (pS (pS (pS (pS (pS (pU (pS p0U))))))))))))) (ss_asg (se_op (se_fz (se_lst (sl_cons (se_var (gS (gS (gS (gS (gS (gS (gS g0)))))))) sl_nil))) (se_op (se_var (gS (gS g0))) se_int (s2_I0 (f := fun i j => i + j))) s2_rep) (pS (pS (pS (pS (pS (pS (pS (pS (pS (pS (pS (pU (pS (pS p0U)))))))))))))) (ss_asg (se_op (se_fz (se_lst (sl_cons (se_var (gS (gS (gS (gS (gS (gS (gS g0)))))))) sl_nil))) (se_op (se_var (gS (gS g0))) se_int (s2_I0 (f := fun i j => i + j))) s2_rep) (pS (pS (pS (pS (pS (pS (pS (pS (pS (pS (pS (pU (pS (pS (pS p0U))))))))))))))) (ss_seq (ss_for (si_r1 (sa_cons (se_op (se_var (gS (gS g0))) se_int (s2_I0 (f := fun i j => i + j))) sa_nil)) (sg_name (pS (pS (pS (pS (pS (pS (pS (pS (pS (pS (pS p0U)))))))))))) (ss_setI (uS (uS (uS (uS (uS (uS (uS (uS (uS (uS (uS (uS (uS (uS u0)))))))))))))) (se_op (se_cb (sa_cons (se_op (se_cb (sa_cons (se_op (se_var (gS (gS (gS (gS (gS (gS (gS (gS g0))))))))) (se_var (gS (gS (gS (gS (gS (gS (gS (gS (gS (gS (gS g0)))))))))))) s2_ixL) (sa_cons (se_op (se_var (gS (gS (gS (gS (gS (gS (gS (gS (gS (gS g0))))))))))) (se_var (gS (gS (gS (gS (gS (gS (gS (gS (gS (gS (gS g0)))))))))))) s2_ixL) sa_nil)) sc_min2) (se_var (gS (gS (gS (gS (gS g0)))))) (s2_I0 (f := fun i j => i + j))) (sa_cons (se_op (se_var (gS (gS (gS (gS (gS (gS (gS (gS (gS g0)))))))))) (se_var (gS (gS (gS (gS (gS (gS (gS (gS (gS (gS (gS g0)))))))))))) s2_ixL) sa_nil)) sc_min2) (se_var (gS (gS (gS (gS (gS (gS g0))))))) (s2_I0 (f := fun i j => i + j))) (se_var (gS (gS (gS (gS (gS (gS (gS (gS (gS (gS (gS g0)))))))))))) (ss_seq (ss_if (st_test (se_op (se_var (gS (gS (gS (gS (gS (gS (gS (gS (gS (gS (gS g0)))))))))))) se_int (s2_C0 (f := fun i j => decide (j < i))))) (ss_setI (uS (uS (uS (uS (uS (uS (uS (uS (uS (uS (uS (uS (uS u0))))))))))))) (se_op (se_cb (sa_cons (se_op (se_var (gS (gS (gS (gS (gS (gS (gS (gS g0))))))))) (se_op (se_var (gS (gS (gS (gS (gS (gS (gS (gS (gS (gS (gS g0)))))))))))) se_int (s2_I0 (f := fun i j => i - j))) s2_ixL) (sa_cons (se_op (se_var (gS (gS (gS (gS (gS (gS (gS (gS (gS g0)))))))))) (se_op (se_var (gS (gS (gS (gS (gS (gS (gS (gS (gS (gS (gS g0)))))))))))) se_int (s2_I0 (f := fun i j => i - j))) s2_ixL) (sa_cons (se_op (se_var (gS (gS (gS (gS (gS (gS (gS (gS (gS (gS g0))))))))))) (se_op (se_var (gS (gS (gS (gS (gS (gS (gS (gS (gS (gS (gS g0)))))))))))) se_int (s2_I0 (f := fun i j => i - j))) s2_ixL) sa_nil))) sc_min3) (se_op (se_var (gS (gS (gS (gS g0))))) (se_cb (sa_cons (se_notV (se_call (sa_cons (se_var (gS (gS (gS (gS (gS (gS (gS (gS (gS (gS (gS (gS g0))))))))))))) (sa_cons (se_op (se_var (gS g0)) (se_op (se_var (gS (gS (gS (gS (gS (gS (gS (gS (gS (gS (gS g0)))))))))))) se_int (s2_I0 (f := fun i j => i - j))) s2_ixS) sa_nil)))) sa_nil) sc_intB) s2_mul) (s2_I0 (f := fun i j => i + j))) (se_var (gS (gS (gS (gS (gS (gS (gS (gS (gS (gS (gS g0)))))))))))) (ss_setI (uS (uS (uS (uS (uS (uS (uS (uS (uS (uS (uS (uS (uS (uS (uS u0))))))))))))))) (se_op (se_cb (sa_cons (se_op (se_cb (sa_cons (se_ixB (K := K) (sb_var (gS (gS (gS (gS (gS (gS (gS (gS (gS (gS (gS (gS (gS g0)))))))))))))) (se_op (se_var (gS (gS (gS (gS (gS (gS (gS (gS (gS (gS (gS g0)))))))))))) se_int (s2_I0 (f := fun i j => i - j)))) (sa_cons (se_ixB (K := K) (sb_var (gS (gS (gS (gS (gS (gS (gS (gS (gS (gS (gS (gS (gS (gS g0))))))))))))))) (se_op (se_var (gS (gS (gS (gS (gS (gS (gS (gS (gS (gS (gS g0)))))))))))) se_int (s2_I0 (f := fun i j => i - j)))) sa_nil)) sc_min2) (se_var (gS (gS (gS (gS (gS g0)))))) (s2_I0 (f := fun i j => i + j))) (sa_cons (se_ixB (K := K) (sb_var (gS (gS (gS (gS (gS (gS (gS (gS (gS (gS (gS (gS (gS (gS (gS g0)))))))))))))))) (se_op (se_var (gS (gS (gS (gS (gS (gS (gS (gS (gS (gS (gS g0)))))))))))) se_int (s2_I0 (f := fun i j => i - j)))) sa_nil)) sc_min2) (se_var (gS (gS (gS (gS (gS (gS g0))))))) (s2_I0 (f := fun i j => i + j))) (se_var (gS (gS (gS (gS (gS (gS (gS (gS (gS (gS (gS g0)))))))))))) ss_nil)) ss_nil) (ss_co (cK (cK (cK (cK (cK (cK (cK (cK (cK (cK (cK (cF cId)))))))))))))))) (ss_pre (cK (cK (cK (cK (cK (cK (cK (cK (cK (cK (cK (cU (cK (cI cId)))))))))))))) (ss_asg (se_var (gS (gS (gS (gS (gS (gS (gS (gS (gS (gS (gS (gU (gS g0)))))))))))))) (pS (pS (pS (pS (pS (pS (pS (pS p0)))))))) (ss_pre (cK (cK (cK (cK (cK (cK (cK (cK (cK (cK (cK (cU (cK (cK (cI cId))))))))))))))) (ss_asg (se_var (gS (gS (gS (gS (gS (gS (gS (gS (gS (gS (gS (gU (gS (gS g0))))))))))))))) (pS (pS (pS (pS (pS (pS (pS (pS (pS p0))))))))) (ss_pre (cK (cK (cK (cK (cK (cK (cK (cK (cK (cK (cK (cU (cK (cK (cK (cI cId)))))))))))))))) (ss_asg (se_var (gS (gS (gS (gS (gS (gS (gS (gS (gS (gS (gS (gU (gS (gS (gS g0)))))))))))))))) (pS (pS (pS (pS (pS (pS (pS (pS (pS (pS p0)))))))))) (ss_co (cK (cK (cK (cK (cK (cK (cK (cK (cK (cK (cK (cU (cF (cF (cF (cF cId)))))))))))))))))))))))))))) (ss_seq (ss_ret (se_cb (sa_cons (se_op (se_var (gS (gS (gS (gS (gS (gS (gS (gS g0))))))))) (se_var (gS (gS g0))) s2_ixL) (sa_cons (se_op (se_var (gS (gS (gS (gS (gS (gS (gS (gS (gS g0)))))))))) (se_var (gS (gS g0))) s2_ixL) (sa_cons (se_op (se_var (gS (gS (gS (gS (gS (gS (gS (gS (gS (gS g0))))))))))) (se_var (gS (gS g0))) s2_ixL) sa_nil))) sc_min3)) ss_nil))))))))), by exact rfl⟩
end
end Lw
namespace Lw
open PySem PySem.Spec PyProof.Rows L2 Fw Mi
local macro_rules | `(tactic| walk_at "m") => `(tactic| simp only [pidx_one, pinS_one, pninS_one, W_some, W_none, W_ob, W_bind, W_pck, W_rb, W_fin, W_finN, W_T, W_F, W_Tr, W_Fa, Rw_nxt, Rw_ret, Rw_cnt, Rf_ret, Rf_nxt, RfN_ret, RfN_nxt, decide_true, decide_false, Bool.not_true, Bool.not_false])
theorem m_least_eq {rd tx : List Nat} {m rp s e cost : Nat} (hn : rd.length ≤ 1000) (hm : m ≤ tx.length) (ht : tx.length ≤ 1000) (h1 : rp ≤ 100) (h2 : s ≤ 100) (h3 : e ≤ 100)
    (hc : Tb.best (Tb.T (fun i j => if agr (rd.getD i 0) (tx.getD j 0) = true then 0 else rp) s e rd.length m) = some cost) : m_law_least rd tx (m : Int) ((rp : Int), (s : Int), (e : Int)) = some (cost : Int) := by
  refine W.eq ?_
  generalize hw0 : (fun i j => if agr (rd.getD i 0) (tx.getD j 0) = true then 0 else rp) = w at hc
  have hwe : ∀ i j, w i j = if agr (rd.getD i 0) (tx.getD j 0) = true then 0 else rp := fun i j => by rw [← hw0]
  have hw : ∀ i j, w i j ≤ 100 := fun i j => by rw [hwe]; split <;> omega
  have hz : ∀ k : Nat, k ≤ 4000 → k ≤ sz := fun k h => by unfold sz; omega
  have far : ∀ k : Nat, k ≤ 600000 → (k : Int) < 1000000000 := fun k h => by omega
  unfold m_law_least
  rw [show ((m : Nat) : Int) + 1 = ((m + 1 : Nat) : Int) by omega]
  walk_at "m"
  simp only [prep_row]
  have hs1 : ([(0 : Int)] : List Int).length * ((m + 1 : Nat) : Int).toNat ≤ sz := by rw [Int.toNat_natCast]; exact hz _ (by simp; omega)
  have hs2 : ([(1000000000 : Int)] : List Int).length * ((m + 1 : Nat) : Int).toNat ≤ sz := by rw [Int.toNat_natCast]; exact hz _ (by simp; omega)
  have c1 : ∀ c : Int, ([c] : List Int).length ≤ sz := fun c => (by decide : (1 : Nat) ≤ sz)
  refine ⟨c1 _, ⟨⟨by omega, by omega⟩, hs1⟩, c1 _, ⟨⟨by omega, by omega⟩, hs2⟩, c1 _, ⟨⟨by omega, by omega⟩, hs2⟩, by omega, ?_⟩
  refine W_for (fun k γ => ∃ R, γ = (rd, tx, (m : Int), ((rp : Int), (s : Int), (e : Int)), (rp : Int), (s : Int), (e : Int), (1000000000 : Int), rowf (m + 1) (fun _ => 0), rowf (m + 1) (fun _ => 1000000000), rowf (m + 1) R, ()) ∧
    (∀ j, j ≤ k → Tb.Rep 1000000000 (Tb.T w s e 0 j).r (R j)) ∧ ∀ j, k < j → R j = 1000000000) ⟨fun _ => 1000000000, rfl, fun j hj => by rw [show j = 0 by omega, Tb.r0]; exact Int.le_refl _, fun _ _ => rfl⟩ ?_ ?_
  · rintro k x γ hx ⟨R, rfl, hd, hr⟩
    obtain ⟨rfl, hk⟩ := prange2_get hx
    walk_at "m"
    rw [show (1 : Int) + (k : Int) - 1 = (k : Int) by omega, show (1 : Int) + (k : Int) = ((k + 1 : Nat) : Int) by omega]
    refine W_rowf (by omega) (W_rowf (by omega) (W_rset (by omega) ⟨_, rfl, fun j hj => ?_, fun j hj => by rw [upd1_ne (by omega)]; exact hr j (by omega)⟩))
    by_cases e1 : j = k + 1
    · subst e1
      rw [upd1_same, Tb.r1, Tb.p0, Tb.q0]
      have hb := Tb.bd hw h2 h3 0 k
      exact Tb.Rep.ad (k := e) (Tb.Rep.mn (b := 200 * (0 + k) + 100) (far _ (by omega)) (show Tb.Rep _ (Tb.ad (Tb.mn (some 0) none) s) _ from (by show (0 : Int) + s = ((0 + s : Nat) : Int); omega)) (hd k (Nat.le_refl _)) (show Tb.Bd _ (some (0 + s)) from Tb.Bd.som (by omega)) (hb.2.2.mono (by omega)))
    · rw [upd1_ne e1]
      exact hd j (by omega)
  rintro γ ⟨R, rfl, hd, hr⟩
  rw [prange2_len, show (((m + 1 : Nat) : Int) - 1).toNat = m by omega] at hd
  walk_at "m"
  refine W_for (fun i γ => ∃ P Q R, γ = (rd, tx, (m : Int), ((rp : Int), (s : Int), (e : Int)), (rp : Int), (s : Int), (e : Int), (1000000000 : Int), rowf (m + 1) P, rowf (m + 1) Q, rowf (m + 1) R, ()) ∧
    ∀ j, j ≤ m → Tb.Rep 1000000000 (Tb.T w s e i j).p (P j) ∧ Tb.Rep 1000000000 (Tb.T w s e i j).q (Q j) ∧ Tb.Rep 1000000000 (Tb.T w s e i j).r (R j)) ⟨_, _, R, rfl, fun j hj => ⟨by rw [Tb.p0]; rfl, by rw [Tb.q0]; exact Int.le_refl _, hd j hj⟩⟩ ?_ ?_
  · rintro i x γ hx ⟨P, Q, R, rfl, hI⟩
    obtain ⟨c, hc, rfl⟩ := sing_get hx
    have hi := (List.getElem?_eq_some_iff.mp hc).1
    walk_at "m"
    rw [show ((m : Nat) : Int) + 1 = ((m + 1 : Nat) : Int) by omega]
    simp only [prep_row]
    refine ⟨c1 _, ⟨⟨by omega, by omega⟩, hs2⟩, c1 _, ⟨⟨by omega, by omega⟩, hs2⟩, c1 _, ⟨⟨by omega, by omega⟩, hs2⟩, by omega, ?_⟩
    refine W_for (fun j γ => ∃ N X G, γ = (rd, tx, (m : Int), ((rp : Int), (s : Int), (e : Int)), (rp : Int), (s : Int), (e : Int), (1000000000 : Int), rowf (m + 1) P, rowf (m + 1) Q, rowf (m + 1) R, [c], rowf (m + 1) N, rowf (m + 1) X, rowf (m + 1) G, ()) ∧
      (∀ j', j' ≤ m → j' < j → Tb.Rep 1000000000 (Tb.T w s e (i + 1) j').p (N j') ∧ Tb.Rep 1000000000 (Tb.T w s e (i + 1) j').q (X j') ∧ Tb.Rep 1000000000 (Tb.T w s e (i + 1) j').r (G j')) ∧
      ∀ j', j ≤ j' → N j' = 1000000000 ∧ X j' = 1000000000 ∧ G j' = 1000000000) ⟨_, _, _, rfl, fun _ _ h => by omega, fun _ _ => ⟨rfl, rfl, rfl⟩⟩ ?_ ?_
    · rintro j x γ hx ⟨N, X, G, rfl, hD, hF⟩
      obtain ⟨rfl, hj⟩ := prange_get hx
      have hjm : j ≤ m := by omega
      walk_at "m"
      refine W_rowf (by omega) (W_rowf (by omega) (W_rowf (by omega) (W_rset (by omega) ?_)))
      have hu := hI j hjm
      have hbu := Tb.bd hw h2 h3 i j
      have hq : Tb.Rep 1000000000 (Tb.T w s e (i + 1) j).q (min (min (P j) (R j) + s) (Q j) + e) := by
        rw [Tb.q1]
        exact Tb.Rep.ad (k := e) (Tb.Rep.mn (b := 200 * (i + j) + s) (far _ (by omega)) (Tb.Rep.ad (k := s) (hu.1.mn (far (200 * (i + j)) (by omega)) hu.2.2 hbu.1 hbu.2.2)) hu.2.1 (Tb.Bd.ad (hbu.1.mn hbu.2.2)) (hbu.2.1.mono (by omega)))
      refine W_ifD (fun h => ?_) (fun h => ?_)
      · obtain ⟨j1, rfl⟩ : ∃ j1, j = j1 + 1 := ⟨j - 1, by omega⟩
        rw [show ((j1 + 1 : Nat) : Int) - 1 = (j1 : Nat) by omega]
        walk_at "m"
        refine W_rowf (by omega) (W_rowf (by omega) (W_rowf (by omega) ?_))
        have g2 : tx[j1]? = some tx[j1] := List.getElem?_eq_getElem (by omega)
        rw [pixS_nat g2 (hz _ (by omega))]
        walk_at "m"
        rw [m_law_agree_eq]
        walk_at "m"
        have hmul : ∀ b : Bool, PMul (rp : Int) (if b = true then 1 else 0) := fun b => by left; constructor <;> omega
        refine ⟨hmul _, ?_⟩
        have hdg := hI j1 (by omega)
        have hbd := Tb.bd hw h2 h3 i j1
        have hl := hD j1 (by omega) (by omega)
        have hbl := Tb.bd hw h2 h3 (i + 1) j1
        have ew : w i j1 = if agr c tx[j1] = true then 0 else rp := by
          rw [hwe]
          congr 2
          rw [List.getD_eq_getElem?_getD, hc, List.getD_eq_getElem?_getD, g2]
          rfl
        have ewi : (rp : Int) * (if (!agr c tx[j1]) = true then (1 : Int) else 0) = (w i j1 : Int) := by
          rw [ew]
          cases agr c tx[j1] <;> simp
        rw [ewi]
        refine W_rset (by omega) ?_
        refine W_rowf (by omega) (W_rowf (by omega) (W_rowf (by omega) (W_rset (by omega) ⟨_, _, _, rfl, fun j' a b => ?_, fun j' a => ?_⟩)))
        · by_cases e1 : j' = j1 + 1
          · subst e1
            rw [upd1_same, upd1_same, upd1_same, upd1_ne (by omega), upd1_ne (by omega)]
            refine ⟨?_, hq, ?_⟩
            · rw [Tb.p11]
              exact Tb.Rep.ad (((hdg.1.mn (far (200 * (i + j1)) (by omega)) hdg.2.1 hbd.1 hbd.2.1).mn (far (200 * (i + j1)) (by omega)) hdg.2.2 (hbd.1.mn hbd.2.1) hbd.2.2))
            · rw [Tb.r1]
              exact Tb.Rep.ad (k := e) (Tb.Rep.mn (b := 200 * (i + 1 + j1) + s) (far _ (by omega)) (Tb.Rep.ad (k := s) (hl.1.mn (far (200 * (i + 1 + j1)) (by omega)) hl.2.1 hbl.1 hbl.2.1)) hl.2.2 (Tb.Bd.ad (hbl.1.mn hbl.2.1)) (hbl.2.2.mono (by omega)))
          · rw [upd1_ne e1, upd1_ne e1, upd1_ne e1]
            exact hD j' a (by omega)
        · rw [upd1_ne (by omega), upd1_ne (by omega), upd1_ne (by omega)]
          exact hF j' (by omega)
      · walk_at "m"
        have j0 : j = 0 := by omega
        subst j0
        refine ⟨_, _, _, rfl, fun j' a b => ?_, fun j' a => ?_⟩
        · have e1 : j' = 0 := by omega
          subst e1
          have := hF 0 (Nat.le_refl _)
          rw [upd1_same, this.1, this.2.2, Tb.p10, Tb.r0]
          exact ⟨Int.le_refl _, hq, Int.le_refl _⟩
        · rw [upd1_ne (by omega)]
          exact hF j' (by omega)
    · rintro γ ⟨N, X, G, rfl, hD, hF⟩
      rw [prange_len, Int.toNat_natCast] at hD
      walk_at "m"
      exact ⟨N, X, G, rfl, fun j hj => hD j hj (by omega)⟩
  · rintro γ ⟨P, Q, R, rfl, hI⟩
    rw [List.length_map] at hI
    walk_at "m"
    refine W_rowf (by omega) (W_rowf (by omega) (W_rowf (by omega) ?_))
    have h := hI m (Nat.le_refl _)
    have hb := Tb.bd hw h2 h3 rd.length m
    have r1 := (h.1.mn (far (200 * (rd.length + m)) (by omega)) h.2.1 hb.1 hb.2.1).mn (far (200 * (rd.length + m)) (by omega)) h.2.2 (hb.1.mn hb.2.1) hb.2.2
    have hc : Tb.mn (Tb.mn (Tb.T w s e rd.length m).p (Tb.T w s e rd.length m).q) (Tb.T w s e rd.length m).r = some cost := hc
    rw [hc] at r1
    exact r1

end Lw
namespace Lw
open PySem PySem.Spec PyProof.Rows L2 Fw Mi
section
variable {P : Program} {w : World} {K : PySem.W.Frag} {mg : Str → Option Value} {base : Heap}
noncomputable def m_law_r1 (γ : ((List Int) × Int × (List Nat) × (List Nat) × Int × (Int × Int × Int) × ((List (List Int)) × (List (List Int)) × (List (List Int))) × (List (List (List Int))) × (Option Int) × (Option Int) × Unit)) : Option (Res Unit Unit Bool) := let text := γ.2.2.1; let read := γ.2.2.2.1; let end_ := γ.2.2.2.2.1; let costs := γ.2.2.2.2.2.1; let actual := γ.2.2.2.2.2.2.2.2.1; let expected := γ.2.2.2.2.2.2.2.2.2.1; rb (ob ((ob (ob (ob actual fun x42 => some (x42, ())) fun z43 => (m_law_integer z43.1)) fun b46 => if b46 = true then (if (decide (actual = expected)) = true then (ob actual fun x44 => (ob (m_law_least read text end_ costs) fun y45 => some (decide (x44 ≤ y45)))) else some false) else some false)) fun r47 => some (.ret r47)) fun γ => some (.nxt γ)
noncomputable def m_law_r2 (γ : ((List Int) × Int × (List Nat) × (List Nat) × Int × (Int × Int × Int) × ((List (List Int)) × (List (List Int)) × (List (List Int))) × (List (List (List Int))) × (Option Int) × (Option Int) × Unit)) : Option (Res Unit Unit Bool) := let script := γ.1; let first := γ.2.1; let text := γ.2.2.1; let read := γ.2.2.2.1; let end_ := γ.2.2.2.2.1; let costs := γ.2.2.2.2.2.1; let told := γ.2.2.2.2.2.2.1; let before := γ.2.2.2.2.2.2.2.1; let actual := γ.2.2.2.2.2.2.2.2.1; let expected := γ.2.2.2.2.2.2.2.2.2.1; rb (if (expected).isNone = true then (rb (some (.ret ((actual).isNone))) fun γ => some (.nxt γ)) else (some (.nxt (script, first, text, read, end_, costs, told, before, actual, expected, ())))) m_law_r1
noncomputable def m_law_r3 (γ : ((List Int) × Int × (List Nat) × (List Nat) × Unit)) : Option (Res Unit Unit Bool) := let script := γ.1; let first := γ.2.1; let text := γ.2.2.1; let read := γ.2.2.2.1; ob (ob (m_law_cell script (3 : Int)) fun x21 => (ob (ob (pck (text.length ≤ sz) (text.length : Int)) fun x20 => some (x20 + (1 : Int))) fun y22 => (pck (PMod x21 y22) (x21 % y22)))) fun end_ => ob (ob (ob (m_law_cell script (4 : Int)) fun x23 => some (x23, ())) fun z24 => (m_law_costs z24.1)) fun costs => ob (ob (ob (ob (ob (ob (ob (m_law_cell script (5 : Int)) fun x25 => some (x25, ())) fun r26 => some (costs, r26)) fun r27 => some (end_, r27)) fun r28 => some (text, r28)) fun r29 => some (read, r29)) fun z30 => (m_law_paper z30.1 z30.2.1 z30.2.2.1 z30.2.2.2.1 z30.2.2.2.2.1)) fun told => ob (ob (lcM (fun c31 => (ob (lcM (fun c32 => (pck (c32.length ≤ sz) c32)) c31) fun r => pck (r.length ≤ sz) r)) [told.1, told.2.1, told.2.2]) fun r => pck (r.length ≤ sz) r) fun before => ob (m_shown read text end_ costs told) fun actual => ob (m_law_judged read text end_ costs told) fun expected => rb ((ob (ob (ob (lcM (fun c33 => (some c33)) [told.1, told.2.1, told.2.2]) fun r => pck (r.length ≤ sz) r) fun y34 => some (!decide (before = y34))) fun b35 => if b35 = true then (rb (some (.ret false)) fun γ => some (.nxt γ)) else (some (.nxt (script, first, text, read, end_, costs, told, before, actual, expected, ()))))) m_law_r2
noncomputable def m_law (script : (List Int)) : Option Bool := fin (κ := Unit) (ρ := Unit) (ob (m_law_cell script (0 : Int)) fun first => ob (ob (ob (m_law_cell script (1 : Int)) fun x3 => (ob (ob (ob (pck (PMod first (24 : Int)) (first % (24 : Int))) fun y1 => some ((1 : Int) + y1)) fun x2 => some (x2, ())) fun r4 => some (x3, r4))) fun z5 => (m_law_text z5.1 z5.2.1)) fun text => ob (ob (ob (m_law_cell script (2 : Int)) fun x9 => (ob (ob (ob (ob (m_law_cell script (6 : Int)) fun x6 => (pck (PMod x6 (10 : Int)) (x6 % (10 : Int)))) fun y7 => some ((1 : Int) + y7)) fun x8 => some (x8, ())) fun r10 => some (x9, r10))) fun z11 => (m_law_text z11.1 z11.2.1)) fun read => rb ((ob (ob (ob (m_law_cell script (7 : Int)) fun x12 => (pck (PMod x12 (3 : Int)) (x12 % (3 : Int)))) fun x13 => some (decide ((0 : Int) < x13))) fun b19 => if b19 = true then (ob (ob (ob (m_law_cell script (2 : Int)) fun x16 => (ob (ob (ob (pck (read.length ≤ sz) (read.length : Int)) fun x14 => some (x14, ())) fun r15 => some (text, r15)) fun r17 => some (x16, r17))) fun z18 => (m_law_read z18.1 z18.2.1 z18.2.2.1)) fun read => some (.nxt (script, first, text, read, ()))) else (some (.nxt (script, first, text, read, ()))))) m_law_r3)
abbrev sp_law (K : PySem.W.Frag) : Sp := spM (aC (jQ K jI) aN) (sF jB) (fun γ => m_law γ.1)
theorem ok_law (T : Tx w K mg) : Dn P w K mg base 5 (He.ga K "law") ["_law_script"] (sp_law K) := by
  obtain ⟨fd_law_cell, G_law_cell, b_law_cell, kp_law_cell, _⟩ := ok_law_cell (P := P) (w := w) (base := base) T
  obtain ⟨fd_law_text, G_law_text, b_law_text, kp_law_text, _⟩ := ok_law_text (P := P) (w := w) (base := base) T
  obtain ⟨fd_law_costs, G_law_costs, b_law_costs, kp_law_costs, _⟩ := ok_law_costs (P := P) (w := w) (base := base) T
  obtain ⟨fd_law_paper, G_law_paper, b_law_paper, kp_law_paper, _⟩ := ok_law_paper (P := P) (w := w) (base := base) T
  obtain ⟨fd_shown, G_shown, b_shown, kp_shown, _⟩ := ok_shown (P := P) (w := w) (base := base) T
  obtain ⟨fd_law_judged, G_law_judged, b_law_judged, kp_law_judged, _⟩ := ok_law_judged (P := P) (w := w) (base := base) T
  obtain ⟨fd_law_read, G_law_read, b_law_read, kp_law_read, _⟩ := ok_law_read (P := P) (w := w) (base := base) T
  obtain ⟨fd_law_integer, G_law_integer, b_law_integer, kp_law_integer, _⟩ := ok_law_integer (P := P) (w := w) (base := base) T
  obtain ⟨fd_law_least, G_law_least, b_law_least, kp_law_least, _⟩ := ok_law_least (P := P) (w := w) (base := base) T
  refine dn_mk T.d_law sc_law (fun _ _ _ _ _ _ us hl => match us, hl with | [_], _ => rfl) (spM_len (an_C an_0)) fun cdv A outer s H vs Q E hr h => ?_
  refine ⟨_, (pss_cons (ps_set (i := 1) sc_law.nd rfl (.inl rfl) (pe_call G_law_cell (hr.mono (by decide)) (by rfl) T.g_law_cell kp_law_cell b_law_cell .nil pass0 (pa_cons (pv 0) (pa_cons pe_int pa_nil))))
      (pss_cons (ps_set (i := 2) sc_law.nd rfl (.inl rfl) (pe_call G_law_text (hr.mono (by decide)) (by rfl) T.g_law_text kp_law_text b_law_text .nil pass0 (pa_cons (pe_call G_law_cell (hr.mono (by decide)) (by rfl) T.g_law_cell kp_law_cell b_law_cell .nil pass0 (pa_cons (pv 0) (pa_cons pe_int pa_nil))) (pa_cons (pe_op op_add pe_int (pe_op op_mod (pv 1) pe_int)) pa_nil))))
      (pss_cons (ps_set (i := 3) sc_law.nd rfl (.inl rfl) (pe_call G_law_text (hr.mono (by decide)) (by rfl) T.g_law_text kp_law_text b_law_text .nil pass0 (pa_cons (pe_call G_law_cell (hr.mono (by decide)) (by rfl) T.g_law_cell kp_law_cell b_law_cell .nil pass0 (pa_cons (pv 0) (pa_cons pe_int pa_nil))) (pa_cons (pe_op op_add pe_int (pe_op op_mod (pe_call G_law_cell (hr.mono (by decide)) (by rfl) T.g_law_cell kp_law_cell b_law_cell .nil pass0 (pa_cons (pv 0) (pa_cons pe_int pa_nil))) pe_int)) pa_nil))))
      (pss_cons (ps_if (pt_cmpR op_gt (pe_op op_mod (pe_call G_law_cell (hr.mono (by decide)) (by rfl) T.g_law_cell kp_law_cell b_law_cell .nil pass0 (pa_cons (pv 0) (pa_cons pe_int pa_nil))) pe_int) pe_int (nomark _))
      (pss_cons (ps_set (i := 3) sc_law.nd rfl (.inl rfl) (pe_call G_law_read (hr.mono (by decide)) (by rfl) T.g_law_read kp_law_read b_law_read .nil pass0 (pa_cons (pe_call G_law_cell (hr.mono (by decide)) (by rfl) T.g_law_cell kp_law_cell b_law_cell .nil pass0 (pa_cons (pv 0) (pa_cons pe_int pa_nil))) (pa_cons (pv 2) (pa_cons (pe_callB k_lenS (by rfl) T.z_len (by decide +kernel) (pa_cons (pv 3) pa_nil)) pa_nil)))))
      pss_nil)
      pss_nil)
      (pss_cons (ps_set (i := 4) sc_law.nd rfl (.inl rfl) (pe_op op_mod (pe_call G_law_cell (hr.mono (by decide)) (by rfl) T.g_law_cell kp_law_cell b_law_cell .nil pass0 (pa_cons (pv 0) (pa_cons pe_int pa_nil))) (pe_op op_add (pe_callB k_lenS (by rfl) T.z_len (by decide +kernel) (pa_cons (pv 2) pa_nil)) pe_int)))
      (pss_cons (ps_set (i := 5) sc_law.nd rfl (.inl rfl) (pe_call G_law_costs (hr.mono (by decide)) (by rfl) T.g_law_costs kp_law_costs b_law_costs .nil pass0 (pa_cons (pe_call G_law_cell (hr.mono (by decide)) (by rfl) T.g_law_cell kp_law_cell b_law_cell .nil pass0 (pa_cons (pv 0) (pa_cons pe_int pa_nil))) pa_nil)))
      (pss_cons (ps_set (i := 6) sc_law.nd rfl (.inl rfl) (pe_call G_law_paper (hr.mono (by decide)) (by rfl) T.g_law_paper kp_law_paper b_law_paper .nil pass0 (pa_cons (pv 3) (pa_cons (pv 2) (pa_cons (pv 4) (pa_cons (pv 5) (pa_cons (pe_call G_law_cell (hr.mono (by decide)) (by rfl) T.g_law_cell kp_law_cell b_law_cell .nil pass0 (pa_cons (pv 0) (pa_cons pe_int pa_nil))) pa_nil)))))))
      (pss_cons (ps_setLc (i := 7) (own := [("_law_table", 9)]) rfl sc_law.nd rfl rfl (sw_true rfl rfl rfl (by decide +kernel)) (iT_ (K := K) (pv 6)) (blkOk_by (own := [("_law_table", 9)]) (N := ["_law_script", "_law_first", "_law_text_here", "_law_read_here", "_law_end", "_law_costs_here", "_law_told", "_law_before", "_law_row_here", "_law_table", "_law_actual", "_law_expected"]) (sc := defScope s_law) (by decide +kernel)) (fun _ _ _ _ _ => (pg_name (i := 9) sc_law.nd rfl (.inl rfl))) (fun _ _ _ _ _ => pts_nil) (fun _ _ _ _ _ => (pe_lc (own := [("_law_row_here", 8)]) rfl sc_law.nd (iL_ (K := K) (pv 9)) (blkOk_by (own := [("_law_row_here", 8)]) (N := ["_law_script", "_law_first", "_law_text_here", "_law_read_here", "_law_end", "_law_costs_here", "_law_told", "_law_before", "_law_row_here", "_law_table", "_law_actual", "_law_expected"]) (sc := relS _ (defScope s_law)) (by decide +kernel)) (fun _ _ _ _ _ => (pg_name (i := 8) sc_law.nd rfl (.inl rfl))) (fun _ _ _ _ _ => pts_nil) (fun _ _ _ _ _ => (pe_callTy (listQ_ (K := K)) (by rfl) T.z_list (by decide +kernel) (pa_cons (pv 8) pa_nil))))))
      (pss_cons (ps_set (i := 10) sc_law.nd rfl (.inl rfl) (pe_call G_shown (hr.mono (by decide)) (by rfl) T.g_shown kp_shown b_shown .nil pass0 (pa_cons (pv 3) (pa_cons (pv 2) (pa_cons (pv 4) (pa_cons (pv 5) (pa_cons (pv 6) pa_nil)))))))
      (pss_cons (ps_set (i := 11) sc_law.nd rfl (.inl rfl) (pe_call G_law_judged (hr.mono (by decide)) (by rfl) T.g_law_judged kp_law_judged b_law_judged .nil pass0 (pa_cons (pv 3) (pa_cons (pv 2) (pa_cons (pv 4) (pa_cons (pv 5) (pa_cons (pv 6) pa_nil)))))))
      (pss_cons (ps_if (pt_cmpR (neD_ (K := K) hr.units) (pv 7) (pe_lc (own := [("_law_table", 9)]) rfl sc_law.nd (iT_ (K := K) (pv 6)) (blkOk_by (own := [("_law_table", 9)]) (N := ["_law_script", "_law_first", "_law_text_here", "_law_read_here", "_law_end", "_law_costs_here", "_law_told", "_law_before", "_law_row_here", "_law_table", "_law_actual", "_law_expected"]) (sc := defScope s_law) (by decide +kernel)) (fun _ _ _ _ _ => (pg_name (i := 9) sc_law.nd rfl (.inl rfl))) (fun _ _ _ _ _ => pts_nil) (fun _ _ _ _ _ => (pv 9))) (nomark _))
      (pss_cons (ps_ret pe_bl)
      pss_nil)
      pss_nil)
      (pss_cons (ps_if (pt_cmpR op_isN1 (pv 11) pe_non (nomark _))
      (pss_cons (ps_ret (pe_cmpR op_isN1 (pv 10) pe_non (nomark _)))
      pss_nil)
      pss_nil)
      (pss_cons (ps_ret (pe_and (pe_call G_law_integer (hr.mono (by decide)) (by rfl) T.g_law_integer kp_law_integer b_law_integer .nil pass0 (pa_cons (pv 10) pa_nil)) (pe_and (pe_cmpR (eqD_ (K := K) hr.units) (pv 10) (pv 11) (nomark _)) (pe_one (pe_cmpR op_le (pv 10) (pe_call G_law_least (hr.mono (by decide)) (by rfl) T.g_law_least kp_law_least b_law_least .nil pass0 (pa_cons (pv 3) (pa_cons (pv 2) (pa_cons (pv 4) (pa_cons (pv 5) pa_nil))))) (nomark _))))))
      pss_nil))))))))))))), ?_⟩
  refine fin_runX (E := (eC (sF (jQ K jI)) (eU (eU (eU (eU (eU (eU (eU (eU (eU (eU (eU eN))))))))))))) (E' := eN) (ae_C (ae_U rfl (ae_U rfl (ae_U rfl (ae_U rfl (ae_U rfl (ae_U rfl (ae_U rfl (ae_U rfl (ae_U rfl (ae_U rfl (ae_U rfl ae_0)))))))))))) (an_C an_0) rfl ?S h rfl
  exact ⟨_, (ss_asg (se_call (sa_cons (se_var g0) (sa_cons se_int sa_nil))) (pS p0U) (ss_asg (se_call (sa_cons (se_call (sa_cons (se_var g0) (sa_cons se_int sa_nil))) (sa_cons (se_op se_int (se_op (se_var (gS g0)) se_int s2_mod) (s2_I0 (f := fun i j => i + j))) sa_nil))) (pS (pS p0U)) (ss_asg (se_call (sa_cons (se_call (sa_cons (se_var g0) (sa_cons se_int sa_nil))) (sa_cons (se_op se_int (se_op (se_call (sa_cons (se_var g0) (sa_cons se_int sa_nil))) se_int s2_mod) (s2_I0 (f := fun i j => i + j))) sa_nil))) (pS (pS (pS p0U))) (ss_seq (ss_if (st_test (se_op (se_op (se_call (sa_cons (se_var g0) (sa_cons se_int sa_nil))) se_int s2_mod) se_int (s2_C0 (f := fun i j => decide (j < i))))) (ss_asg (se_call (sa_cons (se_call (sa_cons (se_var g0) (sa_cons se_int sa_nil))) (sa_cons (se_var (gS (gS g0))) (sa_cons (se_cb (sa_cons (se_var (gS (gS (gS g0)))) sa_nil) sc_lenS) sa_nil)))) (pS (pS (pS p0))) ss_nil) ss_nil) (ss_conv (m' := m_law_r3) (ss_asg (se_op (se_call (sa_cons (se_var g0) (sa_cons se_int sa_nil))) (se_op (se_cb (sa_cons (se_var (gS (gS g0))) sa_nil) sc_lenS) se_int (s2_I0 (f := fun i j => i + j))) s2_mod) (pS (pS (pS (pS p0U)))) (ss_asg (se_call (sa_cons (se_call (sa_cons (se_var g0) (sa_cons se_int sa_nil))) sa_nil)) (pS (pS (pS (pS (pS p0U))))) (ss_asg (se_call (sa_cons (se_var (gS (gS (gS g0)))) (sa_cons (se_var (gS (gS g0))) (sa_cons (se_var (gS (gS (gS (gS g0))))) (sa_cons (se_var (gS (gS (gS (gS (gS g0)))))) (sa_cons (se_call (sa_cons (se_var g0) (sa_cons se_int sa_nil))) sa_nil)))))) (pS (pS (pS (pS (pS (pS p0U)))))) (ss_asg (se_lc (si_tup (se_var (gS (gS (gS (gS (gS (gS g0))))))) (tlC (tlC tl1))) (wp_cons (nS (nS (nS (nS (nS (nS (nS (nU (nU n0))))))))) wp_nil) (sg_name (pS (pS (pS (pS (pS (pS (pS (pU (pU p0U)))))))))) (se_fz (se_lc (si_list (se_var (gS (gS (gS (gS (gS (gS (gS (gU (gU g0))))))))))) (wp_cons (nS (nS (nS (nS (nS (nS (nS (nU n0)))))))) wp_nil) (sg_name (pS (pS (pS (pS (pS (pS (pS (pU p0U))))))))) (se_fz (se_cb (sa_cons (se_var (gS (gS (gS (gS (gS (gS (gS (gU g0))))))))) sa_nil) (sc_listL (K := K))))))) (pS (pS (pS (pS (pS (pS (pS p0U))))))) (ss_asg (se_call (sa_cons (se_var (gS (gS (gS g0)))) (sa_cons (se_var (gS (gS g0))) (sa_cons (se_var (gS (gS (gS (gS g0))))) (sa_cons (se_var (gS (gS (gS (gS (gS g0)))))) (sa_cons (se_var (gS (gS (gS (gS (gS (gS g0))))))) sa_nil)))))) (pS (pS (pS (pS (pS (pS (pS (pS (pU (pU p0U)))))))))) (ss_asg (se_call (sa_cons (se_var (gS (gS (gS g0)))) (sa_cons (se_var (gS (gS g0))) (sa_cons (se_var (gS (gS (gS (gS g0))))) (sa_cons (se_var (gS (gS (gS (gS (gS g0)))))) (sa_cons (se_var (gS (gS (gS (gS (gS (gS g0))))))) sa_nil)))))) (pS (pS (pS (pS (pS (pS (pS (pS (pU (pU (pS p0U))))))))))) (ss_seq (ss_if (st_test (se_opR (sr_var (gS (gS (gS (gS (gS (gS (gS g0)))))))) (sr_of (se_fz (se_lc (si_tup (se_var (gS (gS (gS (gS (gS (gS g0))))))) (tlC (tlC tl1))) (wp_cons (nS (nS (nS (nS (nS (nS (nS (nS (nU n0))))))))) wp_nil) (sg_name (pS (pS (pS (pS (pS (pS (pS (pS (pU p0U)))))))))) (se_var (gS (gS (gS (gS (gS (gS (gS (gS (gU g0))))))))))))) ((s2_neD (K := K) (qL (qL (qL qI))))) scB)) (ss_seq (ss_ret se_bl) ss_nil) ss_nil) (ss_conv (m' := m_law_r2) (ss_seq (ss_if (st_test (se_op (se_var (gS (gS (gS (gS (gS (gS (gS (gS (gU (gU (gS g0)))))))))))) se_non (s2_isN oI))) (ss_seq (ss_ret (se_op (se_var (gS (gS (gS (gS (gS (gS (gS (gS (gU (gU g0))))))))))) se_non (s2_isN oI))) ss_nil) ss_nil) (ss_conv (m' := m_law_r1) (ss_seq (ss_ret (se_andV (se_call (sa_cons (se_some (se_var (gS (gS (gS (gS (gS (gS (gS (gS (gU (gU g0)))))))))))) sa_nil)) (se_andV (se_op (se_var (gS (gS (gS (gS (gS (gS (gS (gS (gU (gU g0))))))))))) (se_var (gS (gS (gS (gS (gS (gS (gS (gS (gU (gU (gS g0)))))))))))) ((s2_eqD (K := K) (qO nnI)))) (se_op (se_some (se_var (gS (gS (gS (gS (gS (gS (gS (gS (gU (gU g0)))))))))))) (se_call (sa_cons (se_var (gS (gS (gS g0)))) (sa_cons (se_var (gS (gS g0))) (sa_cons (se_var (gS (gS (gS (gS g0))))) (sa_cons (se_var (gS (gS (gS (gS (gS g0)))))) sa_nil))))) (s2_C0 (f := fun i j => decide (i ≤ j))))))) ss_nil) (by exact rfl))) (by exact rfl))))))))) (by exact rfl)))))), by exact rfl⟩
end
end Lw
namespace Lw
open PySem PySem.Spec PyProof.Rows L2 Fw Mi
local macro_rules | `(tactic| walk_at "m") => `(tactic| simp only [pidx_one, pinS_one, pninS_one, W_some, W_none, W_ob, W_bind, W_pck, W_rb, W_fin, W_finN, W_T, W_F, W_Tr, W_Fa, Rw_nxt, Rw_ret, Rw_cnt, Rf_ret, Rf_nxt, RfN_ret, RfN_nxt, decide_true, decide_false, Bool.not_true, Bool.not_false])
theorem law_true (ns : List Int) (h : ns.length ≤ 63) : m_law ns = some true := by
  refine W.eq ?_
  unfold m_law
  walk_at "m"
  refine w_cell (by decide) fun c0 => ?_
  refine w_cell (by decide) fun c1 => ⟨by omega, ?_⟩
  refine w_text (by omega) fun tx ht htl => ?_
  refine w_cell (by decide) fun c2 => ?_
  refine w_cell (by decide) fun c6 => ⟨by omega, ?_⟩
  refine w_text (by omega) fun rd0 hr hrl => ?_
  refine w_cell (by decide) fun c7 => ⟨by omega, ?_⟩
  have hz : ∀ k : Nat, k ≤ 4000 → k ≤ sz := fun k h => by unfold sz; omega
  refine W.mono (Q := fun r => ∃ rd, r = Res.nxt (ns, c0, tx, rd, ()) ∧ Ltr rd ∧ 1 ≤ rd.length ∧ rd.length ≤ 19) ?_ ?_
  · refine W_ifD (fun h => ?_) (fun h => ?_)
    · walk_at "m"
      refine w_cell (by decide) fun c2 => ⟨hz _ (by omega), ?_⟩
      refine w_read htl (by omega) (by omega) fun rd a1 a2 a3 => ⟨rd, rfl, a1, a2, by omega⟩
    · walk_at "m"
      exact ⟨rd0, rfl, hrl, by omega, by omega⟩
  rintro _ ⟨rd, rfl, hrl, hr1, hrn⟩
  rw [Rw_nxt]
  unfold m_law_r3
  walk_at "m"
  refine w_cell (by decide) fun c3 => ⟨hz _ (by omega), by omega, ?_⟩
  obtain ⟨m, hm, hm2⟩ : ∃ m : Nat, c3 % ((tx.length : Int) + 1) = (m : Int) ∧ m ≤ tx.length := by
    have a := Int.emod_nonneg c3 (show (tx.length : Int) + 1 ≠ 0 by omega)
    have b := Int.emod_lt_of_pos c3 (show 0 < (tx.length : Int) + 1 by omega)
    exact ⟨(c3 % ((tx.length : Int) + 1)).toNat, by omega, by omega⟩
  rw [hm]
  refine w_cell (by decide) fun c4 => ?_
  refine w_costs fun rp s e h1 h2 h3 => ?_
  refine w_cell (by decide) fun c5 => ?_
  refine w_lawpaper (by omega) hm2 (by omega) h1 h2 h3 fun told hT => ?_
  obtain ⟨A, B, C⟩ := told
  have hS : ∀ t ∈ [A, B, C], t.length ≤ 100 ∧ ∀ r ∈ t, r.length ≤ 100 := hT.2
  refine W_of (lcM_map (g := fun t => t) fun t ht => ?_) ⟨by rw [List.length_map]; exact hz _ (show 3 ≤ 4000 by decide), ?_⟩
  · refine W.eq ?_
    walk_at "m"
    refine W_of (lcM_map (g := fun r => r) fun r hr => pck_of (hz _ (by have := (hS t ht).2 r hr; omega))) ⟨by rw [List.length_map]; exact hz _ (by have := (hS t ht).1; omega), ?_⟩
    exact List.map_id _
  rw [List.map_id']
  have hl : ∀ t ∈ [A, B, C], t.length ≤ sz := fun t ht => hz _ (by have := (hS t ht).1; omega)
  have ends : ∀ {v : Option Int}, (∀ x, v = some x → ∃ cost : Nat, m_law_least rd tx (m : Int) ((rp : Int), (s : Int), (e : Int)) = some (cost : Int) ∧ x ≤ (cost : Int)) →
      W (lcM (fun c33 => some c33) [A, B, C]) fun y => y.length ≤ sz ∧ W (if (!decide ([A, B, C] = y)) = true then rb (some (.ret false)) fun γ => some (.nxt γ) else some (.nxt (ns, c0, tx, rd, (m : Int), ((rp : Int), (s : Int), (e : Int)), (A, B, C), [A, B, C], v, v, ()))) (Rw (Rf fun z => z = true) m_law_r2) := fun {v} hv => by
    refine W_of (lcM_map (g := fun t => t) fun t ht => rfl) ⟨by rw [List.length_map]; exact hz _ (show 3 ≤ 4000 by decide), ?_⟩
    rw [List.map_id']
    refine W_ifN (fun h => absurd rfl h) (fun _ => ?_)
    walk_at "m"
    unfold m_law_r2
    walk_at "m"
    cases v with
    | none =>
      rw [show (none : Option Int).isNone = true from rfl]
      walk_at "m"
    | some x =>
      rw [show (some x : Option Int).isNone = false from rfl]
      walk_at "m"
      unfold m_law_r1
      obtain ⟨cost, hc, hle⟩ := hv x rfl
      walk_at "m"
      rw [m_integer_eq]
      walk_at "m"
      rw [hc]
      walk_at "m"
      exact decide_eq_true hle
  by_cases hb : ∀ t ∈ [A, B, C], Szd rd.length m t
  · obtain ⟨PA, hA⟩ : ∃ P : Nat → Nat → Int, A = grid (rd.length + 1) (m + 1) P := ⟨_, grid_of (hb A (by simp)).1 (hb A (by simp)).2⟩
    obtain ⟨PB, hB⟩ : ∃ P : Nat → Nat → Int, B = grid (rd.length + 1) (m + 1) P := ⟨_, grid_of (hb B (by simp)).1 (hb B (by simp)).2⟩
    obtain ⟨PC, hC⟩ : ∃ P : Nat → Nat → Int, C = grid (rd.length + 1) (m + 1) P := ⟨_, grid_of (hb C (by simp)).1 (hb C (by simp)).2⟩
    subst hA hB hC
    obtain ⟨cost, hcost⟩ := Tb.best_fin (w := wf rd tx rp) (s := s) (e := e) rd.length m
    refine w_shown (by omega) hm2 (by omega) (fun H => ?_) (fun H => ?_)
    · refine w_judged (by omega) hm2 (by omega) h1 (fun _ => ?_) (fun n => absurd H n)
      refine ends (v := some _) fun x hx => ⟨cost, m_least_eq (rd := rd) (tx := tx) (by omega) hm2 (by omega) h1 h2 h3 hcost, ?_⟩
      cases hx
      exact Pp.shw_le (by omega) H hcost
    · refine w_judged (by omega) hm2 (by omega) h1 (fun n => absurd n H) (fun _ => ?_)
      exact ends (v := none) fun x hx => nomatch hx
  · refine w_shown_bad (by omega) hl hb ?_
    refine w_judged_bad (by omega) hl hb ?_
    exact ends (v := none) fun x hx => nomatch hx

end Lw
namespace Lw
open PySem PySem.Spec PyProof.Rows L2 Fw Mi

theorem law_start {K : PySem.W.Frag} {H : Hp} {a : Addr} {ns : List Int} (hS : SqL K H a (ns.map V.int)) (hl : ns.length ≤ 63) : sp_law K [.ref a] H (fun v _ => v = .bl true) fun _ _ _ => False :=
  ⟨H, (ns, ()), true, Same.refl _, ⟨_, _, rfl, ⟨a, _, rfl, hS, Paired.mk (A := jI.r H) (f := V.int) (fun _ => rfl) ns⟩, rfl⟩, law_true ns hl, fun _ _ _ _ _ r => r.2⟩
/-! ### the head -/
def dd_agree : He.DefD := ⟨("agree", none), "agree", "agree", defArgs s_agree, defBody s_agree, defScope s_agree, [], []⟩
def dd_first_tables : He.DefD := ⟨("first_tables", none), "first_tables", "first_tables", defArgs s_first_tables, defBody s_first_tables, defScope s_first_tables, [], []⟩
def dd_least_costs : He.DefD := ⟨("least_costs", none), "least_costs", "least_costs", defArgs s_least_costs, defBody s_least_costs, defScope s_least_costs, [], []⟩
def dd_paper : He.DefD := ⟨("paper", none), "paper", "paper", defArgs s_paper, defBody s_paper, defScope s_paper, [], []⟩
def dd_sized : He.DefD := ⟨("sized", none), "sized", "sized", defArgs s_sized, defBody s_sized, defScope s_sized, [], []⟩
def dd_bounded : He.DefD := ⟨("bounded", none), "bounded", "bounded", defArgs s_bounded, defBody s_bounded, defScope s_bounded, [], []⟩
def dd_pair_bounds : He.DefD := ⟨("pair_bounds", none), "pair_bounds", "pair_bounds", defArgs s_pair_bounds, defBody s_pair_bounds, defScope s_pair_bounds, [], []⟩
def dd_extra_bounds : He.DefD := ⟨("extra_bounds", none), "extra_bounds", "extra_bounds", defArgs s_extra_bounds, defBody s_extra_bounds, defScope s_extra_bounds, [], []⟩
def dd_gap_bounds : He.DefD := ⟨("gap_bounds", none), "gap_bounds", "gap_bounds", defArgs s_gap_bounds, defBody s_gap_bounds, defScope s_gap_bounds, [], []⟩
def dd_cell_holds : He.DefD := ⟨("cell_holds", none), "cell_holds", "cell_holds", defArgs s_cell_holds, defBody s_cell_holds, defScope s_cell_holds, [], []⟩
def dd_shown : He.DefD := ⟨("shown", none), "shown", "shown", defArgs s_shown, defBody s_shown, defScope s_shown, [], []⟩
def dd_law_cell : He.DefD := ⟨("_law_cell", none), "_law_cell", "_law_cell", defArgs s_law_cell, defBody s_law_cell, defScope s_law_cell, [], []⟩
def dd_law_row : He.DefD := ⟨("_law_row", none), "_law_row", "_law_row", defArgs s_law_row, defBody s_law_row, defScope s_law_row, [], []⟩
def dd_law_integer : He.DefD := ⟨("_law_integer", none), "_law_integer", "_law_integer", defArgs s_law_integer, defBody s_law_integer, defScope s_law_integer, [], []⟩
def dd_law_text : He.DefD := ⟨("_law_text", none), "_law_text", "_law_text", defArgs s_law_text, defBody s_law_text, defScope s_law_text, [], []⟩
def dd_law_turned : He.DefD := ⟨("_law_turned", none), "_law_turned", "_law_turned", defArgs s_law_turned, defBody s_law_turned, defScope s_law_turned, [], []⟩
def dd_law_read : He.DefD := ⟨("_law_read", none), "_law_read", "_law_read", defArgs s_law_read, defBody s_law_read, defScope s_law_read, [], []⟩
def dd_law_agree : He.DefD := ⟨("_law_agree", none), "_law_agree", "_law_agree", defArgs s_law_agree, defBody s_law_agree, defScope s_law_agree, [], []⟩
def dd_law_least : He.DefD := ⟨("_law_least", none), "_law_least", "_law_least", defArgs s_law_least, defBody s_law_least, defScope s_law_least, [], []⟩
def dd_law_costs : He.DefD := ⟨("_law_costs", none), "_law_costs", "_law_costs", defArgs s_law_costs, defBody s_law_costs, defScope s_law_costs, [], []⟩
def dd_law_cell_bounds : He.DefD := ⟨("_law_cell_bounds", none), "_law_cell_bounds", "_law_cell_bounds", defArgs s_law_cell_bounds, defBody s_law_cell_bounds, defScope s_law_cell_bounds, [], []⟩
def dd_law_judged : He.DefD := ⟨("_law_judged", none), "_law_judged", "_law_judged", defArgs s_law_judged, defBody s_law_judged, defScope s_law_judged, [], []⟩
def dd_law_paper : He.DefD := ⟨("_law_paper", none), "_law_paper", "_law_paper", defArgs s_law_paper, defBody s_law_paper, defScope s_law_paper, [], []⟩
def dd_law : He.DefD := ⟨("law", none), "law", "law", defArgs s_law, defBody s_law, defScope s_law, [], []⟩
def fn : List He.DefD := [dd_agree, dd_first_tables, dd_least_costs, dd_paper, dd_sized, dd_bounded, dd_pair_bounds, dd_extra_bounds, dd_gap_bounds, dd_cell_holds, dd_shown, dd_law_cell, dd_law_row, dd_law_integer, dd_law_text, dd_law_turned, dd_law_read, dd_law_agree, dd_law_least, dd_law_costs, dd_law_cell_bounds, dd_law_judged, dd_law_paper, dd_law]
def fa : List He.Fa := [.glo "agree", .glo "first_tables", .glo "least_costs", .glo "paper", .glo "sized", .glo "bounded", .glo "pair_bounds", .glo "extra_bounds", .glo "gap_bounds", .glo "cell_holds", .glo "shown", .glo "_law_cell", .glo "_law_row", .glo "_law_integer", .glo "_law_text", .glo "_law_turned", .glo "_law_read", .glo "_law_agree", .glo "_law_least", .glo "_law_costs", .glo "_law_cell_bounds", .glo "_law_judged", .glo "_law_paper", .glo "law", .free "range", .free "len", .free "min", .free "tuple", .free "all", .free "int", .free "abs", .free "isinstance", .free "bool", .free "list", .str "UNKNOWN" (S [78]), .int "NEVER" 1152921504606846976]
abbrev R : PySem.W.OpenRow := PySem.W.OpenLaw.row PySem.Challenge.rw_homereads_k30_whole_papers_never_show_to
abbrev hk : PySem.W.Hook := He.hookD 4 fa fn
def ob (s : PySem.W.SharedT) : He.AlD := He.obsDG 4 fa fn (HandSHeadRun.getT s)
theorem ob_eq (s : PySem.W.SharedT) : ob s = hk.obs s.abs := He.obsDG_eq (HandSHeadRun.getT_eq s)
def names : List PySem.Str := (["UNKNOWN", "agree", "NEVER", "first_tables", "least_costs", "paper", "sized", "bounded", "pair_bounds", "extra_bounds", "gap_bounds", "cell_holds", "shown", "_law_cell", "_law_row", "_law_integer", "_law_text", "_law_turned", "_law_read", "_law_references", "_law_agree", "_law_least", "_law_priced", "_law_walks", "_law_costs", "_law_cell_bounds", "_law_judged", "_law_paper"] : List PySem.Str)
theorem run (w : World) : HandSHeadRun.RunEq R (PySem.W.view R.prog [32]) hk ob 4000 names w := by
  intro os
  kernel_rfl
theorem tx {w : World} {K : PySem.W.Frag} {h : Heap} {mg : Str → Option Value} (X : K.In h) (G : h.Ns mainGlobals mg) (c : He.SaysD fa fn K) : Tx w K mg where
  g_agree := He.glo_ok X G (c.fact 0 (f := .glo "agree") rfl)
  g_first_tables := He.glo_ok X G (c.fact 1 (f := .glo "first_tables") rfl)
  g_least_costs := He.glo_ok X G (c.fact 2 (f := .glo "least_costs") rfl)
  g_paper := He.glo_ok X G (c.fact 3 (f := .glo "paper") rfl)
  g_sized := He.glo_ok X G (c.fact 4 (f := .glo "sized") rfl)
  g_bounded := He.glo_ok X G (c.fact 5 (f := .glo "bounded") rfl)
  g_pair_bounds := He.glo_ok X G (c.fact 6 (f := .glo "pair_bounds") rfl)
  g_extra_bounds := He.glo_ok X G (c.fact 7 (f := .glo "extra_bounds") rfl)
  g_gap_bounds := He.glo_ok X G (c.fact 8 (f := .glo "gap_bounds") rfl)
  g_cell_holds := He.glo_ok X G (c.fact 9 (f := .glo "cell_holds") rfl)
  g_shown := He.glo_ok X G (c.fact 10 (f := .glo "shown") rfl)
  g_law_cell := He.glo_ok X G (c.fact 11 (f := .glo "_law_cell") rfl)
  g_law_row := He.glo_ok X G (c.fact 12 (f := .glo "_law_row") rfl)
  g_law_integer := He.glo_ok X G (c.fact 13 (f := .glo "_law_integer") rfl)
  g_law_text := He.glo_ok X G (c.fact 14 (f := .glo "_law_text") rfl)
  g_law_turned := He.glo_ok X G (c.fact 15 (f := .glo "_law_turned") rfl)
  g_law_read := He.glo_ok X G (c.fact 16 (f := .glo "_law_read") rfl)
  g_law_agree := He.glo_ok X G (c.fact 17 (f := .glo "_law_agree") rfl)
  g_law_least := He.glo_ok X G (c.fact 18 (f := .glo "_law_least") rfl)
  g_law_costs := He.glo_ok X G (c.fact 19 (f := .glo "_law_costs") rfl)
  g_law_cell_bounds := He.glo_ok X G (c.fact 20 (f := .glo "_law_cell_bounds") rfl)
  g_law_judged := He.glo_ok X G (c.fact 21 (f := .glo "_law_judged") rfl)
  g_law_paper := He.glo_ok X G (c.fact 22 (f := .glo "_law_paper") rfl)
  g_law := He.glo_ok X G (c.fact 23 (f := .glo "law") rfl)
  z_range := He.free_ok X G (c.fact 24 (f := .free "range") rfl)
  z_len := He.free_ok X G (c.fact 25 (f := .free "len") rfl)
  z_min := He.free_ok X G (c.fact 26 (f := .free "min") rfl)
  z_tuple := He.free_ok X G (c.fact 27 (f := .free "tuple") rfl)
  z_all := He.free_ok X G (c.fact 28 (f := .free "all") rfl)
  z_int := He.free_ok X G (c.fact 29 (f := .free "int") rfl)
  z_abs := He.free_ok X G (c.fact 30 (f := .free "abs") rfl)
  z_isinstance := He.free_ok X G (c.fact 31 (f := .free "isinstance") rfl)
  z_bool := He.free_ok X G (c.fact 32 (f := .free "bool") rfl)
  z_list := He.free_ok X G (c.fact 33 (f := .free "list") rfl)
  k_UNKNOWN := He.str_ok X G (c.fact 34 (f := .str "UNKNOWN" (S [78])) rfl)
  k_NEVER := He.int_ok X G (c.fact 35 (f := .int "NEVER" 1152921504606846976) rfl)
  d_agree := c.def_ 0 (d := dd_agree) rfl
  d_first_tables := c.def_ 1 (d := dd_first_tables) rfl
  d_least_costs := c.def_ 2 (d := dd_least_costs) rfl
  d_paper := c.def_ 3 (d := dd_paper) rfl
  d_sized := c.def_ 4 (d := dd_sized) rfl
  d_bounded := c.def_ 5 (d := dd_bounded) rfl
  d_pair_bounds := c.def_ 6 (d := dd_pair_bounds) rfl
  d_extra_bounds := c.def_ 7 (d := dd_extra_bounds) rfl
  d_gap_bounds := c.def_ 8 (d := dd_gap_bounds) rfl
  d_cell_holds := c.def_ 9 (d := dd_cell_holds) rfl
  d_shown := c.def_ 10 (d := dd_shown) rfl
  d_law_cell := c.def_ 11 (d := dd_law_cell) rfl
  d_law_row := c.def_ 12 (d := dd_law_row) rfl
  d_law_integer := c.def_ 13 (d := dd_law_integer) rfl
  d_law_text := c.def_ 14 (d := dd_law_text) rfl
  d_law_turned := c.def_ 15 (d := dd_law_turned) rfl
  d_law_read := c.def_ 16 (d := dd_law_read) rfl
  d_law_agree := c.def_ 17 (d := dd_law_agree) rfl
  d_law_least := c.def_ 18 (d := dd_law_least) rfl
  d_law_costs := c.def_ 19 (d := dd_law_costs) rfl
  d_law_cell_bounds := c.def_ 20 (d := dd_law_cell_bounds) rfl
  d_law_judged := c.def_ 21 (d := dd_law_judged) rfl
  d_law_paper := c.def_ 22 (d := dd_law_paper) rfl
  d_law := c.def_ 23 (d := dd_law) rfl
theorem facts {P : Program} {w : World} {K : PySem.W.Frag} {h : Heap} {mg : Str → Option Value} {f : Addr} (X : K.In h) (G : h.Ns mainGlobals mg) (hfa : mg ("law" : Str) = some (.ref f)) (c : He.SaysD fa fn K) :
    ∃ fd : FuncData, (∀ (s : Shared) (v : Value), BindsTo s fd ⟨[v], []⟩ [("_law_script", v)]) ∧ ∀ base : Heap, K.In base → base.Ns mainGlobals mg → FnOk P w K mg base CX0 5 f fd ["_law_script"] (sp_law K) := by
  have T := tx (w := w) X G c
  have e := hfa.symm.trans T.g_law
  cases e
  obtain ⟨fd, F⟩ := T.d_law
  have lF := lk_of F
  have b := FunD.bindsA (ps := ["_law_script"]) F fun _ _ _ _ _ _ us hl => match us, hl with | [_], _ => rfl
  refine ⟨fd, fun s v => b s [v] rfl, fun base _ _ => ?_⟩
  obtain ⟨fd2, G2, _, _, l2⟩ := ok_law (P := P) (w := w) (base := base) T
  rw [lk_same lF l2]
  exact G2
end Lw
open PySem PySem.W PySem.Calls PyProof.Rows
set_option maxHeartbeats 0 in
theorem PySem.Challenge.cw_homereads_k30_whole_papers_never_show_to_holds : PySem.Challenge.rw_homereads_k30_whole_papers_never_show_to.Holds := by
  w_on; o_law
  refine HandSHeadRun.head_any (r := OpenLaw.row PySem.Challenge.rw_homereads_k30_whole_papers_never_show_to) (q := view (OpenLaw.row PySem.Challenge.rw_homereads_k30_whole_papers_never_show_to).prog [32]) (H := Lw.hk) (ob := Lw.ob) (M := 4000) (loose := Lw.names) (d := HandSHeadRun.topDef (OpenLaw.row PySem.Challenge.rw_homereads_k30_whole_papers_never_show_to).prog 32) (kwd := []) Lw.ob_eq
    (by kernel_rfl) (fun s => by kernel_rfl) Lw.run (by kernel_rfl) (by kernel_rfl) (by kernel_rfl) (by rfl) (by first | assumption | decide +kernel) (by decide +kernel) ⟨rfl, rfl, rfl, rfl, rfl, by decide +kernel⟩ ?hw ?hc
  case hw => w_witness2
  case hc =>
    refine L2.walk_ofE (l := PySem.Challenge.rw_homereads_k30_whole_papers_never_show_to) (n := 63) (k := 5) (x := "_law_script") (CX := L2.CX0) rfl (by decide) (by kernel_rfl) ⟨rfl, by decide, by decide⟩ ?F (fun _ _ _ _ z => z)
    intro w mg fa h Y G hmg0
    obtain ⟨K, KX, c⟩ := Y
    have hmg : mg ("law" : PySem.Str) = some (.ref fa) := by
      have e : (HandSHeadRun.topDef (OpenLaw.row PySem.Challenge.rw_homereads_k30_whole_papers_never_show_to).prog 32).name = ("law" : PySem.Str) := by kernel_rfl
      rw [← e]
      exact hmg0
    obtain ⟨fd, hb, hF⟩ := Lw.facts (P := (PySem.Challenge.rw_homereads_k30_whole_papers_never_show_to).prog) (w := w) KX G hmg c
    exact ⟨K, fd, Lw.sp_law K, KX, hb, fun H a ns hl _ hS => Lw.law_start hS hl, hF⟩
