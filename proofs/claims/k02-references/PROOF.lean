import PyProof.Rows.All
import Wide.All
import OpenK.AllK
import Wide.FinOn
import KE.KStateDown
import Lean
import HandS.ForMost
import HandS.Defaults
import HandS.Head0
import HandS.Head1
import HandS.Head2
import HandS.HeadEnd
import HandS.HeadHook1
import HandS.HeadHook2
import HandS.HeadHook3
import HandS.HeadHook4
import HandS.More
import HandS.IsInst
import HandS.SortKw
import HandS.SortInts
import HandS.Evl
import HandS.Wide
import HandS.WideBits
import HandS.Replace
import HandS.RaiseMore
import PySem.Challenge.RW_homereads_k02_lines_of_references
set_option Elab.async false
set_option linter.all false
set_option maxRecDepth 100000
set_option maxHeartbeats 4000000
namespace Fw
open PySem PySem.Spec PyProof.Rows L2

/-! ### facts that stay while the heap grows -/
structure Ck where
  p : Hp → Prop
  mono : ∀ {F F' : Hp}, Same F F' → p F → p F'
def AllC : List Ck → Hp → Prop
  | [], _ => True
  | c :: r, F => c.p F ∧ AllC r F
theorem AllC.mono : ∀ {Cs : List Ck} {F F' : Hp}, Same F F' → AllC Cs F → AllC Cs F'
  | [], _, _, _, _ => trivial
  | c :: r, _, _, s, h => ⟨c.mono s h.1, AllC.mono s h.2⟩
theorem AllC.get : ∀ {Cs : List Ck} {F : Hp} {i : Nat} {c : Ck}, AllC Cs F → Cs[i]? = some c → c.p F
  | [], _, _, _, _, e => by simp at e
  | c :: r, _, 0, _, h, e => by
    have e1 : c = _ := Option.some.inj e
    rw [← e1]
    exact h.1
  | c :: r, _, i + 1, d, h, e => AllC.get (Cs := r) (i := i) (c := d) h.2 e
def cL (a : Addr) (xs : List V) : Ck := ⟨fun F => F a = some (.lst xs), fun s h => s _ _ h⟩
def cT (a : Addr) (xs : List V) : Ck := ⟨fun F => F a = some (.tup xs), fun s h => s _ _ h⟩
def cO (a : Addr) (o : HO) : Ck := ⟨fun F => F a = some o, fun s h => s _ _ h⟩
theorem Same.sqt {K : PySem.W.Frag} {H H' : Hp} {a : Addr} {xs : List V} (e : Same H H') (h : SqT K H a xs) : SqT K H' a xs := by
  rcases h with (h | ⟨o, h⟩) | h
  · exact .inl (.inl (e _ _ h))
  · exact .inl (.inr ⟨o, e _ _ h⟩)
  · exact .inr h
mutual
theorem Dp.mono {K : PySem.W.Frag} {H H' : Hp} (e : Same H H') : ∀ (d : PyData) (v : V), Dp K H v d → Dp K H' v d
  | .none, _, h => by cases h; exact .non
  | .bool b, _, h => by cases h; exact .bl b
  | .int i, _, h => by cases h; exact .int i
  | .str x, _, h => by cases h; exact .str x
  | .list ds, _, h => by
    cases h with
    | lst hs ha => exact .lst (e.seq hs) (DpAll.mono e ds _ ha)
  | .tuple ds, _, h => by
    cases h with
    | tup hs ha => exact .tup (Same.sqt e hs) (DpAll.mono e ds _ ha)
  | .dict _, _, h => by cases h
theorem DpAll.mono {K : PySem.W.Frag} {H H' : Hp} (e : Same H H') : ∀ (ds : List PyData) (vs : List V), DpAll K H vs ds → DpAll K H' vs ds
  | [], _, h => by cases h; exact .nil
  | d :: ds, _, h => by
    cases h with
    | cons h1 h2 => exact .cons (Dp.mono e d _ h1) (DpAll.mono e ds _ h2)
end
def cS (K : PySem.W.Frag) (a : Addr) (xs : List V) : Ck := ⟨fun F => SqL K F a xs, fun s h => s.seq h⟩
def cU (K : PySem.W.Frag) (a : Addr) (xs : List V) : Ck := ⟨fun F => SqT K F a xs, fun s h => Same.sqt s h⟩
def cD (K : PySem.W.Frag) (v : V) (d : PyData) : Ck := ⟨fun F => Dp K F v d, fun s h => Dp.mono s _ _ h⟩
def cDs (K : PySem.W.Frag) (vs : List V) (ds : List PyData) : Ck := ⟨fun F => DpAll K F vs ds, fun s h => DpAll.mono s _ _ h⟩

/-! ### the heap's parts -/
/-- F0, H0: frozen part and heap at the entry; F: the frozen part now, H: the heap now; L: the def's own objects, each may still change -/
structure Own (F0 H0 F H : Hp) (L : List (Addr × HO)) (C : List Ck) : Prop where
  f0 : Same F0 F
  fh : Same F H
  hh : Same H0 H
  new : ∀ a o, F a = some o → F0 a = some o ∨ H0 a = none
  own : ∀ q ∈ L, F q.1 = none ∧ H0 q.1 = none ∧ H q.1 = some q.2
  nd : (L.map Prod.fst).Nodup
  cs : AllC C F
/-- what a call may do: F' F grown by new objects, all kept -/
structure Ext (F H F' H' : Hp) : Prop where
  ff : Same F F'
  fh : Same F' H'
  hh : Same H H'
  new : ∀ a o, F' a = some o → F a = some o ∨ H a = none
structure OwnNew (H F' H' : Hp) (L : List (Addr × HO)) : Prop where
  at_ : ∀ q ∈ L, F' q.1 = none ∧ H q.1 = none ∧ H' q.1 = some q.2
  nd : (L.map Prod.fst).Nodup
section
variable {F0 H0 F H F' H' : Hp} {L L' : List (Addr × HO)} {C C' : List Ck} {p a : Addr} {o o' : HO} {K : PySem.W.Frag} {xs : List V} {i : Nat}
theorem Own.start (s : Same F H) (cs : AllC C F) : Own F H F H [] C := ⟨Same.refl _, s, Same.refl _, fun _ _ h => .inl h, fun _ h => (nomatch h), List.nodup_nil, cs⟩
theorem Own.ck (O : Own F0 H0 F H L C) (i : Nat) {c : Ck} (h : C[i]? = some c := by rfl) : c.p F := O.cs.get h
theorem Own.push (O : Own F0 H0 F H L C) (c : Ck) (h : c.p F) : Own F0 H0 F H L (c :: C) := { O with cs := ⟨h, O.cs⟩ }
theorem Own.chunks (O : Own F0 H0 F H L C) (h : AllC C' F) : Own F0 H0 F H L C' := { O with cs := h }
theorem Own.at_ (O : Own F0 H0 F H L C) (i : Nat) {a : Addr} {o : HO} (h : L[i]? = some (a, o) := by rfl) : H a = some o := (O.own (a, o) (List.mem_of_getElem? h)).2.2
theorem Own.none0 (O : Own F0 H0 F H L C) (np : H p = none) : F p = none ∧ H0 p = none := ⟨O.fh.free np, O.hh.free np⟩
theorem Own.alloc (O : Own F0 H0 F H L C) (np : H p = none) (o : HO) : Own F0 H0 F (upd H p o) ((p, o) :: L) C := by
  have s : Same H (upd H p o) := fun b u e => by rw [upd_ne (ne_of_none e np)]; exact e
  refine ⟨O.f0, O.fh.trans s, O.hh.trans s, O.new, fun q hq => ?_, ?_, O.cs⟩
  · rcases List.mem_cons.mp hq with e | hq
    · subst e
      exact ⟨(O.none0 np).1, (O.none0 np).2, upd_same⟩
    · obtain ⟨h1, h2, h3⟩ := O.own q hq
      exact ⟨h1, h2, s _ _ h3⟩
  · rw [List.map_cons]
    refine List.nodup_cons.mpr ⟨fun hm => ?_, O.nd⟩
    obtain ⟨q, hq, e⟩ := List.mem_map.mp hm
    have h3 := (O.own q hq).2.2
    rw [e, np] at h3
    cases h3
/-- a new object that is frozen at once -/
theorem Own.ice (O : Own F0 H0 F H L C) (np : H p = none) (o : HO) : Own F0 H0 (upd F p o) (upd H p o) L (cO p o :: C) := by
  have s : Same H (upd H p o) := fun b u e => by rw [upd_ne (ne_of_none e np)]; exact e
  have sF : Same F (upd F p o) := fun b u e => by rw [upd_ne (ne_of_none e (O.none0 np).1)]; exact e
  refine ⟨O.f0.trans sF, fun b u e => ?_, O.hh.trans s, fun b u e => ?_, fun q hq => ?_, O.nd, ⟨upd_same, O.cs.mono sF⟩⟩
  · by_cases hb : b = p
    · subst hb
      rw [upd_same] at e ⊢
      exact e
    · rw [upd_ne hb] at e ⊢
      exact O.fh b u e
  · by_cases hb : b = p
    · subst hb
      exact .inr (O.none0 np).2
    · rw [upd_ne hb] at e
      exact O.new b u e
  · obtain ⟨h1, h2, h3⟩ := O.own q hq
    refine ⟨?_, h2, s _ _ h3⟩
    rw [upd_ne (ne_of_none h3 np)]
    exact h1
theorem nodup_map_get {L : List (Addr × HO)} (nd : (L.map Prod.fst).Nodup) {i j : Nat} {q r : Addr × HO} (h1 : L[i]? = some q) (h2 : L[j]? = some r) (e : q.1 = r.1) : i = j := by
  have a1 : (L.map Prod.fst)[i]? = some q.1 := by rw [List.getElem?_map, h1]; rfl
  have a2 : (L.map Prod.fst)[j]? = some q.1 := by rw [List.getElem?_map, h2, e]; rfl
  obtain ⟨l1, e1⟩ := List.getElem?_eq_some_iff.mp a1
  obtain ⟨l2, e2⟩ := List.getElem?_eq_some_iff.mp a2
  exact (List.getElem_inj nd).mp (e1.trans e2.symm)
theorem Own.set (O : Own F0 H0 F H L C) (i : Nat) {a : Addr} {o : HO} (hi : L[i]? = some (a, o)) (o' : HO) : Own F0 H0 F (upd H a o') (L.set i (a, o')) C := by
  obtain ⟨hF, hH0, hH⟩ := O.own (a, o) (List.mem_of_getElem? hi)
  have keep : ∀ b u, b ≠ a → H b = some u → upd H a o' b = some u := fun b u n e => by rw [upd_ne n]; exact e
  refine ⟨O.f0, fun b u e => keep b u (ne_of_none e hF) (O.fh b u e), fun b u e => keep b u (ne_of_none e hH0) (O.hh b u e), O.new, fun q hq => ?_, ?_, O.cs⟩
  · obtain ⟨j, hj⟩ := List.mem_iff_getElem?.mp hq
    by_cases e : i = j
    · subst e
      have hlt : i < L.length := (List.getElem?_eq_some_iff.mp hi).1
      rw [List.getElem?_set_self hlt] at hj
      cases hj
      exact ⟨hF, hH0, upd_same⟩
    · rw [List.getElem?_set_ne e] at hj
      obtain ⟨h1, h2, h3⟩ := O.own q (List.mem_of_getElem? hj)
      exact ⟨h1, h2, keep _ _ (fun z => e (nodup_map_get O.nd hi hj z.symm)) h3⟩
  · have e : (L.set i (a, o')).map Prod.fst = L.map Prod.fst := by
      rw [List.map_set]
      refine List.ext_getElem? fun j => ?_
      by_cases h : i = j
      · subst h
        have hlt : i < (L.map Prod.fst).length := by rw [List.length_map]; exact (List.getElem?_eq_some_iff.mp hi).1
        rw [List.getElem?_set_self hlt, List.getElem?_map, hi]
        rfl
      · rw [List.getElem?_set_ne h]
    rw [e]
    exact O.nd
theorem Own.sub (O : Own F0 H0 F H L C) (h : L'.Sublist L) : Own F0 H0 F H L' C := ⟨O.f0, O.fh, O.hh, O.new, fun q hq => O.own q (h.subset hq), O.nd.sublist (h.map _), O.cs⟩
/-- the last made own object is frozen -/
theorem Own.freeze (O : Own F0 H0 F H ((p, o) :: L) C) : Own F0 H0 (upd F p o) H L (cO p o :: C) := by
  obtain ⟨hF, hH0, hH⟩ := O.own (p, o) List.mem_cons_self
  have sF : Same F (upd F p o) := fun b u e => by rw [upd_ne (ne_of_none e hF)]; exact e
  have nd := O.nd
  rw [List.map_cons] at nd
  obtain ⟨n1, n2⟩ := List.nodup_cons.mp nd
  refine ⟨O.f0.trans sF, fun b u e => ?_, O.hh, fun b u e => ?_, fun q hq => ?_, n2, ⟨upd_same, O.cs.mono sF⟩⟩
  · by_cases hb : b = p
    · subst hb
      rw [upd_same] at e
      cases e
      exact hH
    · rw [upd_ne hb] at e
      exact O.fh b u e
  · by_cases hb : b = p
    · subst hb
      exact .inr hH0
    · rw [upd_ne hb] at e
      exact O.new b u e
  · obtain ⟨h1, h2, h3⟩ := O.own q (List.mem_cons_of_mem _ hq)
    refine ⟨?_, h2, h3⟩
    rw [upd_ne (fun z => n1 (by
      have m := List.mem_map_of_mem (f := Prod.fst) hq
      rw [z] at m
      exact m))]
    exact h1
theorem Own.grow (O : Own F0 H0 F H L C) (e : Ext F H F' H') (n : OwnNew H F' H' L') : Own F0 H0 F' H' (L' ++ L) C := by
  refine ⟨O.f0.trans e.ff, e.fh, O.hh.trans e.hh, fun b u h => ?_, fun q hq => ?_, ?_, O.cs.mono e.ff⟩
  · rcases e.new b u h with h | h
    · exact O.new b u h
    · exact .inr (O.hh.free h)
  · rcases List.mem_append.mp hq with hq | hq
    · obtain ⟨h1, h2, h3⟩ := n.at_ q hq
      exact ⟨h1, O.hh.free h2, h3⟩
    · obtain ⟨h1, h2, h3⟩ := O.own q hq
      refine ⟨?_, h2, e.hh _ _ h3⟩
      cases z : F' q.1 with
      | none => rfl
      | some u =>
        rcases e.new _ _ z with h | h
        · rw [h1] at h; cases h
        · rw [h3] at h; cases h
  · rw [List.map_append]
    refine List.nodup_append.mpr ⟨n.nd, O.nd, fun x hx y hy e2 => ?_⟩
    obtain ⟨q, hq, rfl⟩ := List.mem_map.mp hx
    obtain ⟨r, hr, rfl⟩ := List.mem_map.mp hy
    have h3 := (O.own r hr).2.2
    rw [← e2, (n.at_ q hq).2.1] at h3
    cases h3
/-- the heap alone grew -/
theorem Own.more (O : Own F0 H0 F H L C) (e : Same H H') : Own F0 H0 F H' L C := by
  have g := O.grow (F' := F) (H' := H') (L' := []) ⟨Same.refl _, O.fh.trans e, e, fun _ _ h => .inl h⟩ ⟨fun _ h => (nomatch h), List.nodup_nil⟩
  exact g
theorem Own.ext (O : Own F H F' H' L C) : Ext F H F' H' := ⟨O.f0, O.fh, O.hh, O.new⟩
theorem Own.news (O : Own F H F' H' L C) : OwnNew H F' H' L := ⟨fun q hq => let ⟨h1, h2, h3⟩ := O.own q hq; ⟨h1, h2, h3⟩, O.nd⟩
/-! what stands where -/
theorem Own.lst (O : Own F0 H0 F H L C) (i : Nat) {a : Addr} {xs : List V} (h : L[i]? = some (a, .lst xs) := by rfl) : SqL K H a xs := .inl (.inl (O.at_ i h))
theorem Own.tL (O : Own F0 H0 F H L C) (i : Nat) {a : Addr} {xs : List V} (h : C[i]? = some (cL a xs) := by rfl) : H a = some (.lst xs) := O.fh _ _ (O.cs.get h)
theorem Own.tT (O : Own F0 H0 F H L C) (i : Nat) {a : Addr} {xs : List V} (h : C[i]? = some (cT a xs) := by rfl) : H a = some (.tup xs) := O.fh _ _ (O.cs.get h)
theorem Own.tO (O : Own F0 H0 F H L C) (i : Nat) {a : Addr} {o : HO} (h : C[i]? = some (cO a o) := by rfl) : H a = some o := O.fh _ _ (O.cs.get h)
theorem Own.tS (O : Own F0 H0 F H L C) (i : Nat) {a : Addr} {xs : List V} (h : C[i]? = some (cS K a xs) := by rfl) : SqL K H a xs := O.fh.seq (O.cs.get h)
theorem Own.tU (O : Own F0 H0 F H L C) (i : Nat) {a : Addr} {xs : List V} (h : C[i]? = some (cU K a xs) := by rfl) : SqT K H a xs := Same.sqt O.fh (O.cs.get h)
theorem Own.tD (O : Own F0 H0 F H L C) (i : Nat) {v : V} {d : PyData} (h : C[i]? = some (cD K v d) := by rfl) : Dp K H v d := Dp.mono O.fh _ _ (O.cs.get h)
end

/-! ### promises -/
/-- a def whose result is told by R: the value, its new own objects, the frozen part behind it -/
def Spec (A : Hp → Prop) (R : V → List (Addr × HO) → Hp → Prop) (H : Hp) (Q : VK) : Prop :=
  ∃ F, Same F H ∧ A F ∧ ∀ F' H' v L, Ext F H F' H' → OwnNew H F' H' L → R v L F' → Q v H'
section
variable {F0 H0 F H F' H' : Hp} {L L' : List (Addr × HO)} {C C' : List Ck} {A : Hp → Prop} {R : V → List (Addr × HO) → Hp → Prop} {Q : VK}
theorem Own.call (O : Own F0 H0 F H L C) (hA : A F) (k : ∀ v L' F' H', R v L' F' → Own F0 H0 F' H' (L' ++ L) C → Q v H') : Spec A R H Q :=
  ⟨F, O.fh, hA, fun _ _ _ _ e n r => k _ _ _ _ r (O.grow e n)⟩
theorem Own.ret (O : Own F H F' H' L C) {v : V} (q : ∀ F' H' v L, Ext F H F' H' → OwnNew H F' H' L → R v L F' → Q v H') (r : R v L F') : Q v H' := q _ _ _ _ O.ext O.news r
end
/-- a fresh list of flat things -/
def RL (P : List V → Prop) : V → List (Addr × HO) → Hp → Prop := fun v L _ => ∃ p xs, v = .ref p ∧ L = [(p, .lst xs)] ∧ P xs
/-- a plain value -/
def RV (P : V → Prop) : V → List (Addr × HO) → Hp → Prop := fun v L _ => L = [] ∧ P v
/-- frozen data -/
def RD (K : PySem.W.Frag) (P : PyData → Prop) : V → List (Addr × HO) → Hp → Prop := fun v L F => ∃ d, L = [] ∧ Dp K F v d ∧ P d

def Lk (K : PySem.W.Frag) (f : Addr) (fd : FuncData) : Prop := ∃ oc od osl, K.lookup f = some ⟨oc, od, .func fd, osl⟩
/-- a def that keeps its promise, with what a caller needs -/
def Dn (P : Program) (w : World) (K : PySem.W.Frag) (mg : Str → Option Value) (base : Heap) (k : Nat) (f : Addr) (ps : List Str) (sp : Sp) : Prop :=
  ∃ fd, FnOk P w K mg base CX0 k f fd ps sp ∧ Binds K fd ps [] ∧ PySem.W.keepIn K (.ref f) = true ∧ Lk K f fd
abbrev FnP (K : PySem.W.Frag) (x q : Str) (st : Stmt) (f : Addr) (fd : FuncData) : Prop := FunD K x q (defArgs st) (defBody st) (defScope st) [] [] f fd

/-! ### steps -/
section
variable {nx bk ct : L2.St → Hp → Prop} {rt : VK} {t u : TS} {σ : L2.St} {H : Hp} {te ta tb : TE} {tt tt' : TT} {Q : VK} {i : Nat} {v x y : V} {g : TG}
theorem w_seq (h : t ⟨u ⟨nx, rt, bk, ct⟩, rt, bk, ct⟩ σ H) : tSeq t u ⟨nx, rt, bk, ct⟩ σ H := h
theorem w_next (h : nx σ H) : tNext ⟨nx, rt, bk, ct⟩ σ H := h
theorem w_brk (h : bk σ H) : tBreak ⟨nx, rt, bk, ct⟩ σ H := h
theorem w_cont (h : ct σ H) : tCont ⟨nx, rt, bk, ct⟩ σ H := h
theorem w_asg (h : te σ H fun x H1 => nx (σ.set i (some x)) H1) : tAsg te (gName i) ⟨nx, rt, bk, ct⟩ σ H := h
theorem w_asgG (h : te σ H fun x H1 => g x σ H1 nx) : tAsg te g ⟨nx, rt, bk, ct⟩ σ H := h
theorem w_aug {f : Int → Int → Int} {a : Int} (hx : σ[i]? = some (some (.int a))) (h : te σ H fun y H1 => ∃ b, y = .int b ∧ nx (σ.set i (some (.int (f a b)))) H1) : tAug i te (ipI f) ⟨nx, rt, bk, ct⟩ σ H := by
  refine ⟨_, hx, ?_⟩
  have e : (fun y H1 => ∃ b, y = V.int b ∧ nx (σ.set i (some (.int (f a b)))) H1) = (fun y H1 => ipI f (.int a) y H1 fun z H2 => nx (σ.set i (some z)) H2) := by
    funext y H1
    apply propext
    constructor
    · rintro ⟨b, rfl, q⟩
      exact ⟨a, b, rfl, rfl, q⟩
    · rintro ⟨a', b, e1, rfl, q⟩
      cases e1
      exact ⟨b, rfl, q⟩
  rw [e] at h
  exact h
theorem w_ret (h : te σ H rt) : tRet te ⟨nx, rt, bk, ct⟩ σ H := h
theorem w_retN (h : rt .non H) : tRetN ⟨nx, rt, bk, ct⟩ σ H := h
theorem w_drop (h : te σ H fun _ H1 => nx σ H1) : tDrop te ⟨nx, rt, bk, ct⟩ σ H := h
theorem w_if (h : tt σ H fun b H1 => if b = true then t ⟨nx, rt, bk, ct⟩ σ H1 else u ⟨nx, rt, bk, ct⟩ σ H1) : tIfS tt t u ⟨nx, rt, bk, ct⟩ σ H := h
theorem w_var (h : σ[i]? = some (some v)) (q : Q v H) : tVar i σ H Q := ⟨v, h, q⟩
theorem w_c (q : Q v H) : tC v σ H Q := q
theorem w_op {r : R2} (h : ta σ H fun x H1 => tb σ H1 fun y H2 => r x y H2 Q) : tOp r ta tb σ H Q := h
theorem w_un {r : V → Hp → VK → Prop} (h : ta σ H fun x H1 => r x H1 Q) : tUn r ta σ H Q := h
theorem w_cb {r : List V → Hp → VK → Prop} {tA : TA} (h : tA σ H fun vs H1 => r vs H1 Q) : tCB r tA σ H Q := h
theorem w_nil {Q : List V → Hp → Prop} (h : Q [] H) : tNil σ H Q := h
theorem w_cons {tA : TA} {Q : List V → Hp → Prop} (h : ta σ H fun x H1 => tA σ H1 fun xs H2 => Q (x :: xs) H2) : tCons ta tA σ H Q := h
theorem w_call {sp : Sp} {dvs : List V} {E : XK} {tA : TA} (h : tA σ H fun vs H1 => sp (vs ++ dvs) H1 Q E) : tCall sp dvs E tA σ H Q := h
theorem w_test {Q : Bool → Hp → Prop} (h : te σ H fun x H1 => ∃ k, x = .bl k ∧ Q k H1) : tTest te σ H Q := h
theorem w_tB {Q : Bool → Hp → Prop} (h : te σ H fun x H1 => ∃ k, x = .bl k ∧ Q k H1) : tB te σ H Q := h
theorem w_bl {Q : Bool → Prop} {b : Bool} (h : Q b) : ∃ k, V.bl b = .bl k ∧ Q k := ⟨b, rfl, h⟩
theorem w_intP {Q : Int → Prop} {b : Int} (h : Q b) : ∃ k, V.int b = .int k ∧ Q k := ⟨b, rfl, h⟩
theorem w_and {Q : Bool → Hp → Prop} (h : tt σ H fun c H1 => if c = true then tt' σ H1 Q else Q false H1) : tAnd tt tt' σ H Q := h
theorem w_or {Q : Bool → Hp → Prop} (h : tt σ H fun c H1 => if c = true then Q true H1 else tt' σ H1 Q) : tOr tt tt' σ H Q := h
theorem w_not {Q : Bool → Hp → Prop} (h : tt σ H fun c H1 => Q (!c) H1) : tNot tt σ H Q := h
theorem w_andV (h : ta σ H fun x H1 => ∃ c, x = .bl c ∧ if c = true then tb σ H1 Q else Q (.bl false) H1) : tAndV ta tb σ H Q := h
theorem w_orV (h : ta σ H fun x H1 => ∃ c, x = .bl c ∧ if c = true then Q (.bl true) H1 else tb σ H1 Q) : tOrV ta tb σ H Q := h
theorem w_notV (h : ta σ H fun x H1 => ∃ c, x = .bl c ∧ Q (.bl (!c)) H1) : tNotV ta σ H Q := h
theorem w_ifE (h : tt σ H fun c H1 => if c = true then ta σ H1 Q else tb σ H1 Q) : tIf tt ta tb σ H Q := h
theorem w_iteD {c : Prop} [Decidable c] {A B : Prop} (h1 : c → A) (h2 : ¬ c → B) : if decide c = true then A else B := by
  by_cases h : c
  · rw [if_pos (decide_eq_true h)]; exact h1 h
  · rw [if_neg (by rw [decide_eq_false h]; decide)]; exact h2 h
theorem w_iteN {c : Prop} [Decidable c] {A B : Prop} (h1 : ¬ c → A) (h2 : c → B) : if (!decide c) = true then A else B := by
  by_cases h : c
  · rw [if_neg (by rw [decide_eq_true h]; decide)]; exact h2 h
  · rw [if_pos (by rw [decide_eq_false h]; rfl)]; exact h1 h
theorem w_iteB {b : Bool} {A B : Prop} (h1 : b = true → A) (h2 : b = false → B) : if b = true then A else B := by
  cases b with
  | true => rw [if_pos rfl]; exact h1 rfl
  | false => rw [if_neg Bool.false_ne_true]; exact h2 rfl
theorem w_I0 {g : Int → Int → V} {i j : Int} (q : Q (g i j) H) : rI0 g (.int i) (.int j) H Q := ⟨i, j, rfl, rfl, q⟩
theorem w_I {P : Int → Int → Prop} {g : Int → Int → V} {i j : Int} (q : Q (g i j) H) (hc : P i j) : rI P g (.int i) (.int j) H Q := ⟨i, j, rfl, rfl, hc, q⟩
theorem w_U {g : Int → V} {i : Int} (q : Q (g i) H) : rU g (.int i) H Q := ⟨i, rfl, q⟩
theorem w_eqI {i j : Int} (q : Q (.bl (decide (i = j))) H) : rEq (.int i) (.int j) H Q := ⟨rfl, by
  rw [show decide (V.int i = V.int j) = decide (i = j) from decide_eq_decide.mpr ⟨fun h => V.int.inj h, fun h => by rw [h]⟩]
  exact q⟩
theorem w_neI {i j : Int} (q : Q (.bl (!decide (i = j))) H) : rNe (.int i) (.int j) H Q := ⟨rfl, by
  rw [show decide (V.int i = V.int j) = decide (i = j) from decide_eq_decide.mpr ⟨fun h => V.int.inj h, fun h => by rw [h]⟩]
  exact q⟩
theorem w_eqS {i j : Str} (q : Q (.bl (decide (i = j))) H) : rEq (.str i) (.str j) H Q := ⟨rfl, by
  rw [show decide (V.str i = V.str j) = decide (i = j) from decide_eq_decide.mpr ⟨fun h => V.str.inj h, fun h => by rw [h]⟩]
  exact q⟩
theorem w_neS {i j : Str} (q : Q (.bl (!decide (i = j))) H) : rNe (.str i) (.str j) H Q := ⟨rfl, by
  rw [show decide (V.str i = V.str j) = decide (i = j) from decide_eq_decide.mpr ⟨fun h => V.str.inj h, fun h => by rw [h]⟩]
  exact q⟩
theorem w_eqB {i j : Bool} (q : Q (.bl (decide (i = j))) H) : rEq (.bl i) (.bl j) H Q := ⟨rfl, by
  rw [show decide (V.bl i = V.bl j) = decide (i = j) from decide_eq_decide.mpr ⟨fun h => V.bl.inj h, fun h => by rw [h]⟩]
  exact q⟩
theorem w_neB {i j : Bool} (q : Q (.bl (!decide (i = j))) H) : rNe (.bl i) (.bl j) H Q := ⟨rfl, by
  rw [show decide (V.bl i = V.bl j) = decide (i = j) from decide_eq_decide.mpr ⟨fun h => V.bl.inj h, fun h => by rw [h]⟩]
  exact q⟩
end
end Fw

namespace Fw
open PySem PySem.Spec PyProof.Rows L2

/-! ### texts by their signs -/
def S (l : List Nat) : Str := ⟨l.toArray⟩
theorem S_inj {l m : List Nat} : S l = S m ↔ l = m := ⟨fun h => by
  have e := congrArg (fun z : Str => z.cps.toList) h
  simpa [S] using e, fun h => by rw [h]⟩
theorem S_len (l : List Nat) : (S l).length = l.length := by simp [S, Str.length]
theorem S_app (l m : List Nat) : S l ++ S m = S (l ++ m) := by
  show Str.append (S l) (S m) = S (l ++ m)
  unfold Str.append S
  simp
theorem S_of (z : Str) : z = S z.cps.toList := by
  obtain ⟨a⟩ := z
  simp [S]
theorem S_list (l : List Nat) : (S l).cps.toList = l := by simp [S]
/-- l[lo:hi] -/
def cutN (l : List Nat) (lo hi : Option Int) : List Nat := (l.drop (HT.sIx l.length 0 lo)).take (HT.sIx l.length l.length hi - HT.sIx l.length 0 lo)
theorem S_cut (l : List Nat) (lo hi : Option Int) : cutS (S l) lo hi = S (cutN l lo hi) := by
  unfold cutS cutN
  rw [S_len, S_list]
  rfl
abbrev vS (l : List Nat) : V := .str (S l)

/-! ### rules with named readings -/
section
variable {X : Cx}
theorem pe_strL {x : Str} {l : List Nat} {j : Nat} {pos : Pos} (h : x = S l) : PE X (.Constant (.str x) j pos) (tC (vS l)) := by
  rw [h]
  exact pe_str
theorem pe_globS {x : Str} {l : List Nat} {pos : Pos} (hg : Gl X x) (hm : ∃ t, X.mg x = some (.str (S l) t)) (hd : (x == ("__debug__" : Str)) = false := by decide) : PE X (.Name x pos) (tC (vS l)) := by
  obtain ⟨t, hm⟩ := hm
  exact pe_glob hg hm ⟨_, rfl⟩ hd
theorem pe_globI {x : Str} {i : Int} {pos : Pos} (hg : Gl X x) (hm : ∃ t, X.mg x = some (.int i t)) (hd : (x == ("__debug__" : Str)) = false := by decide) : PE X (.Name x pos) (tC (.int i)) := by
  obtain ⟨t, hm⟩ := hm
  exact pe_glob hg hm ⟨_, rfl⟩ hd
theorem pe_globR {x : Str} {a : Addr} {pos : Pos} (hg : Gl X x) (hm : X.mg x = some (.ref a)) (hd : (x == ("__debug__" : Str)) = false := by decide) : PE X (.Name x pos) (tC (.ref a)) := pe_glob hg hm rfl hd
def rAbs : List V → Hp → VK → Prop := fun xs H Q => ∃ i : Int, xs = [.int i] ∧ Q (.int (i.natAbs : Nat)) H
theorem k_abs : CallR X (.builtin "abs") rAbs := by
  intro pins s σ H vs us Q I r h
  obtain ⟨i, e, q⟩ := h
  refine call_abs pins s σ H vs us Q I r ⟨i, e, ?_⟩
  have e2 : (if i < 0 then -i else i) = ((i.natAbs : Nat) : Int) := by split <;> omega
  rw [e2]
  exact q
def rInt : List V → Hp → VK → Prop := fun xs H Q => ∃ i : Int, xs = [.int i] ∧ Q (.int i) H
theorem k_int : CallR X (.type "int") rInt := fun pins s σ H vs us Q I r ⟨i, e, q⟩ => call_int1 pins s σ H vs us Q I r (.inl ⟨i, e, q⟩)
def rIntB : List V → Hp → VK → Prop := fun xs H Q => ∃ b : Bool, xs = [.bl b] ∧ Q (.int (if b then 1 else 0)) H
theorem k_intB : CallR X (.type "int") rIntB := fun pins s σ H vs us Q I r ⟨i, e, q⟩ => call_int1 pins s σ H vs us Q I r (.inr ⟨i, e, q⟩)
def rLenS : List V → Hp → VK → Prop := fun xs H Q => ∃ l, xs = [vS l] ∧ l.length ≤ sizeLine ∧ Q (.int (l.length : Nat)) H
theorem k_lenS : CallR X (.builtin "len") rLenS := fun pins s σ H vs us Q I r ⟨l, e, hz, q⟩ => call_len_str pins s σ H vs us Q I r ⟨S l, e, by rw [S_len]; exact hz, by rw [S_len]; exact q⟩
def rAddS : R2 := fun x y H Q => ∃ l m, x = vS l ∧ y = vS m ∧ l.length + m.length ≤ sizeLine ∧ Q (vS (l ++ m)) H
theorem k_addS : OpR X (binaryOp .Add) rAddS := fun pins s σ H x y u v Q I rx ry ⟨l, m, e1, e2, hz, q⟩ => op_add_str pins s σ H x y u v Q I rx ry ⟨S l, S m, e1, e2, by rw [S_len, S_len]; exact hz, by rw [S_app]; exact q⟩
def rIxSg : R2 := fun x y H Q => ∃ l i c, x = vS l ∧ y = .int i ∧ l.length ≤ sizeLine ∧ atI l i = some c ∧ Q (vS [c]) H
theorem k_ixS : IxR X rIxSg := by
  intro value slice pins s σ H x y u v Q I rx ry h
  obtain ⟨l, i, c, e1, e2, hz, ha, q⟩ := h
  exact ix_str value slice pins s σ H x y u v Q I rx ry ⟨S l, i, c, e1, e2, by rw [S_len]; exact hz, by rw [S_list]; exact ha, q⟩
def rSlSg : V → Option Int → Option Int → Hp → VK → Prop := fun x lo hi H Q => ∃ l, x = vS l ∧ l.length ≤ sizeLine ∧ Q (vS (cutN l lo hi)) H
theorem SlR.weak {r r' : V → Option Int → Option Int → Hp → VK → Prop} (h : SlR X r) (w : ∀ x lo hi H Q, r' x lo hi H Q → r x lo hi H Q) : SlR X r' := by
  unfold SlR at *
  intros
  rename_i a b
  first
    | exact h _ _ _ _ _ _ _ _ _ _ _ _ (by assumption) (by assumption) (by assumption) (by assumption) (by assumption) (w _ _ _ _ _ (by assumption))
theorem k_slS : SlR X rSlSg := SlR.weak sl_str fun x lo hi H Q ⟨l, e, hz, q⟩ => ⟨S l, e, by rw [S_len]; exact hz, by rw [S_cut]; exact q⟩
def rIsi (K : PySem.W.Frag) : List V → Hp → VK → Prop := L2.rIsi K
theorem k_isi : CallR X (.builtin "isinstance") (rIsi X.K) := call_isi
def rLenQ (K : PySem.W.Frag) : List V → Hp → VK → Prop := fun vs H Q => ∃ a xs, vs = [.ref a] ∧ (SqL K H a xs ∨ SqT K H a xs) ∧ Q (.int (xs.length : Nat)) H
theorem k_lenQ : CallR X (.builtin "len") (rLenQ X.K) := fun pins s σ H vs us Q I r ⟨a, xs, e, h, q⟩ => call_len_seq pins s σ H vs us Q I r ⟨a, xs, e, h, q⟩
/-! the written part by its own letter -/
theorem ixL_ {K : PySem.W.Frag} (e : X.K = K := by rfl) : IxR X (rIxL K) := e ▸ ix_list
theorem ixT_ {K : PySem.W.Frag} (e : X.K = K := by rfl) : IxR X (rIxT K) := e ▸ ix_tup
theorem lenQ_ {K : PySem.W.Frag} (e : X.K = K := by rfl) : CallR X (.builtin "len") (rLenQ K) := e ▸ k_lenQ
theorem isi_ {K : PySem.W.Frag} (e : X.K = K := by rfl) : CallR X (.builtin "isinstance") (rIsi K) := e ▸ k_isi
theorem eqD_ {K : PySem.W.Frag} (hu : X.A.units + 64 < cLine) (e : X.K = K := by rfl) : OpR X (compareOp .Eq) (rEqD K) := e ▸ op_eqD hu
theorem neD_ {K : PySem.W.Frag} (hu : X.A.units + 64 < cLine) (e : X.K = K := by rfl) : OpR X (compareOp .NotEq) (rNeD K) := e ▸ op_neD hu
theorem inQ_ {K : PySem.W.Frag} (e : X.K = K := by rfl) : OpR X (compareOp .In) (rIn K false) := e ▸ op_in_seq
theorem notInQ_ {K : PySem.W.Frag} (e : X.K = K := by rfl) : OpR X (compareOp .NotIn) (rIn K true) := e ▸ op_notIn_seq
theorem max_ {K : PySem.W.Frag} (hc : X.calm = true) (e : X.K = K := by rfl) : CallR X (.builtin "max") (rMax K) := e ▸ cr_max hc
theorem min_ {K : PySem.W.Frag} (hc : X.calm = true) (e : X.K = K := by rfl) : CallR X (.builtin "min") (rMin K) := e ▸ cr_min hc
theorem sum_ {K : PySem.W.Frag} (hc : X.calm = true) (e : X.K = K := by rfl) : CallR X (.builtin "sum") (rSum K) := e ▸ cr_sum hc
theorem all_ {K : PySem.W.Frag} (hc : X.calm = true) (e : X.K = K := by rfl) : CallR X (.builtin "all") (rAll K) := e ▸ cr_all hc
theorem any_ {K : PySem.W.Frag} (hc : X.calm = true) (e : X.K = K := by rfl) : CallR X (.builtin "any") (rAny K) := e ▸ cr_any hc
theorem slL_ {K : PySem.W.Frag} (e : X.K = K := by rfl) : SlR X (rSlL K) := e ▸ sl_list
theorem slT_ {K : PySem.W.Frag} (e : X.K = K := by rfl) : SlR X (rSlT K) := e ▸ sl_tup
theorem iL_ {K : PySem.W.Frag} {tg l : Expr} {tl : TE} (h : PE X l tl) (e : X.K = K := by rfl) : PI X tg l (iList K tl) := e ▸ pi_list h
theorem iT_ {K : PySem.W.Frag} {tg l : Expr} {tl : TE} (h : PE X l tl) (e : X.K = K := by rfl) : PI X tg l (iTup K tl) := e ▸ pi_tup h
section
variable {K : PySem.W.Frag} {T : String} {name : Str} {id : String} {o e : Expr} {es : List Expr} {apos cpos p pos tpos : Pos} {r : V → List V → Hp → VK → Prop} {to : TE} {t ta : TA} {tg : Expr}
theorem bm0_ (pa : PlainAttrs T) (slot : Slot T name id) (hty : typeOf (.builtin id) = pure (.type "method_descriptor")) (hm : MtR X id r) (ho : PE X o to) (eK : X.K = K := by rfl)
    (hbase : attributeBase o name X.env (eval o X.env) = eval o X.env := by rfl) (hline : (apos.endLine == cpos.line) = true := by rfl) : PE X (.Call (.Attribute o name apos) [] [] cpos) (tBM0 K T r to) := by
  subst eK
  exact pe_bm0 pa slot hty hm ho hbase hline
theorem bm_ (pa : PlainAttrs T) (slot : Slot T name id) (hty : typeOf (.builtin id) = pure (.type "method_descriptor")) (hm : MtR X id r) (ho : PE X o to) (ha : PA X (e :: es) t) (eK : X.K = K := by rfl)
    (hbase : attributeBase o name X.env (eval o X.env) = eval o X.env := by rfl)
    (hfew : ((backTo cpos (starEach (e :: es) X.env)).all (fun x => !x.1) && (backToKw cpos (keywordEach [] X.env)).all (fun x => x.1.isSome)
      && decide ((e :: es).length + ([] : List Keyword).length + (if ([] : List Keyword).isEmpty then 0 else 1) < 30)) = true := by rfl)
    (hline : (apos.endLine == cpos.line) = true := by rfl) (hs : starEach (e :: es) X.env = (false, eval e X.env) :: starEach es X.env := by rfl) (hplain : (backTo cpos (starEach es X.env)).any (·.1) = false := by rfl) :
    PE X (.Call (.Attribute o name apos) (e :: es) [] cpos) (tBM K T r to t) := by
  subst eK
  exact pe_bm pa slot hty hm ho ha hbase hfew hline hs hplain
theorem gt_ {es : List Expr} {k : Nat} {t : TGs} {n : Nat} (hc : X.calm = true) (h : PGs X es t) (eK : X.K = K := by rfl)
    (hn : (assignEach es X.env).length = n := by rfl) (hst : (assignEach es X.env).findIdx? (·.1) = none := by rfl) : PG X (.Tuple es k pos) (gTup K n t) := by
  subst eK
  exact pg_tup hc h hn hst
theorem rev_ (hg : Gl X "reversed") (hm : X.mg "reversed" = none) (ha : PA X [e] ta) (eK : X.K = K := by rfl) (hs : starEach [e] X.env = [(false, eval e X.env)] := by rfl) : PI X tg (.Call (.Name "reversed" p) [e] [] pos) (iRev K ta) := by
  subst eK
  exact pi_reversed hg hm ha hs
theorem enum_ {elts : List Expr} {kk : Nat} (hg : Gl X "enumerate") (hm : X.mg "enumerate" = none) (ha : PA X [e] ta) (eK : X.K = K := by rfl) (hs : starEach [e] X.env = [(false, eval e X.env)] := by rfl) : PI X (.Tuple elts kk tpos) (.Call (.Name "enumerate" p) [e] [] pos) (iEnum K ta) := by
  subst eK
  exact pi_enum hg hm ha hs
theorem sortRev_ {b : Bool} (eK : X.K = K := by rfl) : CallRK X (.builtin "sorted") [Str.ofString "reverse"] (rSortedKw K b [.bl b]) := eK ▸ cr_sortedRev
end
/-- text * n -/
def rMulS : R2 := fun x y H Q => ∃ l, ∃ k : Int, x = vS l ∧ y = .int k ∧ 0 ≤ k ∧ k < 2 ^ 30 ∧ l.length * k.toNat ≤ sizeLine ∧ Q (vS (List.replicate k.toNat l).flatten) H
theorem mul_flat (l : List Nat) : ∀ n acc, ((List.replicate n l.toArray).foldl (fun (a b : Array Nat) => a ++ b) acc) = acc ++ (List.replicate n l).flatten.toArray
  | 0, acc => by simp
  | n + 1, acc => by
    rw [List.replicate_succ, List.foldl_cons, mul_flat l n, List.replicate_succ, List.flatten_cons]
    simp
theorem txt_mul {l : List Nat} {k : Int} (hk : 0 ≤ k) : Txt.mul (S l) k = S (List.replicate k.toNat l).flatten := by
  unfold Txt.mul
  by_cases h1 : k < 1
  · have e : k = 0 := by omega
    subst e
    rw [if_pos h1]
    rfl
  · rw [if_neg h1]
    by_cases h2 : (k == 1 || (S l).length == 0) = true
    · rw [if_pos h2]
      rcases (Bool.or_eq_true _ _).mp h2 with e | e
      · have e1 : k = 1 := eq_of_beq e
        subst e1
        show S l = S (List.replicate 1 l).flatten
        simp
      · have e1 : (S l).length = 0 := eq_of_beq e
        rw [S_len] at e1
        have e2 : l = [] := List.eq_nil_of_length_eq_zero e1
        subst e2
        show S [] = _
        rw [S_inj]
        induction k.toNat with
        | zero => rfl
        | succ n ih => rw [List.replicate_succ, List.flatten_cons, ← ih]; rfl
    · rw [if_neg h2]
      show (⟨(List.replicate k.toNat l.toArray).foldl (fun (a b : Array Nat) => a ++ b) #[]⟩ : Str) = _
      rw [mul_flat]
      simp [S]
theorem k_mulS : OpR X (binaryOp .Mult) rMulS := by
  intro pins s σ H x y u v Q I rx ry h
  obtain ⟨l, k, rfl, rfl, h0, h1, hz, q⟩ := h
  obtain ⟨t, rfl⟩ := rx
  obtain ⟨t2, rfl⟩ := ry
  rw [sizeLine_eq] at hz
  refine SB.mul (x := S l) ⟨?_, fun a b => ?_, fun a b => ?_⟩ fun t' tk => ⟨vS (List.replicate k.toNat l).flatten, H, I.tok tk, ⟨t', by rw [txt_mul h0]⟩, q⟩
  · rw [decide_eq_false (by omega), decide_eq_false (by omega)] <;> rfl
  · rw [S_len]
    have h3 : (l.length : Int) * k ≤ 16777216 := by
      have e : ((l.length * k.toNat : Nat) : Int) = (l.length : Int) * k := by
        rw [Int.natCast_mul, Int.toNat_of_nonneg h0]
      omega
    have h4 : (l.length : Int) ≤ (2 ^ 63 - 1) / k := by
      refine Int.le_ediv_of_mul_le (by omega) ?_
      omega
    omega
  · rw [S_len]
    exact decide_eq_false (by rw [sizeLine_eq]; omega)
end
end Fw

namespace Fw
open PySem PySem.Spec PyProof.Rows L2
section
variable {nx bk ct : L2.St → Hp → Prop} {rt : VK} {t u tb : TS} {H : Hp} {te ta tb' : TE} {Q : VK} {v x y : V} {g : TG}

theorem w_var0 {σ : L2.St} (q : Q v H) : tVar 0 (some v :: σ) H Q := ⟨v, rfl, q⟩
theorem w_asg0 {o : Option V} {σ : L2.St} (h : te (o :: σ) H fun x H1 => nx (some x :: σ) H1) : tAsg te (gName 0) ⟨nx, rt, bk, ct⟩ (o :: σ) H := h
theorem w_gn0 {o : Option V} {σ : L2.St} {R : L2.St → Hp → Prop} (h : R (some v :: σ) H) : gName 0 v (o :: σ) H R := h
theorem w_aug0 {f : Int → Int → Int} {a : Int} {σ : L2.St} (h : te (some (.int a) :: σ) H fun y H1 => ∃ b, y = .int b ∧ nx (some (.int (f a b)) :: σ) H1) : tAug 0 te (ipI f) ⟨nx, rt, bk, ct⟩ (some (.int a) :: σ) H := w_aug (i := 0) rfl h
theorem w_var1 {x0 : Option V} {σ : L2.St} (q : Q v H) : tVar 1 (x0 :: some v :: σ) H Q := ⟨v, rfl, q⟩
theorem w_asg1 {x0 : Option V} {o : Option V} {σ : L2.St} (h : te (x0 :: o :: σ) H fun x H1 => nx (x0 :: some x :: σ) H1) : tAsg te (gName 1) ⟨nx, rt, bk, ct⟩ (x0 :: o :: σ) H := h
theorem w_gn1 {x0 : Option V} {o : Option V} {σ : L2.St} {R : L2.St → Hp → Prop} (h : R (x0 :: some v :: σ) H) : gName 1 v (x0 :: o :: σ) H R := h
theorem w_aug1 {x0 : Option V} {f : Int → Int → Int} {a : Int} {σ : L2.St} (h : te (x0 :: some (.int a) :: σ) H fun y H1 => ∃ b, y = .int b ∧ nx (x0 :: some (.int (f a b)) :: σ) H1) : tAug 1 te (ipI f) ⟨nx, rt, bk, ct⟩ (x0 :: some (.int a) :: σ) H := w_aug (i := 1) rfl h
theorem w_var2 {x0 x1 : Option V} {σ : L2.St} (q : Q v H) : tVar 2 (x0 :: x1 :: some v :: σ) H Q := ⟨v, rfl, q⟩
theorem w_asg2 {x0 x1 : Option V} {o : Option V} {σ : L2.St} (h : te (x0 :: x1 :: o :: σ) H fun x H1 => nx (x0 :: x1 :: some x :: σ) H1) : tAsg te (gName 2) ⟨nx, rt, bk, ct⟩ (x0 :: x1 :: o :: σ) H := h
theorem w_gn2 {x0 x1 : Option V} {o : Option V} {σ : L2.St} {R : L2.St → Hp → Prop} (h : R (x0 :: x1 :: some v :: σ) H) : gName 2 v (x0 :: x1 :: o :: σ) H R := h
theorem w_aug2 {x0 x1 : Option V} {f : Int → Int → Int} {a : Int} {σ : L2.St} (h : te (x0 :: x1 :: some (.int a) :: σ) H fun y H1 => ∃ b, y = .int b ∧ nx (x0 :: x1 :: some (.int (f a b)) :: σ) H1) : tAug 2 te (ipI f) ⟨nx, rt, bk, ct⟩ (x0 :: x1 :: some (.int a) :: σ) H := w_aug (i := 2) rfl h
theorem w_var3 {x0 x1 x2 : Option V} {σ : L2.St} (q : Q v H) : tVar 3 (x0 :: x1 :: x2 :: some v :: σ) H Q := ⟨v, rfl, q⟩
theorem w_asg3 {x0 x1 x2 : Option V} {o : Option V} {σ : L2.St} (h : te (x0 :: x1 :: x2 :: o :: σ) H fun x H1 => nx (x0 :: x1 :: x2 :: some x :: σ) H1) : tAsg te (gName 3) ⟨nx, rt, bk, ct⟩ (x0 :: x1 :: x2 :: o :: σ) H := h
theorem w_gn3 {x0 x1 x2 : Option V} {o : Option V} {σ : L2.St} {R : L2.St → Hp → Prop} (h : R (x0 :: x1 :: x2 :: some v :: σ) H) : gName 3 v (x0 :: x1 :: x2 :: o :: σ) H R := h
theorem w_aug3 {x0 x1 x2 : Option V} {f : Int → Int → Int} {a : Int} {σ : L2.St} (h : te (x0 :: x1 :: x2 :: some (.int a) :: σ) H fun y H1 => ∃ b, y = .int b ∧ nx (x0 :: x1 :: x2 :: some (.int (f a b)) :: σ) H1) : tAug 3 te (ipI f) ⟨nx, rt, bk, ct⟩ (x0 :: x1 :: x2 :: some (.int a) :: σ) H := w_aug (i := 3) rfl h
theorem w_var4 {x0 x1 x2 x3 : Option V} {σ : L2.St} (q : Q v H) : tVar 4 (x0 :: x1 :: x2 :: x3 :: some v :: σ) H Q := ⟨v, rfl, q⟩
theorem w_asg4 {x0 x1 x2 x3 : Option V} {o : Option V} {σ : L2.St} (h : te (x0 :: x1 :: x2 :: x3 :: o :: σ) H fun x H1 => nx (x0 :: x1 :: x2 :: x3 :: some x :: σ) H1) : tAsg te (gName 4) ⟨nx, rt, bk, ct⟩ (x0 :: x1 :: x2 :: x3 :: o :: σ) H := h
theorem w_gn4 {x0 x1 x2 x3 : Option V} {o : Option V} {σ : L2.St} {R : L2.St → Hp → Prop} (h : R (x0 :: x1 :: x2 :: x3 :: some v :: σ) H) : gName 4 v (x0 :: x1 :: x2 :: x3 :: o :: σ) H R := h
theorem w_aug4 {x0 x1 x2 x3 : Option V} {f : Int → Int → Int} {a : Int} {σ : L2.St} (h : te (x0 :: x1 :: x2 :: x3 :: some (.int a) :: σ) H fun y H1 => ∃ b, y = .int b ∧ nx (x0 :: x1 :: x2 :: x3 :: some (.int (f a b)) :: σ) H1) : tAug 4 te (ipI f) ⟨nx, rt, bk, ct⟩ (x0 :: x1 :: x2 :: x3 :: some (.int a) :: σ) H := w_aug (i := 4) rfl h
theorem w_var5 {x0 x1 x2 x3 x4 : Option V} {σ : L2.St} (q : Q v H) : tVar 5 (x0 :: x1 :: x2 :: x3 :: x4 :: some v :: σ) H Q := ⟨v, rfl, q⟩
theorem w_asg5 {x0 x1 x2 x3 x4 : Option V} {o : Option V} {σ : L2.St} (h : te (x0 :: x1 :: x2 :: x3 :: x4 :: o :: σ) H fun x H1 => nx (x0 :: x1 :: x2 :: x3 :: x4 :: some x :: σ) H1) : tAsg te (gName 5) ⟨nx, rt, bk, ct⟩ (x0 :: x1 :: x2 :: x3 :: x4 :: o :: σ) H := h
theorem w_gn5 {x0 x1 x2 x3 x4 : Option V} {o : Option V} {σ : L2.St} {R : L2.St → Hp → Prop} (h : R (x0 :: x1 :: x2 :: x3 :: x4 :: some v :: σ) H) : gName 5 v (x0 :: x1 :: x2 :: x3 :: x4 :: o :: σ) H R := h
theorem w_aug5 {x0 x1 x2 x3 x4 : Option V} {f : Int → Int → Int} {a : Int} {σ : L2.St} (h : te (x0 :: x1 :: x2 :: x3 :: x4 :: some (.int a) :: σ) H fun y H1 => ∃ b, y = .int b ∧ nx (x0 :: x1 :: x2 :: x3 :: x4 :: some (.int (f a b)) :: σ) H1) : tAug 5 te (ipI f) ⟨nx, rt, bk, ct⟩ (x0 :: x1 :: x2 :: x3 :: x4 :: some (.int a) :: σ) H := w_aug (i := 5) rfl h
theorem w_var6 {x0 x1 x2 x3 x4 x5 : Option V} {σ : L2.St} (q : Q v H) : tVar 6 (x0 :: x1 :: x2 :: x3 :: x4 :: x5 :: some v :: σ) H Q := ⟨v, rfl, q⟩
theorem w_asg6 {x0 x1 x2 x3 x4 x5 : Option V} {o : Option V} {σ : L2.St} (h : te (x0 :: x1 :: x2 :: x3 :: x4 :: x5 :: o :: σ) H fun x H1 => nx (x0 :: x1 :: x2 :: x3 :: x4 :: x5 :: some x :: σ) H1) : tAsg te (gName 6) ⟨nx, rt, bk, ct⟩ (x0 :: x1 :: x2 :: x3 :: x4 :: x5 :: o :: σ) H := h
theorem w_gn6 {x0 x1 x2 x3 x4 x5 : Option V} {o : Option V} {σ : L2.St} {R : L2.St → Hp → Prop} (h : R (x0 :: x1 :: x2 :: x3 :: x4 :: x5 :: some v :: σ) H) : gName 6 v (x0 :: x1 :: x2 :: x3 :: x4 :: x5 :: o :: σ) H R := h
theorem w_aug6 {x0 x1 x2 x3 x4 x5 : Option V} {f : Int → Int → Int} {a : Int} {σ : L2.St} (h : te (x0 :: x1 :: x2 :: x3 :: x4 :: x5 :: some (.int a) :: σ) H fun y H1 => ∃ b, y = .int b ∧ nx (x0 :: x1 :: x2 :: x3 :: x4 :: x5 :: some (.int (f a b)) :: σ) H1) : tAug 6 te (ipI f) ⟨nx, rt, bk, ct⟩ (x0 :: x1 :: x2 :: x3 :: x4 :: x5 :: some (.int a) :: σ) H := w_aug (i := 6) rfl h
theorem w_var7 {x0 x1 x2 x3 x4 x5 x6 : Option V} {σ : L2.St} (q : Q v H) : tVar 7 (x0 :: x1 :: x2 :: x3 :: x4 :: x5 :: x6 :: some v :: σ) H Q := ⟨v, rfl, q⟩
theorem w_asg7 {x0 x1 x2 x3 x4 x5 x6 : Option V} {o : Option V} {σ : L2.St} (h : te (x0 :: x1 :: x2 :: x3 :: x4 :: x5 :: x6 :: o :: σ) H fun x H1 => nx (x0 :: x1 :: x2 :: x3 :: x4 :: x5 :: x6 :: some x :: σ) H1) : tAsg te (gName 7) ⟨nx, rt, bk, ct⟩ (x0 :: x1 :: x2 :: x3 :: x4 :: x5 :: x6 :: o :: σ) H := h
theorem w_gn7 {x0 x1 x2 x3 x4 x5 x6 : Option V} {o : Option V} {σ : L2.St} {R : L2.St → Hp → Prop} (h : R (x0 :: x1 :: x2 :: x3 :: x4 :: x5 :: x6 :: some v :: σ) H) : gName 7 v (x0 :: x1 :: x2 :: x3 :: x4 :: x5 :: x6 :: o :: σ) H R := h
theorem w_aug7 {x0 x1 x2 x3 x4 x5 x6 : Option V} {f : Int → Int → Int} {a : Int} {σ : L2.St} (h : te (x0 :: x1 :: x2 :: x3 :: x4 :: x5 :: x6 :: some (.int a) :: σ) H fun y H1 => ∃ b, y = .int b ∧ nx (x0 :: x1 :: x2 :: x3 :: x4 :: x5 :: x6 :: some (.int (f a b)) :: σ) H1) : tAug 7 te (ipI f) ⟨nx, rt, bk, ct⟩ (x0 :: x1 :: x2 :: x3 :: x4 :: x5 :: x6 :: some (.int a) :: σ) H := w_aug (i := 7) rfl h
theorem w_var8 {x0 x1 x2 x3 x4 x5 x6 x7 : Option V} {σ : L2.St} (q : Q v H) : tVar 8 (x0 :: x1 :: x2 :: x3 :: x4 :: x5 :: x6 :: x7 :: some v :: σ) H Q := ⟨v, rfl, q⟩
theorem w_asg8 {x0 x1 x2 x3 x4 x5 x6 x7 : Option V} {o : Option V} {σ : L2.St} (h : te (x0 :: x1 :: x2 :: x3 :: x4 :: x5 :: x6 :: x7 :: o :: σ) H fun x H1 => nx (x0 :: x1 :: x2 :: x3 :: x4 :: x5 :: x6 :: x7 :: some x :: σ) H1) : tAsg te (gName 8) ⟨nx, rt, bk, ct⟩ (x0 :: x1 :: x2 :: x3 :: x4 :: x5 :: x6 :: x7 :: o :: σ) H := h
theorem w_gn8 {x0 x1 x2 x3 x4 x5 x6 x7 : Option V} {o : Option V} {σ : L2.St} {R : L2.St → Hp → Prop} (h : R (x0 :: x1 :: x2 :: x3 :: x4 :: x5 :: x6 :: x7 :: some v :: σ) H) : gName 8 v (x0 :: x1 :: x2 :: x3 :: x4 :: x5 :: x6 :: x7 :: o :: σ) H R := h
theorem w_aug8 {x0 x1 x2 x3 x4 x5 x6 x7 : Option V} {f : Int → Int → Int} {a : Int} {σ : L2.St} (h : te (x0 :: x1 :: x2 :: x3 :: x4 :: x5 :: x6 :: x7 :: some (.int a) :: σ) H fun y H1 => ∃ b, y = .int b ∧ nx (x0 :: x1 :: x2 :: x3 :: x4 :: x5 :: x6 :: x7 :: some (.int (f a b)) :: σ) H1) : tAug 8 te (ipI f) ⟨nx, rt, bk, ct⟩ (x0 :: x1 :: x2 :: x3 :: x4 :: x5 :: x6 :: x7 :: some (.int a) :: σ) H := w_aug (i := 8) rfl h
theorem w_var9 {x0 x1 x2 x3 x4 x5 x6 x7 x8 : Option V} {σ : L2.St} (q : Q v H) : tVar 9 (x0 :: x1 :: x2 :: x3 :: x4 :: x5 :: x6 :: x7 :: x8 :: some v :: σ) H Q := ⟨v, rfl, q⟩
theorem w_asg9 {x0 x1 x2 x3 x4 x5 x6 x7 x8 : Option V} {o : Option V} {σ : L2.St} (h : te (x0 :: x1 :: x2 :: x3 :: x4 :: x5 :: x6 :: x7 :: x8 :: o :: σ) H fun x H1 => nx (x0 :: x1 :: x2 :: x3 :: x4 :: x5 :: x6 :: x7 :: x8 :: some x :: σ) H1) : tAsg te (gName 9) ⟨nx, rt, bk, ct⟩ (x0 :: x1 :: x2 :: x3 :: x4 :: x5 :: x6 :: x7 :: x8 :: o :: σ) H := h
theorem w_gn9 {x0 x1 x2 x3 x4 x5 x6 x7 x8 : Option V} {o : Option V} {σ : L2.St} {R : L2.St → Hp → Prop} (h : R (x0 :: x1 :: x2 :: x3 :: x4 :: x5 :: x6 :: x7 :: x8 :: some v :: σ) H) : gName 9 v (x0 :: x1 :: x2 :: x3 :: x4 :: x5 :: x6 :: x7 :: x8 :: o :: σ) H R := h
theorem w_aug9 {x0 x1 x2 x3 x4 x5 x6 x7 x8 : Option V} {f : Int → Int → Int} {a : Int} {σ : L2.St} (h : te (x0 :: x1 :: x2 :: x3 :: x4 :: x5 :: x6 :: x7 :: x8 :: some (.int a) :: σ) H fun y H1 => ∃ b, y = .int b ∧ nx (x0 :: x1 :: x2 :: x3 :: x4 :: x5 :: x6 :: x7 :: x8 :: some (.int (f a b)) :: σ) H1) : tAug 9 te (ipI f) ⟨nx, rt, bk, ct⟩ (x0 :: x1 :: x2 :: x3 :: x4 :: x5 :: x6 :: x7 :: x8 :: some (.int a) :: σ) H := w_aug (i := 9) rfl h
theorem w_var10 {x0 x1 x2 x3 x4 x5 x6 x7 x8 x9 : Option V} {σ : L2.St} (q : Q v H) : tVar 10 (x0 :: x1 :: x2 :: x3 :: x4 :: x5 :: x6 :: x7 :: x8 :: x9 :: some v :: σ) H Q := ⟨v, rfl, q⟩
theorem w_asg10 {x0 x1 x2 x3 x4 x5 x6 x7 x8 x9 : Option V} {o : Option V} {σ : L2.St} (h : te (x0 :: x1 :: x2 :: x3 :: x4 :: x5 :: x6 :: x7 :: x8 :: x9 :: o :: σ) H fun x H1 => nx (x0 :: x1 :: x2 :: x3 :: x4 :: x5 :: x6 :: x7 :: x8 :: x9 :: some x :: σ) H1) : tAsg te (gName 10) ⟨nx, rt, bk, ct⟩ (x0 :: x1 :: x2 :: x3 :: x4 :: x5 :: x6 :: x7 :: x8 :: x9 :: o :: σ) H := h
theorem w_gn10 {x0 x1 x2 x3 x4 x5 x6 x7 x8 x9 : Option V} {o : Option V} {σ : L2.St} {R : L2.St → Hp → Prop} (h : R (x0 :: x1 :: x2 :: x3 :: x4 :: x5 :: x6 :: x7 :: x8 :: x9 :: some v :: σ) H) : gName 10 v (x0 :: x1 :: x2 :: x3 :: x4 :: x5 :: x6 :: x7 :: x8 :: x9 :: o :: σ) H R := h
theorem w_aug10 {x0 x1 x2 x3 x4 x5 x6 x7 x8 x9 : Option V} {f : Int → Int → Int} {a : Int} {σ : L2.St} (h : te (x0 :: x1 :: x2 :: x3 :: x4 :: x5 :: x6 :: x7 :: x8 :: x9 :: some (.int a) :: σ) H fun y H1 => ∃ b, y = .int b ∧ nx (x0 :: x1 :: x2 :: x3 :: x4 :: x5 :: x6 :: x7 :: x8 :: x9 :: some (.int (f a b)) :: σ) H1) : tAug 10 te (ipI f) ⟨nx, rt, bk, ct⟩ (x0 :: x1 :: x2 :: x3 :: x4 :: x5 :: x6 :: x7 :: x8 :: x9 :: some (.int a) :: σ) H := w_aug (i := 10) rfl h
theorem w_var11 {x0 x1 x2 x3 x4 x5 x6 x7 x8 x9 x10 : Option V} {σ : L2.St} (q : Q v H) : tVar 11 (x0 :: x1 :: x2 :: x3 :: x4 :: x5 :: x6 :: x7 :: x8 :: x9 :: x10 :: some v :: σ) H Q := ⟨v, rfl, q⟩
theorem w_asg11 {x0 x1 x2 x3 x4 x5 x6 x7 x8 x9 x10 : Option V} {o : Option V} {σ : L2.St} (h : te (x0 :: x1 :: x2 :: x3 :: x4 :: x5 :: x6 :: x7 :: x8 :: x9 :: x10 :: o :: σ) H fun x H1 => nx (x0 :: x1 :: x2 :: x3 :: x4 :: x5 :: x6 :: x7 :: x8 :: x9 :: x10 :: some x :: σ) H1) : tAsg te (gName 11) ⟨nx, rt, bk, ct⟩ (x0 :: x1 :: x2 :: x3 :: x4 :: x5 :: x6 :: x7 :: x8 :: x9 :: x10 :: o :: σ) H := h
theorem w_gn11 {x0 x1 x2 x3 x4 x5 x6 x7 x8 x9 x10 : Option V} {o : Option V} {σ : L2.St} {R : L2.St → Hp → Prop} (h : R (x0 :: x1 :: x2 :: x3 :: x4 :: x5 :: x6 :: x7 :: x8 :: x9 :: x10 :: some v :: σ) H) : gName 11 v (x0 :: x1 :: x2 :: x3 :: x4 :: x5 :: x6 :: x7 :: x8 :: x9 :: x10 :: o :: σ) H R := h
theorem w_aug11 {x0 x1 x2 x3 x4 x5 x6 x7 x8 x9 x10 : Option V} {f : Int → Int → Int} {a : Int} {σ : L2.St} (h : te (x0 :: x1 :: x2 :: x3 :: x4 :: x5 :: x6 :: x7 :: x8 :: x9 :: x10 :: some (.int a) :: σ) H fun y H1 => ∃ b, y = .int b ∧ nx (x0 :: x1 :: x2 :: x3 :: x4 :: x5 :: x6 :: x7 :: x8 :: x9 :: x10 :: some (.int (f a b)) :: σ) H1) : tAug 11 te (ipI f) ⟨nx, rt, bk, ct⟩ (x0 :: x1 :: x2 :: x3 :: x4 :: x5 :: x6 :: x7 :: x8 :: x9 :: x10 :: some (.int a) :: σ) H := w_aug (i := 11) rfl h
theorem w_var12 {x0 x1 x2 x3 x4 x5 x6 x7 x8 x9 x10 x11 : Option V} {σ : L2.St} (q : Q v H) : tVar 12 (x0 :: x1 :: x2 :: x3 :: x4 :: x5 :: x6 :: x7 :: x8 :: x9 :: x10 :: x11 :: some v :: σ) H Q := ⟨v, rfl, q⟩
theorem w_asg12 {x0 x1 x2 x3 x4 x5 x6 x7 x8 x9 x10 x11 : Option V} {o : Option V} {σ : L2.St} (h : te (x0 :: x1 :: x2 :: x3 :: x4 :: x5 :: x6 :: x7 :: x8 :: x9 :: x10 :: x11 :: o :: σ) H fun x H1 => nx (x0 :: x1 :: x2 :: x3 :: x4 :: x5 :: x6 :: x7 :: x8 :: x9 :: x10 :: x11 :: some x :: σ) H1) : tAsg te (gName 12) ⟨nx, rt, bk, ct⟩ (x0 :: x1 :: x2 :: x3 :: x4 :: x5 :: x6 :: x7 :: x8 :: x9 :: x10 :: x11 :: o :: σ) H := h
theorem w_gn12 {x0 x1 x2 x3 x4 x5 x6 x7 x8 x9 x10 x11 : Option V} {o : Option V} {σ : L2.St} {R : L2.St → Hp → Prop} (h : R (x0 :: x1 :: x2 :: x3 :: x4 :: x5 :: x6 :: x7 :: x8 :: x9 :: x10 :: x11 :: some v :: σ) H) : gName 12 v (x0 :: x1 :: x2 :: x3 :: x4 :: x5 :: x6 :: x7 :: x8 :: x9 :: x10 :: x11 :: o :: σ) H R := h
theorem w_aug12 {x0 x1 x2 x3 x4 x5 x6 x7 x8 x9 x10 x11 : Option V} {f : Int → Int → Int} {a : Int} {σ : L2.St} (h : te (x0 :: x1 :: x2 :: x3 :: x4 :: x5 :: x6 :: x7 :: x8 :: x9 :: x10 :: x11 :: some (.int a) :: σ) H fun y H1 => ∃ b, y = .int b ∧ nx (x0 :: x1 :: x2 :: x3 :: x4 :: x5 :: x6 :: x7 :: x8 :: x9 :: x10 :: x11 :: some (.int (f a b)) :: σ) H1) : tAug 12 te (ipI f) ⟨nx, rt, bk, ct⟩ (x0 :: x1 :: x2 :: x3 :: x4 :: x5 :: x6 :: x7 :: x8 :: x9 :: x10 :: x11 :: some (.int a) :: σ) H := w_aug (i := 12) rfl h
theorem w_var13 {x0 x1 x2 x3 x4 x5 x6 x7 x8 x9 x10 x11 x12 : Option V} {σ : L2.St} (q : Q v H) : tVar 13 (x0 :: x1 :: x2 :: x3 :: x4 :: x5 :: x6 :: x7 :: x8 :: x9 :: x10 :: x11 :: x12 :: some v :: σ) H Q := ⟨v, rfl, q⟩
theorem w_asg13 {x0 x1 x2 x3 x4 x5 x6 x7 x8 x9 x10 x11 x12 : Option V} {o : Option V} {σ : L2.St} (h : te (x0 :: x1 :: x2 :: x3 :: x4 :: x5 :: x6 :: x7 :: x8 :: x9 :: x10 :: x11 :: x12 :: o :: σ) H fun x H1 => nx (x0 :: x1 :: x2 :: x3 :: x4 :: x5 :: x6 :: x7 :: x8 :: x9 :: x10 :: x11 :: x12 :: some x :: σ) H1) : tAsg te (gName 13) ⟨nx, rt, bk, ct⟩ (x0 :: x1 :: x2 :: x3 :: x4 :: x5 :: x6 :: x7 :: x8 :: x9 :: x10 :: x11 :: x12 :: o :: σ) H := h
theorem w_gn13 {x0 x1 x2 x3 x4 x5 x6 x7 x8 x9 x10 x11 x12 : Option V} {o : Option V} {σ : L2.St} {R : L2.St → Hp → Prop} (h : R (x0 :: x1 :: x2 :: x3 :: x4 :: x5 :: x6 :: x7 :: x8 :: x9 :: x10 :: x11 :: x12 :: some v :: σ) H) : gName 13 v (x0 :: x1 :: x2 :: x3 :: x4 :: x5 :: x6 :: x7 :: x8 :: x9 :: x10 :: x11 :: x12 :: o :: σ) H R := h
theorem w_aug13 {x0 x1 x2 x3 x4 x5 x6 x7 x8 x9 x10 x11 x12 : Option V} {f : Int → Int → Int} {a : Int} {σ : L2.St} (h : te (x0 :: x1 :: x2 :: x3 :: x4 :: x5 :: x6 :: x7 :: x8 :: x9 :: x10 :: x11 :: x12 :: some (.int a) :: σ) H fun y H1 => ∃ b, y = .int b ∧ nx (x0 :: x1 :: x2 :: x3 :: x4 :: x5 :: x6 :: x7 :: x8 :: x9 :: x10 :: x11 :: x12 :: some (.int (f a b)) :: σ) H1) : tAug 13 te (ipI f) ⟨nx, rt, bk, ct⟩ (x0 :: x1 :: x2 :: x3 :: x4 :: x5 :: x6 :: x7 :: x8 :: x9 :: x10 :: x11 :: x12 :: some (.int a) :: σ) H := w_aug (i := 13) rfl h
theorem w_var14 {x0 x1 x2 x3 x4 x5 x6 x7 x8 x9 x10 x11 x12 x13 : Option V} {σ : L2.St} (q : Q v H) : tVar 14 (x0 :: x1 :: x2 :: x3 :: x4 :: x5 :: x6 :: x7 :: x8 :: x9 :: x10 :: x11 :: x12 :: x13 :: some v :: σ) H Q := ⟨v, rfl, q⟩
theorem w_asg14 {x0 x1 x2 x3 x4 x5 x6 x7 x8 x9 x10 x11 x12 x13 : Option V} {o : Option V} {σ : L2.St} (h : te (x0 :: x1 :: x2 :: x3 :: x4 :: x5 :: x6 :: x7 :: x8 :: x9 :: x10 :: x11 :: x12 :: x13 :: o :: σ) H fun x H1 => nx (x0 :: x1 :: x2 :: x3 :: x4 :: x5 :: x6 :: x7 :: x8 :: x9 :: x10 :: x11 :: x12 :: x13 :: some x :: σ) H1) : tAsg te (gName 14) ⟨nx, rt, bk, ct⟩ (x0 :: x1 :: x2 :: x3 :: x4 :: x5 :: x6 :: x7 :: x8 :: x9 :: x10 :: x11 :: x12 :: x13 :: o :: σ) H := h
theorem w_gn14 {x0 x1 x2 x3 x4 x5 x6 x7 x8 x9 x10 x11 x12 x13 : Option V} {o : Option V} {σ : L2.St} {R : L2.St → Hp → Prop} (h : R (x0 :: x1 :: x2 :: x3 :: x4 :: x5 :: x6 :: x7 :: x8 :: x9 :: x10 :: x11 :: x12 :: x13 :: some v :: σ) H) : gName 14 v (x0 :: x1 :: x2 :: x3 :: x4 :: x5 :: x6 :: x7 :: x8 :: x9 :: x10 :: x11 :: x12 :: x13 :: o :: σ) H R := h
theorem w_aug14 {x0 x1 x2 x3 x4 x5 x6 x7 x8 x9 x10 x11 x12 x13 : Option V} {f : Int → Int → Int} {a : Int} {σ : L2.St} (h : te (x0 :: x1 :: x2 :: x3 :: x4 :: x5 :: x6 :: x7 :: x8 :: x9 :: x10 :: x11 :: x12 :: x13 :: some (.int a) :: σ) H fun y H1 => ∃ b, y = .int b ∧ nx (x0 :: x1 :: x2 :: x3 :: x4 :: x5 :: x6 :: x7 :: x8 :: x9 :: x10 :: x11 :: x12 :: x13 :: some (.int (f a b)) :: σ) H1) : tAug 14 te (ipI f) ⟨nx, rt, bk, ct⟩ (x0 :: x1 :: x2 :: x3 :: x4 :: x5 :: x6 :: x7 :: x8 :: x9 :: x10 :: x11 :: x12 :: x13 :: some (.int a) :: σ) H := w_aug (i := 14) rfl h
theorem w_var15 {x0 x1 x2 x3 x4 x5 x6 x7 x8 x9 x10 x11 x12 x13 x14 : Option V} {σ : L2.St} (q : Q v H) : tVar 15 (x0 :: x1 :: x2 :: x3 :: x4 :: x5 :: x6 :: x7 :: x8 :: x9 :: x10 :: x11 :: x12 :: x13 :: x14 :: some v :: σ) H Q := ⟨v, rfl, q⟩
theorem w_asg15 {x0 x1 x2 x3 x4 x5 x6 x7 x8 x9 x10 x11 x12 x13 x14 : Option V} {o : Option V} {σ : L2.St} (h : te (x0 :: x1 :: x2 :: x3 :: x4 :: x5 :: x6 :: x7 :: x8 :: x9 :: x10 :: x11 :: x12 :: x13 :: x14 :: o :: σ) H fun x H1 => nx (x0 :: x1 :: x2 :: x3 :: x4 :: x5 :: x6 :: x7 :: x8 :: x9 :: x10 :: x11 :: x12 :: x13 :: x14 :: some x :: σ) H1) : tAsg te (gName 15) ⟨nx, rt, bk, ct⟩ (x0 :: x1 :: x2 :: x3 :: x4 :: x5 :: x6 :: x7 :: x8 :: x9 :: x10 :: x11 :: x12 :: x13 :: x14 :: o :: σ) H := h
theorem w_gn15 {x0 x1 x2 x3 x4 x5 x6 x7 x8 x9 x10 x11 x12 x13 x14 : Option V} {o : Option V} {σ : L2.St} {R : L2.St → Hp → Prop} (h : R (x0 :: x1 :: x2 :: x3 :: x4 :: x5 :: x6 :: x7 :: x8 :: x9 :: x10 :: x11 :: x12 :: x13 :: x14 :: some v :: σ) H) : gName 15 v (x0 :: x1 :: x2 :: x3 :: x4 :: x5 :: x6 :: x7 :: x8 :: x9 :: x10 :: x11 :: x12 :: x13 :: x14 :: o :: σ) H R := h
theorem w_aug15 {x0 x1 x2 x3 x4 x5 x6 x7 x8 x9 x10 x11 x12 x13 x14 : Option V} {f : Int → Int → Int} {a : Int} {σ : L2.St} (h : te (x0 :: x1 :: x2 :: x3 :: x4 :: x5 :: x6 :: x7 :: x8 :: x9 :: x10 :: x11 :: x12 :: x13 :: x14 :: some (.int a) :: σ) H fun y H1 => ∃ b, y = .int b ∧ nx (x0 :: x1 :: x2 :: x3 :: x4 :: x5 :: x6 :: x7 :: x8 :: x9 :: x10 :: x11 :: x12 :: x13 :: x14 :: some (.int (f a b)) :: σ) H1) : tAug 15 te (ipI f) ⟨nx, rt, bk, ct⟩ (x0 :: x1 :: x2 :: x3 :: x4 :: x5 :: x6 :: x7 :: x8 :: x9 :: x10 :: x11 :: x12 :: x13 :: x14 :: some (.int a) :: σ) H := w_aug (i := 15) rfl h
theorem w_var16 {x0 x1 x2 x3 x4 x5 x6 x7 x8 x9 x10 x11 x12 x13 x14 x15 : Option V} {σ : L2.St} (q : Q v H) : tVar 16 (x0 :: x1 :: x2 :: x3 :: x4 :: x5 :: x6 :: x7 :: x8 :: x9 :: x10 :: x11 :: x12 :: x13 :: x14 :: x15 :: some v :: σ) H Q := ⟨v, rfl, q⟩
theorem w_asg16 {x0 x1 x2 x3 x4 x5 x6 x7 x8 x9 x10 x11 x12 x13 x14 x15 : Option V} {o : Option V} {σ : L2.St} (h : te (x0 :: x1 :: x2 :: x3 :: x4 :: x5 :: x6 :: x7 :: x8 :: x9 :: x10 :: x11 :: x12 :: x13 :: x14 :: x15 :: o :: σ) H fun x H1 => nx (x0 :: x1 :: x2 :: x3 :: x4 :: x5 :: x6 :: x7 :: x8 :: x9 :: x10 :: x11 :: x12 :: x13 :: x14 :: x15 :: some x :: σ) H1) : tAsg te (gName 16) ⟨nx, rt, bk, ct⟩ (x0 :: x1 :: x2 :: x3 :: x4 :: x5 :: x6 :: x7 :: x8 :: x9 :: x10 :: x11 :: x12 :: x13 :: x14 :: x15 :: o :: σ) H := h
theorem w_gn16 {x0 x1 x2 x3 x4 x5 x6 x7 x8 x9 x10 x11 x12 x13 x14 x15 : Option V} {o : Option V} {σ : L2.St} {R : L2.St → Hp → Prop} (h : R (x0 :: x1 :: x2 :: x3 :: x4 :: x5 :: x6 :: x7 :: x8 :: x9 :: x10 :: x11 :: x12 :: x13 :: x14 :: x15 :: some v :: σ) H) : gName 16 v (x0 :: x1 :: x2 :: x3 :: x4 :: x5 :: x6 :: x7 :: x8 :: x9 :: x10 :: x11 :: x12 :: x13 :: x14 :: x15 :: o :: σ) H R := h
theorem w_aug16 {x0 x1 x2 x3 x4 x5 x6 x7 x8 x9 x10 x11 x12 x13 x14 x15 : Option V} {f : Int → Int → Int} {a : Int} {σ : L2.St} (h : te (x0 :: x1 :: x2 :: x3 :: x4 :: x5 :: x6 :: x7 :: x8 :: x9 :: x10 :: x11 :: x12 :: x13 :: x14 :: x15 :: some (.int a) :: σ) H fun y H1 => ∃ b, y = .int b ∧ nx (x0 :: x1 :: x2 :: x3 :: x4 :: x5 :: x6 :: x7 :: x8 :: x9 :: x10 :: x11 :: x12 :: x13 :: x14 :: x15 :: some (.int (f a b)) :: σ) H1) : tAug 16 te (ipI f) ⟨nx, rt, bk, ct⟩ (x0 :: x1 :: x2 :: x3 :: x4 :: x5 :: x6 :: x7 :: x8 :: x9 :: x10 :: x11 :: x12 :: x13 :: x14 :: x15 :: some (.int a) :: σ) H := w_aug (i := 16) rfl h
theorem w_var17 {x0 x1 x2 x3 x4 x5 x6 x7 x8 x9 x10 x11 x12 x13 x14 x15 x16 : Option V} {σ : L2.St} (q : Q v H) : tVar 17 (x0 :: x1 :: x2 :: x3 :: x4 :: x5 :: x6 :: x7 :: x8 :: x9 :: x10 :: x11 :: x12 :: x13 :: x14 :: x15 :: x16 :: some v :: σ) H Q := ⟨v, rfl, q⟩
theorem w_asg17 {x0 x1 x2 x3 x4 x5 x6 x7 x8 x9 x10 x11 x12 x13 x14 x15 x16 : Option V} {o : Option V} {σ : L2.St} (h : te (x0 :: x1 :: x2 :: x3 :: x4 :: x5 :: x6 :: x7 :: x8 :: x9 :: x10 :: x11 :: x12 :: x13 :: x14 :: x15 :: x16 :: o :: σ) H fun x H1 => nx (x0 :: x1 :: x2 :: x3 :: x4 :: x5 :: x6 :: x7 :: x8 :: x9 :: x10 :: x11 :: x12 :: x13 :: x14 :: x15 :: x16 :: some x :: σ) H1) : tAsg te (gName 17) ⟨nx, rt, bk, ct⟩ (x0 :: x1 :: x2 :: x3 :: x4 :: x5 :: x6 :: x7 :: x8 :: x9 :: x10 :: x11 :: x12 :: x13 :: x14 :: x15 :: x16 :: o :: σ) H := h
theorem w_gn17 {x0 x1 x2 x3 x4 x5 x6 x7 x8 x9 x10 x11 x12 x13 x14 x15 x16 : Option V} {o : Option V} {σ : L2.St} {R : L2.St → Hp → Prop} (h : R (x0 :: x1 :: x2 :: x3 :: x4 :: x5 :: x6 :: x7 :: x8 :: x9 :: x10 :: x11 :: x12 :: x13 :: x14 :: x15 :: x16 :: some v :: σ) H) : gName 17 v (x0 :: x1 :: x2 :: x3 :: x4 :: x5 :: x6 :: x7 :: x8 :: x9 :: x10 :: x11 :: x12 :: x13 :: x14 :: x15 :: x16 :: o :: σ) H R := h
theorem w_aug17 {x0 x1 x2 x3 x4 x5 x6 x7 x8 x9 x10 x11 x12 x13 x14 x15 x16 : Option V} {f : Int → Int → Int} {a : Int} {σ : L2.St} (h : te (x0 :: x1 :: x2 :: x3 :: x4 :: x5 :: x6 :: x7 :: x8 :: x9 :: x10 :: x11 :: x12 :: x13 :: x14 :: x15 :: x16 :: some (.int a) :: σ) H fun y H1 => ∃ b, y = .int b ∧ nx (x0 :: x1 :: x2 :: x3 :: x4 :: x5 :: x6 :: x7 :: x8 :: x9 :: x10 :: x11 :: x12 :: x13 :: x14 :: x15 :: x16 :: some (.int (f a b)) :: σ) H1) : tAug 17 te (ipI f) ⟨nx, rt, bk, ct⟩ (x0 :: x1 :: x2 :: x3 :: x4 :: x5 :: x6 :: x7 :: x8 :: x9 :: x10 :: x11 :: x12 :: x13 :: x14 :: x15 :: x16 :: some (.int a) :: σ) H := w_aug (i := 17) rfl h
theorem w_var18 {x0 x1 x2 x3 x4 x5 x6 x7 x8 x9 x10 x11 x12 x13 x14 x15 x16 x17 : Option V} {σ : L2.St} (q : Q v H) : tVar 18 (x0 :: x1 :: x2 :: x3 :: x4 :: x5 :: x6 :: x7 :: x8 :: x9 :: x10 :: x11 :: x12 :: x13 :: x14 :: x15 :: x16 :: x17 :: some v :: σ) H Q := ⟨v, rfl, q⟩
theorem w_asg18 {x0 x1 x2 x3 x4 x5 x6 x7 x8 x9 x10 x11 x12 x13 x14 x15 x16 x17 : Option V} {o : Option V} {σ : L2.St} (h : te (x0 :: x1 :: x2 :: x3 :: x4 :: x5 :: x6 :: x7 :: x8 :: x9 :: x10 :: x11 :: x12 :: x13 :: x14 :: x15 :: x16 :: x17 :: o :: σ) H fun x H1 => nx (x0 :: x1 :: x2 :: x3 :: x4 :: x5 :: x6 :: x7 :: x8 :: x9 :: x10 :: x11 :: x12 :: x13 :: x14 :: x15 :: x16 :: x17 :: some x :: σ) H1) : tAsg te (gName 18) ⟨nx, rt, bk, ct⟩ (x0 :: x1 :: x2 :: x3 :: x4 :: x5 :: x6 :: x7 :: x8 :: x9 :: x10 :: x11 :: x12 :: x13 :: x14 :: x15 :: x16 :: x17 :: o :: σ) H := h
theorem w_gn18 {x0 x1 x2 x3 x4 x5 x6 x7 x8 x9 x10 x11 x12 x13 x14 x15 x16 x17 : Option V} {o : Option V} {σ : L2.St} {R : L2.St → Hp → Prop} (h : R (x0 :: x1 :: x2 :: x3 :: x4 :: x5 :: x6 :: x7 :: x8 :: x9 :: x10 :: x11 :: x12 :: x13 :: x14 :: x15 :: x16 :: x17 :: some v :: σ) H) : gName 18 v (x0 :: x1 :: x2 :: x3 :: x4 :: x5 :: x6 :: x7 :: x8 :: x9 :: x10 :: x11 :: x12 :: x13 :: x14 :: x15 :: x16 :: x17 :: o :: σ) H R := h
theorem w_aug18 {x0 x1 x2 x3 x4 x5 x6 x7 x8 x9 x10 x11 x12 x13 x14 x15 x16 x17 : Option V} {f : Int → Int → Int} {a : Int} {σ : L2.St} (h : te (x0 :: x1 :: x2 :: x3 :: x4 :: x5 :: x6 :: x7 :: x8 :: x9 :: x10 :: x11 :: x12 :: x13 :: x14 :: x15 :: x16 :: x17 :: some (.int a) :: σ) H fun y H1 => ∃ b, y = .int b ∧ nx (x0 :: x1 :: x2 :: x3 :: x4 :: x5 :: x6 :: x7 :: x8 :: x9 :: x10 :: x11 :: x12 :: x13 :: x14 :: x15 :: x16 :: x17 :: some (.int (f a b)) :: σ) H1) : tAug 18 te (ipI f) ⟨nx, rt, bk, ct⟩ (x0 :: x1 :: x2 :: x3 :: x4 :: x5 :: x6 :: x7 :: x8 :: x9 :: x10 :: x11 :: x12 :: x13 :: x14 :: x15 :: x16 :: x17 :: some (.int a) :: σ) H := w_aug (i := 18) rfl h
theorem w_var19 {x0 x1 x2 x3 x4 x5 x6 x7 x8 x9 x10 x11 x12 x13 x14 x15 x16 x17 x18 : Option V} {σ : L2.St} (q : Q v H) : tVar 19 (x0 :: x1 :: x2 :: x3 :: x4 :: x5 :: x6 :: x7 :: x8 :: x9 :: x10 :: x11 :: x12 :: x13 :: x14 :: x15 :: x16 :: x17 :: x18 :: some v :: σ) H Q := ⟨v, rfl, q⟩
theorem w_asg19 {x0 x1 x2 x3 x4 x5 x6 x7 x8 x9 x10 x11 x12 x13 x14 x15 x16 x17 x18 : Option V} {o : Option V} {σ : L2.St} (h : te (x0 :: x1 :: x2 :: x3 :: x4 :: x5 :: x6 :: x7 :: x8 :: x9 :: x10 :: x11 :: x12 :: x13 :: x14 :: x15 :: x16 :: x17 :: x18 :: o :: σ) H fun x H1 => nx (x0 :: x1 :: x2 :: x3 :: x4 :: x5 :: x6 :: x7 :: x8 :: x9 :: x10 :: x11 :: x12 :: x13 :: x14 :: x15 :: x16 :: x17 :: x18 :: some x :: σ) H1) : tAsg te (gName 19) ⟨nx, rt, bk, ct⟩ (x0 :: x1 :: x2 :: x3 :: x4 :: x5 :: x6 :: x7 :: x8 :: x9 :: x10 :: x11 :: x12 :: x13 :: x14 :: x15 :: x16 :: x17 :: x18 :: o :: σ) H := h
theorem w_gn19 {x0 x1 x2 x3 x4 x5 x6 x7 x8 x9 x10 x11 x12 x13 x14 x15 x16 x17 x18 : Option V} {o : Option V} {σ : L2.St} {R : L2.St → Hp → Prop} (h : R (x0 :: x1 :: x2 :: x3 :: x4 :: x5 :: x6 :: x7 :: x8 :: x9 :: x10 :: x11 :: x12 :: x13 :: x14 :: x15 :: x16 :: x17 :: x18 :: some v :: σ) H) : gName 19 v (x0 :: x1 :: x2 :: x3 :: x4 :: x5 :: x6 :: x7 :: x8 :: x9 :: x10 :: x11 :: x12 :: x13 :: x14 :: x15 :: x16 :: x17 :: x18 :: o :: σ) H R := h
theorem w_aug19 {x0 x1 x2 x3 x4 x5 x6 x7 x8 x9 x10 x11 x12 x13 x14 x15 x16 x17 x18 : Option V} {f : Int → Int → Int} {a : Int} {σ : L2.St} (h : te (x0 :: x1 :: x2 :: x3 :: x4 :: x5 :: x6 :: x7 :: x8 :: x9 :: x10 :: x11 :: x12 :: x13 :: x14 :: x15 :: x16 :: x17 :: x18 :: some (.int a) :: σ) H fun y H1 => ∃ b, y = .int b ∧ nx (x0 :: x1 :: x2 :: x3 :: x4 :: x5 :: x6 :: x7 :: x8 :: x9 :: x10 :: x11 :: x12 :: x13 :: x14 :: x15 :: x16 :: x17 :: x18 :: some (.int (f a b)) :: σ) H1) : tAug 19 te (ipI f) ⟨nx, rt, bk, ct⟩ (x0 :: x1 :: x2 :: x3 :: x4 :: x5 :: x6 :: x7 :: x8 :: x9 :: x10 :: x11 :: x12 :: x13 :: x14 :: x15 :: x16 :: x17 :: x18 :: some (.int a) :: σ) H := w_aug (i := 19) rfl h
theorem cut {P : L2.St → Hp → Prop} {σ0 : L2.St} (σ : L2.St) (e : σ0 = σ) (h : P σ H) : P σ0 H := by
  rw [e]
  exact h
end
section
variable {nx bk ct : L2.St → Hp → Prop} {rt : VK} {t u tb : TS} {σ : L2.St} {H F0 H0 F : Hp} {L : List (Addr × HO)} {C : List Ck} {te ta tc : TE} {tA : TA} {Q : VK} {v x y : V} {g : TG} {K : PySem.W.Frag} {a : Addr} {xs : List V} {l m : List Nat} {i : Int} {c : Nat}
theorem isVar {i : Nat} (h : tVar i σ H Q) : tVar i σ H Q := h
theorem isAsg {i : Nat} {D : Ends} (h : tAsg te (gName i) D σ H) : tAsg te (gName i) D σ H := h
theorem isGn {i : Nat} {R : L2.St → Hp → Prop} (h : gName i v σ H R) : gName i v σ H R := h
theorem isAug {i : Nat} {f : Int → Int → Int} {D : Ends} (h : tAug i te (ipI f) D σ H) : tAug i te (ipI f) D σ H := h
theorem w_abs (q : Q (.int (i.natAbs : Nat)) H) : rAbs [.int i] H Q := ⟨i, rfl, q⟩
theorem w_toint (q : Q (.int i) H) : rInt [.int i] H Q := ⟨i, rfl, q⟩
theorem w_tointB {b : Bool} (q : Q (.int (if b then 1 else 0)) H) : rIntB [.bl b] H Q := ⟨b, rfl, q⟩
theorem w_lenS (q : Q (.int (l.length : Nat)) H) (hz : l.length ≤ sizeLine) : rLenS [vS l] H Q := ⟨l, rfl, hz, q⟩
theorem w_addS (q : Q (vS (l ++ m)) H) (hz : l.length + m.length ≤ sizeLine) : rAddS (vS l) (vS m) H Q := ⟨l, m, rfl, rfl, hz, q⟩
theorem w_ixS (q : Q (vS [c]) H) (ha : atI l i = some c) (hz : l.length ≤ sizeLine) : rIxSg (vS l) (.int i) H Q := ⟨l, i, c, rfl, rfl, hz, ha, q⟩
theorem w_mulS (q : Q (vS (List.replicate i.toNat l).flatten) H) (h : 0 ≤ i ∧ i < 2 ^ 30) (hz : l.length * i.toNat ≤ sizeLine) : rMulS (vS l) (.int i) H Q := ⟨l, i, rfl, rfl, h.1, h.2, hz, q⟩
theorem w_slS {lo hi : Option Int} (q : Q (vS (cutN l lo hi)) H) (hz : l.length ≤ sizeLine) : rSlSg (vS l) lo hi H Q := ⟨l, rfl, hz, q⟩
theorem w_sl {r : V → Option Int → Option Int → Hp → VK → Prop} {tl th : TO} (h : te σ H fun x H1 => tl σ H1 fun lo H2 => th σ H2 fun hi H3 => r x lo hi H3 Q) : tSl r te tl th σ H Q := h
theorem w_noP {R : Option Int → Hp → Prop} (h : R none H) : tNoPart σ H R := h
theorem w_part {R : Option Int → Hp → Prop} (h : te σ H fun x H1 => ∃ i, x = .int i ∧ R (some i) H1) : tPart te σ H R := h
theorem w_ixL (q : Q v H) (hs : SqL K H a xs) (ha : atI xs i = some v) : rIxL K (.ref a) (.int i) H Q := ⟨a, xs, i, v, rfl, rfl, hs, ha, q⟩
theorem w_ixT (q : Q v H) (hs : SqT K H a xs) (ha : atI xs i = some v) : rIxT K (.ref a) (.int i) H Q := ⟨a, xs, i, v, rfl, rfl, hs, ha, q⟩
theorem w_lenL (q : Q (.int (xs.length : Nat)) H) (hs : SqL K H a xs) : rLenQ K [.ref a] H Q := ⟨a, xs, rfl, .inl hs, q⟩
theorem w_lenT (q : Q (.int (xs.length : Nat)) H) (hs : SqT K H a xs) : rLenQ K [.ref a] H Q := ⟨a, xs, rfl, .inr hs, q⟩
def NewL (xs : List V) (H : Hp) (Q : VK) : Prop := xs.length ≤ sizeLine ∧ ∀ p, H p = none → Q (.ref p) (upd H p (.lst xs))
def NewT (xs : List V) (H : Hp) (Q : VK) : Prop := xs.length ≤ sizeLine ∧ ∀ p, H p = none → Q (.ref p) (upd H p (.tup xs))
theorem w_lst (h : tA σ H fun xs H1 => NewL xs H1 Q) : tLst tA σ H Q := h
theorem w_tup (h : tA σ H fun xs H1 => NewT xs H1 Q) : tTup tA σ H Q := h
theorem w_newL (O : Own F0 H0 F H L C) (k : ∀ p H', Own F0 H0 F H' ((p, .lst xs) :: L) C → Q (.ref p) H') (hz : xs.length ≤ sizeLine) : NewL xs H Q := ⟨hz, fun p np => k p _ (O.alloc np _)⟩
theorem w_newT (O : Own F0 H0 F H L C) (k : ∀ p F' H', Own F0 H0 F' H' L (cO p (.tup xs) :: C) → Q (.ref p) H') (hz : xs.length ≤ sizeLine) : NewT xs H Q := ⟨hz, fun p np => k p _ _ (O.ice np _)⟩
theorem w_bm {T : String} {r : V → List V → Hp → VK → Prop} {to : TE} (h : to σ H fun x H1 => tyV K T x H1 ∧ tA σ H1 fun vs H2 => r x vs H2 Q) : tBM K T r to tA σ H Q := h
theorem w_bm0 {T : String} {r : V → List V → Hp → VK → Prop} {to : TE} (h : to σ H fun x H1 => tyV K T x H1 ∧ r x [] H1 Q) : tBM0 K T r to σ H Q := h
theorem w_tyL {P : Prop} (h : P) (hs : SqL K H a xs) : tyV K "list" (.ref a) H ∧ P := ⟨.inl ⟨rfl, _, hs⟩, h⟩
theorem w_app {j : Nat} (O : Own F0 H0 F H L C) (hi : L[j]? = some (a, .lst xs)) (k : ∀ H', Own F0 H0 F H' (L.set j (a, .lst (xs ++ [v]))) C → Q .non H') (hz : xs.length < sizeLine) : rAppend (.ref a) [v] H Q :=
  ⟨a, xs, v, rfl, rfl, O.at_ j hi, hz, k _ (O.set j hi _)⟩
theorem w_app0 (O : Own F0 H0 F H ((a, .lst xs) :: L) C) (k : ∀ H', Own F0 H0 F H' ((a, .lst (xs ++ [v])) :: L) C → Q .non H') (hz : xs.length < sizeLine) : rAppend (.ref a) [v] H Q := w_app (j := 0) O rfl k hz
theorem w_app1 {q : Addr × HO} (O : Own F0 H0 F H (q :: (a, .lst xs) :: L) C) (k : ∀ H', Own F0 H0 F H' (q :: (a, .lst (xs ++ [v])) :: L) C → Q .non H') (hz : xs.length < sizeLine) : rAppend (.ref a) [v] H Q := w_app (j := 1) O rfl k hz
theorem w_app2 {q q' : Addr × HO} (O : Own F0 H0 F H (q :: q' :: (a, .lst xs) :: L) C) (k : ∀ H', Own F0 H0 F H' (q :: q' :: (a, .lst (xs ++ [v])) :: L) C → Q .non H') (hz : xs.length < sizeLine) : rAppend (.ref a) [v] H Q := w_app (j := 2) O rfl k hz
/-! loops -/
def LoopEnd (J : It) (g : TG) (tb : TS) (D : Ends) (σ : L2.St) (H : Hp) : Prop := ∃ W : Nat → Nat → L2.St → Hp → Prop, (∃ m, W 0 m σ H) ∧ ∀ i m σ H, W i m σ H →
  (J.stop i H ∧ D.nx σ H) ∨ (J.go i H ∧ ∃ N : L2.St → Hp → Prop, (∀ σ' H', N σ' H' → ∃ m', m' < m ∧ W (i + 1) m' σ' H') ∧ ∀ x H', J.yld i H x H' → g x σ H' fun σ2 H2 => tb { D with nx := N, ct := N, bk := D.nx } σ2 H2)
theorem w_for {wi : TI} (h : wi σ H fun J H1 => LoopEnd J g tb ⟨nx, rt, bk, ct⟩ σ H1) : tFor wi g tb ⟨nx, rt, bk, ct⟩ σ H := h
def Rg1 (vs : List V) (H : Hp) (R : It → Hp → Prop) : Prop := ∃ j : Int, vs = [.int j] ∧ -(2 ^ 62) ≤ j ∧ j < 2 ^ 62 ∧ R (Itr 0 j.toNat) H
theorem w_iRng1 {R : It → Hp → Prop} (h : tA σ H fun vs H1 => Rg1 vs H1 R) : iRng1 tA σ H R := h
theorem w_rg1 {n : Int} (hn : -(2 ^ 62) ≤ n ∧ n < 2 ^ 62) (Pv : Nat → L2.St → Hp → Prop) (h0 : Pv 0 σ H)
    (hs : ∀ (i : Nat) σ' H', (i : Int) < n → Pv i σ' H' → g (.int (i : Nat)) σ' H' fun σ2 H2 => tb ⟨Pv (i + 1), rt, nx, Pv (i + 1)⟩ σ2 H2) (hd : ∀ σ' H', Pv n.toNat σ' H' → nx σ' H') :
    Rg1 [.int n] H fun J H1 => LoopEnd J g tb ⟨nx, rt, bk, ct⟩ σ H1 := by
  refine ⟨n, rfl, hn.1, hn.2, for_range (lo := 0) (n := n.toNat) (D := ⟨nx, rt, bk, ct⟩) Pv h0 (fun i σ' H' hi p => ?_) hd⟩
  have q := hs i σ' H' (by omega) p
  rw [show (0 : Int) + (i : Int) = (i : Int) from Int.zero_add _]
  exact q
def Rg2 (vs : List V) (H : Hp) (R : It → Hp → Prop) : Prop := ∃ i j : Int, vs = [.int i, .int j] ∧ (-(2 ^ 62) ≤ i ∧ i < 2 ^ 62 ∧ -(2 ^ 62) ≤ j ∧ j < 2 ^ 62) ∧ R (Itr i (j - i).toNat) H
theorem w_iRng2 {R : It → Hp → Prop} (h : tA σ H fun vs H1 => Rg2 vs H1 R) : iRng2 tA σ H R := h
theorem w_rg2 {b n : Int} (hn : -(2 ^ 62) ≤ b ∧ b < 2 ^ 62 ∧ -(2 ^ 62) ≤ n ∧ n < 2 ^ 62) (Pv : Nat → L2.St → Hp → Prop) (h0 : Pv 0 σ H)
    (hs : ∀ (i : Nat) σ' H', b + (i : Int) < n → Pv i σ' H' → g (.int (b + (i : Nat))) σ' H' fun σ2 H2 => tb ⟨Pv (i + 1), rt, nx, Pv (i + 1)⟩ σ2 H2) (hd : ∀ σ' H', Pv (n - b).toNat σ' H' → nx σ' H') :
    Rg2 [.int b, .int n] H fun J H1 => LoopEnd J g tb ⟨nx, rt, bk, ct⟩ σ H1 :=
  ⟨b, n, rfl, hn, for_range (lo := b) (n := (n - b).toNat) (D := ⟨nx, rt, bk, ct⟩) Pv h0 (fun i σ' H' hi p => hs i σ' H' (by omega) p) hd⟩
def Rg3 (vs : List V) (H : Hp) (R : It → Hp → Prop) : Prop := ∃ (i j c : Int) (n : Nat), vs = [.int i, .int j, .int c] ∧ RgC i j c n ∧ R (Itc i c n) H
theorem w_iRng3 {R : It → Hp → Prop} (h : tA σ H fun vs H1 => Rg3 vs H1 R) : iRng3 tA σ H R := h
theorem w_rg3 {b e c : Int} {n : Nat} (hn : RgC b e c n) (Pv : Nat → L2.St → Hp → Prop) (h0 : Pv 0 σ H)
    (hs : ∀ (i : Nat) σ' H', i < n → Pv i σ' H' → g (.int (b + (i : Nat) * c)) σ' H' fun σ2 H2 => tb ⟨Pv (i + 1), rt, nx, Pv (i + 1)⟩ σ2 H2) (hd : ∀ σ' H', Pv n σ' H' → nx σ' H') :
    Rg3 [.int b, .int e, .int c] H fun J H1 => LoopEnd J g tb ⟨nx, rt, bk, ct⟩ σ H1 :=
  ⟨b, e, c, n, rfl, hn, for_rangeC (lo := b) (c := c) (n := n) (D := ⟨nx, rt, bk, ct⟩) Pv h0 (fun i σ' H' hi p => hs i σ' H' hi p) hd⟩
def FoL (K : PySem.W.Frag) (x : V) (H : Hp) (R : It → Hp → Prop) : Prop := ∃ a, x = .ref a ∧ (∃ xs, SqL K H a xs) ∧ R (Itl K a) H
theorem w_iList {R : It → Hp → Prop} (h : te σ H fun x H1 => FoL K x H1 R) : iList K te σ H R := h
theorem w_foL (Pv : Nat → L2.St → Hp → Prop) (hx : SqL K H a xs) (h0 : Pv 0 σ H) (hl : ∀ i σ' H', i ≤ xs.length → Pv i σ' H' → SqL K H' a xs)
    (hs : ∀ (i : Nat) x σ' H', xs[i]? = some x → Pv i σ' H' → g x σ' H' fun σ2 H2 => tb ⟨Pv (i + 1), rt, nx, Pv (i + 1)⟩ σ2 H2) (hd : ∀ σ' H', Pv xs.length σ' H' → nx σ' H') :
    FoL K (.ref a) H fun J H1 => LoopEnd J g tb ⟨nx, rt, bk, ct⟩ σ H1 :=
  ⟨a, rfl, ⟨xs, hx⟩, for_list (D := ⟨nx, rt, bk, ct⟩) Pv h0 hl (fun i x σ' H' hi p => hs i x σ' H' hi p) hd⟩
def FoT (K : PySem.W.Frag) (x : V) (H : Hp) (R : It → Hp → Prop) : Prop := ∃ a, x = .ref a ∧ (∃ xs, SqT K H a xs) ∧ R (Itt K a) H
theorem w_iTup {R : It → Hp → Prop} (h : te σ H fun x H1 => FoT K x H1 R) : iTup K te σ H R := h
theorem w_foT (Pv : Nat → L2.St → Hp → Prop) (hx : SqT K H a xs) (h0 : Pv 0 σ H) (hl : ∀ i σ' H', i ≤ xs.length → Pv i σ' H' → SqT K H' a xs)
    (hs : ∀ (i : Nat) x σ' H', xs[i]? = some x → Pv i σ' H' → g x σ' H' fun σ2 H2 => tb ⟨Pv (i + 1), rt, nx, Pv (i + 1)⟩ σ2 H2) (hd : ∀ σ' H', Pv xs.length σ' H' → nx σ' H') :
    FoT K (.ref a) H fun J H1 => LoopEnd J g tb ⟨nx, rt, bk, ct⟩ σ H1 :=
  ⟨a, rfl, ⟨xs, hx⟩, for_tup (D := ⟨nx, rt, bk, ct⟩) Pv h0 hl (fun i x σ' H' hi p => hs i x σ' H' hi p) hd⟩
def FoS (x : V) (H : Hp) (R : It → Hp → Prop) : Prop := ∃ z, x = .str z ∧ R (Its z) H
theorem w_iStr {R : It → Hp → Prop} (h : te σ H fun x H1 => FoS x H1 R) : iStr te σ H R := h
theorem w_foS (Pv : Nat → L2.St → Hp → Prop) (h0 : Pv 0 σ H)
    (hs : ∀ (i : Nat) (c : Nat) σ' H', l[i]? = some c → Pv i σ' H' → g (vS [c]) σ' H' fun σ2 H2 => tb ⟨Pv (i + 1), rt, nx, Pv (i + 1)⟩ σ2 H2) (hd : ∀ σ' H', Pv l.length σ' H' → nx σ' H') :
    FoS (vS l) H fun J H1 => LoopEnd J g tb ⟨nx, rt, bk, ct⟩ σ H1 := by
  refine ⟨S l, rfl, fun i k σ' H' => k = l.length - i ∧ i ≤ l.length ∧ Pv i σ' H', ⟨l.length, by simp, Nat.zero_le _, h0⟩, ?_⟩
  rintro i k σ' H' ⟨rfl, hi, p⟩
  have hsz : (S l).cps.size = l.length := by simp [S]
  by_cases hlt : i < l.length
  · refine .inr ⟨by show i < (S l).cps.size; rw [hsz]; exact hlt, Pv (i + 1), fun σ2 H2 p' => ⟨l.length - (i + 1), by omega, rfl, hlt, p'⟩, ?_⟩
    rintro x H2 ⟨rfl, c, hc, rfl⟩
    refine hs i c σ' _ ?_ p
    simpa [S] using hc
  · have e : i = l.length := by omega
    subst e
    exact .inl ⟨by show (S l).cps.size ≤ l.length; rw [hsz]; exact Nat.le_refl _, hd _ _ p⟩
def FoR (K : PySem.W.Frag) (vs : List V) (H : Hp) (R : It → Hp → Prop) : Prop := ∃ (a : Addr) (xs : List V), vs = [.ref a] ∧ SqL K H a xs ∧ R (Itv K a xs.length) H
theorem w_iRev {R : It → Hp → Prop} (h : tA σ H fun vs H1 => FoR K vs H1 R) : iRev K tA σ H R := h
/-- i: the turns done; the item is the one at length - 1 - i -/
theorem w_foR (Pv : Nat → L2.St → Hp → Prop) (hx : SqL K H a xs) (h0 : Pv 0 σ H) (hl : ∀ i σ' H', Pv i σ' H' → SqL K H' a xs)
    (hs : ∀ (i : Nat) x σ' H', i < xs.length → xs[xs.length - 1 - i]? = some x → Pv i σ' H' → g x σ' H' fun σ2 H2 => tb ⟨Pv (i + 1), rt, nx, Pv (i + 1)⟩ σ2 H2) (hd : ∀ σ' H', Pv xs.length σ' H' → nx σ' H') :
    FoR K [.ref a] H fun J H1 => LoopEnd J g tb ⟨nx, rt, bk, ct⟩ σ H1 := by
  refine ⟨a, xs, rfl, hx, fun i k σ' H' => k = xs.length - i ∧ i ≤ xs.length ∧ Pv i σ' H', ⟨xs.length, by simp, Nat.zero_le _, h0⟩, ?_⟩
  rintro i k σ' H' ⟨rfl, hi, p⟩
  by_cases hlt : i < xs.length
  · have hs1 : SqL K H' a xs := hl i σ' H' p
    have hg : xs[xs.length - 1 - i]? = some (xs[xs.length - 1 - i]'(by omega)) := List.getElem?_eq_getElem (by omega)
    refine .inr ⟨⟨hlt, xs, _, hs1, hg⟩, Pv (i + 1), fun σ2 H2 p' => ⟨xs.length - (i + 1), by omega, rfl, hlt, p'⟩, ?_⟩
    rintro x H2 ⟨rfl, hx2⟩
    exact hs i x σ' _ hlt (hx2 xs hs1) p
  · have e : i = xs.length := by omega
    subst e
    exact .inl ⟨Nat.le_refl _, hd _ _ p⟩
def FoE (K : PySem.W.Frag) (vs : List V) (H : Hp) (R : It → Hp → Prop) : Prop := ∃ (a : Addr) (xs : List V), vs = [.ref a] ∧ SqL K H a xs ∧ R (Ite K a) H
theorem w_iEnum {R : It → Hp → Prop} (h : tA σ H fun vs H1 => FoE K vs H1 R) : iEnum K tA σ H R := h
theorem w_foE (Pv : Nat → L2.St → Hp → Prop) (hx : SqL K H a xs) (h0 : Pv 0 σ H) (hl : ∀ i σ' H', Pv i σ' H' → SqL K H' a xs)
    (hs : ∀ (i : Nat) x σ' H' T, xs[i]? = some x → Pv i σ' H' → H' T = none → g (.ref T) σ' (upd H' T (.tup [.int (i : Nat), x])) fun σ2 H2 => tb ⟨Pv (i + 1), rt, nx, Pv (i + 1)⟩ σ2 H2) (hd : ∀ σ' H', Pv xs.length σ' H' → nx σ' H') :
    FoE K [.ref a] H fun J H1 => LoopEnd J g tb ⟨nx, rt, bk, ct⟩ σ H1 := by
  refine ⟨a, xs, rfl, hx, fun i k σ' H' => k = xs.length - i ∧ i ≤ xs.length ∧ Pv i σ' H', ⟨xs.length, by simp, Nat.zero_le _, h0⟩, ?_⟩
  rintro i k σ' H' ⟨rfl, hi, p⟩
  have hs1 : SqL K H' a xs := hl i σ' H' p
  by_cases hlt : i < xs.length
  · refine .inr ⟨⟨xs, _, hs1, List.getElem?_eq_getElem hlt⟩, Pv (i + 1), fun σ2 H2 p' => ⟨xs.length - (i + 1), by omega, rfl, hlt, p'⟩, ?_⟩
    rintro v H2 ⟨T, x, rfl, nT, rfl, hx2⟩
    exact hs i x σ' H' T (hx2 xs hs1) p nT
  · have e : i = xs.length := by omega
    subst e
    exact .inl ⟨⟨xs, hs1, Nat.le_refl _⟩, hd _ _ p⟩
/-- while: Pv with a number that falls -/
theorem w_while (Pv : Nat → L2.St → Hp → Prop) (m0 : Nat) (h0 : Pv m0 σ H) {c : TT}
    (hs : ∀ m σ' H', Pv m σ' H' → c σ' H' fun b H1 => if b = true then tb ⟨fun σ2 H2 => ∃ m', m' < m ∧ Pv m' σ2 H2, rt, nx, fun σ2 H2 => ∃ m', m' < m ∧ Pv m' σ2 H2⟩ σ' H1 else nx σ' H1)
    (mono : ∀ σ H (Q Q' : Bool → Hp → Prop), (∀ b H1, Q b H1 → Q' b H1) → c σ H Q → c σ H Q') : tWhile c tb ⟨nx, rt, bk, ct⟩ σ H := by
  refine ⟨Pv, ⟨m0, h0⟩, fun m σ' H' p => mono σ' H' _ _ (fun b H1 q => ?_) (hs m σ' H' p)⟩
  cases b with
  | true => exact ⟨_, fun _ _ z => z, q⟩
  | false => exact q
/-! comprehensions -/
def LcEnd (J : It) (g : TG) (tt : TT) (te : TE) (vs : List Nat) (σ : L2.St) (H1 : Hp) (Q : VK) : Prop := ∀ D, H1 D = none → ∃ W : Nat → Nat → Hp → Prop, (∃ m, W 0 m (upd H1 D (.lst []))) ∧ ∀ i m H, W i m H →
  (J.stop i H ∧ Q (.ref D) H) ∨ (J.go i H ∧ ∃ Nx : Hp → Prop, (∀ H', Nx H' → ∃ m', m' < m ∧ W (i + 1) m' H') ∧ ∀ x H', J.yld i H x H' → g x (wipe σ vs) H' fun σ2 H2 => wipe σ2 vs = wipe σ vs ∧ tt σ2 H2 fun b H3 =>
    if b = true then te σ2 H3 fun y H4 => ∃ acc, H4 D = some (.lst acc) ∧ acc.length < sizeLine ∧ Nx (upd H4 D (.lst (acc ++ [y]))) else Nx H3)
theorem w_lc {wi : TI} {tt : TT} {vs : List Nat} (h : wi σ H fun J H1 => LcEnd J g tt te vs σ H1 Q) : tLc wi g tt te vs σ H Q := h
/-- the item is put behind the list at D -/
def Put (D : Addr) (N : Hp → Prop) (y : V) (H4 : Hp) : Prop := ∃ acc, H4 D = some (.lst acc) ∧ acc.length < sizeLine ∧ N (upd H4 D (.lst (acc ++ [y])))
/-- what holds between two turns of a comprehension -/
def Btw (F0 H0 F : Hp) (L : List (Addr × HO)) (C : List Ck) (D : Addr) (Iv : List V → Hp → Prop) (H' : Hp) : Prop := ∃ F' acc, Own F0 H0 F' H' ((D, .lst acc) :: L) C ∧ Same F F' ∧ Iv acc F'
theorem w_put {Iv : List V → Hp → Prop} {D : Addr} {acc : List V} {F1 : Hp} (O : Own F0 H0 F1 H ((D, .lst acc) :: L) C) (sF : Same F F1) (hI : Iv (acc ++ [y]) F1) (hz : acc.length < sizeLine) : Put D (Btw F0 H0 F L C D Iv) y H :=
  ⟨acc, O.at_ 0, hz, F1, _, O.set 0 rfl _, sF, hI⟩
theorem w_skip {Iv : List V → Hp → Prop} {D : Addr} {acc : List V} {F1 : Hp} (O : Own F0 H0 F1 H ((D, .lst acc) :: L) C) (sF : Same F F1) (hI : Iv acc F1) : Btw F0 H0 F L C D Iv H := ⟨F1, acc, O, sF, hI⟩
theorem w_yes {Q : Bool → Hp → Prop} (h : Q true H) : tYes σ H Q := h
theorem w_iteT {A B : Prop} (h : A) : if true = true then A else B := by rw [if_pos rfl]; exact h
theorem w_iteF {A B : Prop} (h : B) : if false = true then A else B := by rw [if_neg Bool.false_ne_true]; exact h
theorem lc_any {J : It} {tt : TT} {vs : List Nat} (n : Nat) (Y : Nat → V → Prop) (O : Own F0 H0 F H L C) (Iv : Nat → List V → Hp → Prop) (h0 : Iv 0 [] F)
    (go : ∀ i H' F' acc D, i < n → Own F0 H0 F' H' ((D, .lst acc) :: L) C → Same F F' → J.go i H') (stop : ∀ H' F' acc D, Own F0 H0 F' H' ((D, .lst acc) :: L) C → Same F F' → J.stop n H')
    (yld : ∀ i x H' H2 F' acc D, i < n → Own F0 H0 F' H' ((D, .lst acc) :: L) C → Same F F' → J.yld i H' x H2 → H2 = H' ∧ Y i x)
    (turn : ∀ (i : Nat) x acc D F' H', i < n → Y i x → Iv i acc F' → Same F F' → Own F0 H0 F' H' ((D, .lst acc) :: L) C → g x (wipe σ vs) H' fun σ2 H2 => wipe σ2 vs = wipe σ vs ∧ tt σ2 H2 fun b H3 =>
      if b = true then te σ2 H3 (Put D (Btw F0 H0 F L C D (Iv (i + 1)))) else Btw F0 H0 F L C D (Iv (i + 1)) H3)
    (done : ∀ acc D F' H', Iv n acc F' → Same F F' → Own F0 H0 F' H' ((D, .lst acc) :: L) C → Q (.ref D) H') :
    LcEnd J g tt te vs σ H Q := by
  intro D hD
  refine ⟨fun i k H' => k = n - i ∧ i ≤ n ∧ Btw F0 H0 F L C D (Iv i) H', ⟨n, by omega, Nat.zero_le _, F, [], O.alloc hD _, Same.refl _, h0⟩, ?_⟩
  rintro i k H' ⟨rfl, hi, F', acc, O', sF, hI⟩
  by_cases hlt : i < n
  · refine .inr ⟨go i H' F' acc D hlt O' sF, Btw F0 H0 F L C D (Iv (i + 1)), fun H2 p' => ⟨n - (i + 1), by omega, rfl, hlt, p'⟩, fun x H2 hy => ?_⟩
    obtain ⟨rfl, hY⟩ := yld i x H' H2 F' acc D hlt O' sF hy
    exact turn i x acc D F' _ hlt hY hI sF O'
  · have e : i = n := by omega
    subst e
    exact .inl ⟨stop H' F' acc D O' sF, done acc D F' H' hI sF O'⟩
/-- [te for x in xs], xs a list that the frozen part or another own object holds -/
theorem w_lcL {tt : TT} {vs : List Nat} (O : Own F0 H0 F H L C) (hx : SqL K H a xs) (hl : ∀ {F' H' acc D}, Own F0 H0 F' H' ((D, .lst acc) :: L) C → Same F F' → SqL K H' a xs) (Iv : Nat → List V → Hp → Prop) (h0 : Iv 0 [] F)
    (turn : ∀ (i : Nat) x acc D F' H', xs[i]? = some x → Iv i acc F' → Same F F' → Own F0 H0 F' H' ((D, .lst acc) :: L) C → g x (wipe σ vs) H' fun σ2 H2 => wipe σ2 vs = wipe σ vs ∧ tt σ2 H2 fun b H3 =>
      if b = true then te σ2 H3 (Put D (Btw F0 H0 F L C D (Iv (i + 1)))) else Btw F0 H0 F L C D (Iv (i + 1)) H3)
    (done : ∀ acc D F' H', Iv xs.length acc F' → Same F F' → Own F0 H0 F' H' ((D, .lst acc) :: L) C → Q (.ref D) H') :
    FoL K (.ref a) H fun J H1 => LcEnd J g tt te vs σ H1 Q := by
  refine ⟨a, rfl, ⟨xs, hx⟩, lc_any xs.length (fun i x => xs[i]? = some x) O Iv h0 (fun i H' F' acc D hi O' sF => ?_) (fun H' F' acc D O' sF => ⟨xs, hl O' sF, Nat.le_refl _⟩) (fun i x H' H2 F' acc D hi O' sF hy => ⟨hy.1, hy.2 xs (hl O' sF)⟩) (fun i x acc D F' H' _ hY => turn i x acc D F' H' hY) done⟩
  exact ⟨xs, _, hl O' sF, List.getElem?_eq_getElem hi⟩
theorem w_lcT {tt : TT} {vs : List Nat} (O : Own F0 H0 F H L C) (hx : SqT K H a xs) (hl : ∀ {F' H' acc D}, Own F0 H0 F' H' ((D, .lst acc) :: L) C → Same F F' → SqT K H' a xs) (Iv : Nat → List V → Hp → Prop) (h0 : Iv 0 [] F)
    (turn : ∀ (i : Nat) x acc D F' H', xs[i]? = some x → Iv i acc F' → Same F F' → Own F0 H0 F' H' ((D, .lst acc) :: L) C → g x (wipe σ vs) H' fun σ2 H2 => wipe σ2 vs = wipe σ vs ∧ tt σ2 H2 fun b H3 =>
      if b = true then te σ2 H3 (Put D (Btw F0 H0 F L C D (Iv (i + 1)))) else Btw F0 H0 F L C D (Iv (i + 1)) H3)
    (done : ∀ acc D F' H', Iv xs.length acc F' → Same F F' → Own F0 H0 F' H' ((D, .lst acc) :: L) C → Q (.ref D) H') :
    FoT K (.ref a) H fun J H1 => LcEnd J g tt te vs σ H1 Q := by
  refine ⟨a, rfl, ⟨xs, hx⟩, lc_any xs.length (fun i x => xs[i]? = some x) O Iv h0 (fun i H' F' acc D hi O' sF => ?_) (fun H' F' acc D O' sF => ⟨xs, hl O' sF, Nat.le_refl _⟩) (fun i x H' H2 F' acc D hi O' sF hy => ⟨hy.1, hy.2 xs (hl O' sF)⟩) (fun i x acc D F' H' _ hY => turn i x acc D F' H' hY) done⟩
  exact ⟨xs, _, hl O' sF, List.getElem?_eq_getElem hi⟩
theorem w_lcR1 {tt : TT} {vs : List Nat} {n : Int} (O : Own F0 H0 F H L C) (hn : -(2 ^ 62) ≤ n ∧ n < 2 ^ 62) (Iv : Nat → List V → Hp → Prop) (h0 : Iv 0 [] F)
    (turn : ∀ (i : Nat) acc D F' H', (i : Int) < n → Iv i acc F' → Same F F' → Own F0 H0 F' H' ((D, .lst acc) :: L) C → g (.int (i : Nat)) (wipe σ vs) H' fun σ2 H2 => wipe σ2 vs = wipe σ vs ∧ tt σ2 H2 fun b H3 =>
      if b = true then te σ2 H3 (Put D (Btw F0 H0 F L C D (Iv (i + 1)))) else Btw F0 H0 F L C D (Iv (i + 1)) H3)
    (done : ∀ acc D F' H', Iv n.toNat acc F' → Same F F' → Own F0 H0 F' H' ((D, .lst acc) :: L) C → Q (.ref D) H') :
    Rg1 [.int n] H fun J H1 => LcEnd J g tt te vs σ H1 Q := by
  refine ⟨n, rfl, hn.1, hn.2, lc_any n.toNat (fun i x => x = .int (i : Nat)) O Iv h0 (fun i H' F' acc D hi O' sF => hi) (fun H' F' acc D O' sF => Nat.le_refl _) (fun i x H' H2 F' acc D hi O' sF hy => ⟨hy.1, by rw [hy.2, Int.zero_add]⟩) (fun i x acc D F' H' hi hY => ?_) done⟩
  intro h1 h2 h3
  rw [show x = .int (i : Nat) from hY]
  exact turn i acc D F' H' (by omega) h1 h2 h3
theorem w_lcS {tt : TT} {vs : List Nat} (O : Own F0 H0 F H L C) (Iv : Nat → List V → Hp → Prop) (h0 : Iv 0 [] F)
    (turn : ∀ (i : Nat) (c : Nat) acc D F' H', l[i]? = some c → Iv i acc F' → Same F F' → Own F0 H0 F' H' ((D, .lst acc) :: L) C → g (vS [c]) (wipe σ vs) H' fun σ2 H2 => wipe σ2 vs = wipe σ vs ∧ tt σ2 H2 fun b H3 =>
      if b = true then te σ2 H3 (Put D (Btw F0 H0 F L C D (Iv (i + 1)))) else Btw F0 H0 F L C D (Iv (i + 1)) H3)
    (done : ∀ acc D F' H', Iv l.length acc F' → Same F F' → Own F0 H0 F' H' ((D, .lst acc) :: L) C → Q (.ref D) H') :
    FoS (vS l) H fun J H1 => LcEnd J g tt te vs σ H1 Q := by
  have hsz : (S l).cps.size = l.length := by simp [S]
  refine ⟨S l, rfl, lc_any l.length (fun i x => ∃ c, l[i]? = some c ∧ x = vS [c]) O Iv h0 (fun i H' F' acc D hi O' sF => ?_) (fun H' F' acc D O' sF => ?_) (fun i x H' H2 F' acc D hi O' sF hy => ?_) (fun i x acc D F' H' hi hY => ?_) done⟩
  · show i < (S l).cps.size
    rw [hsz]; exact hi
  · show (S l).cps.size ≤ l.length
    rw [hsz]; exact Nat.le_refl _
  · obtain ⟨h1, c, hc, rfl⟩ := hy
    exact ⟨h1, c, by simpa [S] using hc, rfl⟩
  · obtain ⟨c, hc, rfl⟩ := hY
    exact turn i c acc D F' H' hc
end

/-! ### defs -/
section
variable {P : Program} {w : World} {K : PySem.W.Frag} {mg : Str → Option Value} {base : Heap}
theorem dn_mk {x q : Str} {st : Stmt} {f : Addr} {N ps : List Str} {k : Nat} {sp : Sp} (F : ∃ fd, FnP K x q st f fd) (S : FnScope N ps (defScope st))
    (hb : ∀ (kV doc pm : Value) (an : Option Addr) (cdv ct : Value) (us : List Value), us.length = ps.length → bindArgs (PySem.W.fnOf x q (defArgs st) (defBody st) (defScope st) .none kV doc pm an cdv ct) ⟨us, []⟩ = pure (ps.zip us))
    (len : ∀ vs H Q E, sp vs H Q E → vs.length = ps.length)
    (hbody : ∀ (cdv : Value) (A : Around) (outer : List Env) (s : Shared) (H : Hp) (vs : List V) (Q : VK) (E : XK), Room k (A.deeper (envOfC q (defScope st) s.heap.objs.size f cdv)) → sp vs H Q E →
      ∃ t, PSs (cxOf CX0 P w K mg base N q (defScope st) f cdv A outer s H E).nox (defBody st) t ∧ t ⟨fun _ H' => Q .non H', Q, fun _ _ => False, fun _ _ => False⟩ (start N vs) H) : Dn P w K mg base (k + 1) f ps sp := by
  obtain ⟨fd, F⟩ := F
  refine ⟨fd, F.ok S len fun cdv A outer s H vs Q E hr hsp => ?_, F.bindsN hb, F.kp, ?_⟩
  · obtain ⟨t, h, q⟩ := hbody cdv A outer s H vs Q E hr hsp
    exact ⟨t, h.nox, q⟩
  · obtain ⟨oc, od, dV, kV, doc, pm, an, cdv, ct, osl, e, lk, _⟩ := F.ex
    exact ⟨_, _, _, lk⟩
theorem lk_same {f : Addr} {fd fd' : FuncData} (h : Lk K f fd) (h' : Lk K f fd') : fd = fd' := by
  obtain ⟨oc, od, osl, lk⟩ := h
  obtain ⟨oc', od', osl', lk'⟩ := h'
  rw [lk] at lk'
  injection lk' with e
  injection e with _ _ e _
  injection e
theorem lk_of {x q : Str} {st : Stmt} {f : Addr} {fd : FuncData} (F : FnP K x q st f fd) : Lk K f fd := by
  obtain ⟨oc, od, dV, kV, doc, pm, an, cdv, ct, osl, e, lk, _⟩ := F.ex
  exact ⟨_, _, _, lk⟩
end

/-! ### promises of defs that hand back a plain value -/
def SpecV (A : Hp → Prop) (R : V → Prop) (H : Hp) (Q : VK) : Prop := ∃ F, Same F H ∧ A F ∧ ∀ v H', Same H H' → R v → Q v H'
theorem Own.callV {F0 H0 F H : Hp} {L : List (Addr × HO)} {C : List Ck} {A : Hp → Prop} {R : V → Prop} {Q : VK} (O : Own F0 H0 F H L C) (hA : A F) (k : ∀ v H', R v → Own F0 H0 F H' L C → Q v H') : SpecV A R H Q :=
  ⟨F, O.fh, hA, fun _ _ s r => k _ _ r (O.more s)⟩
theorem Own.retV {F H F' H' : Hp} {L : List (Addr × HO)} {C : List Ck} {R : V → Prop} {Q : VK} {v : V} (O : Own F H F' H' L C) (q : ∀ v H', Same H H' → R v → Q v H') (r : R v) : Q v H' := q _ _ O.hh r

/-! ### items -/
section
variable {H : Hp} {Q : VK} {K : PySem.W.Frag} {a : Addr} {l : List Nat} {ns : List Int} {i : Int}
theorem atI_get {α : Type} {xs : List α} {d : α} (h : 0 ≤ i ∧ i < xs.length) : atI xs i = some (xs.getD i.toNat d) := by
  have e : i = ((i.toNat : Nat) : Int) := (Int.toNat_of_nonneg h.1).symm
  have hl : i.toNat < xs.length := by omega
  have h2 := atI_nat (xs := xs) (j := i.toNat) (v := xs.getD i.toNat d) (by rw [List.getD_eq_getElem?_getD, List.getElem?_eq_getElem hl]; rfl)
  rw [← e] at h2
  exact h2
theorem w_ixN (q : Q (.int (ns.getD i.toNat 0)) H) (hs : SqL K H a (ns.map V.int)) (h : 0 ≤ i ∧ i < ns.length) : rIxL K (.ref a) (.int i) H Q := by
  refine w_ixL q hs ?_
  have h2 := atI_get (xs := ns.map V.int) (d := .int 0) (i := i) (by rw [List.length_map]; exact h)
  rw [h2]
  congr 1
  rw [List.getD_eq_getElem?_getD, List.getD_eq_getElem?_getD, List.getElem?_map]
  cases ns[i.toNat]? <;> rfl
theorem w_ixC (q : Q (vS [l.getD i.toNat 0]) H) (h : 0 ≤ i ∧ i < l.length) (hz : l.length ≤ sizeLine) : rIxSg (vS l) (.int i) H Q := w_ixS q (atI_get h) hz
theorem getD_map_int (ns : List Int) (n : Nat) : (ns.map V.int).getD n (.int 0) = .int (ns.getD n 0) := by
  rw [List.getD_eq_getElem?_getD, List.getD_eq_getElem?_getD, List.getElem?_map]
  cases ns[n]? <;> rfl
theorem getD_mem {α : Type} {xs : List α} {n : Nat} {d : α} (h : n < xs.length) : xs.getD n d ∈ xs := by
  rw [List.getD_eq_getElem?_getD, List.getElem?_eq_getElem h]
  exact List.getElem_mem h
end
end Fw

namespace Fw
open PySem PySem.Spec PyProof.Rows L2
/-! ### the same steps as equations -/
section
variable {nx bk ct : L2.St → Hp → Prop} {rt : VK} {t u tb : TS} {H : Hp} {te ta tc : TE} {Q : VK} {v x y : V} {g : TG} {tt tt' : TT} {tA : TA} {K : PySem.W.Frag} {σs : L2.St}

theorem q_var0 {σ : L2.St} : tVar 0 (some v :: σ) H Q = Q v H := propext ⟨fun ⟨_, e, q⟩ => by cases (show some v = some _ from Option.some.inj e); exact q, fun q => ⟨v, rfl, q⟩⟩
theorem q_asg0 {o : Option V} {σ : L2.St} : tAsg te (gName 0) ⟨nx, rt, bk, ct⟩ (o :: σ) H = te (o :: σ) H fun x H1 => nx (some x :: σ) H1 := rfl
theorem q_gn0 {o : Option V} {σ : L2.St} {R : L2.St → Hp → Prop} : gName 0 v (o :: σ) H R = R (some v :: σ) H := rfl
theorem q_aug0 {f : Int → Int → Int} {a : Int} {σ : L2.St} : tAug 0 te (ipI f) ⟨nx, rt, bk, ct⟩ (some (.int a) :: σ) H = te (some (.int a) :: σ) H fun y H1 => ∃ b, y = .int b ∧ nx (some (.int (f a b)) :: σ) H1 := by
  have e : (fun y H1 => ∃ b, y = V.int b ∧ nx (some (.int (f a b)) :: σ) H1) = (fun y H1 => ipI f (.int a) y H1 fun z H2 => nx (some z :: σ) H2) := by
    funext y H1
    exact propext ⟨fun ⟨b, e1, q⟩ => ⟨a, b, rfl, e1, q⟩, fun ⟨a', b, e0, e1, q⟩ => by cases e0; exact ⟨b, e1, q⟩⟩
  rw [e]
  exact propext ⟨fun ⟨x, e, q⟩ => by cases (show some (V.int a) = some _ from Option.some.inj e); exact q, fun q => ⟨_, rfl, q⟩⟩
theorem q_var1 {x0 : Option V} {σ : L2.St} : tVar 1 (x0 :: some v :: σ) H Q = Q v H := propext ⟨fun ⟨_, e, q⟩ => by cases (show some v = some _ from Option.some.inj e); exact q, fun q => ⟨v, rfl, q⟩⟩
theorem q_asg1 {x0 : Option V} {o : Option V} {σ : L2.St} : tAsg te (gName 1) ⟨nx, rt, bk, ct⟩ (x0 :: o :: σ) H = te (x0 :: o :: σ) H fun x H1 => nx (x0 :: some x :: σ) H1 := rfl
theorem q_gn1 {x0 : Option V} {o : Option V} {σ : L2.St} {R : L2.St → Hp → Prop} : gName 1 v (x0 :: o :: σ) H R = R (x0 :: some v :: σ) H := rfl
theorem q_aug1 {x0 : Option V} {f : Int → Int → Int} {a : Int} {σ : L2.St} : tAug 1 te (ipI f) ⟨nx, rt, bk, ct⟩ (x0 :: some (.int a) :: σ) H = te (x0 :: some (.int a) :: σ) H fun y H1 => ∃ b, y = .int b ∧ nx (x0 :: some (.int (f a b)) :: σ) H1 := by
  have e : (fun y H1 => ∃ b, y = V.int b ∧ nx (x0 :: some (.int (f a b)) :: σ) H1) = (fun y H1 => ipI f (.int a) y H1 fun z H2 => nx (x0 :: some z :: σ) H2) := by
    funext y H1
    exact propext ⟨fun ⟨b, e1, q⟩ => ⟨a, b, rfl, e1, q⟩, fun ⟨a', b, e0, e1, q⟩ => by cases e0; exact ⟨b, e1, q⟩⟩
  rw [e]
  exact propext ⟨fun ⟨x, e, q⟩ => by cases (show some (V.int a) = some _ from Option.some.inj e); exact q, fun q => ⟨_, rfl, q⟩⟩
theorem q_var2 {x0 x1 : Option V} {σ : L2.St} : tVar 2 (x0 :: x1 :: some v :: σ) H Q = Q v H := propext ⟨fun ⟨_, e, q⟩ => by cases (show some v = some _ from Option.some.inj e); exact q, fun q => ⟨v, rfl, q⟩⟩
theorem q_asg2 {x0 x1 : Option V} {o : Option V} {σ : L2.St} : tAsg te (gName 2) ⟨nx, rt, bk, ct⟩ (x0 :: x1 :: o :: σ) H = te (x0 :: x1 :: o :: σ) H fun x H1 => nx (x0 :: x1 :: some x :: σ) H1 := rfl
theorem q_gn2 {x0 x1 : Option V} {o : Option V} {σ : L2.St} {R : L2.St → Hp → Prop} : gName 2 v (x0 :: x1 :: o :: σ) H R = R (x0 :: x1 :: some v :: σ) H := rfl
theorem q_aug2 {x0 x1 : Option V} {f : Int → Int → Int} {a : Int} {σ : L2.St} : tAug 2 te (ipI f) ⟨nx, rt, bk, ct⟩ (x0 :: x1 :: some (.int a) :: σ) H = te (x0 :: x1 :: some (.int a) :: σ) H fun y H1 => ∃ b, y = .int b ∧ nx (x0 :: x1 :: some (.int (f a b)) :: σ) H1 := by
  have e : (fun y H1 => ∃ b, y = V.int b ∧ nx (x0 :: x1 :: some (.int (f a b)) :: σ) H1) = (fun y H1 => ipI f (.int a) y H1 fun z H2 => nx (x0 :: x1 :: some z :: σ) H2) := by
    funext y H1
    exact propext ⟨fun ⟨b, e1, q⟩ => ⟨a, b, rfl, e1, q⟩, fun ⟨a', b, e0, e1, q⟩ => by cases e0; exact ⟨b, e1, q⟩⟩
  rw [e]
  exact propext ⟨fun ⟨x, e, q⟩ => by cases (show some (V.int a) = some _ from Option.some.inj e); exact q, fun q => ⟨_, rfl, q⟩⟩
theorem q_var3 {x0 x1 x2 : Option V} {σ : L2.St} : tVar 3 (x0 :: x1 :: x2 :: some v :: σ) H Q = Q v H := propext ⟨fun ⟨_, e, q⟩ => by cases (show some v = some _ from Option.some.inj e); exact q, fun q => ⟨v, rfl, q⟩⟩
theorem q_asg3 {x0 x1 x2 : Option V} {o : Option V} {σ : L2.St} : tAsg te (gName 3) ⟨nx, rt, bk, ct⟩ (x0 :: x1 :: x2 :: o :: σ) H = te (x0 :: x1 :: x2 :: o :: σ) H fun x H1 => nx (x0 :: x1 :: x2 :: some x :: σ) H1 := rfl
theorem q_gn3 {x0 x1 x2 : Option V} {o : Option V} {σ : L2.St} {R : L2.St → Hp → Prop} : gName 3 v (x0 :: x1 :: x2 :: o :: σ) H R = R (x0 :: x1 :: x2 :: some v :: σ) H := rfl
theorem q_aug3 {x0 x1 x2 : Option V} {f : Int → Int → Int} {a : Int} {σ : L2.St} : tAug 3 te (ipI f) ⟨nx, rt, bk, ct⟩ (x0 :: x1 :: x2 :: some (.int a) :: σ) H = te (x0 :: x1 :: x2 :: some (.int a) :: σ) H fun y H1 => ∃ b, y = .int b ∧ nx (x0 :: x1 :: x2 :: some (.int (f a b)) :: σ) H1 := by
  have e : (fun y H1 => ∃ b, y = V.int b ∧ nx (x0 :: x1 :: x2 :: some (.int (f a b)) :: σ) H1) = (fun y H1 => ipI f (.int a) y H1 fun z H2 => nx (x0 :: x1 :: x2 :: some z :: σ) H2) := by
    funext y H1
    exact propext ⟨fun ⟨b, e1, q⟩ => ⟨a, b, rfl, e1, q⟩, fun ⟨a', b, e0, e1, q⟩ => by cases e0; exact ⟨b, e1, q⟩⟩
  rw [e]
  exact propext ⟨fun ⟨x, e, q⟩ => by cases (show some (V.int a) = some _ from Option.some.inj e); exact q, fun q => ⟨_, rfl, q⟩⟩
theorem q_var4 {x0 x1 x2 x3 : Option V} {σ : L2.St} : tVar 4 (x0 :: x1 :: x2 :: x3 :: some v :: σ) H Q = Q v H := propext ⟨fun ⟨_, e, q⟩ => by cases (show some v = some _ from Option.some.inj e); exact q, fun q => ⟨v, rfl, q⟩⟩
theorem q_asg4 {x0 x1 x2 x3 : Option V} {o : Option V} {σ : L2.St} : tAsg te (gName 4) ⟨nx, rt, bk, ct⟩ (x0 :: x1 :: x2 :: x3 :: o :: σ) H = te (x0 :: x1 :: x2 :: x3 :: o :: σ) H fun x H1 => nx (x0 :: x1 :: x2 :: x3 :: some x :: σ) H1 := rfl
theorem q_gn4 {x0 x1 x2 x3 : Option V} {o : Option V} {σ : L2.St} {R : L2.St → Hp → Prop} : gName 4 v (x0 :: x1 :: x2 :: x3 :: o :: σ) H R = R (x0 :: x1 :: x2 :: x3 :: some v :: σ) H := rfl
theorem q_aug4 {x0 x1 x2 x3 : Option V} {f : Int → Int → Int} {a : Int} {σ : L2.St} : tAug 4 te (ipI f) ⟨nx, rt, bk, ct⟩ (x0 :: x1 :: x2 :: x3 :: some (.int a) :: σ) H = te (x0 :: x1 :: x2 :: x3 :: some (.int a) :: σ) H fun y H1 => ∃ b, y = .int b ∧ nx (x0 :: x1 :: x2 :: x3 :: some (.int (f a b)) :: σ) H1 := by
  have e : (fun y H1 => ∃ b, y = V.int b ∧ nx (x0 :: x1 :: x2 :: x3 :: some (.int (f a b)) :: σ) H1) = (fun y H1 => ipI f (.int a) y H1 fun z H2 => nx (x0 :: x1 :: x2 :: x3 :: some z :: σ) H2) := by
    funext y H1
    exact propext ⟨fun ⟨b, e1, q⟩ => ⟨a, b, rfl, e1, q⟩, fun ⟨a', b, e0, e1, q⟩ => by cases e0; exact ⟨b, e1, q⟩⟩
  rw [e]
  exact propext ⟨fun ⟨x, e, q⟩ => by cases (show some (V.int a) = some _ from Option.some.inj e); exact q, fun q => ⟨_, rfl, q⟩⟩
theorem q_var5 {x0 x1 x2 x3 x4 : Option V} {σ : L2.St} : tVar 5 (x0 :: x1 :: x2 :: x3 :: x4 :: some v :: σ) H Q = Q v H := propext ⟨fun ⟨_, e, q⟩ => by cases (show some v = some _ from Option.some.inj e); exact q, fun q => ⟨v, rfl, q⟩⟩
theorem q_asg5 {x0 x1 x2 x3 x4 : Option V} {o : Option V} {σ : L2.St} : tAsg te (gName 5) ⟨nx, rt, bk, ct⟩ (x0 :: x1 :: x2 :: x3 :: x4 :: o :: σ) H = te (x0 :: x1 :: x2 :: x3 :: x4 :: o :: σ) H fun x H1 => nx (x0 :: x1 :: x2 :: x3 :: x4 :: some x :: σ) H1 := rfl
theorem q_gn5 {x0 x1 x2 x3 x4 : Option V} {o : Option V} {σ : L2.St} {R : L2.St → Hp → Prop} : gName 5 v (x0 :: x1 :: x2 :: x3 :: x4 :: o :: σ) H R = R (x0 :: x1 :: x2 :: x3 :: x4 :: some v :: σ) H := rfl
theorem q_aug5 {x0 x1 x2 x3 x4 : Option V} {f : Int → Int → Int} {a : Int} {σ : L2.St} : tAug 5 te (ipI f) ⟨nx, rt, bk, ct⟩ (x0 :: x1 :: x2 :: x3 :: x4 :: some (.int a) :: σ) H = te (x0 :: x1 :: x2 :: x3 :: x4 :: some (.int a) :: σ) H fun y H1 => ∃ b, y = .int b ∧ nx (x0 :: x1 :: x2 :: x3 :: x4 :: some (.int (f a b)) :: σ) H1 := by
  have e : (fun y H1 => ∃ b, y = V.int b ∧ nx (x0 :: x1 :: x2 :: x3 :: x4 :: some (.int (f a b)) :: σ) H1) = (fun y H1 => ipI f (.int a) y H1 fun z H2 => nx (x0 :: x1 :: x2 :: x3 :: x4 :: some z :: σ) H2) := by
    funext y H1
    exact propext ⟨fun ⟨b, e1, q⟩ => ⟨a, b, rfl, e1, q⟩, fun ⟨a', b, e0, e1, q⟩ => by cases e0; exact ⟨b, e1, q⟩⟩
  rw [e]
  exact propext ⟨fun ⟨x, e, q⟩ => by cases (show some (V.int a) = some _ from Option.some.inj e); exact q, fun q => ⟨_, rfl, q⟩⟩
theorem q_var6 {x0 x1 x2 x3 x4 x5 : Option V} {σ : L2.St} : tVar 6 (x0 :: x1 :: x2 :: x3 :: x4 :: x5 :: some v :: σ) H Q = Q v H := propext ⟨fun ⟨_, e, q⟩ => by cases (show some v = some _ from Option.some.inj e); exact q, fun q => ⟨v, rfl, q⟩⟩
theorem q_asg6 {x0 x1 x2 x3 x4 x5 : Option V} {o : Option V} {σ : L2.St} : tAsg te (gName 6) ⟨nx, rt, bk, ct⟩ (x0 :: x1 :: x2 :: x3 :: x4 :: x5 :: o :: σ) H = te (x0 :: x1 :: x2 :: x3 :: x4 :: x5 :: o :: σ) H fun x H1 => nx (x0 :: x1 :: x2 :: x3 :: x4 :: x5 :: some x :: σ) H1 := rfl
theorem q_gn6 {x0 x1 x2 x3 x4 x5 : Option V} {o : Option V} {σ : L2.St} {R : L2.St → Hp → Prop} : gName 6 v (x0 :: x1 :: x2 :: x3 :: x4 :: x5 :: o :: σ) H R = R (x0 :: x1 :: x2 :: x3 :: x4 :: x5 :: some v :: σ) H := rfl
theorem q_aug6 {x0 x1 x2 x3 x4 x5 : Option V} {f : Int → Int → Int} {a : Int} {σ : L2.St} : tAug 6 te (ipI f) ⟨nx, rt, bk, ct⟩ (x0 :: x1 :: x2 :: x3 :: x4 :: x5 :: some (.int a) :: σ) H = te (x0 :: x1 :: x2 :: x3 :: x4 :: x5 :: some (.int a) :: σ) H fun y H1 => ∃ b, y = .int b ∧ nx (x0 :: x1 :: x2 :: x3 :: x4 :: x5 :: some (.int (f a b)) :: σ) H1 := by
  have e : (fun y H1 => ∃ b, y = V.int b ∧ nx (x0 :: x1 :: x2 :: x3 :: x4 :: x5 :: some (.int (f a b)) :: σ) H1) = (fun y H1 => ipI f (.int a) y H1 fun z H2 => nx (x0 :: x1 :: x2 :: x3 :: x4 :: x5 :: some z :: σ) H2) := by
    funext y H1
    exact propext ⟨fun ⟨b, e1, q⟩ => ⟨a, b, rfl, e1, q⟩, fun ⟨a', b, e0, e1, q⟩ => by cases e0; exact ⟨b, e1, q⟩⟩
  rw [e]
  exact propext ⟨fun ⟨x, e, q⟩ => by cases (show some (V.int a) = some _ from Option.some.inj e); exact q, fun q => ⟨_, rfl, q⟩⟩
theorem q_var7 {x0 x1 x2 x3 x4 x5 x6 : Option V} {σ : L2.St} : tVar 7 (x0 :: x1 :: x2 :: x3 :: x4 :: x5 :: x6 :: some v :: σ) H Q = Q v H := propext ⟨fun ⟨_, e, q⟩ => by cases (show some v = some _ from Option.some.inj e); exact q, fun q => ⟨v, rfl, q⟩⟩
theorem q_asg7 {x0 x1 x2 x3 x4 x5 x6 : Option V} {o : Option V} {σ : L2.St} : tAsg te (gName 7) ⟨nx, rt, bk, ct⟩ (x0 :: x1 :: x2 :: x3 :: x4 :: x5 :: x6 :: o :: σ) H = te (x0 :: x1 :: x2 :: x3 :: x4 :: x5 :: x6 :: o :: σ) H fun x H1 => nx (x0 :: x1 :: x2 :: x3 :: x4 :: x5 :: x6 :: some x :: σ) H1 := rfl
theorem q_gn7 {x0 x1 x2 x3 x4 x5 x6 : Option V} {o : Option V} {σ : L2.St} {R : L2.St → Hp → Prop} : gName 7 v (x0 :: x1 :: x2 :: x3 :: x4 :: x5 :: x6 :: o :: σ) H R = R (x0 :: x1 :: x2 :: x3 :: x4 :: x5 :: x6 :: some v :: σ) H := rfl
theorem q_aug7 {x0 x1 x2 x3 x4 x5 x6 : Option V} {f : Int → Int → Int} {a : Int} {σ : L2.St} : tAug 7 te (ipI f) ⟨nx, rt, bk, ct⟩ (x0 :: x1 :: x2 :: x3 :: x4 :: x5 :: x6 :: some (.int a) :: σ) H = te (x0 :: x1 :: x2 :: x3 :: x4 :: x5 :: x6 :: some (.int a) :: σ) H fun y H1 => ∃ b, y = .int b ∧ nx (x0 :: x1 :: x2 :: x3 :: x4 :: x5 :: x6 :: some (.int (f a b)) :: σ) H1 := by
  have e : (fun y H1 => ∃ b, y = V.int b ∧ nx (x0 :: x1 :: x2 :: x3 :: x4 :: x5 :: x6 :: some (.int (f a b)) :: σ) H1) = (fun y H1 => ipI f (.int a) y H1 fun z H2 => nx (x0 :: x1 :: x2 :: x3 :: x4 :: x5 :: x6 :: some z :: σ) H2) := by
    funext y H1
    exact propext ⟨fun ⟨b, e1, q⟩ => ⟨a, b, rfl, e1, q⟩, fun ⟨a', b, e0, e1, q⟩ => by cases e0; exact ⟨b, e1, q⟩⟩
  rw [e]
  exact propext ⟨fun ⟨x, e, q⟩ => by cases (show some (V.int a) = some _ from Option.some.inj e); exact q, fun q => ⟨_, rfl, q⟩⟩
theorem q_var8 {x0 x1 x2 x3 x4 x5 x6 x7 : Option V} {σ : L2.St} : tVar 8 (x0 :: x1 :: x2 :: x3 :: x4 :: x5 :: x6 :: x7 :: some v :: σ) H Q = Q v H := propext ⟨fun ⟨_, e, q⟩ => by cases (show some v = some _ from Option.some.inj e); exact q, fun q => ⟨v, rfl, q⟩⟩
theorem q_asg8 {x0 x1 x2 x3 x4 x5 x6 x7 : Option V} {o : Option V} {σ : L2.St} : tAsg te (gName 8) ⟨nx, rt, bk, ct⟩ (x0 :: x1 :: x2 :: x3 :: x4 :: x5 :: x6 :: x7 :: o :: σ) H = te (x0 :: x1 :: x2 :: x3 :: x4 :: x5 :: x6 :: x7 :: o :: σ) H fun x H1 => nx (x0 :: x1 :: x2 :: x3 :: x4 :: x5 :: x6 :: x7 :: some x :: σ) H1 := rfl
theorem q_gn8 {x0 x1 x2 x3 x4 x5 x6 x7 : Option V} {o : Option V} {σ : L2.St} {R : L2.St → Hp → Prop} : gName 8 v (x0 :: x1 :: x2 :: x3 :: x4 :: x5 :: x6 :: x7 :: o :: σ) H R = R (x0 :: x1 :: x2 :: x3 :: x4 :: x5 :: x6 :: x7 :: some v :: σ) H := rfl
theorem q_aug8 {x0 x1 x2 x3 x4 x5 x6 x7 : Option V} {f : Int → Int → Int} {a : Int} {σ : L2.St} : tAug 8 te (ipI f) ⟨nx, rt, bk, ct⟩ (x0 :: x1 :: x2 :: x3 :: x4 :: x5 :: x6 :: x7 :: some (.int a) :: σ) H = te (x0 :: x1 :: x2 :: x3 :: x4 :: x5 :: x6 :: x7 :: some (.int a) :: σ) H fun y H1 => ∃ b, y = .int b ∧ nx (x0 :: x1 :: x2 :: x3 :: x4 :: x5 :: x6 :: x7 :: some (.int (f a b)) :: σ) H1 := by
  have e : (fun y H1 => ∃ b, y = V.int b ∧ nx (x0 :: x1 :: x2 :: x3 :: x4 :: x5 :: x6 :: x7 :: some (.int (f a b)) :: σ) H1) = (fun y H1 => ipI f (.int a) y H1 fun z H2 => nx (x0 :: x1 :: x2 :: x3 :: x4 :: x5 :: x6 :: x7 :: some z :: σ) H2) := by
    funext y H1
    exact propext ⟨fun ⟨b, e1, q⟩ => ⟨a, b, rfl, e1, q⟩, fun ⟨a', b, e0, e1, q⟩ => by cases e0; exact ⟨b, e1, q⟩⟩
  rw [e]
  exact propext ⟨fun ⟨x, e, q⟩ => by cases (show some (V.int a) = some _ from Option.some.inj e); exact q, fun q => ⟨_, rfl, q⟩⟩
theorem q_var9 {x0 x1 x2 x3 x4 x5 x6 x7 x8 : Option V} {σ : L2.St} : tVar 9 (x0 :: x1 :: x2 :: x3 :: x4 :: x5 :: x6 :: x7 :: x8 :: some v :: σ) H Q = Q v H := propext ⟨fun ⟨_, e, q⟩ => by cases (show some v = some _ from Option.some.inj e); exact q, fun q => ⟨v, rfl, q⟩⟩
theorem q_asg9 {x0 x1 x2 x3 x4 x5 x6 x7 x8 : Option V} {o : Option V} {σ : L2.St} : tAsg te (gName 9) ⟨nx, rt, bk, ct⟩ (x0 :: x1 :: x2 :: x3 :: x4 :: x5 :: x6 :: x7 :: x8 :: o :: σ) H = te (x0 :: x1 :: x2 :: x3 :: x4 :: x5 :: x6 :: x7 :: x8 :: o :: σ) H fun x H1 => nx (x0 :: x1 :: x2 :: x3 :: x4 :: x5 :: x6 :: x7 :: x8 :: some x :: σ) H1 := rfl
theorem q_gn9 {x0 x1 x2 x3 x4 x5 x6 x7 x8 : Option V} {o : Option V} {σ : L2.St} {R : L2.St → Hp → Prop} : gName 9 v (x0 :: x1 :: x2 :: x3 :: x4 :: x5 :: x6 :: x7 :: x8 :: o :: σ) H R = R (x0 :: x1 :: x2 :: x3 :: x4 :: x5 :: x6 :: x7 :: x8 :: some v :: σ) H := rfl
theorem q_aug9 {x0 x1 x2 x3 x4 x5 x6 x7 x8 : Option V} {f : Int → Int → Int} {a : Int} {σ : L2.St} : tAug 9 te (ipI f) ⟨nx, rt, bk, ct⟩ (x0 :: x1 :: x2 :: x3 :: x4 :: x5 :: x6 :: x7 :: x8 :: some (.int a) :: σ) H = te (x0 :: x1 :: x2 :: x3 :: x4 :: x5 :: x6 :: x7 :: x8 :: some (.int a) :: σ) H fun y H1 => ∃ b, y = .int b ∧ nx (x0 :: x1 :: x2 :: x3 :: x4 :: x5 :: x6 :: x7 :: x8 :: some (.int (f a b)) :: σ) H1 := by
  have e : (fun y H1 => ∃ b, y = V.int b ∧ nx (x0 :: x1 :: x2 :: x3 :: x4 :: x5 :: x6 :: x7 :: x8 :: some (.int (f a b)) :: σ) H1) = (fun y H1 => ipI f (.int a) y H1 fun z H2 => nx (x0 :: x1 :: x2 :: x3 :: x4 :: x5 :: x6 :: x7 :: x8 :: some z :: σ) H2) := by
    funext y H1
    exact propext ⟨fun ⟨b, e1, q⟩ => ⟨a, b, rfl, e1, q⟩, fun ⟨a', b, e0, e1, q⟩ => by cases e0; exact ⟨b, e1, q⟩⟩
  rw [e]
  exact propext ⟨fun ⟨x, e, q⟩ => by cases (show some (V.int a) = some _ from Option.some.inj e); exact q, fun q => ⟨_, rfl, q⟩⟩
theorem q_var10 {x0 x1 x2 x3 x4 x5 x6 x7 x8 x9 : Option V} {σ : L2.St} : tVar 10 (x0 :: x1 :: x2 :: x3 :: x4 :: x5 :: x6 :: x7 :: x8 :: x9 :: some v :: σ) H Q = Q v H := propext ⟨fun ⟨_, e, q⟩ => by cases (show some v = some _ from Option.some.inj e); exact q, fun q => ⟨v, rfl, q⟩⟩
theorem q_asg10 {x0 x1 x2 x3 x4 x5 x6 x7 x8 x9 : Option V} {o : Option V} {σ : L2.St} : tAsg te (gName 10) ⟨nx, rt, bk, ct⟩ (x0 :: x1 :: x2 :: x3 :: x4 :: x5 :: x6 :: x7 :: x8 :: x9 :: o :: σ) H = te (x0 :: x1 :: x2 :: x3 :: x4 :: x5 :: x6 :: x7 :: x8 :: x9 :: o :: σ) H fun x H1 => nx (x0 :: x1 :: x2 :: x3 :: x4 :: x5 :: x6 :: x7 :: x8 :: x9 :: some x :: σ) H1 := rfl
theorem q_gn10 {x0 x1 x2 x3 x4 x5 x6 x7 x8 x9 : Option V} {o : Option V} {σ : L2.St} {R : L2.St → Hp → Prop} : gName 10 v (x0 :: x1 :: x2 :: x3 :: x4 :: x5 :: x6 :: x7 :: x8 :: x9 :: o :: σ) H R = R (x0 :: x1 :: x2 :: x3 :: x4 :: x5 :: x6 :: x7 :: x8 :: x9 :: some v :: σ) H := rfl
theorem q_aug10 {x0 x1 x2 x3 x4 x5 x6 x7 x8 x9 : Option V} {f : Int → Int → Int} {a : Int} {σ : L2.St} : tAug 10 te (ipI f) ⟨nx, rt, bk, ct⟩ (x0 :: x1 :: x2 :: x3 :: x4 :: x5 :: x6 :: x7 :: x8 :: x9 :: some (.int a) :: σ) H = te (x0 :: x1 :: x2 :: x3 :: x4 :: x5 :: x6 :: x7 :: x8 :: x9 :: some (.int a) :: σ) H fun y H1 => ∃ b, y = .int b ∧ nx (x0 :: x1 :: x2 :: x3 :: x4 :: x5 :: x6 :: x7 :: x8 :: x9 :: some (.int (f a b)) :: σ) H1 := by
  have e : (fun y H1 => ∃ b, y = V.int b ∧ nx (x0 :: x1 :: x2 :: x3 :: x4 :: x5 :: x6 :: x7 :: x8 :: x9 :: some (.int (f a b)) :: σ) H1) = (fun y H1 => ipI f (.int a) y H1 fun z H2 => nx (x0 :: x1 :: x2 :: x3 :: x4 :: x5 :: x6 :: x7 :: x8 :: x9 :: some z :: σ) H2) := by
    funext y H1
    exact propext ⟨fun ⟨b, e1, q⟩ => ⟨a, b, rfl, e1, q⟩, fun ⟨a', b, e0, e1, q⟩ => by cases e0; exact ⟨b, e1, q⟩⟩
  rw [e]
  exact propext ⟨fun ⟨x, e, q⟩ => by cases (show some (V.int a) = some _ from Option.some.inj e); exact q, fun q => ⟨_, rfl, q⟩⟩
theorem q_var11 {x0 x1 x2 x3 x4 x5 x6 x7 x8 x9 x10 : Option V} {σ : L2.St} : tVar 11 (x0 :: x1 :: x2 :: x3 :: x4 :: x5 :: x6 :: x7 :: x8 :: x9 :: x10 :: some v :: σ) H Q = Q v H := propext ⟨fun ⟨_, e, q⟩ => by cases (show some v = some _ from Option.some.inj e); exact q, fun q => ⟨v, rfl, q⟩⟩
theorem q_asg11 {x0 x1 x2 x3 x4 x5 x6 x7 x8 x9 x10 : Option V} {o : Option V} {σ : L2.St} : tAsg te (gName 11) ⟨nx, rt, bk, ct⟩ (x0 :: x1 :: x2 :: x3 :: x4 :: x5 :: x6 :: x7 :: x8 :: x9 :: x10 :: o :: σ) H = te (x0 :: x1 :: x2 :: x3 :: x4 :: x5 :: x6 :: x7 :: x8 :: x9 :: x10 :: o :: σ) H fun x H1 => nx (x0 :: x1 :: x2 :: x3 :: x4 :: x5 :: x6 :: x7 :: x8 :: x9 :: x10 :: some x :: σ) H1 := rfl
theorem q_gn11 {x0 x1 x2 x3 x4 x5 x6 x7 x8 x9 x10 : Option V} {o : Option V} {σ : L2.St} {R : L2.St → Hp → Prop} : gName 11 v (x0 :: x1 :: x2 :: x3 :: x4 :: x5 :: x6 :: x7 :: x8 :: x9 :: x10 :: o :: σ) H R = R (x0 :: x1 :: x2 :: x3 :: x4 :: x5 :: x6 :: x7 :: x8 :: x9 :: x10 :: some v :: σ) H := rfl
theorem q_aug11 {x0 x1 x2 x3 x4 x5 x6 x7 x8 x9 x10 : Option V} {f : Int → Int → Int} {a : Int} {σ : L2.St} : tAug 11 te (ipI f) ⟨nx, rt, bk, ct⟩ (x0 :: x1 :: x2 :: x3 :: x4 :: x5 :: x6 :: x7 :: x8 :: x9 :: x10 :: some (.int a) :: σ) H = te (x0 :: x1 :: x2 :: x3 :: x4 :: x5 :: x6 :: x7 :: x8 :: x9 :: x10 :: some (.int a) :: σ) H fun y H1 => ∃ b, y = .int b ∧ nx (x0 :: x1 :: x2 :: x3 :: x4 :: x5 :: x6 :: x7 :: x8 :: x9 :: x10 :: some (.int (f a b)) :: σ) H1 := by
  have e : (fun y H1 => ∃ b, y = V.int b ∧ nx (x0 :: x1 :: x2 :: x3 :: x4 :: x5 :: x6 :: x7 :: x8 :: x9 :: x10 :: some (.int (f a b)) :: σ) H1) = (fun y H1 => ipI f (.int a) y H1 fun z H2 => nx (x0 :: x1 :: x2 :: x3 :: x4 :: x5 :: x6 :: x7 :: x8 :: x9 :: x10 :: some z :: σ) H2) := by
    funext y H1
    exact propext ⟨fun ⟨b, e1, q⟩ => ⟨a, b, rfl, e1, q⟩, fun ⟨a', b, e0, e1, q⟩ => by cases e0; exact ⟨b, e1, q⟩⟩
  rw [e]
  exact propext ⟨fun ⟨x, e, q⟩ => by cases (show some (V.int a) = some _ from Option.some.inj e); exact q, fun q => ⟨_, rfl, q⟩⟩
theorem q_var12 {x0 x1 x2 x3 x4 x5 x6 x7 x8 x9 x10 x11 : Option V} {σ : L2.St} : tVar 12 (x0 :: x1 :: x2 :: x3 :: x4 :: x5 :: x6 :: x7 :: x8 :: x9 :: x10 :: x11 :: some v :: σ) H Q = Q v H := propext ⟨fun ⟨_, e, q⟩ => by cases (show some v = some _ from Option.some.inj e); exact q, fun q => ⟨v, rfl, q⟩⟩
theorem q_asg12 {x0 x1 x2 x3 x4 x5 x6 x7 x8 x9 x10 x11 : Option V} {o : Option V} {σ : L2.St} : tAsg te (gName 12) ⟨nx, rt, bk, ct⟩ (x0 :: x1 :: x2 :: x3 :: x4 :: x5 :: x6 :: x7 :: x8 :: x9 :: x10 :: x11 :: o :: σ) H = te (x0 :: x1 :: x2 :: x3 :: x4 :: x5 :: x6 :: x7 :: x8 :: x9 :: x10 :: x11 :: o :: σ) H fun x H1 => nx (x0 :: x1 :: x2 :: x3 :: x4 :: x5 :: x6 :: x7 :: x8 :: x9 :: x10 :: x11 :: some x :: σ) H1 := rfl
theorem q_gn12 {x0 x1 x2 x3 x4 x5 x6 x7 x8 x9 x10 x11 : Option V} {o : Option V} {σ : L2.St} {R : L2.St → Hp → Prop} : gName 12 v (x0 :: x1 :: x2 :: x3 :: x4 :: x5 :: x6 :: x7 :: x8 :: x9 :: x10 :: x11 :: o :: σ) H R = R (x0 :: x1 :: x2 :: x3 :: x4 :: x5 :: x6 :: x7 :: x8 :: x9 :: x10 :: x11 :: some v :: σ) H := rfl
theorem q_aug12 {x0 x1 x2 x3 x4 x5 x6 x7 x8 x9 x10 x11 : Option V} {f : Int → Int → Int} {a : Int} {σ : L2.St} : tAug 12 te (ipI f) ⟨nx, rt, bk, ct⟩ (x0 :: x1 :: x2 :: x3 :: x4 :: x5 :: x6 :: x7 :: x8 :: x9 :: x10 :: x11 :: some (.int a) :: σ) H = te (x0 :: x1 :: x2 :: x3 :: x4 :: x5 :: x6 :: x7 :: x8 :: x9 :: x10 :: x11 :: some (.int a) :: σ) H fun y H1 => ∃ b, y = .int b ∧ nx (x0 :: x1 :: x2 :: x3 :: x4 :: x5 :: x6 :: x7 :: x8 :: x9 :: x10 :: x11 :: some (.int (f a b)) :: σ) H1 := by
  have e : (fun y H1 => ∃ b, y = V.int b ∧ nx (x0 :: x1 :: x2 :: x3 :: x4 :: x5 :: x6 :: x7 :: x8 :: x9 :: x10 :: x11 :: some (.int (f a b)) :: σ) H1) = (fun y H1 => ipI f (.int a) y H1 fun z H2 => nx (x0 :: x1 :: x2 :: x3 :: x4 :: x5 :: x6 :: x7 :: x8 :: x9 :: x10 :: x11 :: some z :: σ) H2) := by
    funext y H1
    exact propext ⟨fun ⟨b, e1, q⟩ => ⟨a, b, rfl, e1, q⟩, fun ⟨a', b, e0, e1, q⟩ => by cases e0; exact ⟨b, e1, q⟩⟩
  rw [e]
  exact propext ⟨fun ⟨x, e, q⟩ => by cases (show some (V.int a) = some _ from Option.some.inj e); exact q, fun q => ⟨_, rfl, q⟩⟩
theorem q_var13 {x0 x1 x2 x3 x4 x5 x6 x7 x8 x9 x10 x11 x12 : Option V} {σ : L2.St} : tVar 13 (x0 :: x1 :: x2 :: x3 :: x4 :: x5 :: x6 :: x7 :: x8 :: x9 :: x10 :: x11 :: x12 :: some v :: σ) H Q = Q v H := propext ⟨fun ⟨_, e, q⟩ => by cases (show some v = some _ from Option.some.inj e); exact q, fun q => ⟨v, rfl, q⟩⟩
theorem q_asg13 {x0 x1 x2 x3 x4 x5 x6 x7 x8 x9 x10 x11 x12 : Option V} {o : Option V} {σ : L2.St} : tAsg te (gName 13) ⟨nx, rt, bk, ct⟩ (x0 :: x1 :: x2 :: x3 :: x4 :: x5 :: x6 :: x7 :: x8 :: x9 :: x10 :: x11 :: x12 :: o :: σ) H = te (x0 :: x1 :: x2 :: x3 :: x4 :: x5 :: x6 :: x7 :: x8 :: x9 :: x10 :: x11 :: x12 :: o :: σ) H fun x H1 => nx (x0 :: x1 :: x2 :: x3 :: x4 :: x5 :: x6 :: x7 :: x8 :: x9 :: x10 :: x11 :: x12 :: some x :: σ) H1 := rfl
theorem q_gn13 {x0 x1 x2 x3 x4 x5 x6 x7 x8 x9 x10 x11 x12 : Option V} {o : Option V} {σ : L2.St} {R : L2.St → Hp → Prop} : gName 13 v (x0 :: x1 :: x2 :: x3 :: x4 :: x5 :: x6 :: x7 :: x8 :: x9 :: x10 :: x11 :: x12 :: o :: σ) H R = R (x0 :: x1 :: x2 :: x3 :: x4 :: x5 :: x6 :: x7 :: x8 :: x9 :: x10 :: x11 :: x12 :: some v :: σ) H := rfl
theorem q_aug13 {x0 x1 x2 x3 x4 x5 x6 x7 x8 x9 x10 x11 x12 : Option V} {f : Int → Int → Int} {a : Int} {σ : L2.St} : tAug 13 te (ipI f) ⟨nx, rt, bk, ct⟩ (x0 :: x1 :: x2 :: x3 :: x4 :: x5 :: x6 :: x7 :: x8 :: x9 :: x10 :: x11 :: x12 :: some (.int a) :: σ) H = te (x0 :: x1 :: x2 :: x3 :: x4 :: x5 :: x6 :: x7 :: x8 :: x9 :: x10 :: x11 :: x12 :: some (.int a) :: σ) H fun y H1 => ∃ b, y = .int b ∧ nx (x0 :: x1 :: x2 :: x3 :: x4 :: x5 :: x6 :: x7 :: x8 :: x9 :: x10 :: x11 :: x12 :: some (.int (f a b)) :: σ) H1 := by
  have e : (fun y H1 => ∃ b, y = V.int b ∧ nx (x0 :: x1 :: x2 :: x3 :: x4 :: x5 :: x6 :: x7 :: x8 :: x9 :: x10 :: x11 :: x12 :: some (.int (f a b)) :: σ) H1) = (fun y H1 => ipI f (.int a) y H1 fun z H2 => nx (x0 :: x1 :: x2 :: x3 :: x4 :: x5 :: x6 :: x7 :: x8 :: x9 :: x10 :: x11 :: x12 :: some z :: σ) H2) := by
    funext y H1
    exact propext ⟨fun ⟨b, e1, q⟩ => ⟨a, b, rfl, e1, q⟩, fun ⟨a', b, e0, e1, q⟩ => by cases e0; exact ⟨b, e1, q⟩⟩
  rw [e]
  exact propext ⟨fun ⟨x, e, q⟩ => by cases (show some (V.int a) = some _ from Option.some.inj e); exact q, fun q => ⟨_, rfl, q⟩⟩
theorem q_var14 {x0 x1 x2 x3 x4 x5 x6 x7 x8 x9 x10 x11 x12 x13 : Option V} {σ : L2.St} : tVar 14 (x0 :: x1 :: x2 :: x3 :: x4 :: x5 :: x6 :: x7 :: x8 :: x9 :: x10 :: x11 :: x12 :: x13 :: some v :: σ) H Q = Q v H := propext ⟨fun ⟨_, e, q⟩ => by cases (show some v = some _ from Option.some.inj e); exact q, fun q => ⟨v, rfl, q⟩⟩
theorem q_asg14 {x0 x1 x2 x3 x4 x5 x6 x7 x8 x9 x10 x11 x12 x13 : Option V} {o : Option V} {σ : L2.St} : tAsg te (gName 14) ⟨nx, rt, bk, ct⟩ (x0 :: x1 :: x2 :: x3 :: x4 :: x5 :: x6 :: x7 :: x8 :: x9 :: x10 :: x11 :: x12 :: x13 :: o :: σ) H = te (x0 :: x1 :: x2 :: x3 :: x4 :: x5 :: x6 :: x7 :: x8 :: x9 :: x10 :: x11 :: x12 :: x13 :: o :: σ) H fun x H1 => nx (x0 :: x1 :: x2 :: x3 :: x4 :: x5 :: x6 :: x7 :: x8 :: x9 :: x10 :: x11 :: x12 :: x13 :: some x :: σ) H1 := rfl
theorem q_gn14 {x0 x1 x2 x3 x4 x5 x6 x7 x8 x9 x10 x11 x12 x13 : Option V} {o : Option V} {σ : L2.St} {R : L2.St → Hp → Prop} : gName 14 v (x0 :: x1 :: x2 :: x3 :: x4 :: x5 :: x6 :: x7 :: x8 :: x9 :: x10 :: x11 :: x12 :: x13 :: o :: σ) H R = R (x0 :: x1 :: x2 :: x3 :: x4 :: x5 :: x6 :: x7 :: x8 :: x9 :: x10 :: x11 :: x12 :: x13 :: some v :: σ) H := rfl
theorem q_aug14 {x0 x1 x2 x3 x4 x5 x6 x7 x8 x9 x10 x11 x12 x13 : Option V} {f : Int → Int → Int} {a : Int} {σ : L2.St} : tAug 14 te (ipI f) ⟨nx, rt, bk, ct⟩ (x0 :: x1 :: x2 :: x3 :: x4 :: x5 :: x6 :: x7 :: x8 :: x9 :: x10 :: x11 :: x12 :: x13 :: some (.int a) :: σ) H = te (x0 :: x1 :: x2 :: x3 :: x4 :: x5 :: x6 :: x7 :: x8 :: x9 :: x10 :: x11 :: x12 :: x13 :: some (.int a) :: σ) H fun y H1 => ∃ b, y = .int b ∧ nx (x0 :: x1 :: x2 :: x3 :: x4 :: x5 :: x6 :: x7 :: x8 :: x9 :: x10 :: x11 :: x12 :: x13 :: some (.int (f a b)) :: σ) H1 := by
  have e : (fun y H1 => ∃ b, y = V.int b ∧ nx (x0 :: x1 :: x2 :: x3 :: x4 :: x5 :: x6 :: x7 :: x8 :: x9 :: x10 :: x11 :: x12 :: x13 :: some (.int (f a b)) :: σ) H1) = (fun y H1 => ipI f (.int a) y H1 fun z H2 => nx (x0 :: x1 :: x2 :: x3 :: x4 :: x5 :: x6 :: x7 :: x8 :: x9 :: x10 :: x11 :: x12 :: x13 :: some z :: σ) H2) := by
    funext y H1
    exact propext ⟨fun ⟨b, e1, q⟩ => ⟨a, b, rfl, e1, q⟩, fun ⟨a', b, e0, e1, q⟩ => by cases e0; exact ⟨b, e1, q⟩⟩
  rw [e]
  exact propext ⟨fun ⟨x, e, q⟩ => by cases (show some (V.int a) = some _ from Option.some.inj e); exact q, fun q => ⟨_, rfl, q⟩⟩
theorem q_var15 {x0 x1 x2 x3 x4 x5 x6 x7 x8 x9 x10 x11 x12 x13 x14 : Option V} {σ : L2.St} : tVar 15 (x0 :: x1 :: x2 :: x3 :: x4 :: x5 :: x6 :: x7 :: x8 :: x9 :: x10 :: x11 :: x12 :: x13 :: x14 :: some v :: σ) H Q = Q v H := propext ⟨fun ⟨_, e, q⟩ => by cases (show some v = some _ from Option.some.inj e); exact q, fun q => ⟨v, rfl, q⟩⟩
theorem q_asg15 {x0 x1 x2 x3 x4 x5 x6 x7 x8 x9 x10 x11 x12 x13 x14 : Option V} {o : Option V} {σ : L2.St} : tAsg te (gName 15) ⟨nx, rt, bk, ct⟩ (x0 :: x1 :: x2 :: x3 :: x4 :: x5 :: x6 :: x7 :: x8 :: x9 :: x10 :: x11 :: x12 :: x13 :: x14 :: o :: σ) H = te (x0 :: x1 :: x2 :: x3 :: x4 :: x5 :: x6 :: x7 :: x8 :: x9 :: x10 :: x11 :: x12 :: x13 :: x14 :: o :: σ) H fun x H1 => nx (x0 :: x1 :: x2 :: x3 :: x4 :: x5 :: x6 :: x7 :: x8 :: x9 :: x10 :: x11 :: x12 :: x13 :: x14 :: some x :: σ) H1 := rfl
theorem q_gn15 {x0 x1 x2 x3 x4 x5 x6 x7 x8 x9 x10 x11 x12 x13 x14 : Option V} {o : Option V} {σ : L2.St} {R : L2.St → Hp → Prop} : gName 15 v (x0 :: x1 :: x2 :: x3 :: x4 :: x5 :: x6 :: x7 :: x8 :: x9 :: x10 :: x11 :: x12 :: x13 :: x14 :: o :: σ) H R = R (x0 :: x1 :: x2 :: x3 :: x4 :: x5 :: x6 :: x7 :: x8 :: x9 :: x10 :: x11 :: x12 :: x13 :: x14 :: some v :: σ) H := rfl
theorem q_aug15 {x0 x1 x2 x3 x4 x5 x6 x7 x8 x9 x10 x11 x12 x13 x14 : Option V} {f : Int → Int → Int} {a : Int} {σ : L2.St} : tAug 15 te (ipI f) ⟨nx, rt, bk, ct⟩ (x0 :: x1 :: x2 :: x3 :: x4 :: x5 :: x6 :: x7 :: x8 :: x9 :: x10 :: x11 :: x12 :: x13 :: x14 :: some (.int a) :: σ) H = te (x0 :: x1 :: x2 :: x3 :: x4 :: x5 :: x6 :: x7 :: x8 :: x9 :: x10 :: x11 :: x12 :: x13 :: x14 :: some (.int a) :: σ) H fun y H1 => ∃ b, y = .int b ∧ nx (x0 :: x1 :: x2 :: x3 :: x4 :: x5 :: x6 :: x7 :: x8 :: x9 :: x10 :: x11 :: x12 :: x13 :: x14 :: some (.int (f a b)) :: σ) H1 := by
  have e : (fun y H1 => ∃ b, y = V.int b ∧ nx (x0 :: x1 :: x2 :: x3 :: x4 :: x5 :: x6 :: x7 :: x8 :: x9 :: x10 :: x11 :: x12 :: x13 :: x14 :: some (.int (f a b)) :: σ) H1) = (fun y H1 => ipI f (.int a) y H1 fun z H2 => nx (x0 :: x1 :: x2 :: x3 :: x4 :: x5 :: x6 :: x7 :: x8 :: x9 :: x10 :: x11 :: x12 :: x13 :: x14 :: some z :: σ) H2) := by
    funext y H1
    exact propext ⟨fun ⟨b, e1, q⟩ => ⟨a, b, rfl, e1, q⟩, fun ⟨a', b, e0, e1, q⟩ => by cases e0; exact ⟨b, e1, q⟩⟩
  rw [e]
  exact propext ⟨fun ⟨x, e, q⟩ => by cases (show some (V.int a) = some _ from Option.some.inj e); exact q, fun q => ⟨_, rfl, q⟩⟩
theorem q_var16 {x0 x1 x2 x3 x4 x5 x6 x7 x8 x9 x10 x11 x12 x13 x14 x15 : Option V} {σ : L2.St} : tVar 16 (x0 :: x1 :: x2 :: x3 :: x4 :: x5 :: x6 :: x7 :: x8 :: x9 :: x10 :: x11 :: x12 :: x13 :: x14 :: x15 :: some v :: σ) H Q = Q v H := propext ⟨fun ⟨_, e, q⟩ => by cases (show some v = some _ from Option.some.inj e); exact q, fun q => ⟨v, rfl, q⟩⟩
theorem q_asg16 {x0 x1 x2 x3 x4 x5 x6 x7 x8 x9 x10 x11 x12 x13 x14 x15 : Option V} {o : Option V} {σ : L2.St} : tAsg te (gName 16) ⟨nx, rt, bk, ct⟩ (x0 :: x1 :: x2 :: x3 :: x4 :: x5 :: x6 :: x7 :: x8 :: x9 :: x10 :: x11 :: x12 :: x13 :: x14 :: x15 :: o :: σ) H = te (x0 :: x1 :: x2 :: x3 :: x4 :: x5 :: x6 :: x7 :: x8 :: x9 :: x10 :: x11 :: x12 :: x13 :: x14 :: x15 :: o :: σ) H fun x H1 => nx (x0 :: x1 :: x2 :: x3 :: x4 :: x5 :: x6 :: x7 :: x8 :: x9 :: x10 :: x11 :: x12 :: x13 :: x14 :: x15 :: some x :: σ) H1 := rfl
theorem q_gn16 {x0 x1 x2 x3 x4 x5 x6 x7 x8 x9 x10 x11 x12 x13 x14 x15 : Option V} {o : Option V} {σ : L2.St} {R : L2.St → Hp → Prop} : gName 16 v (x0 :: x1 :: x2 :: x3 :: x4 :: x5 :: x6 :: x7 :: x8 :: x9 :: x10 :: x11 :: x12 :: x13 :: x14 :: x15 :: o :: σ) H R = R (x0 :: x1 :: x2 :: x3 :: x4 :: x5 :: x6 :: x7 :: x8 :: x9 :: x10 :: x11 :: x12 :: x13 :: x14 :: x15 :: some v :: σ) H := rfl
theorem q_aug16 {x0 x1 x2 x3 x4 x5 x6 x7 x8 x9 x10 x11 x12 x13 x14 x15 : Option V} {f : Int → Int → Int} {a : Int} {σ : L2.St} : tAug 16 te (ipI f) ⟨nx, rt, bk, ct⟩ (x0 :: x1 :: x2 :: x3 :: x4 :: x5 :: x6 :: x7 :: x8 :: x9 :: x10 :: x11 :: x12 :: x13 :: x14 :: x15 :: some (.int a) :: σ) H = te (x0 :: x1 :: x2 :: x3 :: x4 :: x5 :: x6 :: x7 :: x8 :: x9 :: x10 :: x11 :: x12 :: x13 :: x14 :: x15 :: some (.int a) :: σ) H fun y H1 => ∃ b, y = .int b ∧ nx (x0 :: x1 :: x2 :: x3 :: x4 :: x5 :: x6 :: x7 :: x8 :: x9 :: x10 :: x11 :: x12 :: x13 :: x14 :: x15 :: some (.int (f a b)) :: σ) H1 := by
  have e : (fun y H1 => ∃ b, y = V.int b ∧ nx (x0 :: x1 :: x2 :: x3 :: x4 :: x5 :: x6 :: x7 :: x8 :: x9 :: x10 :: x11 :: x12 :: x13 :: x14 :: x15 :: some (.int (f a b)) :: σ) H1) = (fun y H1 => ipI f (.int a) y H1 fun z H2 => nx (x0 :: x1 :: x2 :: x3 :: x4 :: x5 :: x6 :: x7 :: x8 :: x9 :: x10 :: x11 :: x12 :: x13 :: x14 :: x15 :: some z :: σ) H2) := by
    funext y H1
    exact propext ⟨fun ⟨b, e1, q⟩ => ⟨a, b, rfl, e1, q⟩, fun ⟨a', b, e0, e1, q⟩ => by cases e0; exact ⟨b, e1, q⟩⟩
  rw [e]
  exact propext ⟨fun ⟨x, e, q⟩ => by cases (show some (V.int a) = some _ from Option.some.inj e); exact q, fun q => ⟨_, rfl, q⟩⟩
theorem q_var17 {x0 x1 x2 x3 x4 x5 x6 x7 x8 x9 x10 x11 x12 x13 x14 x15 x16 : Option V} {σ : L2.St} : tVar 17 (x0 :: x1 :: x2 :: x3 :: x4 :: x5 :: x6 :: x7 :: x8 :: x9 :: x10 :: x11 :: x12 :: x13 :: x14 :: x15 :: x16 :: some v :: σ) H Q = Q v H := propext ⟨fun ⟨_, e, q⟩ => by cases (show some v = some _ from Option.some.inj e); exact q, fun q => ⟨v, rfl, q⟩⟩
theorem q_asg17 {x0 x1 x2 x3 x4 x5 x6 x7 x8 x9 x10 x11 x12 x13 x14 x15 x16 : Option V} {o : Option V} {σ : L2.St} : tAsg te (gName 17) ⟨nx, rt, bk, ct⟩ (x0 :: x1 :: x2 :: x3 :: x4 :: x5 :: x6 :: x7 :: x8 :: x9 :: x10 :: x11 :: x12 :: x13 :: x14 :: x15 :: x16 :: o :: σ) H = te (x0 :: x1 :: x2 :: x3 :: x4 :: x5 :: x6 :: x7 :: x8 :: x9 :: x10 :: x11 :: x12 :: x13 :: x14 :: x15 :: x16 :: o :: σ) H fun x H1 => nx (x0 :: x1 :: x2 :: x3 :: x4 :: x5 :: x6 :: x7 :: x8 :: x9 :: x10 :: x11 :: x12 :: x13 :: x14 :: x15 :: x16 :: some x :: σ) H1 := rfl
theorem q_gn17 {x0 x1 x2 x3 x4 x5 x6 x7 x8 x9 x10 x11 x12 x13 x14 x15 x16 : Option V} {o : Option V} {σ : L2.St} {R : L2.St → Hp → Prop} : gName 17 v (x0 :: x1 :: x2 :: x3 :: x4 :: x5 :: x6 :: x7 :: x8 :: x9 :: x10 :: x11 :: x12 :: x13 :: x14 :: x15 :: x16 :: o :: σ) H R = R (x0 :: x1 :: x2 :: x3 :: x4 :: x5 :: x6 :: x7 :: x8 :: x9 :: x10 :: x11 :: x12 :: x13 :: x14 :: x15 :: x16 :: some v :: σ) H := rfl
theorem q_aug17 {x0 x1 x2 x3 x4 x5 x6 x7 x8 x9 x10 x11 x12 x13 x14 x15 x16 : Option V} {f : Int → Int → Int} {a : Int} {σ : L2.St} : tAug 17 te (ipI f) ⟨nx, rt, bk, ct⟩ (x0 :: x1 :: x2 :: x3 :: x4 :: x5 :: x6 :: x7 :: x8 :: x9 :: x10 :: x11 :: x12 :: x13 :: x14 :: x15 :: x16 :: some (.int a) :: σ) H = te (x0 :: x1 :: x2 :: x3 :: x4 :: x5 :: x6 :: x7 :: x8 :: x9 :: x10 :: x11 :: x12 :: x13 :: x14 :: x15 :: x16 :: some (.int a) :: σ) H fun y H1 => ∃ b, y = .int b ∧ nx (x0 :: x1 :: x2 :: x3 :: x4 :: x5 :: x6 :: x7 :: x8 :: x9 :: x10 :: x11 :: x12 :: x13 :: x14 :: x15 :: x16 :: some (.int (f a b)) :: σ) H1 := by
  have e : (fun y H1 => ∃ b, y = V.int b ∧ nx (x0 :: x1 :: x2 :: x3 :: x4 :: x5 :: x6 :: x7 :: x8 :: x9 :: x10 :: x11 :: x12 :: x13 :: x14 :: x15 :: x16 :: some (.int (f a b)) :: σ) H1) = (fun y H1 => ipI f (.int a) y H1 fun z H2 => nx (x0 :: x1 :: x2 :: x3 :: x4 :: x5 :: x6 :: x7 :: x8 :: x9 :: x10 :: x11 :: x12 :: x13 :: x14 :: x15 :: x16 :: some z :: σ) H2) := by
    funext y H1
    exact propext ⟨fun ⟨b, e1, q⟩ => ⟨a, b, rfl, e1, q⟩, fun ⟨a', b, e0, e1, q⟩ => by cases e0; exact ⟨b, e1, q⟩⟩
  rw [e]
  exact propext ⟨fun ⟨x, e, q⟩ => by cases (show some (V.int a) = some _ from Option.some.inj e); exact q, fun q => ⟨_, rfl, q⟩⟩
theorem q_var18 {x0 x1 x2 x3 x4 x5 x6 x7 x8 x9 x10 x11 x12 x13 x14 x15 x16 x17 : Option V} {σ : L2.St} : tVar 18 (x0 :: x1 :: x2 :: x3 :: x4 :: x5 :: x6 :: x7 :: x8 :: x9 :: x10 :: x11 :: x12 :: x13 :: x14 :: x15 :: x16 :: x17 :: some v :: σ) H Q = Q v H := propext ⟨fun ⟨_, e, q⟩ => by cases (show some v = some _ from Option.some.inj e); exact q, fun q => ⟨v, rfl, q⟩⟩
theorem q_asg18 {x0 x1 x2 x3 x4 x5 x6 x7 x8 x9 x10 x11 x12 x13 x14 x15 x16 x17 : Option V} {o : Option V} {σ : L2.St} : tAsg te (gName 18) ⟨nx, rt, bk, ct⟩ (x0 :: x1 :: x2 :: x3 :: x4 :: x5 :: x6 :: x7 :: x8 :: x9 :: x10 :: x11 :: x12 :: x13 :: x14 :: x15 :: x16 :: x17 :: o :: σ) H = te (x0 :: x1 :: x2 :: x3 :: x4 :: x5 :: x6 :: x7 :: x8 :: x9 :: x10 :: x11 :: x12 :: x13 :: x14 :: x15 :: x16 :: x17 :: o :: σ) H fun x H1 => nx (x0 :: x1 :: x2 :: x3 :: x4 :: x5 :: x6 :: x7 :: x8 :: x9 :: x10 :: x11 :: x12 :: x13 :: x14 :: x15 :: x16 :: x17 :: some x :: σ) H1 := rfl
theorem q_gn18 {x0 x1 x2 x3 x4 x5 x6 x7 x8 x9 x10 x11 x12 x13 x14 x15 x16 x17 : Option V} {o : Option V} {σ : L2.St} {R : L2.St → Hp → Prop} : gName 18 v (x0 :: x1 :: x2 :: x3 :: x4 :: x5 :: x6 :: x7 :: x8 :: x9 :: x10 :: x11 :: x12 :: x13 :: x14 :: x15 :: x16 :: x17 :: o :: σ) H R = R (x0 :: x1 :: x2 :: x3 :: x4 :: x5 :: x6 :: x7 :: x8 :: x9 :: x10 :: x11 :: x12 :: x13 :: x14 :: x15 :: x16 :: x17 :: some v :: σ) H := rfl
theorem q_aug18 {x0 x1 x2 x3 x4 x5 x6 x7 x8 x9 x10 x11 x12 x13 x14 x15 x16 x17 : Option V} {f : Int → Int → Int} {a : Int} {σ : L2.St} : tAug 18 te (ipI f) ⟨nx, rt, bk, ct⟩ (x0 :: x1 :: x2 :: x3 :: x4 :: x5 :: x6 :: x7 :: x8 :: x9 :: x10 :: x11 :: x12 :: x13 :: x14 :: x15 :: x16 :: x17 :: some (.int a) :: σ) H = te (x0 :: x1 :: x2 :: x3 :: x4 :: x5 :: x6 :: x7 :: x8 :: x9 :: x10 :: x11 :: x12 :: x13 :: x14 :: x15 :: x16 :: x17 :: some (.int a) :: σ) H fun y H1 => ∃ b, y = .int b ∧ nx (x0 :: x1 :: x2 :: x3 :: x4 :: x5 :: x6 :: x7 :: x8 :: x9 :: x10 :: x11 :: x12 :: x13 :: x14 :: x15 :: x16 :: x17 :: some (.int (f a b)) :: σ) H1 := by
  have e : (fun y H1 => ∃ b, y = V.int b ∧ nx (x0 :: x1 :: x2 :: x3 :: x4 :: x5 :: x6 :: x7 :: x8 :: x9 :: x10 :: x11 :: x12 :: x13 :: x14 :: x15 :: x16 :: x17 :: some (.int (f a b)) :: σ) H1) = (fun y H1 => ipI f (.int a) y H1 fun z H2 => nx (x0 :: x1 :: x2 :: x3 :: x4 :: x5 :: x6 :: x7 :: x8 :: x9 :: x10 :: x11 :: x12 :: x13 :: x14 :: x15 :: x16 :: x17 :: some z :: σ) H2) := by
    funext y H1
    exact propext ⟨fun ⟨b, e1, q⟩ => ⟨a, b, rfl, e1, q⟩, fun ⟨a', b, e0, e1, q⟩ => by cases e0; exact ⟨b, e1, q⟩⟩
  rw [e]
  exact propext ⟨fun ⟨x, e, q⟩ => by cases (show some (V.int a) = some _ from Option.some.inj e); exact q, fun q => ⟨_, rfl, q⟩⟩
theorem q_var19 {x0 x1 x2 x3 x4 x5 x6 x7 x8 x9 x10 x11 x12 x13 x14 x15 x16 x17 x18 : Option V} {σ : L2.St} : tVar 19 (x0 :: x1 :: x2 :: x3 :: x4 :: x5 :: x6 :: x7 :: x8 :: x9 :: x10 :: x11 :: x12 :: x13 :: x14 :: x15 :: x16 :: x17 :: x18 :: some v :: σ) H Q = Q v H := propext ⟨fun ⟨_, e, q⟩ => by cases (show some v = some _ from Option.some.inj e); exact q, fun q => ⟨v, rfl, q⟩⟩
theorem q_asg19 {x0 x1 x2 x3 x4 x5 x6 x7 x8 x9 x10 x11 x12 x13 x14 x15 x16 x17 x18 : Option V} {o : Option V} {σ : L2.St} : tAsg te (gName 19) ⟨nx, rt, bk, ct⟩ (x0 :: x1 :: x2 :: x3 :: x4 :: x5 :: x6 :: x7 :: x8 :: x9 :: x10 :: x11 :: x12 :: x13 :: x14 :: x15 :: x16 :: x17 :: x18 :: o :: σ) H = te (x0 :: x1 :: x2 :: x3 :: x4 :: x5 :: x6 :: x7 :: x8 :: x9 :: x10 :: x11 :: x12 :: x13 :: x14 :: x15 :: x16 :: x17 :: x18 :: o :: σ) H fun x H1 => nx (x0 :: x1 :: x2 :: x3 :: x4 :: x5 :: x6 :: x7 :: x8 :: x9 :: x10 :: x11 :: x12 :: x13 :: x14 :: x15 :: x16 :: x17 :: x18 :: some x :: σ) H1 := rfl
theorem q_gn19 {x0 x1 x2 x3 x4 x5 x6 x7 x8 x9 x10 x11 x12 x13 x14 x15 x16 x17 x18 : Option V} {o : Option V} {σ : L2.St} {R : L2.St → Hp → Prop} : gName 19 v (x0 :: x1 :: x2 :: x3 :: x4 :: x5 :: x6 :: x7 :: x8 :: x9 :: x10 :: x11 :: x12 :: x13 :: x14 :: x15 :: x16 :: x17 :: x18 :: o :: σ) H R = R (x0 :: x1 :: x2 :: x3 :: x4 :: x5 :: x6 :: x7 :: x8 :: x9 :: x10 :: x11 :: x12 :: x13 :: x14 :: x15 :: x16 :: x17 :: x18 :: some v :: σ) H := rfl
theorem q_aug19 {x0 x1 x2 x3 x4 x5 x6 x7 x8 x9 x10 x11 x12 x13 x14 x15 x16 x17 x18 : Option V} {f : Int → Int → Int} {a : Int} {σ : L2.St} : tAug 19 te (ipI f) ⟨nx, rt, bk, ct⟩ (x0 :: x1 :: x2 :: x3 :: x4 :: x5 :: x6 :: x7 :: x8 :: x9 :: x10 :: x11 :: x12 :: x13 :: x14 :: x15 :: x16 :: x17 :: x18 :: some (.int a) :: σ) H = te (x0 :: x1 :: x2 :: x3 :: x4 :: x5 :: x6 :: x7 :: x8 :: x9 :: x10 :: x11 :: x12 :: x13 :: x14 :: x15 :: x16 :: x17 :: x18 :: some (.int a) :: σ) H fun y H1 => ∃ b, y = .int b ∧ nx (x0 :: x1 :: x2 :: x3 :: x4 :: x5 :: x6 :: x7 :: x8 :: x9 :: x10 :: x11 :: x12 :: x13 :: x14 :: x15 :: x16 :: x17 :: x18 :: some (.int (f a b)) :: σ) H1 := by
  have e : (fun y H1 => ∃ b, y = V.int b ∧ nx (x0 :: x1 :: x2 :: x3 :: x4 :: x5 :: x6 :: x7 :: x8 :: x9 :: x10 :: x11 :: x12 :: x13 :: x14 :: x15 :: x16 :: x17 :: x18 :: some (.int (f a b)) :: σ) H1) = (fun y H1 => ipI f (.int a) y H1 fun z H2 => nx (x0 :: x1 :: x2 :: x3 :: x4 :: x5 :: x6 :: x7 :: x8 :: x9 :: x10 :: x11 :: x12 :: x13 :: x14 :: x15 :: x16 :: x17 :: x18 :: some z :: σ) H2) := by
    funext y H1
    exact propext ⟨fun ⟨b, e1, q⟩ => ⟨a, b, rfl, e1, q⟩, fun ⟨a', b, e0, e1, q⟩ => by cases e0; exact ⟨b, e1, q⟩⟩
  rw [e]
  exact propext ⟨fun ⟨x, e, q⟩ => by cases (show some (V.int a) = some _ from Option.some.inj e); exact q, fun q => ⟨_, rfl, q⟩⟩
theorem q_var20 {x0 x1 x2 x3 x4 x5 x6 x7 x8 x9 x10 x11 x12 x13 x14 x15 x16 x17 x18 x19 : Option V} {σ : L2.St} : tVar 20 (x0 :: x1 :: x2 :: x3 :: x4 :: x5 :: x6 :: x7 :: x8 :: x9 :: x10 :: x11 :: x12 :: x13 :: x14 :: x15 :: x16 :: x17 :: x18 :: x19 :: some v :: σ) H Q = Q v H := propext ⟨fun ⟨_, e, q⟩ => by cases (show some v = some _ from Option.some.inj e); exact q, fun q => ⟨v, rfl, q⟩⟩
theorem q_asg20 {x0 x1 x2 x3 x4 x5 x6 x7 x8 x9 x10 x11 x12 x13 x14 x15 x16 x17 x18 x19 : Option V} {o : Option V} {σ : L2.St} : tAsg te (gName 20) ⟨nx, rt, bk, ct⟩ (x0 :: x1 :: x2 :: x3 :: x4 :: x5 :: x6 :: x7 :: x8 :: x9 :: x10 :: x11 :: x12 :: x13 :: x14 :: x15 :: x16 :: x17 :: x18 :: x19 :: o :: σ) H = te (x0 :: x1 :: x2 :: x3 :: x4 :: x5 :: x6 :: x7 :: x8 :: x9 :: x10 :: x11 :: x12 :: x13 :: x14 :: x15 :: x16 :: x17 :: x18 :: x19 :: o :: σ) H fun x H1 => nx (x0 :: x1 :: x2 :: x3 :: x4 :: x5 :: x6 :: x7 :: x8 :: x9 :: x10 :: x11 :: x12 :: x13 :: x14 :: x15 :: x16 :: x17 :: x18 :: x19 :: some x :: σ) H1 := rfl
theorem q_gn20 {x0 x1 x2 x3 x4 x5 x6 x7 x8 x9 x10 x11 x12 x13 x14 x15 x16 x17 x18 x19 : Option V} {o : Option V} {σ : L2.St} {R : L2.St → Hp → Prop} : gName 20 v (x0 :: x1 :: x2 :: x3 :: x4 :: x5 :: x6 :: x7 :: x8 :: x9 :: x10 :: x11 :: x12 :: x13 :: x14 :: x15 :: x16 :: x17 :: x18 :: x19 :: o :: σ) H R = R (x0 :: x1 :: x2 :: x3 :: x4 :: x5 :: x6 :: x7 :: x8 :: x9 :: x10 :: x11 :: x12 :: x13 :: x14 :: x15 :: x16 :: x17 :: x18 :: x19 :: some v :: σ) H := rfl
theorem q_aug20 {x0 x1 x2 x3 x4 x5 x6 x7 x8 x9 x10 x11 x12 x13 x14 x15 x16 x17 x18 x19 : Option V} {f : Int → Int → Int} {a : Int} {σ : L2.St} : tAug 20 te (ipI f) ⟨nx, rt, bk, ct⟩ (x0 :: x1 :: x2 :: x3 :: x4 :: x5 :: x6 :: x7 :: x8 :: x9 :: x10 :: x11 :: x12 :: x13 :: x14 :: x15 :: x16 :: x17 :: x18 :: x19 :: some (.int a) :: σ) H = te (x0 :: x1 :: x2 :: x3 :: x4 :: x5 :: x6 :: x7 :: x8 :: x9 :: x10 :: x11 :: x12 :: x13 :: x14 :: x15 :: x16 :: x17 :: x18 :: x19 :: some (.int a) :: σ) H fun y H1 => ∃ b, y = .int b ∧ nx (x0 :: x1 :: x2 :: x3 :: x4 :: x5 :: x6 :: x7 :: x8 :: x9 :: x10 :: x11 :: x12 :: x13 :: x14 :: x15 :: x16 :: x17 :: x18 :: x19 :: some (.int (f a b)) :: σ) H1 := by
  have e : (fun y H1 => ∃ b, y = V.int b ∧ nx (x0 :: x1 :: x2 :: x3 :: x4 :: x5 :: x6 :: x7 :: x8 :: x9 :: x10 :: x11 :: x12 :: x13 :: x14 :: x15 :: x16 :: x17 :: x18 :: x19 :: some (.int (f a b)) :: σ) H1) = (fun y H1 => ipI f (.int a) y H1 fun z H2 => nx (x0 :: x1 :: x2 :: x3 :: x4 :: x5 :: x6 :: x7 :: x8 :: x9 :: x10 :: x11 :: x12 :: x13 :: x14 :: x15 :: x16 :: x17 :: x18 :: x19 :: some z :: σ) H2) := by
    funext y H1
    exact propext ⟨fun ⟨b, e1, q⟩ => ⟨a, b, rfl, e1, q⟩, fun ⟨a', b, e0, e1, q⟩ => by cases e0; exact ⟨b, e1, q⟩⟩
  rw [e]
  exact propext ⟨fun ⟨x, e, q⟩ => by cases (show some (V.int a) = some _ from Option.some.inj e); exact q, fun q => ⟨_, rfl, q⟩⟩
theorem q_var21 {x0 x1 x2 x3 x4 x5 x6 x7 x8 x9 x10 x11 x12 x13 x14 x15 x16 x17 x18 x19 x20 : Option V} {σ : L2.St} : tVar 21 (x0 :: x1 :: x2 :: x3 :: x4 :: x5 :: x6 :: x7 :: x8 :: x9 :: x10 :: x11 :: x12 :: x13 :: x14 :: x15 :: x16 :: x17 :: x18 :: x19 :: x20 :: some v :: σ) H Q = Q v H := propext ⟨fun ⟨_, e, q⟩ => by cases (show some v = some _ from Option.some.inj e); exact q, fun q => ⟨v, rfl, q⟩⟩
theorem q_asg21 {x0 x1 x2 x3 x4 x5 x6 x7 x8 x9 x10 x11 x12 x13 x14 x15 x16 x17 x18 x19 x20 : Option V} {o : Option V} {σ : L2.St} : tAsg te (gName 21) ⟨nx, rt, bk, ct⟩ (x0 :: x1 :: x2 :: x3 :: x4 :: x5 :: x6 :: x7 :: x8 :: x9 :: x10 :: x11 :: x12 :: x13 :: x14 :: x15 :: x16 :: x17 :: x18 :: x19 :: x20 :: o :: σ) H = te (x0 :: x1 :: x2 :: x3 :: x4 :: x5 :: x6 :: x7 :: x8 :: x9 :: x10 :: x11 :: x12 :: x13 :: x14 :: x15 :: x16 :: x17 :: x18 :: x19 :: x20 :: o :: σ) H fun x H1 => nx (x0 :: x1 :: x2 :: x3 :: x4 :: x5 :: x6 :: x7 :: x8 :: x9 :: x10 :: x11 :: x12 :: x13 :: x14 :: x15 :: x16 :: x17 :: x18 :: x19 :: x20 :: some x :: σ) H1 := rfl
theorem q_gn21 {x0 x1 x2 x3 x4 x5 x6 x7 x8 x9 x10 x11 x12 x13 x14 x15 x16 x17 x18 x19 x20 : Option V} {o : Option V} {σ : L2.St} {R : L2.St → Hp → Prop} : gName 21 v (x0 :: x1 :: x2 :: x3 :: x4 :: x5 :: x6 :: x7 :: x8 :: x9 :: x10 :: x11 :: x12 :: x13 :: x14 :: x15 :: x16 :: x17 :: x18 :: x19 :: x20 :: o :: σ) H R = R (x0 :: x1 :: x2 :: x3 :: x4 :: x5 :: x6 :: x7 :: x8 :: x9 :: x10 :: x11 :: x12 :: x13 :: x14 :: x15 :: x16 :: x17 :: x18 :: x19 :: x20 :: some v :: σ) H := rfl
theorem q_aug21 {x0 x1 x2 x3 x4 x5 x6 x7 x8 x9 x10 x11 x12 x13 x14 x15 x16 x17 x18 x19 x20 : Option V} {f : Int → Int → Int} {a : Int} {σ : L2.St} : tAug 21 te (ipI f) ⟨nx, rt, bk, ct⟩ (x0 :: x1 :: x2 :: x3 :: x4 :: x5 :: x6 :: x7 :: x8 :: x9 :: x10 :: x11 :: x12 :: x13 :: x14 :: x15 :: x16 :: x17 :: x18 :: x19 :: x20 :: some (.int a) :: σ) H = te (x0 :: x1 :: x2 :: x3 :: x4 :: x5 :: x6 :: x7 :: x8 :: x9 :: x10 :: x11 :: x12 :: x13 :: x14 :: x15 :: x16 :: x17 :: x18 :: x19 :: x20 :: some (.int a) :: σ) H fun y H1 => ∃ b, y = .int b ∧ nx (x0 :: x1 :: x2 :: x3 :: x4 :: x5 :: x6 :: x7 :: x8 :: x9 :: x10 :: x11 :: x12 :: x13 :: x14 :: x15 :: x16 :: x17 :: x18 :: x19 :: x20 :: some (.int (f a b)) :: σ) H1 := by
  have e : (fun y H1 => ∃ b, y = V.int b ∧ nx (x0 :: x1 :: x2 :: x3 :: x4 :: x5 :: x6 :: x7 :: x8 :: x9 :: x10 :: x11 :: x12 :: x13 :: x14 :: x15 :: x16 :: x17 :: x18 :: x19 :: x20 :: some (.int (f a b)) :: σ) H1) = (fun y H1 => ipI f (.int a) y H1 fun z H2 => nx (x0 :: x1 :: x2 :: x3 :: x4 :: x5 :: x6 :: x7 :: x8 :: x9 :: x10 :: x11 :: x12 :: x13 :: x14 :: x15 :: x16 :: x17 :: x18 :: x19 :: x20 :: some z :: σ) H2) := by
    funext y H1
    exact propext ⟨fun ⟨b, e1, q⟩ => ⟨a, b, rfl, e1, q⟩, fun ⟨a', b, e0, e1, q⟩ => by cases e0; exact ⟨b, e1, q⟩⟩
  rw [e]
  exact propext ⟨fun ⟨x, e, q⟩ => by cases (show some (V.int a) = some _ from Option.some.inj e); exact q, fun q => ⟨_, rfl, q⟩⟩
theorem q_var22 {x0 x1 x2 x3 x4 x5 x6 x7 x8 x9 x10 x11 x12 x13 x14 x15 x16 x17 x18 x19 x20 x21 : Option V} {σ : L2.St} : tVar 22 (x0 :: x1 :: x2 :: x3 :: x4 :: x5 :: x6 :: x7 :: x8 :: x9 :: x10 :: x11 :: x12 :: x13 :: x14 :: x15 :: x16 :: x17 :: x18 :: x19 :: x20 :: x21 :: some v :: σ) H Q = Q v H := propext ⟨fun ⟨_, e, q⟩ => by cases (show some v = some _ from Option.some.inj e); exact q, fun q => ⟨v, rfl, q⟩⟩
theorem q_asg22 {x0 x1 x2 x3 x4 x5 x6 x7 x8 x9 x10 x11 x12 x13 x14 x15 x16 x17 x18 x19 x20 x21 : Option V} {o : Option V} {σ : L2.St} : tAsg te (gName 22) ⟨nx, rt, bk, ct⟩ (x0 :: x1 :: x2 :: x3 :: x4 :: x5 :: x6 :: x7 :: x8 :: x9 :: x10 :: x11 :: x12 :: x13 :: x14 :: x15 :: x16 :: x17 :: x18 :: x19 :: x20 :: x21 :: o :: σ) H = te (x0 :: x1 :: x2 :: x3 :: x4 :: x5 :: x6 :: x7 :: x8 :: x9 :: x10 :: x11 :: x12 :: x13 :: x14 :: x15 :: x16 :: x17 :: x18 :: x19 :: x20 :: x21 :: o :: σ) H fun x H1 => nx (x0 :: x1 :: x2 :: x3 :: x4 :: x5 :: x6 :: x7 :: x8 :: x9 :: x10 :: x11 :: x12 :: x13 :: x14 :: x15 :: x16 :: x17 :: x18 :: x19 :: x20 :: x21 :: some x :: σ) H1 := rfl
theorem q_gn22 {x0 x1 x2 x3 x4 x5 x6 x7 x8 x9 x10 x11 x12 x13 x14 x15 x16 x17 x18 x19 x20 x21 : Option V} {o : Option V} {σ : L2.St} {R : L2.St → Hp → Prop} : gName 22 v (x0 :: x1 :: x2 :: x3 :: x4 :: x5 :: x6 :: x7 :: x8 :: x9 :: x10 :: x11 :: x12 :: x13 :: x14 :: x15 :: x16 :: x17 :: x18 :: x19 :: x20 :: x21 :: o :: σ) H R = R (x0 :: x1 :: x2 :: x3 :: x4 :: x5 :: x6 :: x7 :: x8 :: x9 :: x10 :: x11 :: x12 :: x13 :: x14 :: x15 :: x16 :: x17 :: x18 :: x19 :: x20 :: x21 :: some v :: σ) H := rfl
theorem q_aug22 {x0 x1 x2 x3 x4 x5 x6 x7 x8 x9 x10 x11 x12 x13 x14 x15 x16 x17 x18 x19 x20 x21 : Option V} {f : Int → Int → Int} {a : Int} {σ : L2.St} : tAug 22 te (ipI f) ⟨nx, rt, bk, ct⟩ (x0 :: x1 :: x2 :: x3 :: x4 :: x5 :: x6 :: x7 :: x8 :: x9 :: x10 :: x11 :: x12 :: x13 :: x14 :: x15 :: x16 :: x17 :: x18 :: x19 :: x20 :: x21 :: some (.int a) :: σ) H = te (x0 :: x1 :: x2 :: x3 :: x4 :: x5 :: x6 :: x7 :: x8 :: x9 :: x10 :: x11 :: x12 :: x13 :: x14 :: x15 :: x16 :: x17 :: x18 :: x19 :: x20 :: x21 :: some (.int a) :: σ) H fun y H1 => ∃ b, y = .int b ∧ nx (x0 :: x1 :: x2 :: x3 :: x4 :: x5 :: x6 :: x7 :: x8 :: x9 :: x10 :: x11 :: x12 :: x13 :: x14 :: x15 :: x16 :: x17 :: x18 :: x19 :: x20 :: x21 :: some (.int (f a b)) :: σ) H1 := by
  have e : (fun y H1 => ∃ b, y = V.int b ∧ nx (x0 :: x1 :: x2 :: x3 :: x4 :: x5 :: x6 :: x7 :: x8 :: x9 :: x10 :: x11 :: x12 :: x13 :: x14 :: x15 :: x16 :: x17 :: x18 :: x19 :: x20 :: x21 :: some (.int (f a b)) :: σ) H1) = (fun y H1 => ipI f (.int a) y H1 fun z H2 => nx (x0 :: x1 :: x2 :: x3 :: x4 :: x5 :: x6 :: x7 :: x8 :: x9 :: x10 :: x11 :: x12 :: x13 :: x14 :: x15 :: x16 :: x17 :: x18 :: x19 :: x20 :: x21 :: some z :: σ) H2) := by
    funext y H1
    exact propext ⟨fun ⟨b, e1, q⟩ => ⟨a, b, rfl, e1, q⟩, fun ⟨a', b, e0, e1, q⟩ => by cases e0; exact ⟨b, e1, q⟩⟩
  rw [e]
  exact propext ⟨fun ⟨x, e, q⟩ => by cases (show some (V.int a) = some _ from Option.some.inj e); exact q, fun q => ⟨_, rfl, q⟩⟩
theorem q_var23 {x0 x1 x2 x3 x4 x5 x6 x7 x8 x9 x10 x11 x12 x13 x14 x15 x16 x17 x18 x19 x20 x21 x22 : Option V} {σ : L2.St} : tVar 23 (x0 :: x1 :: x2 :: x3 :: x4 :: x5 :: x6 :: x7 :: x8 :: x9 :: x10 :: x11 :: x12 :: x13 :: x14 :: x15 :: x16 :: x17 :: x18 :: x19 :: x20 :: x21 :: x22 :: some v :: σ) H Q = Q v H := propext ⟨fun ⟨_, e, q⟩ => by cases (show some v = some _ from Option.some.inj e); exact q, fun q => ⟨v, rfl, q⟩⟩
theorem q_asg23 {x0 x1 x2 x3 x4 x5 x6 x7 x8 x9 x10 x11 x12 x13 x14 x15 x16 x17 x18 x19 x20 x21 x22 : Option V} {o : Option V} {σ : L2.St} : tAsg te (gName 23) ⟨nx, rt, bk, ct⟩ (x0 :: x1 :: x2 :: x3 :: x4 :: x5 :: x6 :: x7 :: x8 :: x9 :: x10 :: x11 :: x12 :: x13 :: x14 :: x15 :: x16 :: x17 :: x18 :: x19 :: x20 :: x21 :: x22 :: o :: σ) H = te (x0 :: x1 :: x2 :: x3 :: x4 :: x5 :: x6 :: x7 :: x8 :: x9 :: x10 :: x11 :: x12 :: x13 :: x14 :: x15 :: x16 :: x17 :: x18 :: x19 :: x20 :: x21 :: x22 :: o :: σ) H fun x H1 => nx (x0 :: x1 :: x2 :: x3 :: x4 :: x5 :: x6 :: x7 :: x8 :: x9 :: x10 :: x11 :: x12 :: x13 :: x14 :: x15 :: x16 :: x17 :: x18 :: x19 :: x20 :: x21 :: x22 :: some x :: σ) H1 := rfl
theorem q_gn23 {x0 x1 x2 x3 x4 x5 x6 x7 x8 x9 x10 x11 x12 x13 x14 x15 x16 x17 x18 x19 x20 x21 x22 : Option V} {o : Option V} {σ : L2.St} {R : L2.St → Hp → Prop} : gName 23 v (x0 :: x1 :: x2 :: x3 :: x4 :: x5 :: x6 :: x7 :: x8 :: x9 :: x10 :: x11 :: x12 :: x13 :: x14 :: x15 :: x16 :: x17 :: x18 :: x19 :: x20 :: x21 :: x22 :: o :: σ) H R = R (x0 :: x1 :: x2 :: x3 :: x4 :: x5 :: x6 :: x7 :: x8 :: x9 :: x10 :: x11 :: x12 :: x13 :: x14 :: x15 :: x16 :: x17 :: x18 :: x19 :: x20 :: x21 :: x22 :: some v :: σ) H := rfl
theorem q_aug23 {x0 x1 x2 x3 x4 x5 x6 x7 x8 x9 x10 x11 x12 x13 x14 x15 x16 x17 x18 x19 x20 x21 x22 : Option V} {f : Int → Int → Int} {a : Int} {σ : L2.St} : tAug 23 te (ipI f) ⟨nx, rt, bk, ct⟩ (x0 :: x1 :: x2 :: x3 :: x4 :: x5 :: x6 :: x7 :: x8 :: x9 :: x10 :: x11 :: x12 :: x13 :: x14 :: x15 :: x16 :: x17 :: x18 :: x19 :: x20 :: x21 :: x22 :: some (.int a) :: σ) H = te (x0 :: x1 :: x2 :: x3 :: x4 :: x5 :: x6 :: x7 :: x8 :: x9 :: x10 :: x11 :: x12 :: x13 :: x14 :: x15 :: x16 :: x17 :: x18 :: x19 :: x20 :: x21 :: x22 :: some (.int a) :: σ) H fun y H1 => ∃ b, y = .int b ∧ nx (x0 :: x1 :: x2 :: x3 :: x4 :: x5 :: x6 :: x7 :: x8 :: x9 :: x10 :: x11 :: x12 :: x13 :: x14 :: x15 :: x16 :: x17 :: x18 :: x19 :: x20 :: x21 :: x22 :: some (.int (f a b)) :: σ) H1 := by
  have e : (fun y H1 => ∃ b, y = V.int b ∧ nx (x0 :: x1 :: x2 :: x3 :: x4 :: x5 :: x6 :: x7 :: x8 :: x9 :: x10 :: x11 :: x12 :: x13 :: x14 :: x15 :: x16 :: x17 :: x18 :: x19 :: x20 :: x21 :: x22 :: some (.int (f a b)) :: σ) H1) = (fun y H1 => ipI f (.int a) y H1 fun z H2 => nx (x0 :: x1 :: x2 :: x3 :: x4 :: x5 :: x6 :: x7 :: x8 :: x9 :: x10 :: x11 :: x12 :: x13 :: x14 :: x15 :: x16 :: x17 :: x18 :: x19 :: x20 :: x21 :: x22 :: some z :: σ) H2) := by
    funext y H1
    exact propext ⟨fun ⟨b, e1, q⟩ => ⟨a, b, rfl, e1, q⟩, fun ⟨a', b, e0, e1, q⟩ => by cases e0; exact ⟨b, e1, q⟩⟩
  rw [e]
  exact propext ⟨fun ⟨x, e, q⟩ => by cases (show some (V.int a) = some _ from Option.some.inj e); exact q, fun q => ⟨_, rfl, q⟩⟩
theorem q_seq : tSeq t u ⟨nx, rt, bk, ct⟩ σs H = t ⟨u ⟨nx, rt, bk, ct⟩, rt, bk, ct⟩ σs H := rfl
theorem q_next : tNext ⟨nx, rt, bk, ct⟩ σs H = nx σs H := rfl
theorem q_brk : tBreak ⟨nx, rt, bk, ct⟩ σs H = bk σs H := rfl
theorem q_cont : tCont ⟨nx, rt, bk, ct⟩ σs H = ct σs H := rfl
theorem q_ret : tRet te ⟨nx, rt, bk, ct⟩ σs H = te σs H rt := rfl
theorem q_retN : tRetN ⟨nx, rt, bk, ct⟩ σs H = rt .non H := rfl
theorem q_drop : tDrop te ⟨nx, rt, bk, ct⟩ σs H = te σs H fun _ H1 => nx σs H1 := rfl
theorem q_if : tIfS tt t u ⟨nx, rt, bk, ct⟩ σs H = tt σs H fun b H1 => if b = true then t ⟨nx, rt, bk, ct⟩ σs H1 else u ⟨nx, rt, bk, ct⟩ σs H1 := rfl
theorem q_c : tC v σs H Q = Q v H := rfl
theorem q_op {r : R2} : tOp r ta tc σs H Q = ta σs H fun x H1 => tc σs H1 fun y H2 => r x y H2 Q := rfl
theorem q_un {r : V → Hp → VK → Prop} : tUn r ta σs H Q = ta σs H fun x H1 => r x H1 Q := rfl
theorem q_cb {r : List V → Hp → VK → Prop} : tCB r tA σs H Q = tA σs H fun vs H1 => r vs H1 Q := rfl
theorem q_nil {R : List V → Hp → Prop} : tNil σs H R = R [] H := rfl
theorem q_cons {R : List V → Hp → Prop} : tCons ta tA σs H R = ta σs H fun x H1 => tA σs H1 fun xs H2 => R (x :: xs) H2 := rfl
theorem q_call {sp : Sp} {E : XK} : tCall sp [] E tA σs H Q = tA σs H fun vs H1 => sp vs H1 Q E := by
  have e : (fun vs H1 => sp (vs ++ []) H1 Q E) = (fun vs H1 => sp vs H1 Q E) := by funext vs H1; rw [List.append_nil]
  show (tA σs H fun vs H1 => sp (vs ++ []) H1 Q E) = _
  rw [e]
theorem q_test {R : Bool → Hp → Prop} : tTest te σs H R = te σs H fun x H1 => ∃ k, x = .bl k ∧ R k H1 := rfl
theorem q_tB {R : Bool → Hp → Prop} : tB te σs H R = te σs H fun x H1 => ∃ k, x = .bl k ∧ R k H1 := rfl
theorem q_bl {R : Bool → Prop} {b : Bool} : (∃ k, V.bl b = .bl k ∧ R k) = R b := propext ⟨fun ⟨k, e, q⟩ => by cases e; exact q, fun q => ⟨b, rfl, q⟩⟩
theorem q_int {R : Int → Prop} {b : Int} : (∃ k, V.int b = .int k ∧ R k) = R b := propext ⟨fun ⟨k, e, q⟩ => by cases e; exact q, fun q => ⟨b, rfl, q⟩⟩
theorem q_and {R : Bool → Hp → Prop} : tAnd tt tt' σs H R = tt σs H fun c H1 => if c = true then tt' σs H1 R else R false H1 := rfl
theorem q_or {R : Bool → Hp → Prop} : tOr tt tt' σs H R = tt σs H fun c H1 => if c = true then R true H1 else tt' σs H1 R := rfl
theorem q_not {R : Bool → Hp → Prop} : tNot tt σs H R = tt σs H fun c H1 => R (!c) H1 := rfl
theorem q_andV : tAndV ta tc σs H Q = ta σs H fun x H1 => ∃ c, x = .bl c ∧ if c = true then tc σs H1 Q else Q (.bl false) H1 := rfl
theorem q_orV : tOrV ta tc σs H Q = ta σs H fun x H1 => ∃ c, x = .bl c ∧ if c = true then Q (.bl true) H1 else tc σs H1 Q := rfl
theorem q_notV : tNotV ta σs H Q = ta σs H fun x H1 => ∃ c, x = .bl c ∧ Q (.bl (!c)) H1 := rfl
theorem q_ifE : tIf tt ta tc σs H Q = tt σs H fun c H1 => if c = true then ta σs H1 Q else tc σs H1 Q := rfl
theorem q_I0 {g : Int → Int → V} {i j : Int} : rI0 g (.int i) (.int j) H Q = Q (g i j) H := propext ⟨fun ⟨a, b, e1, e2, q⟩ => by cases e1; cases e2; exact q, fun q => ⟨i, j, rfl, rfl, q⟩⟩
theorem q_I {P : Int → Int → Prop} {g : Int → Int → V} {i j : Int} : rI P g (.int i) (.int j) H Q = (P i j ∧ Q (g i j) H) := propext ⟨fun ⟨a, b, e1, e2, q⟩ => by cases e1; cases e2; exact q, fun q => ⟨i, j, rfl, rfl, q⟩⟩
theorem q_U {g : Int → V} {i : Int} : rU g (.int i) H Q = Q (g i) H := propext ⟨fun ⟨a, e1, q⟩ => by cases e1; exact q, fun q => ⟨i, rfl, q⟩⟩
theorem q_eqI {i j : Int} : rEq (.int i) (.int j) H Q = Q (.bl (decide (i = j))) H := by
  have e : decide (V.int i = V.int j) = decide (i = j) := decide_eq_decide.mpr ⟨fun h => V.int.inj h, fun h => by rw [h]⟩
  refine propext ⟨fun ⟨_, q⟩ => ?_, fun q => ⟨rfl, ?_⟩⟩
  · rw [e] at q; exact q
  · rw [e]; exact q
theorem q_neI {i j : Int} : rNe (.int i) (.int j) H Q = Q (.bl (!decide (i = j))) H := by
  have e : decide (V.int i = V.int j) = decide (i = j) := decide_eq_decide.mpr ⟨fun h => V.int.inj h, fun h => by rw [h]⟩
  refine propext ⟨fun ⟨_, q⟩ => ?_, fun q => ⟨rfl, ?_⟩⟩
  · rw [e] at q; exact q
  · rw [e]; exact q
theorem q_eqS {i j : Str} : rEq (.str i) (.str j) H Q = Q (.bl (decide (i = j))) H := by
  have e : decide (V.str i = V.str j) = decide (i = j) := decide_eq_decide.mpr ⟨fun h => V.str.inj h, fun h => by rw [h]⟩
  refine propext ⟨fun ⟨_, q⟩ => ?_, fun q => ⟨rfl, ?_⟩⟩
  · rw [e] at q; exact q
  · rw [e]; exact q
theorem q_neS {i j : Str} : rNe (.str i) (.str j) H Q = Q (.bl (!decide (i = j))) H := by
  have e : decide (V.str i = V.str j) = decide (i = j) := decide_eq_decide.mpr ⟨fun h => V.str.inj h, fun h => by rw [h]⟩
  refine propext ⟨fun ⟨_, q⟩ => ?_, fun q => ⟨rfl, ?_⟩⟩
  · rw [e] at q; exact q
  · rw [e]; exact q
theorem q_eqB {i j : Bool} : rEq (.bl i) (.bl j) H Q = Q (.bl (decide (i = j))) H := by
  have e : decide (V.bl i = V.bl j) = decide (i = j) := decide_eq_decide.mpr ⟨fun h => V.bl.inj h, fun h => by rw [h]⟩
  refine propext ⟨fun ⟨_, q⟩ => ?_, fun q => ⟨rfl, ?_⟩⟩
  · rw [e] at q; exact q
  · rw [e]; exact q
theorem q_neB {i j : Bool} : rNe (.bl i) (.bl j) H Q = Q (.bl (!decide (i = j))) H := by
  have e : decide (V.bl i = V.bl j) = decide (i = j) := decide_eq_decide.mpr ⟨fun h => V.bl.inj h, fun h => by rw [h]⟩
  refine propext ⟨fun ⟨_, q⟩ => ?_, fun q => ⟨rfl, ?_⟩⟩
  · rw [e] at q; exact q
  · rw [e]; exact q
theorem q_abs {i : Int} : rAbs [.int i] H Q = Q (.int (i.natAbs : Nat)) H := propext ⟨fun ⟨a, e, q⟩ => by cases e; exact q, fun q => ⟨i, rfl, q⟩⟩
theorem q_toint {i : Int} : rInt [.int i] H Q = Q (.int i) H := propext ⟨fun ⟨a, e, q⟩ => by cases e; exact q, fun q => ⟨i, rfl, q⟩⟩
theorem q_tointB {b : Bool} : rIntB [.bl b] H Q = Q (.int (if b then 1 else 0)) H := propext ⟨fun ⟨a, e, q⟩ => by cases e; exact q, fun q => ⟨b, rfl, q⟩⟩
theorem q_lenS {l : List Nat} : rLenS [vS l] H Q = (l.length ≤ sizeLine ∧ Q (.int (l.length : Nat)) H) := propext ⟨fun ⟨m, e, q⟩ => by have e := S_inj.mp (V.str.inj (List.cons.inj e).1); subst e; exact q, fun q => ⟨l, rfl, q⟩⟩
theorem q_addS {l m : List Nat} : rAddS (vS l) (vS m) H Q = (l.length + m.length ≤ sizeLine ∧ Q (vS (l ++ m)) H) := propext ⟨fun ⟨a, b, e, e2, q⟩ => by have e := S_inj.mp (V.str.inj e); subst e; have e2 := S_inj.mp (V.str.inj e2); subst e2; exact q, fun q => ⟨l, m, rfl, rfl, q⟩⟩
theorem q_slS {l : List Nat} {lo hi : Option Int} : rSlSg (vS l) lo hi H Q = (l.length ≤ sizeLine ∧ Q (vS (cutN l lo hi)) H) := propext ⟨fun ⟨a, e, q⟩ => by have e := S_inj.mp (V.str.inj e); subst e; exact q, fun q => ⟨l, rfl, q⟩⟩
theorem q_sl {r : V → Option Int → Option Int → Hp → VK → Prop} {tl th : TO} : tSl r te tl th σs H Q = te σs H fun x H1 => tl σs H1 fun lo H2 => th σs H2 fun hi H3 => r x lo hi H3 Q := rfl
theorem q_noP {R : Option Int → Hp → Prop} : tNoPart σs H R = R none H := rfl
theorem q_part {R : Option Int → Hp → Prop} : tPart te σs H R = te σs H fun x H1 => ∃ i, x = .int i ∧ R (some i) H1 := rfl
theorem q_lst : tLst tA σs H Q = tA σs H fun xs H1 => NewL xs H1 Q := rfl
theorem q_tup : tTup tA σs H Q = tA σs H fun xs H1 => NewT xs H1 Q := rfl
theorem q_bm {T : String} {r : V → List V → Hp → VK → Prop} {to : TE} : tBM K T r to tA σs H Q = to σs H fun x H1 => tyV K T x H1 ∧ tA σs H1 fun vs H2 => r x vs H2 Q := rfl
theorem q_bm0 {T : String} {r : V → List V → Hp → VK → Prop} {to : TE} : tBM0 K T r to σs H Q = to σs H fun x H1 => tyV K T x H1 ∧ r x [] H1 Q := rfl
theorem q_for {wi : TI} : tFor wi g tb ⟨nx, rt, bk, ct⟩ σs H = wi σs H fun J H1 => LoopEnd J g tb ⟨nx, rt, bk, ct⟩ σs H1 := rfl
theorem q_iRng1 {R : It → Hp → Prop} : iRng1 tA σs H R = tA σs H fun vs H1 => Rg1 vs H1 R := rfl
theorem q_iRng2 {R : It → Hp → Prop} : iRng2 tA σs H R = tA σs H fun vs H1 => Rg2 vs H1 R := rfl
theorem q_iRng3 {R : It → Hp → Prop} : iRng3 tA σs H R = tA σs H fun vs H1 => Rg3 vs H1 R := rfl
theorem q_iList {R : It → Hp → Prop} : iList K te σs H R = te σs H fun x H1 => FoL K x H1 R := rfl
theorem q_iTup {R : It → Hp → Prop} : iTup K te σs H R = te σs H fun x H1 => FoT K x H1 R := rfl
theorem q_iStr {R : It → Hp → Prop} : iStr te σs H R = te σs H fun x H1 => FoS x H1 R := rfl
theorem q_iRev {R : It → Hp → Prop} : iRev K tA σs H R = tA σs H fun vs H1 => FoR K vs H1 R := rfl
theorem q_iEnum {R : It → Hp → Prop} : iEnum K tA σs H R = tA σs H fun vs H1 => FoE K vs H1 R := rfl
theorem q_yes {R : Bool → Hp → Prop} : tYes σs H R = R true H := rfl
theorem q_lc {wi : TI} {vs : List Nat} : tLc wi g tt te vs σs H Q = wi σs H fun J H1 => LcEnd J g tt te vs σs H1 Q := rfl
theorem q_iteT {A B : Prop} : (if true = true then A else B) = A := if_pos rfl
theorem q_iteF {A B : Prop} : (if false = true then A else B) = B := if_neg Bool.false_ne_true
theorem w_cdiv {i j : Int} (h1 : 0 < j) (h2 : j < 1073741824) : CDiv i j := ⟨h1, h2⟩
theorem w_cmul1 {i j : Int} (h1 : -(2 ^ 64) < i) (h2 : i < 2 ^ 64) : CMul i j := .inl ⟨h1, h2⟩
theorem w_cmul2 {i j : Int} (h1 : -(2 ^ 64) < j) (h2 : j < 2 ^ 64) : CMul i j := .inr ⟨h1, h2⟩
theorem w_size {n : Nat} (h : n ≤ 16777216) : n ≤ sizeLine := by rw [sizeLine_eq]; exact h
theorem w_sizel {n : Nat} (h : n < 16777216) : n < sizeLine := by rw [sizeLine_eq]; exact h
theorem w_conj {A B : Prop} (h2 : B) (h1 : A) : A ∧ B := ⟨h1, h2⟩
end
end Fw
namespace Fw
open PySem PySem.Spec PyProof.Rows L2
/-! ### isinstance of built-in kinds -/
section
variable {K : PySem.W.Frag} {H : Hp} {Q : VK} {x : V} {i : Int} {z : Str} {bb : Bool} {a : Addr} {xs : List V} {F0 H0 F : Hp} {L : List (Addr × HO)} {C : List Ck}
theorem w_isi {b : Bool} (t n : String) (b : Bool) (ty : TyX K H x (.type t)) (h : kitB t n = some b) (q : Q (.bl b) H) : rIsi K [x, .ty n] H Q := ⟨x, .ty n, _, _, b, rfl, .ty n, ty, kit_ty h, q⟩
theorem w_isiII (q : Q (.bl true) H) : rIsi K [.int i, .ty "int"] H Q := w_isi (b := true) "int" "int" true (.base (.int i)) (by decide +kernel) q
theorem w_isiIB (q : Q (.bl false) H) : rIsi K [.int i, .ty "bool"] H Q := w_isi (b := true) "int" "bool" false (.base (.int i)) (by decide +kernel) q
theorem w_isiBB (q : Q (.bl true) H) : rIsi K [.bl bb, .ty "bool"] H Q := w_isi (b := true) "bool" "bool" true (.base (.bl bb)) (by decide +kernel) q
theorem w_isiSS (q : Q (.bl true) H) : rIsi K [.str z, .ty "str"] H Q := w_isi (b := true) "str" "str" true (.base (.str z)) (by decide +kernel) q
theorem w_isiLL (q : Q (.bl true) H) (h : H a = some (.lst xs)) : rIsi K [.ref a, .ty "list"] H Q := w_isi (b := true) "list" "list" true (.base (.lst h)) (by decide +kernel) q
theorem w_isiTT (q : Q (.bl true) H) (h : H a = some (.tup xs)) : rIsi K [.ref a, .ty "tuple"] H Q := w_isi (b := true) "tuple" "tuple" true (.base (.tup h)) (by decide +kernel) q
end
end Fw
namespace Fw
open PySem PySem.Spec PyProof.Rows L2
theorem w_cut {t u : TS} {nx bk ct : L2.St → Hp → Prop} {rt : VK} {σ : L2.St} {H : Hp} (Mid : L2.St → Hp → Prop) (h1 : t ⟨Mid, rt, bk, ct⟩ σ H) (h2 : ∀ σ' H', Mid σ' H' → u ⟨nx, rt, bk, ct⟩ σ' H') : Evl.tCut t u ⟨nx, rt, bk, ct⟩ σ H := ⟨Mid, h1, h2⟩
end Fw
namespace Fw
open PySem PySem.Spec PyProof.Rows L2
/-! ### lists of tuples -/
def cTs (ts : List Addr) (f : Nat → List V) : Ck := ⟨fun F => ∀ (j : Nat) t, ts[j]? = some t → F t = some (.tup (f j)), fun s h j t e => s _ _ (h j t e)⟩
theorem cTs_nil {F : Hp} (f : Nat → List V) : (cTs [] f).p F := fun j t e => by simp at e
theorem cTs_add {F : Hp} {ts : List Addr} {f : Nat → List V} {t : Addr} (h : (cTs ts f).p F) (e : F t = some (.tup (f ts.length))) : (cTs (ts ++ [t]) f).p F := by
  intro j u hu
  by_cases hj : j < ts.length
  · rw [List.getElem?_append_left hj] at hu
    exact h j u hu
  · rw [List.getElem?_append_right (by omega)] at hu
    by_cases h0 : j - ts.length = 0
    · rw [h0] at hu
      have e1 : t = u := Option.some.inj hu
      have e2 : j = ts.length := by omega
      rw [← e1, e2]
      exact e
    · rw [List.getElem?_eq_none (by simp; omega)] at hu
      cases hu
theorem map_ref_add (ts : List Addr) (t : Addr) : ts.map V.ref ++ [V.ref t] = (ts ++ [t]).map V.ref := by rw [List.map_append]; rfl
theorem cutN_nat (l : List Nat) (a b : Nat) : cutN l (some (a : Int)) (some (b : Int)) = (l.drop a).take (b - a) := by
  unfold cutN
  rw [HT.sIx_nat, HT.sIx_nat]
  by_cases h : a ≤ l.length
  · rw [Nat.min_eq_left h]
    by_cases h2 : b ≤ l.length
    · rw [Nat.min_eq_left h2]
    · rw [Nat.min_eq_right (show l.length ≤ b by omega), List.take_of_length_le (by rw [List.length_drop]; exact Nat.le_refl _), List.take_of_length_le (by rw [List.length_drop]; omega)]
  · rw [Nat.min_eq_right (show l.length ≤ a by omega), List.drop_length, List.drop_eq_nil_of_le (show l.length ≤ a by omega)]
    simp
theorem cutN_to (l : List Nat) (b : Nat) : cutN l none (some (b : Int)) = l.take b := by
  unfold cutN
  rw [HT.sIx_nat, HT.sIx_none]
  show List.take (min b l.length - 0) (l.drop 0) = _
  rw [Nat.sub_zero, List.drop_zero]
  by_cases h : b ≤ l.length
  · rw [Nat.min_eq_left h]
  · rw [Nat.min_eq_right (show l.length ≤ b by omega), List.take_length, List.take_of_length_le (show l.length ≤ b by omega)]
theorem cutN_from (l : List Nat) (a : Nat) : cutN l (some (a : Int)) none = l.drop a := by
  unfold cutN
  rw [HT.sIx_nat, HT.sIx_none]
  by_cases h : a ≤ l.length
  · rw [Nat.min_eq_left h, List.take_of_length_le (by rw [List.length_drop]; exact Nat.le_refl _)]
  · rw [Nat.min_eq_right (show l.length ≤ a by omega), List.drop_length, List.drop_eq_nil_of_le (show l.length ≤ a by omega)]
    simp
end Fw
namespace Fw
open PySem PySem.Spec PyProof.Rows L2
section
variable {K : PySem.W.Frag} {H : Hp} {Q : VK} {a b : Addr} {ns ms : List Int}
theorem dpAll_ints : ∀ ns : List Int, DpAll K H (ns.map V.int) (ns.map PyData.int)
  | [] => .nil
  | n :: r => .cons (.int n) (dpAll_ints r)
theorem shaped_ints (ns : List Int) : SeqAt.shaped (.list (ns.map PyData.int)) = true := by
  unfold SeqAt.shaped
  refine Bool.and_eq_true_iff.mpr ⟨?_, decide_eq_true ?_⟩
  · show PyData.canLayAll0 (ns.map PyData.int) = true
    induction ns with
    | nil => rfl
    | cons n r ih => show (true && PyData.canLayAll0 (r.map PyData.int)) = true; rw [ih]; rfl
  · show PyData.depthAll (ns.map PyData.int) + 1 ≤ 64
    have h : PyData.depthAll (ns.map PyData.int) = 0 := by
      induction ns with
      | nil => rfl
      | cons n r ih => show max 0 (PyData.depthAll (r.map PyData.int)) = 0; rw [ih]; rfl
    omega
theorem w_eqDI (q : Q (.bl (decide (ns = ms))) H) (ha : SqL K H a (ns.map V.int)) (hb : SqL K H b (ms.map V.int)) : rEqD K (.ref a) (.ref b) H Q :=
  ⟨_, _, .lst ha (dpAll_ints ns), .lst hb (dpAll_ints ms), shaped_ints ns, shaped_ints ms, by
    show Q (.bl (PyData.eqvAll (ns.map PyData.int) (ms.map PyData.int))) H
    rw [PySem.W.ked_eqvAll]; exact q⟩
theorem w_neDI (q : Q (.bl (!decide (ns = ms))) H) (ha : SqL K H a (ns.map V.int)) (hb : SqL K H b (ms.map V.int)) : rNeD K (.ref a) (.ref b) H Q :=
  ⟨_, _, .lst ha (dpAll_ints ns), .lst hb (dpAll_ints ms), shaped_ints ns, shaped_ints ms, by
    show Q (.bl (!PyData.eqvAll (ns.map PyData.int) (ms.map PyData.int))) H
    rw [PySem.W.ked_eqvAll]; exact q⟩
variable {F0 H0 F : Hp} {L : List (Addr × HO)} {C : List Ck}
theorem w_sortRev (O : Own F0 H0 F H L C) (ha : SqL K H a (ns.map V.int)) (k : ∀ p H' (ms : List Int), ms.Perm ns → ms.Pairwise (· ≥ ·) → Own F0 H0 F H' ((p, .lst (ms.map V.int)) :: L) C → Q (.ref p) H') : rSortedKw K true [.bl true] [.ref a] [.bl true] H Q :=
  ⟨a, ns, rfl, rfl, ha, fun ms p pm od np => k p _ ms pm od (O.alloc np _)⟩
theorem w_max (h0 : 0 < ns.length) (ha : SqL K H a (ns.map V.int)) (k : ∀ m, m ∈ ns → (∀ y ∈ ns, y ≤ m) → Q (.int m) H) : rMax K [.ref a] H Q := ⟨a, ns, rfl, ha, h0, fun m h1 h2 => k m h1 h2⟩
theorem w_min (h0 : 0 < ns.length) (ha : SqL K H a (ns.map V.int)) (k : ∀ m, m ∈ ns → (∀ y ∈ ns, m ≤ y) → Q (.int m) H) : rMin K [.ref a] H Q := ⟨a, ns, rfl, ha, h0, fun m h1 h2 => k m h1 h2⟩
/-- two lists alike in order are one -/
theorem sorted_one : ∀ {ms ns : List Int}, ms.Perm ns → ms.Pairwise (· ≥ ·) → ns.Pairwise (· ≥ ·) → ms = ns := fun {ms ns} p h1 h2 =>
  List.Perm.eq_of_pairwise (le := (· ≥ ·)) (fun a b _ _ h1 h2 => by omega) h1 h2 p
theorem q_ckw {r : List V → List V → Hp → VK → Prop} {t tk : TA} {σ : L2.St} : tCKw r t tk σ H Q = t σ H fun vs H1 => tk σ H1 fun zs H2 => r vs zs H2 Q := rfl
theorem Own.tup (O : Own F0 H0 F H L C) (i : Nat) {ts : List Addr} {f : Nat → List V} {j : Nat} {t : Addr} (h : C[i]? = some (cTs ts f) := by rfl) (e : ts[j]? = some t) : H t = some (.tup (f j)) := O.fh _ _ (O.cs.get h j t e)
theorem w_ixT2 {xs : List V} {i : Int} {v : V} (q : Q v H) (hs : H a = some (.tup xs)) (hi : atI xs i = some v) : rIxT K (.ref a) (.int i) H Q := w_ixT q (.inl (.inl hs)) hi
end
end Fw
namespace Fw
theorem q_iteNT {A B : Prop} : (if (!true) = true then A else B) = B := if_neg Bool.false_ne_true
theorem q_iteNF {A B : Prop} : (if (!false) = true then A else B) = A := if_pos rfl
theorem sum_rep (n m : Nat) : (List.replicate n m).sum = n * m := by
  induction n with
  | zero => simp
  | succ n ih => rw [List.replicate_succ, List.sum_cons, ih, Nat.succ_mul, Nat.add_comm]
theorem flat_rep {α : Type} (n : Nat) (l : List α) : (List.replicate n l).flatten.length = n * l.length := by
  rw [List.length_flatten, List.map_replicate, sum_rep]
end Fw
namespace Fw
open PySem L2
theorem q_wipe1 {σ : L2.St} {s : Str} {n : Nat} : wipe σ (List.map (fun x => x.snd) [(s, n)]) = σ.set n none := rfl
theorem q_wipe2 {σ : L2.St} {s s' : Str} {n n' : Nat} : wipe σ (List.map (fun x => x.snd) [(s, n), (s', n')]) = (σ.set n' none).set n none := rfl
end Fw
namespace Fw
open PySem PySem.Spec PyProof.Rows L2
/-! ### further rules -/
section
variable {X : Cx} {K : PySem.W.Frag}
def rListQ (K : PySem.W.Frag) : List V → Hp → VK → Prop := fun vs H Q => ∃ p ys, vs = [.ref p] ∧ (SqL K H p ys ∨ SqT K H p ys) ∧ ys.length ≤ sizeLine ∧ NewL ys H Q
theorem listQ_ (e : X.K = K := by rfl) : CallR X (.type "list") (rListQ K) := by
  subst e
  exact fun pins s σ H vs us Q I r ⟨p, ys, e, h, _, n⟩ => call_list_of pins s σ H vs us Q I r ⟨p, ys, e, h, n.2⟩
/-- list(text) -/
def rListS : List V → Hp → VK → Prop := fun vs H Q => ∃ l : List Nat, vs = [vS l] ∧ l.length ≤ sizeLine ∧ NewL (l.map fun c => vS [c]) H Q
theorem vals_signs {x : Str} : ∀ {l : List Nat} {vs : List Value}, vs.length = l.length → (∀ (j : Nat) v, vs[j]? = some v → ∃ c u, l[j]? = some c ∧ v = .str ⟨#[c]⟩ u) → Vals (l.map fun c => vS [c]) vs
  | [], [], _, _ => .nil
  | [], _ :: _, h, _ => by cases h
  | _ :: _, [], h, _ => by cases h
  | c :: l, v :: vs, h, f => by
    obtain ⟨c', u, e1, e2⟩ := f 0 v rfl
    have e3 : c = c' := Option.some.inj e1
    subst e3
    exact .cons ⟨u, e2⟩ (vals_signs (x := x) (by simpa using h) fun j w hw => f (j + 1) w hw)
theorem listS_ (hc : X.calm = true) : CallR X (.type "list") rListS := by
  intro pins s σ H vs us Q I r h
  obtain ⟨l, rfl, hz, q⟩ := h
  obtain ⟨u, rfl, t, rfl⟩ := vals1 r
  refine call_list_str (I.ok.hd hc) (S l) t (fun h' tk acc' c' kp e it => ?_) (by show (S l).cps.size ≤ sizeLine; simpa [S] using hz)
  refine ⟨.ref s.heap.objs.size, _, I.laid (t' := tk) kp (Nat.le_refl _) (show ObjOk X.prog X.w _ h' _ (.lst (l.map fun c => vS [c])) from ⟨by rw [List.length_map]; exact hz, acc'.toList, c', ?_, e⟩), rfl, q.2 _ (I.hok.fresh (Nat.le_refl _))⟩
  refine vals_signs (x := S l) ?_ fun j v hv => ?_
  · rw [Array.length_toList, it.1]
    simp [S]
  · obtain ⟨c, u, e1, e2⟩ := it.2 j v (by simpa using hv)
    exact ⟨c, u, by simpa [S] using e1, e2⟩
/-- list[i] in an augmented assignment, 0 ≤ i -/
def rGetL (K : PySem.W.Frag) : V → V → Hp → VK → Prop := fun x y H Q => ∃ p xs i v, x = .ref p ∧ y = .int i ∧ SqL K H p xs ∧ 0 ≤ i ∧ xs[i.toNat]? = some v ∧ Q v H
theorem getL_ (e : X.K = K := by rfl) : PGet X (rGetL K) := by
  subst e
  intro pins s σ H o i ov iv Q I rx ry h
  obtain ⟨p, xs, i, v, rfl, rfl, hq, h0, he, q⟩ := h
  cases rx
  obtain ⟨t, rfl⟩ := ry
  obtain ⟨its, r, pl, hz⟩ := I.list hq
  obtain ⟨w, ew, rw'⟩ := r.get he
  have hl := r.length
  have hn := line63
  have hlt := (List.getElem?_eq_some_iff.mp he).1
  exact wpAny_getItem_list pl.isList h0 (by omega) (by simpa using ew) ⟨v, H, I, rw', q⟩
/-- sep.join(texts) -/
def joinN (sep : List Nat) : List (List Nat) → List Nat
  | [] => []
  | [x] => x
  | x :: r => x ++ (sep ++ joinN sep r)
theorem joinN_cons (sep x y : List Nat) (r : List (List Nat)) : joinN sep (x :: y :: r) = x ++ (sep ++ joinN sep (y :: r)) := rfl
theorem joinN_nil : ∀ ys : List (List Nat), joinN [] ys = ys.flatten
  | [] => rfl
  | [x] => by simp [joinN]
  | x :: y :: r => by rw [joinN_cons, joinN_nil (y :: r), List.nil_append]; rfl
theorem glue_fold (sep : List Nat) : ∀ (r : List (List Nat)) (acc : List Nat), (r.map S).foldl (fun (a : Array Nat) (p : Str) => a ++ (S sep).cps ++ p.cps) acc.toArray = (r.foldl (fun a p => a ++ (sep ++ p)) acc).toArray
  | [], acc => rfl
  | x :: r, acc => by
    rw [List.map_cons, List.foldl_cons, List.foldl_cons, ← glue_fold sep r (acc ++ (sep ++ x))]
    congr 1
    simp [S]
theorem glue_join (sep : List Nat) : ∀ (r : List (List Nat)) (x : List Nat), r.foldl (fun a p => a ++ (sep ++ p)) x = joinN sep (x :: r)
  | [], x => rfl
  | y :: r, x => by
    rw [List.foldl_cons, glue_join sep r, joinN_cons]
    cases r with
    | nil => rfl
    | cons z r => rw [joinN_cons, joinN_cons]; simp
theorem txt_join (sep : List Nat) (ys : List (List Nat)) : Txt.join (S sep) (ys.map S) = S (joinN sep ys) := by
  show (⟨((ys.map S).drop 1).foldl (fun (acc : Array Nat) (p : Str) => acc ++ (S sep).cps ++ p.cps) ((ys.map S).headD Str.empty).cps⟩ : Str) = _
  cases ys with
  | nil => rfl
  | cons x r =>
    show (⟨(r.map S).foldl (fun (acc : Array Nat) (p : Str) => acc ++ (S sep).cps ++ p.cps) (S x).cps⟩ : Str) = _
    have e := glue_fold sep r x
    rw [glue_join] at e
    show (⟨(r.map S).foldl (fun (acc : Array Nat) (p : Str) => acc ++ (S sep).cps ++ p.cps) x.toArray⟩ : Str) = _
    rw [e]
    rfl
def rJoin (K : PySem.W.Frag) : V → List V → Hp → VK → Prop := fun x xs H Q => ∃ (l : List Nat) (p : Addr) (ys : List (List Nat)), x = vS l ∧ xs = [.ref p] ∧ (SqL K H p (ys.map vS) ∨ SqT K H p (ys.map vS)) ∧ (ys.map List.length).sum + ys.length * l.length ≤ 16777216 ∧ Q (vS (joinN l ys)) H
theorem mt_joinN (e : X.K = K := by rfl) : MtR X "str.join" (rJoin K) := by
  subst e
  intro pins s σ H x xs v us Q I rx rs h
  obtain ⟨l, p, ys, e1, e2, hp, hz, q⟩ := h
  have em : ys.map vS = (ys.map S).map V.str := by rw [List.map_map]; rfl
  refine mt_join pins s σ H x xs v us Q I rx rs ⟨S l, p, ys.map S, e1, e2, by rw [← em]; exact hp, ?_, by rw [txt_join]; exact q⟩
  rw [List.map_map, List.length_map, S_len]
  have e3 : ((fun z : Str => z.length) ∘ S) = List.length := by funext z; exact S_len z
  rw [e3]
  exact hz
theorem pe_joinL {o e : Expr} {apos pos : Pos} {to te : TE} (ho : PE X o to) (he : PE X e te) (eK : X.K = K := by rfl) (hs : starEach [e] X.env = [(false, eval e X.env)] := by rfl) (hbase : attributeBase o "join" X.env (eval o X.env) = eval o X.env := by rfl) (hline : (apos.endLine == pos.line) = true := by rfl) :
    PE X (.Call (.Attribute o "join" apos) [e] [] pos) (tM1 (rJoin K) to te) := pe_m1 PySem.F.slot_str_join PySem.F.type_str_join (mt_joinN eK) ho he hs hbase hline
/-- text.index(sign), the sign stands in it -/
def rIdxS : V → List V → Hp → VK → Prop := fun x xs H Q => ∃ (l : List Nat) (c : Nat), x = vS l ∧ xs = [vS [c]] ∧ c ∈ l ∧ Q (.int (l.idxOf c : Nat)) H
theorem occ_idx {l : List Nat} {c : Nat} (h : c ∈ l) : ∃ r, Builtin.Str.occurrences (S l) (S [c]) 0 (S l).length 1 = l.idxOf c :: r := by
  rcases StrLaws.occ_head (S l) (S [c]) 1 (Nat.le_refl _) with ⟨_, hn⟩ | ⟨i, r, e, ha, hn⟩
  · obtain ⟨i, hi⟩ := List.mem_iff_getElem?.mp h
    exact absurd ((StrLaws.subAt_one (S l) c i).mpr (by rw [S_list]; exact hi)) (hn i)
  · refine ⟨r, ?_⟩
    rw [e]
    congr 1
    have h1 := (StrLaws.subAt_one (S l) c i).mp ha
    rw [S_list] at h1
    have h2 : ∀ k, k < i → l[k]? ≠ some c := fun k hk z => hn k hk ((StrLaws.subAt_one (S l) c k).mpr (by rw [S_list]; exact z))
    obtain ⟨hi, hv⟩ := List.getElem?_eq_some_iff.mp h1
    have hlt : l.idxOf c < l.length := List.idxOf_lt_length_of_mem h
    have hg : l[l.idxOf c]? = some c := by
      rw [List.getElem?_eq_getElem hlt, List.getElem_idxOf hlt]
    by_cases h3 : l.idxOf c < i
    · exact absurd hg (h2 _ h3)
    · by_cases h4 : i < l.idxOf c
      · exact absurd hv (by
          have := List.not_of_lt_findIdx (p := (· == c)) (xs := l) (i := i) h4
          simpa using this)
      · omega
theorem mt_idxS : MtR X "str.index" rIdxS := by
  intro pins s σ H x xs v us Q I rx rs h
  obtain ⟨l, c, e1, e2, hc, q⟩ := h
  obtain ⟨r, e⟩ := occ_idx hc
  exact mt_sindex pins s σ H x xs v us Q I rx rs ⟨S l, S [c], _, r, e1, e2, e, q⟩
theorem pe_indexL {o e : Expr} {apos pos : Pos} {to te : TE} (ho : PE X o to) (he : PE X e te) (hs : starEach [e] X.env = [(false, eval e X.env)] := by rfl) (hbase : attributeBase o "index" X.env (eval o X.env) = eval o X.env := by rfl) (hline : (apos.endLine == pos.line) = true := by rfl) :
    PE X (.Call (.Attribute o "index" apos) [e] [] pos) (tM1 rIdxS to te) := pe_m1 PySem.F.slot_str_index PySem.F.type_str_index mt_idxS ho he hs hbase hline
def rStarts : V → List V → Hp → VK → Prop := fun x xs H Q => ∃ l m : List Nat, x = vS l ∧ xs = [vS m] ∧ Q (.bl (m.isPrefixOf l)) H
theorem starts_pre (l m : List Nat) : Txt.startswith (S l) (S m) = m.isPrefixOf l := by
  unfold Txt.startswith
  rw [S_len, S_len, StrLaws.subAt_eq]
  rw [Bool.eq_iff_iff, Bool.and_eq_true, decide_eq_true_eq, List.isPrefixOf_iff_prefix]
  show (0 + m.length ≤ l.length ∧ (((S l).cps.toList.drop 0).take (S m).cps.toList.length == (S m).cps.toList) = true) ↔ _
  rw [S_list, S_list, List.drop_zero, beq_iff_eq]
  constructor
  · rintro ⟨_, h⟩
    rw [← h]
    exact List.take_prefix _ _
  · intro h
    exact ⟨by have := h.length_le; omega, (List.prefix_iff_eq_take.mp h).symm⟩
theorem mt_startsN : MtR X "str.startswith" rStarts := by
  intro pins s σ H x xs v us Q I rx rs h
  obtain ⟨l, m, e1, e2, q⟩ := h
  exact mt_startswith pins s σ H x xs v us Q I rx rs ⟨S l, S m, e1, e2, by rw [starts_pre]; exact q⟩
theorem pe_startsL {o e : Expr} {apos pos : Pos} {to te : TE} (ho : PE X o to) (he : PE X e te) (hs : starEach [e] X.env = [(false, eval e X.env)] := by rfl) (hbase : attributeBase o "startswith" X.env (eval o X.env) = eval o X.env := by rfl) (hline : (apos.endLine == pos.line) = true := by rfl) :
    PE X (.Call (.Attribute o "startswith" apos) [e] [] pos) (tM1 rStarts to te) := pe_m1 PySem.F.slot_str_startswith PySem.F.type_str_startswith mt_startsN ho he hs hbase hline
end
section
variable {nx bk ct : L2.St → Hp → Prop} {rt : VK} {t u tb : TS} {H F0 H0 F : Hp} {L : List (Addr × HO)} {C : List Ck} {te ta tc : TE} {Q : VK} {v x y : V} {g : TG} {tt : TT} {tA : TA} {K : PySem.W.Frag} {σ : L2.St} {a b : Addr} {xs ys : List V} {i : Int}
theorem w_listL (O : Own F0 H0 F H L C) (hs : SqL K H a xs) (k : ∀ p H', Own F0 H0 F H' ((p, .lst xs) :: L) C → Q (.ref p) H') (hz : xs.length ≤ sizeLine) : rListQ K [.ref a] H Q := ⟨a, xs, rfl, .inl hs, hz, w_newL O k hz⟩
theorem w_listS {l : List Nat} (O : Own F0 H0 F H L C) (k : ∀ p H', Own F0 H0 F H' ((p, .lst (l.map fun c => vS [c])) :: L) C → Q (.ref p) H') (hz : l.length ≤ sizeLine) : rListS [vS l] H Q := ⟨l, rfl, hz, w_newL O k (by rw [List.length_map]; exact hz)⟩
theorem q_gsub {to ti : TE} {ts : TSet} {R : L2.St → Hp → Prop} : gSub to ti ts v σ H R = to σ H fun o H1 => ti σ H1 fun i H2 => ts o i v H2 fun H3 => R σ H3 := rfl
theorem q_asgG {to ti : TE} {ts : TSet} : tAsg te (gSub to ti ts) ⟨nx, rt, bk, ct⟩ σ H = te σ H fun x H1 => gSub to ti ts x σ H1 nx := rfl
theorem q_asgT {n : Nat} {tg : TGs} : tAsg te (gTup K n tg) ⟨nx, rt, bk, ct⟩ σ H = te σ H fun x H1 => gTup K n tg x σ H1 nx := rfl
theorem q_gnil {R : L2.St → Hp → Prop} : gNil [] σ H R = R σ H := propext ⟨fun ⟨_, q⟩ => q, fun q => ⟨rfl, q⟩⟩
theorem q_gcons {tg : TG} {tgs : TGs} {R : L2.St → Hp → Prop} : gCons tg tgs (v :: xs) σ H R = tg v σ H fun σ' H' => tgs xs σ' H' R := propext ⟨fun ⟨_, _, e, q⟩ => by cases e; exact q, fun q => ⟨v, xs, rfl, q⟩⟩
theorem w_gtup {n : Nat} {tg : TGs} {R : L2.St → Hp → Prop} (h : tg xs σ H R) (hs : SqT K H a xs) (hn : xs.length = n := by rfl) : gTup K n tg (.ref a) σ H R := ⟨a, xs, rfl, hs, hn, h⟩
theorem q_par {j k : Nat} : tPar j k tA ⟨nx, rt, bk, ct⟩ σ H = tA σ H fun vs H1 => ∃ v w, vs = [v, w] ∧ nx ((σ.set j (some v)).set k (some w)) H1 := rfl
theorem q_two {w : V} {R : V → V → Prop} : (∃ x y, [v, w] = [x, y] ∧ R x y) = R v w := propext ⟨fun ⟨_, _, e, q⟩ => by cases e; exact q, fun q => ⟨_, _, rfl, q⟩⟩
theorem q_chain {r r' : R2} : tChain r r' te ta tc σ H Q = te σ H fun x H1 => ta σ H1 fun y H2 => r x y H2 fun z H3 => ∃ k, z = .bl k ∧ (if k = true then tc σ H3 fun w' H4 => r' y w' H4 Q else Q (.bl false) H3) := rfl
theorem q_m1 {r : V → List V → Hp → VK → Prop} {to : TE} : tM1 r to te σ H Q = to σ H fun x H1 => (∃ a, x = .str a) ∧ te σ H1 fun y H2 => r x [y] H2 Q := rfl
theorem q_isS {z : Str} {P : Prop} : ((∃ a, V.str z = .str a) ∧ P) = P := propext ⟨fun h => h.2, fun h => ⟨⟨z, rfl⟩, h⟩⟩
theorem q_augS {to ti : TE} {tget : V → V → Hp → VK → Prop} {tip : TIp} {ts : TSet} : tAugS to ti te tget tip ts ⟨nx, rt, bk, ct⟩ σ H = to σ H fun o H1 => ti σ H1 fun i H2 => tget o i H2 fun x H3 => te σ H3 fun y H4 => tip x y H4 fun z H5 => ts o i z H5 fun H6 => nx σ H6 := rfl
theorem q_ipI {f : Int → Int → Int} {i j : Int} : ipI f (.int i) (.int j) H Q = Q (.int (f i j)) H := propext ⟨fun ⟨_, _, e1, e2, q⟩ => by cases e1; cases e2; exact q, fun q => ⟨i, j, rfl, rfl, q⟩⟩
theorem ixN_pos {n : Nat} (h : 0 ≤ i ∧ i < n) : ixN n i = some i.toNat := by
  unfold ixN
  rw [if_pos h.1, if_pos (by omega)]
theorem w_set {j : Nat} {R : Hp → Prop} (O : Own F0 H0 F H L C) (hi : L[j]? = some (a, .lst xs)) (h : 0 ≤ i ∧ i < xs.length) (k : ∀ H', Own F0 H0 F H' (L.set j (a, .lst (xs.set i.toNat v))) C → R H') : rSetL (.ref a) (.int i) v H R :=
  ⟨a, xs, i, i.toNat, rfl, rfl, O.at_ j hi, ixN_pos h, k _ (O.set j hi _)⟩
theorem w_set0 {R : Hp → Prop} (O : Own F0 H0 F H ((a, .lst xs) :: L) C) (k : ∀ H', Own F0 H0 F H' ((a, .lst (xs.set i.toNat v)) :: L) C → R H') (h : 0 ≤ i ∧ i < xs.length) : rSetL (.ref a) (.int i) v H R := w_set (j := 0) O rfl h k
theorem w_set1 {q : Addr × HO} {R : Hp → Prop} (O : Own F0 H0 F H (q :: (a, .lst xs) :: L) C) (k : ∀ H', Own F0 H0 F H' (q :: (a, .lst (xs.set i.toNat v)) :: L) C → R H') (h : 0 ≤ i ∧ i < xs.length) : rSetL (.ref a) (.int i) v H R := w_set (j := 1) O rfl h k
theorem w_set2 {q q' : Addr × HO} {R : Hp → Prop} (O : Own F0 H0 F H (q :: q' :: (a, .lst xs) :: L) C) (k : ∀ H', Own F0 H0 F H' (q :: q' :: (a, .lst (xs.set i.toNat v)) :: L) C → R H') (h : 0 ≤ i ∧ i < xs.length) : rSetL (.ref a) (.int i) v H R := w_set (j := 2) O rfl h k
theorem w_getN {ns : List Int} (q : Q (.int (ns.getD i.toNat 0)) H) (hs : SqL K H a (ns.map V.int)) (h : 0 ≤ i ∧ i < ns.length) : rGetL K (.ref a) (.int i) H Q := by
  refine ⟨a, _, i, .int (ns.getD i.toNat 0), rfl, rfl, hs, h.1, ?_, q⟩
  rw [List.getElem?_map, List.getD_eq_getElem?_getD, List.getElem?_eq_getElem (by omega)]
  rfl
theorem w_rep (O : Own F0 H0 F H L C) (hs : H a = some (.lst xs)) (k : ∀ p H', Own F0 H0 F H' ((p, .lst (List.replicate i.toNat xs).flatten) :: L) C → Q (.ref p) H') (h : -(2 ^ 63) ≤ i ∧ i < 2 ^ 63) (hz : xs.length * i.toNat ≤ sizeLine) : rRep (.ref a) (.int i) H Q :=
  ⟨a, i, xs, rfl, rfl, hs, h.1, h.2, hz, fun p np => k p _ (O.alloc np _)⟩
theorem w_slL {lo hi : Option Int} (O : Own F0 H0 F H L C) (hs : SqL K H a xs) (k : ∀ p H', Own F0 H0 F H' ((p, .lst (cutV xs lo hi)) :: L) C → Q (.ref p) H') : rSlL K (.ref a) lo hi H Q := ⟨a, xs, rfl, hs, fun p np => k p _ (O.alloc np _)⟩
theorem w_cat (O : Own F0 H0 F H L C) (hs : H a = some (.lst xs)) (ht : H b = some (.lst ys)) (k : ∀ p H', Own F0 H0 F H' ((p, .lst (xs ++ ys)) :: L) C → Q (.ref p) H') (hz : xs.length + ys.length ≤ sizeLine) : rCat (.ref a) (.ref b) H Q := ⟨a, b, xs, ys, rfl, rfl, hs, ht, hz, fun p np => k p _ (O.alloc np _)⟩
theorem w_ext {j : Nat} (O : Own F0 H0 F H L C) (hi : L[j]? = some (a, .lst xs)) (hb : H b = some (.lst ys)) (k : ∀ H', Own F0 H0 F H' (L.set j (a, .lst (xs ++ ys))) C → Q .non H') (hz : xs.length + ys.length ≤ sizeLine) : rExtend (.ref a) [.ref b] H Q :=
  ⟨a, b, xs, ys, rfl, rfl, O.at_ j hi, hb, hz, k _ (O.set j hi _)⟩
theorem w_ext0 (O : Own F0 H0 F H ((a, .lst xs) :: L) C) (hb : H b = some (.lst ys)) (k : ∀ H', Own F0 H0 F H' ((a, .lst (xs ++ ys)) :: L) C → Q .non H') (hz : xs.length + ys.length ≤ sizeLine) : rExtend (.ref a) [.ref b] H Q := w_ext (j := 0) O rfl hb k hz
theorem w_ext1 {q : Addr × HO} (O : Own F0 H0 F H (q :: (a, .lst xs) :: L) C) (hb : H b = some (.lst ys)) (k : ∀ H', Own F0 H0 F H' (q :: (a, .lst (xs ++ ys)) :: L) C → Q .non H') (hz : xs.length + ys.length ≤ sizeLine) : rExtend (.ref a) [.ref b] H Q := w_ext (j := 1) O rfl hb k hz
theorem w_rev {j : Nat} (O : Own F0 H0 F H L C) (hi : L[j]? = some (a, .lst xs)) (k : ∀ H', Own F0 H0 F H' (L.set j (a, .lst xs.reverse)) C → Q .non H') : rReverse (.ref a) [] H Q := ⟨a, xs, rfl, rfl, O.at_ j hi, k _ (O.set j hi _)⟩
theorem w_rev0 (O : Own F0 H0 F H ((a, .lst xs) :: L) C) (k : ∀ H', Own F0 H0 F H' ((a, .lst xs.reverse) :: L) C → Q .non H') : rReverse (.ref a) [] H Q := w_rev (j := 0) O rfl k
theorem w_join {l : List Nat} {ls : List (List Nat)} (q : Q (vS (joinN l ls)) H) (hs : SqL K H a (ls.map vS)) (hz : (ls.map List.length).sum + ls.length * l.length ≤ 16777216) : rJoin K (vS l) [.ref a] H Q := ⟨l, a, ls, rfl, rfl, .inl hs, hz, q⟩
theorem q_starts {l m : List Nat} : rStarts (vS l) [vS m] H Q = Q (.bl (m.isPrefixOf l)) H := propext ⟨fun ⟨l', m', e1, e2, q⟩ => by
  have e1 := S_inj.mp (V.str.inj e1)
  subst e1
  have e2 := S_inj.mp (V.str.inj (List.cons.inj e2).1)
  subst e2
  exact q, fun q => ⟨l, m, rfl, rfl, q⟩⟩
theorem w_idxS {l : List Nat} {c : Nat} (q : Q (.int (l.idxOf c : Nat)) H) (h : c ∈ l) : rIdxS (vS l) [vS [c]] H Q := ⟨l, c, rfl, rfl, h, q⟩
/-! text == text by their signs -/
theorem decide_S {l m : List Nat} : decide (S l = S m) = decide (l = m) := decide_eq_decide.mpr S_inj
/-! a list of lists of integers, each frozen -/
def cNs (ts : List Addr) (nss : List (List Int)) : Ck := ⟨fun F => ts.length = nss.length ∧ ∀ (j : Nat) t ns, ts[j]? = some t → nss[j]? = some ns → F t = some (.lst (ns.map V.int)), fun s h => ⟨h.1, fun j t ns e1 e2 => s _ _ (h.2 j t ns e1 e2)⟩⟩
theorem cNs_nil {F : Hp} : (cNs [] []).p F := ⟨rfl, fun j t ns e => by simp at e⟩
theorem cNs_add {F : Hp} {ts : List Addr} {nss : List (List Int)} {t : Addr} {ns : List Int} (h : (cNs ts nss).p F) (e : F t = some (.lst (ns.map V.int))) : (cNs (ts ++ [t]) (nss ++ [ns])).p F := by
  refine ⟨by rw [List.length_append, List.length_append, h.1]; rfl, fun j u ms hu hm => ?_⟩
  by_cases hj : j < ts.length
  · rw [List.getElem?_append_left hj] at hu
    rw [List.getElem?_append_left (by have := h.1; omega)] at hm
    exact h.2 j u ms hu hm
  · rw [List.getElem?_append_right (by omega)] at hu
    rw [List.getElem?_append_right (by have := h.1; omega), ← h.1] at hm
    by_cases h0 : j - ts.length = 0
    · rw [h0] at hu hm
      have e1 : t = u := Option.some.inj hu
      have e2 : ns = ms := Option.some.inj hm
      rw [← e1, ← e2]
      exact e
    · rw [List.getElem?_eq_none (by simp; omega)] at hu
      cases hu
end
end Fw

namespace Fw
open PySem PySem.Spec PyProof.Rows L2
/-! ### promises whose arguments are told of the heap at the entry -/
def SpV (R : V → Prop) (H : Hp) (Q : VK) : Prop := ∀ v H', Same H H' → R v → Q v H'
def SpN (R : V → List (Addr × HO) → Hp → Prop) (H : Hp) (Q : VK) : Prop := Spec (fun _ => True) R H Q
section
variable {F0 H0 F H F' H' : Hp} {L : List (Addr × HO)} {C : List Ck} {R : V → Prop} {Rn : V → List (Addr × HO) → Hp → Prop} {Q : VK} {v : V} {K : PySem.W.Frag} {a : Addr} {xs : List V}
abbrev noF : Hp := fun _ => none
theorem Own.start0 : Own noF H noF H [] [] := ⟨Same.refl _, fun _ _ h => (nomatch h), Same.refl _, fun _ _ h => .inl h, fun _ h => (nomatch h), List.nodup_nil, trivial⟩
theorem Own.callS (O : Own F0 H0 F H L C) (k : ∀ v H', R v → Own F0 H0 F H' L C → Q v H') : SpV R H Q := fun _ _ s r => k _ _ r (O.more s)
theorem Own.retS (O : Own F0 H F' H' L C) (q : SpV R H Q) (r : R v) : Q v H' := q _ _ O.hh r
theorem Own.callN (O : Own F0 H0 F H L C) (k : ∀ v L' F' H', Rn v L' F' → Own F0 H0 F' H' (L' ++ L) C → Q v H') : SpN Rn H Q := O.call trivial k
theorem Own.ofH (O : Own F0 H0 F H L C) (h : SqL K H0 a xs) : SqL K H a xs := O.hh.seq h
theorem Own.ofHT (O : Own F0 H0 F H L C) (h : SqT K H0 a xs) : SqT K H a xs := Same.sqt O.hh h
theorem Own.ofHO {o : HO} (O : Own F0 H0 F H L C) (h : H0 a = some o) : H a = some o := O.hh _ _ h
end
end Fw

namespace Fw
open PySem PySem.Spec PyProof.Rows L2
/-! ### dicts of the module -/
theorem ixD_ {X : Cx} {K : PySem.W.Frag} {w : World} (e : X.K = K := by rfl) (e2 : X.w = w := by rfl) : IxR X (rIxD K w) := by
  subst e
  subst e2
  exact ix_kdict
theorem kd_of {K : PySem.W.Frag} {w : World} {a : Addr} {kvs : List (Str × He.Dv)} (D : ∃ es n, KDict K w a es n) (h : He.valsB K a kvs = true) : ∀ q ∈ kvs, KDct K w a q.1 (q.2.v K) := fun q hq => by
  obtain ⟨es, n, d⟩ := D
  obtain ⟨u, h1, h2⟩ := He.valsB_ok h hq
  exact ⟨es, n, u, d.at_, d.lit, h1, h2⟩
theorem w_kd {K : PySem.W.Frag} {w : World} {a : Addr} {z : Str} {v : V} {H : Hp} {Q : VK} (h : KDct K w a z v) (q : Q v H) : rIxD K w (.ref a) (.str z) H Q := ⟨a, z, v, rfl, rfl, h, q⟩
end Fw

namespace Fw
open PySem PySem.Spec PyProof.Rows L2
section
variable {H F0 H0 F : Hp} {L : List (Addr × HO)} {C : List Ck} {te : TE} {Q : VK} {g : TG} {K : PySem.W.Frag} {σ : L2.St} {a : Addr} {xs : List V}
/-- [te for x in reversed(xs)] -/
theorem w_lcRev {tt : TT} {vs : List Nat} (O : Own F0 H0 F H L C) (hx : SqL K H a xs) (hl : ∀ {F' H' acc D}, Own F0 H0 F' H' ((D, .lst acc) :: L) C → Same F F' → SqL K H' a xs) (Iv : Nat → List V → Hp → Prop) (h0 : Iv 0 [] F)
    (turn : ∀ (i : Nat) x acc D F' H', i < xs.length → xs[xs.length - 1 - i]? = some x → Iv i acc F' → Same F F' → Own F0 H0 F' H' ((D, .lst acc) :: L) C → g x (wipe σ vs) H' fun σ2 H2 => wipe σ2 vs = wipe σ vs ∧ tt σ2 H2 fun b H3 =>
      if b = true then te σ2 H3 (Put D (Btw F0 H0 F L C D (Iv (i + 1)))) else Btw F0 H0 F L C D (Iv (i + 1)) H3)
    (done : ∀ acc D F' H', Iv xs.length acc F' → Same F F' → Own F0 H0 F' H' ((D, .lst acc) :: L) C → Q (.ref D) H') :
    FoR K [.ref a] H fun J H1 => LcEnd J g tt te vs σ H1 Q := by
  refine ⟨a, xs, rfl, hx, lc_any xs.length (fun i x => xs[xs.length - 1 - i]? = some x) O Iv h0 (fun i H' F' acc D hi O' sF => ?_) (fun H' F' acc D O' sF => Nat.le_refl _) (fun i x H' H2 F' acc D hi O' sF hy => ⟨hy.1, hy.2 xs (hl O' sF)⟩) (fun i x acc D F' H' hi hY => turn i x acc D F' H' hi hY) done⟩
  exact ⟨hi, xs, _, hl O' sF, List.getElem?_eq_getElem (by omega)⟩
theorem q_dec1 {c d : Nat} : decide ([c] = [d]) = decide (c = d) := decide_eq_decide.mpr ⟨fun h => (List.cons.inj h).1, fun h => by rw [h]⟩
end
end Fw

namespace Fw
open PySem PySem.Spec PyProof.Rows L2
/-! ### guards of the tactic -/
theorem h_NewL {xs : List V} {H : Hp} {Q : VK} (h : NewL xs H Q) : NewL xs H Q := h
theorem h_NewT {xs : List V} {H : Hp} {Q : VK} (h : NewT xs H Q) : NewT xs H Q := h
theorem h_Ty {K : PySem.W.Frag} {T : String} {x : V} {H : Hp} {P : Prop} (h : tyV K T x H ∧ P) : tyV K T x H ∧ P := h
theorem h_App {x : V} {vs : List V} {H : Hp} {Q : VK} (h : rAppend x vs H Q) : rAppend x vs H Q := h
theorem h_Len {K : PySem.W.Frag} {vs : List V} {H : Hp} {Q : VK} (h : rLenQ K vs H Q) : rLenQ K vs H Q := h
theorem h_Ix {K : PySem.W.Frag} {x y : V} {H : Hp} {Q : VK} (h : rIxL K x y H Q) : rIxL K x y H Q := h
theorem h_IxS {x y : V} {H : Hp} {Q : VK} (h : rIxSg x y H Q) : rIxSg x y H Q := h
theorem h_MulS {x y : V} {H : Hp} {Q : VK} (h : rMulS x y H Q) : rMulS x y H Q := h
theorem h_Isi {K : PySem.W.Frag} {vs : List V} {H : Hp} {Q : VK} (h : rIsi K vs H Q) : rIsi K vs H Q := h
theorem h_Set {o i v : V} {H : Hp} {R : Hp → Prop} (h : rSetL o i v H R) : rSetL o i v H R := h
theorem h_Get {K : PySem.W.Frag} {x y : V} {H : Hp} {Q : VK} (h : rGetL K x y H Q) : rGetL K x y H Q := h
theorem h_ListQ {K : PySem.W.Frag} {vs : List V} {H : Hp} {Q : VK} (h : rListQ K vs H Q) : rListQ K vs H Q := h
theorem h_ListS {vs : List V} {H : Hp} {Q : VK} (h : rListS vs H Q) : rListS vs H Q := h
theorem h_Rep {x y : V} {H : Hp} {Q : VK} (h : rRep x y H Q) : rRep x y H Q := h
theorem h_SlL {K : PySem.W.Frag} {x : V} {lo hi : Option Int} {H : Hp} {Q : VK} (h : rSlL K x lo hi H Q) : rSlL K x lo hi H Q := h
theorem h_Cat {x y : V} {H : Hp} {Q : VK} (h : rCat x y H Q) : rCat x y H Q := h
theorem h_Ext {x : V} {vs : List V} {H : Hp} {Q : VK} (h : rExtend x vs H Q) : rExtend x vs H Q := h
theorem h_Rev {x : V} {vs : List V} {H : Hp} {Q : VK} (h : rReverse x vs H Q) : rReverse x vs H Q := h
theorem h_Idx {x : V} {vs : List V} {H : Hp} {Q : VK} (h : rIdxS x vs H Q) : rIdxS x vs H Q := h
theorem h_Gtup {K : PySem.W.Frag} {n : Nat} {tg : TGs} {v : V} {σ : L2.St} {H : Hp} {R : L2.St → Hp → Prop} (h : gTup K n tg v σ H R) : gTup K n tg v σ H R := h
theorem h_EqD {K : PySem.W.Frag} {x y : V} {H : Hp} {Q : VK} (h : rEqD K x y H Q) : rEqD K x y H Q := h
theorem h_NeD {K : PySem.W.Frag} {x y : V} {H : Hp} {Q : VK} (h : rNeD K x y H Q) : rNeD K x y H Q := h
section
variable {H F0 H0 F : Hp} {L : List (Addr × HO)} {C : List Ck} {Q : VK} {v : V} {a : Addr} {xs : List V} {i : Int} {q1 q2 q3 q4 : Addr × HO}
theorem w_app3 (O : Own F0 H0 F H (q1 :: q2 :: q3 :: (a, .lst xs) :: L) C) (k : ∀ H', Own F0 H0 F H' (q1 :: q2 :: q3 :: (a, .lst (xs ++ [v])) :: L) C → Q .non H') (hz : xs.length < sizeLine) : rAppend (.ref a) [v] H Q := w_app (j := 3) O rfl k hz
theorem w_app4 (O : Own F0 H0 F H (q1 :: q2 :: q3 :: q4 :: (a, .lst xs) :: L) C) (k : ∀ H', Own F0 H0 F H' (q1 :: q2 :: q3 :: q4 :: (a, .lst (xs ++ [v])) :: L) C → Q .non H') (hz : xs.length < sizeLine) : rAppend (.ref a) [v] H Q := w_app (j := 4) O rfl k hz
theorem w_set3 {R : Hp → Prop} (O : Own F0 H0 F H (q1 :: q2 :: q3 :: (a, .lst xs) :: L) C) (k : ∀ H', Own F0 H0 F H' (q1 :: q2 :: q3 :: (a, .lst (xs.set i.toNat v)) :: L) C → R H') (h : 0 ≤ i ∧ i < xs.length) : rSetL (.ref a) (.int i) v H R := w_set (j := 3) O rfl h k
end
end Fw

namespace Fw
open PySem PySem.Spec PyProof.Rows L2
/-! ### equal data; numbers as texts; split -/
section
variable {K : PySem.W.Frag} {H : Hp} {Q : VK} {x y : V} {d : PyData}
theorem w_eqD1 (ha : Dp K H x d) (hb : Dp K H y d) (hs : SeqAt.shaped d = true) (q : Q (.bl true) H) : rEqD K x y H Q :=
  ⟨d, d, ha, hb, hs, hs, by rw [SeqAt.eqv_refl d (SeqAt.canLay_of_shaped hs)]; exact q⟩
theorem w_neD1 (ha : Dp K H x d) (hb : Dp K H y d) (hs : SeqAt.shaped d = true) (q : Q (.bl false) H) : rNeD K x y H Q :=
  ⟨d, d, ha, hb, hs, hs, by rw [SeqAt.eqv_refl d (SeqAt.canLay_of_shaped hs)]; exact q⟩
/-- data of a small depth, its texts well made -/
structure Shp (n : Nat) (d : PyData) : Prop where
  lay : d.canLay0 = true
  dep : d.depth ≤ n
theorem Shp.shaped {n : Nat} (h : Shp n d) (hn : n ≤ 64) : SeqAt.shaped d = true := Bool.and_eq_true_iff.mpr ⟨h.lay, decide_eq_true (Nat.le_trans h.dep hn)⟩
theorem shp_int (i : Int) : Shp 0 (.int i) := ⟨rfl, Nat.le_refl _⟩
theorem shp_bool (b : Bool) : Shp 0 (.bool b) := ⟨rfl, Nat.le_refl _⟩
theorem shp_non : Shp 0 .none := ⟨rfl, Nat.le_refl _⟩
theorem shp_str {l : List Nat} (h : ∀ c ∈ l, c < 1114112) : Shp 0 (.str (S l)) := by
  refine ⟨?_, Nat.le_refl _⟩
  show PyData.strOk (S l) = true
  unfold PyData.strOk S
  rw [Array.all_eq_true_iff_forall_mem]
  intro c hc
  exact decide_eq_true (h c (by simpa using hc))
theorem shp_all {n : Nat} : ∀ {ds : List PyData}, (∀ d ∈ ds, Shp n d) → PyData.canLayAll0 ds = true ∧ PyData.depthAll ds ≤ n
  | [], _ => ⟨rfl, Nat.zero_le _⟩
  | d :: ds, h => by
    obtain ⟨h1, h2⟩ := shp_all (ds := ds) fun e he => h e (List.mem_cons_of_mem _ he)
    have h3 := h d List.mem_cons_self
    refine ⟨Bool.and_eq_true_iff.mpr ⟨h3.lay, h1⟩, ?_⟩
    show max (PyData.depth d) (PyData.depthAll ds) ≤ n
    have := h3.dep
    omega
theorem shp_list {n : Nat} {ds : List PyData} (h : ∀ d ∈ ds, Shp n d) : Shp (n + 1) (.list ds) := ⟨(shp_all h).1, Nat.succ_le_succ (shp_all h).2⟩
theorem shp_tuple {n : Nat} {ds : List PyData} (h : ∀ d ∈ ds, Shp n d) : Shp (n + 1) (.tuple ds) := ⟨(shp_all h).1, Nat.succ_le_succ (shp_all h).2⟩
theorem dpAll_strs : ∀ ls : List (List Nat), DpAll K H (ls.map vS) (ls.map fun l => PyData.str (S l))
  | [] => .nil
  | l :: r => .cons (.str (S l)) (dpAll_strs r)
theorem dpAll_map {α : Type} {f : α → V} {g : α → PyData} : ∀ {as : List α}, (∀ a ∈ as, Dp K H (f a) (g a)) → DpAll K H (as.map f) (as.map g)
  | [], _ => .nil
  | a :: as, h => .cons (h a List.mem_cons_self) (dpAll_map fun b hb => h b (List.mem_cons_of_mem _ hb))
end
section
variable {X : Cx}
/-- a part of a record: a number from 0 on, or a text -/
inductive Fld where
  | n (k : Nat)
  | s (l : List Nat)
def Fld.v : Fld → V
  | .n k => .int (k : Nat)
  | .s l => vS l
def Fld.t : Fld → List Nat
  | .n k => TL.numL k
  | .s l => l
def Fld.d : Fld → PyData
  | .n k => .int (k : Nat)
  | .s l => .str (S l)
theorem num_S (k : Nat) : Str.ofString (toString ((k : Nat) : Int)) = S (TL.numL k) := by
  rw [S_of (Str.ofString (toString ((k : Nat) : Int)))]
  rw [S_inj]
  exact TL.tl_num k
def rStr : List V → Hp → VK → Prop := fun vs H Q => ∃ f : Fld, vs = [f.v] ∧ (∀ k, f = .n k → k < 10 ^ 20) ∧ Q (vS f.t) H
theorem k_str : CallR X (.type "str") rStr := by
  intro pins s σ H vs us Q I r h
  obtain ⟨f, rfl, hs, q⟩ := h
  cases f with
  | n k =>
    refine call_str_int pins s σ H _ us Q I r ⟨(k : Int), rfl, ?_, ?_⟩
    · have h1 := hs k rfl
      have h2 : (k : Int).natAbs = k := rfl
      rw [h2]
      by_cases h0 : k = 0
      · subst h0
        decide
      · exact Nat.lt_of_lt_of_le ((Nat.log2_lt h0).mpr (Nat.lt_of_lt_of_le h1 (by decide : 10 ^ 20 ≤ 2 ^ 67))) (by decide)
    · show Q (.str (Str.ofString (toString ((k : Nat) : Int)))) H
      rw [num_S]
      exact q
  | s l => exact SkE.call_str_str pins s σ H _ us Q I r ⟨S l, rfl, q⟩
def rIntS : List V → Hp → VK → Prop := fun vs H Q => ∃ (l : List Nat) (n : Int), vs = [vS l] ∧ intText? (S l) = some n ∧ l.length ≤ 640 ∧ Q (.int n) H
theorem k_intS : CallR X (.type "int") rIntS := fun pins s σ H vs us Q I r ⟨l, n, e, h1, h2, q⟩ => call_int_str pins s σ H vs us Q I r ⟨S l, n, e, h1, by rw [S_len]; exact h2, q⟩
theorem int_numL {k : Nat} (h : k < 10 ^ 20) : intText? (S (TL.numL k)) = some (k : Int) ∧ (TL.numL k).length ≤ 640 := by
  have hl := TL.numL_len (k := 20) (by decide) h
  have e := TL.int_num (n := k) (by omega)
  rw [num_S] at e
  exact ⟨e, by omega⟩
/-- text.split(sign) -/
def rSplit : V → List V → Hp → VK → Prop := fun x xs H Q => ∃ (c : Nat) (ls : List (List Nat)), x = vS (joinN [c] ls) ∧ xs = [vS [c]] ∧ c < 256 ∧ ls ≠ [] ∧ (∀ p ∈ ls, c ∉ p) ∧ (joinN [c] ls).length + 2 ≤ sizeLine ∧ NewL (ls.map vS) H Q
theorem mt_splitN : MtR X "str.split" rSplit := by
  intro pins s σ H x xs v us Q I rx rs h
  obtain ⟨c, ls, e1, e2, hc, hne, hp, hz, n⟩ := h
  refine mt_split pins s σ H x xs v us Q I rx rs ⟨S (joinN [c] ls), S [c], e1, e2, rfl, by rw [S_len]; exact hz, ?_⟩
  have e3 : Txt.split (S (joinN [c] ls)) (S [c]) = ls.map S := by
    rw [← txt_join]
    refine TL.split_join (s := c) (S := []) rfl ?_ (fun e => hne (List.map_eq_nil_iff.mp e)) fun p h => ?_
    · show (#[c] : Array Nat).all (· < 256) = true
      simp [hc]
    · obtain ⟨z, hz, rfl⟩ := List.mem_map.mp h
      show c ∉ (S z).cps.toList
      rw [S_list]
      exact hp z hz
  rw [e3]
  intro p np
  rw [List.map_map]
  exact n.2 p np
theorem pe_splitL {o e : Expr} {apos pos : Pos} {to te : TE} (ho : PE X o to) (he : PE X e te) (hs : starEach [e] X.env = [(false, eval e X.env)] := by rfl) (hbase : attributeBase o "split" X.env (eval o X.env) = eval o X.env := by rfl) (hline : (apos.endLine == pos.line) = true := by rfl) :
    PE X (.Call (.Attribute o "split" apos) [e] [] pos) (tM1 rSplit to te) := pe_m1 PySem.F.slot_str_split PySem.F.type_str_split mt_splitN ho he hs hbase hline
end
section
variable {H F0 H0 F : Hp} {L : List (Addr × HO)} {C : List Ck} {Q : VK} {K : PySem.W.Frag} {a : Addr} {xs : List V}
theorem w_str {f : Fld} (q : Q (vS f.t) H) (hs : ∀ k, f = .n k → k < 10 ^ 20) : rStr [f.v] H Q := ⟨f, rfl, hs, q⟩
theorem w_strN {k : Nat} (q : Q (vS (TL.numL k)) H) (hs : k < 10 ^ 20) : rStr [.int (k : Nat)] H Q := ⟨.n k, rfl, fun _ e => by cases e; exact hs, q⟩
theorem w_intS {l : List Nat} {n : Int} (q : Q (.int n) H) (h : intText? (S l) = some n ∧ l.length ≤ 640) : rIntS [vS l] H Q := ⟨l, n, rfl, h.1, h.2, q⟩
theorem w_split {c : Nat} {ls : List (List Nat)} (O : Own F0 H0 F H L C) (hc : c < 256) (hne : ls ≠ []) (hp : ∀ p ∈ ls, c ∉ p) (hz : (joinN [c] ls).length + 2 ≤ sizeLine) (k : ∀ p H', Own F0 H0 F H' ((p, .lst (ls.map vS)) :: L) C → Q (.ref p) H') (hl : ls.length ≤ sizeLine) : rSplit (vS (joinN [c] ls)) [vS [c]] H Q :=
  ⟨c, ls, rfl, rfl, hc, hne, hp, hz, w_newL O k (by rw [List.length_map]; exact hl)⟩
theorem w_slT {lo hi : Option Int} (O : Own F0 H0 F H L C) (hs : SqT K H a xs) (h : ¬ (HT.sIx xs.length 0 lo = 0 ∧ HT.sIx xs.length xs.length hi = xs.length)) (k : ∀ p F' H', Own F0 H0 F' H' L (cO p (.tup (cutV xs lo hi)) :: C) → Q (.ref p) H') : rSlT K (.ref a) lo hi H Q := ⟨a, xs, rfl, hs, h, fun p np => k p _ _ (O.ice np _)⟩
theorem w_all {bs : List Bool} (hs : SqL K H a (bs.map V.bl)) (q : Q (.bl (bs.all id)) H) : rAll K [.ref a] H Q := ⟨a, bs, rfl, hs, q⟩
theorem w_any {bs : List Bool} (hs : SqL K H a (bs.map V.bl)) (q : Q (.bl (bs.any id)) H) : rAny K [.ref a] H Q := ⟨a, bs, rfl, hs, q⟩
theorem w_sum {ns : List Int} (hs : SqL K H a (ns.map V.int)) (q : Q (.int ns.sum) H) : rSum K [.ref a] H Q := ⟨a, ns, rfl, hs, q⟩
end
end Fw

namespace Fw
open PySem PySem.Spec PyProof.Rows L2
/-! ### signs in texts, least and greatest of two, tests of truth -/
section
variable {X : Cx} {K : PySem.W.Frag}
def rInSg : R2 := fun x y H Q => ∃ (c : Nat) (l : List Nat), x = vS [c] ∧ y = vS l ∧ Q (.bl (decide (c ∈ l))) H
def rNotInSg : R2 := fun x y H Q => ∃ (c : Nat) (l : List Nat), x = vS [c] ∧ y = vS l ∧ Q (.bl (!decide (c ∈ l))) H
theorem k_inS : OpR X (compareOp .In) rInSg := fun pins s σ H x y u v Q I rx ry ⟨c, l, e1, e2, q⟩ => op_in_sign pins s σ H x y u v Q I rx ry ⟨c, S l, e1, e2, by rw [S_list]; exact q⟩
theorem k_notInS : OpR X (compareOp .NotIn) rNotInSg := fun pins s σ H x y u v Q I rx ry ⟨c, l, e1, e2, q⟩ => op_notIn_sign pins s σ H x y u v Q I rx ry ⟨c, S l, e1, e2, by rw [S_list]; exact q⟩
def rMin2' : List V → Hp → VK → Prop := fun xs H Q => ∃ i j : Int, xs = [.int i, .int j] ∧ Q (.int (min i j)) H
def rMax2' : List V → Hp → VK → Prop := fun xs H Q => ∃ i j : Int, xs = [.int i, .int j] ∧ Q (.int (max i j)) H
theorem min2_ (hc : X.calm = true) : CallR X (.builtin "min") rMin2' := by
  intro pins s σ H vs us Q I r h
  obtain ⟨i, j, e, q⟩ := h
  refine call_min2 hc pins s σ H vs us Q I r ⟨i, j, e, ?_⟩
  have e2 : (if j < i then j else i) = min i j := by split <;> omega
  rw [e2]
  exact q
theorem max2_ (hc : X.calm = true) : CallR X (.builtin "max") rMax2' := by
  intro pins s σ H vs us Q I r h
  obtain ⟨i, j, e, q⟩ := h
  refine call_max2 hc pins s σ H vs us Q I r ⟨i, j, e, ?_⟩
  have e2 : (if j > i then j else i) = max i j := by split <;> omega
  rw [e2]
  exact q
end
section
variable {H F0 H0 F : Hp} {L : List (Addr × HO)} {C : List Ck} {Q : VK} {K : PySem.W.Frag} {a : Addr} {xs : List V}
theorem q_inSg {c : Nat} {l : List Nat} : rInSg (vS [c]) (vS l) H Q = Q (.bl (decide (c ∈ l))) H := propext ⟨fun ⟨c', l', e1, e2, q⟩ => by
  have e1 := List.cons.inj (S_inj.mp (V.str.inj e1))
  have e2 := S_inj.mp (V.str.inj e2)
  rw [e1.1, e2]
  exact q, fun q => ⟨c, l, rfl, rfl, q⟩⟩
theorem q_notInSg {c : Nat} {l : List Nat} : rNotInSg (vS [c]) (vS l) H Q = Q (.bl (!decide (c ∈ l))) H := propext ⟨fun ⟨c', l', e1, e2, q⟩ => by
  have e1 := List.cons.inj (S_inj.mp (V.str.inj e1))
  have e2 := S_inj.mp (V.str.inj e2)
  rw [e1.1, e2]
  exact q, fun q => ⟨c, l, rfl, rfl, q⟩⟩
theorem q_min2 {i j : Int} : rMin2' [.int i, .int j] H Q = Q (.int (min i j)) H := propext ⟨fun ⟨_, _, e, q⟩ => by cases e; exact q, fun q => ⟨i, j, rfl, q⟩⟩
theorem q_max2 {i j : Int} : rMax2' [.int i, .int j] H Q = Q (.int (max i j)) H := propext ⟨fun ⟨_, _, e, q⟩ => by cases e; exact q, fun q => ⟨i, j, rfl, q⟩⟩
theorem w_ixStrs {ls : List (List Nat)} {i : Int} (q : Q (vS (ls.getD i.toNat [])) H) (hs : SqL K H a (ls.map vS)) (h : 0 ≤ i ∧ i < ls.length) : rIxL K (.ref a) (.int i) H Q := by
  refine w_ixL q hs ?_
  rw [atI_get (xs := ls.map vS) (d := vS []) (i := i) (by rw [List.length_map]; exact h)]
  congr 1
  rw [List.getD_eq_getElem?_getD, List.getD_eq_getElem?_getD, List.getElem?_map]
  cases ls[i.toNat]? <;> rfl
theorem Own.perm {L' : List (Addr × HO)} (O : Own F0 H0 F H L C) (h : L'.Perm L) : Own F0 H0 F H L' C := ⟨O.f0, O.fh, O.hh, O.new, fun q hq => O.own q (h.subset hq), (h.map Prod.fst).nodup_iff.mpr O.nd, O.cs⟩
theorem Own.swap {q q' : Addr × HO} (O : Own F0 H0 F H (q :: q' :: L) C) : Own F0 H0 F H (q' :: q :: L) C := O.perm (List.Perm.swap _ _ _)
/-- while, its turn told as it stands -/
theorem w_wh {tb : TS} {nx bk ct : L2.St → Hp → Prop} {rt : VK} {σ : L2.St} (Pv : Nat → L2.St → Hp → Prop) (m0 : Nat) (h0 : Pv m0 σ H) {c : TT}
    (hs : ∀ m σ' H', Pv m σ' H' → c σ' H' fun b H1 => if b = true then ∃ N : L2.St → Hp → Prop, (∀ σ2 H2, N σ2 H2 → ∃ m', m' < m ∧ Pv m' σ2 H2) ∧ tb ⟨N, rt, nx, N⟩ σ' H1 else nx σ' H1) : tWhile c tb ⟨nx, rt, bk, ct⟩ σ H := ⟨Pv, ⟨m0, h0⟩, fun m σ' H' p => hs m σ' H' p⟩
/-- its body -/
theorem w_bd {tb : TS} {nx : L2.St → Hp → Prop} {rt : VK} {σ : L2.St} {Pn : L2.St → Hp → Prop} (h : tb ⟨Pn, rt, nx, Pn⟩ σ H) : ∃ N : L2.St → Hp → Prop, (∀ σ2 H2, N σ2 H2 → Pn σ2 H2) ∧ tb ⟨N, rt, nx, N⟩ σ H := ⟨Pn, fun _ _ z => z, h⟩
/-- the frozen part has grown from F -/
def cF (F : Hp) : Ck := ⟨fun F' => Same F F', fun s h => h.trans s⟩
/-- a list of texts, against itself -/
theorem dp_strs {ls : List (List Nat)} (h : SqL K H a (ls.map vS)) : Dp K H (.ref a) (.list (ls.map fun l => PyData.str (S l))) := .lst h (dpAll_strs ls)
theorem q_wipe3 {σ : L2.St} {s s' s'' : Str} {n n' n'' : Nat} : wipe σ (List.map (fun x => x.snd) [(s, n), (s', n'), (s'', n'')]) = ((σ.set n'' none).set n' none).set n none := rfl
theorem q_wipe4 {σ : L2.St} {s s' s'' s3 : Str} {n n' n'' n3 : Nat} : wipe σ (List.map (fun x => x.snd) [(s, n), (s', n'), (s'', n''), (s3, n3)]) = (((σ.set n3 none).set n'' none).set n' none).set n none := rfl
theorem w_lcR3 {g : TG} {te : TE} {σ : L2.St} {tt : TT} {vs : List Nat} {b e c : Int} {n : Nat} (O : Own F0 H0 F H L C) (hn : RgC b e c n) (Iv : Nat → List V → Hp → Prop) (h0 : Iv 0 [] F)
    (turn : ∀ (i : Nat) acc D F' H', i < n → Iv i acc F' → Same F F' → Own F0 H0 F' H' ((D, .lst acc) :: L) C → g (.int (b + (i : Nat) * c)) (wipe σ vs) H' fun σ2 H2 => wipe σ2 vs = wipe σ vs ∧ tt σ2 H2 fun b H3 =>
      if b = true then te σ2 H3 (Put D (Btw F0 H0 F L C D (Iv (i + 1)))) else Btw F0 H0 F L C D (Iv (i + 1)) H3)
    (done : ∀ acc D F' H', Iv n acc F' → Same F F' → Own F0 H0 F' H' ((D, .lst acc) :: L) C → Q (.ref D) H') :
    Rg3 [.int b, .int e, .int c] H fun J H1 => LcEnd J g tt te vs σ H1 Q := by
  refine ⟨b, e, c, n, rfl, hn, lc_any n (fun i x => x = .int (b + (i : Nat) * c)) O Iv h0 (fun i H' F' acc D hi O' sF => hi) (fun H' F' acc D O' sF => Nat.le_refl _) (fun i x H' H2 F' acc D hi O' sF hy => hy) (fun i x acc D F' H' hi hY => ?_) done⟩
  intro h1 h2 h3
  rw [show x = .int (b + (i : Nat) * c) from hY]
  exact turn i acc D F' H' hi h1 h2 h3
theorem rgc_pos {n c : Nat} (hc : 0 < c ∧ c < 1073741824) (hn : n < 2 ^ 61) : RgC 0 (n : Int) (c : Int) ((n + c - 1) / c) := by
  have hs : Builtin.Range.rangeSize 0 (n : Int) (c : Int) = (((n + c - 1) / c : Nat) : Int) := by
    unfold Builtin.Range.rangeSize
    rw [if_pos (by omega)]
    by_cases h : n = 0
    · subst h
      rw [if_neg (by omega), Nat.div_eq_of_lt (by omega)]
      rfl
    · rw [if_pos (by omega), show n + c - 1 = (n - 1) + c by omega, Nat.add_div_right _ hc.1]
      have e : (n : Int) - 0 - 1 = ((n - 1 : Nat) : Int) := by omega
      rw [e]
      rfl
  refine ⟨by omega, by omega, ?_, hs⟩
  have hle : (n + c - 1) / c ≤ n := by
    rw [Nat.div_le_iff_le_mul hc.1]
    have : n ≤ n * c := Nat.le_mul_of_pos_right _ hc.1
    omega
  have hle2 : (n + c - 1) / c * c ≤ n + c - 1 := Nat.div_mul_le_self _ _
  have hle3 : (((n + c - 1) / c : Nat) : Int) * (c : Int) ≤ (n : Int) + c - 1 := by
    rw [← Int.natCast_mul]
    omega
  unfold Builtin.Range.small
  rw [hs]
  simp only [Builtin.Range.rangeFitsLong, Bool.and_eq_true, Bool.or_eq_true, decide_eq_true_eq, beq_iff_eq]
  generalize (n + c - 1) / c = d at hle ⊢
  refine ⟨⟨⟨⟨⟨by omega, by omega⟩, by omega, by omega⟩, by omega, by omega⟩, by omega, by omega⟩, .inr ?_⟩
  rw [if_pos (by omega), Bool.and_eq_true, decide_eq_true_eq, decide_eq_true_eq]
  omega
theorem sum_ones : ∀ {ls : List (List Nat)}, (∀ l ∈ ls, l.length = 1) → (ls.map List.length).sum = ls.length
  | [], _ => rfl
  | l :: ls, h => by
    rw [List.map_cons, List.sum_cons, h l List.mem_cons_self, sum_ones fun x hx => h x (List.mem_cons_of_mem _ hx), List.length_cons]
    omega
theorem joinN_ones : ∀ l : List Nat, joinN [] (l.map fun c => [c]) = l
  | [] => rfl
  | [c] => rfl
  | c :: d :: l => by
    show [c] ++ [] ++ joinN [] ((d :: l).map fun c => [c]) = _
    rw [joinN_ones (d :: l)]
    rfl
end
end Fw

/-! ### letters by their codes -/
namespace Lt
abbrev isL (c : Nat) : Prop := c ∈ [65, 67, 71, 84, 78]
def opp (c : Nat) : Nat := if c = 65 then 84 else if c = 67 then 71 else if c = 71 then 67 else if c = 84 then 65 else c
def turn (l : List Nat) : List Nat := (l.map opp).reverse
def agr (c d : Nat) : Bool := decide (c = d) && !decide (c = 78)
theorem isL_cases {c : Nat} (h : isL c) : c = 65 ∨ c = 67 ∨ c = 71 ∨ c = 84 ∨ c = 78 := by
  simpa [isL] using h
theorem opp_opp (c : Nat) : opp (opp c) = c := by
  unfold opp
  repeat' split
  all_goals omega
theorem opp_isL {c : Nat} (h : isL c) : isL (opp c) := by
  rcases isL_cases h with e | e | e | e | e <;> subst e <;> decide
theorem turn_turn (l : List Nat) : turn (turn l) = l := by
  unfold turn
  rw [List.map_reverse, List.map_map, List.reverse_reverse]
  have : opp ∘ opp = id := by funext c; exact opp_opp c
  rw [this, List.map_id]
theorem turn_app (l m : List Nat) : turn (l ++ m) = turn m ++ turn l := by
  unfold turn
  rw [List.map_append, List.reverse_append]
theorem turn_len (l : List Nat) : (turn l).length = l.length := by simp [turn]
theorem turn_isL {l : List Nat} (h : ∀ c ∈ l, isL c) : ∀ c ∈ turn l, isL c := fun c hc => by
  obtain ⟨d, hd, rfl⟩ := List.mem_map.mp (List.mem_reverse.mp hc)
  exact opp_isL (h d hd)
theorem turn_cons (c : Nat) (l : List Nat) : turn (c :: l) = turn l ++ [opp c] := by
  unfold turn
  rw [List.map_cons, List.reverse_cons]
theorem turn_take (l : List Nat) (i : Nat) (c : Nat) (h : l[i]? = some c) : turn (l.take (i + 1)) = opp c :: turn (l.take i) := by
  rw [List.take_add_one, h]
  show turn (l.take i ++ [c]) = _
  rw [turn_app]
  rfl
theorem idx_opp {c : Nat} (h : isL c) : [84, 71, 67, 65, 78].getD (([65, 67, 71, 84, 78] : List Nat).idxOf c) 0 = opp c ∧ ([65, 67, 71, 84, 78] : List Nat).idxOf c < 5 := by
  rcases isL_cases h with e | e | e | e | e <;> subst e <;> decide
theorem flat_one (f : Nat → Nat) : ∀ l : List Nat, (l.map fun c => [f c]).flatten = l.map f
  | [] => rfl
  | c :: l => by
    show [f c] ++ (l.map fun c => [f c]).flatten = _
    rw [flat_one f l]
    rfl
end Lt

/-! ### lines: the first wrong sign -/
namespace Ln
/-- the column of the first sign from s on that is none of sg, or the length -/
def fw (l : List Nat) (s : Nat) (sg : List Nat) : Nat := s + ((l.drop s).takeWhile fun c => decide (c ∈ sg)).length
theorem fw_le {l : List Nat} {s : Nat} {sg : List Nat} (h : s ≤ l.length) : fw l s sg ≤ l.length := by
  unfold fw
  have := (List.takeWhile_prefix (l := l.drop s) (fun c => decide (c ∈ sg))).length_le
  rw [List.length_drop] at this
  omega
theorem fw_ge (l : List Nat) (s : Nat) (sg : List Nat) : s ≤ fw l s sg := Nat.le_add_right _ _
/-- all before it are good -/
theorem fw_good {l : List Nat} {s : Nat} {sg : List Nat} {i : Nat} (h1 : s ≤ i) (h2 : i < fw l s sg) {c : Nat} (h : l[i]? = some c) : c ∈ sg := by
  unfold fw at h2
  have hp := List.takeWhile_prefix (l := l.drop s) (fun c => decide (c ∈ sg))
  have hg : (l.drop s)[i - s]? = some c := by rw [List.getElem?_drop, show s + (i - s) = i by omega]; exact h
  have hlt : i - s < ((l.drop s).takeWhile fun c => decide (c ∈ sg)).length := by omega
  have e : ((l.drop s).takeWhile fun c => decide (c ∈ sg))[i - s]? = some c := by
    rw [← hg]
    obtain ⟨t, ht⟩ := hp
    rw [← ht, List.getElem?_append_left hlt]
    rw [ht]
  have hm := List.mem_of_getElem? e
  exact of_decide_eq_true (List.all_eq_true.mp List.all_takeWhile c hm)
/-- the sign at it is not -/
theorem fw_bad {l : List Nat} {s : Nat} {sg : List Nat} {c : Nat} (h : l[fw l s sg]? = some c) : c ∉ sg := by
  unfold fw at h
  rw [← List.getElem?_drop] at h
  intro hc
  generalize hl : l.drop s = m at h
  clear hl
  induction m with
  | nil => simp at h
  | cons d m ih =>
    by_cases hd : d ∈ sg
    · rw [List.takeWhile_cons_of_pos (by simpa using hd)] at h
      exact ih (by simpa using h)
    · rw [List.takeWhile_cons_of_neg (by simpa using hd)] at h
      have e : d = c := by simpa using h
      exact hd (e ▸ hc)
/-- told by what it is -/
theorem fw_is {l : List Nat} {s k : Nat} {sg : List Nat} (h1 : s ≤ k) (h2 : k ≤ l.length) (hg : ∀ i c, s ≤ i → i < k → l[i]? = some c → c ∈ sg) (hb : ∀ c, l[k]? = some c → c ∉ sg) : fw l s sg = k := by
  by_cases h3 : fw l s sg < k
  · have hlt : fw l s sg < l.length := by omega
    exact absurd (hg _ _ (fw_ge l s sg) h3 (List.getElem?_eq_getElem hlt)) (fw_bad (List.getElem?_eq_getElem hlt))
  · by_cases h4 : k < fw l s sg
    · have h5 := fw_le (sg := sg) (show s ≤ l.length by omega)
      have hlt : k < l.length := by omega
      exact absurd (fw_good h1 h4 (List.getElem?_eq_getElem hlt)) (hb _ (List.getElem?_eq_getElem hlt))
    · omega
theorem fw_all {l : List Nat} {s : Nat} {sg : List Nat} (h : s ≤ l.length) (hg : ∀ c ∈ l.drop s, c ∈ sg) : fw l s sg = l.length :=
  fw_is h (Nat.le_refl _) (fun i c h1 _ e => hg c (List.mem_of_getElem? (i := i - s) (by rw [List.getElem?_drop, show s + (i - s) = i by omega]; exact e))) fun c e => by
    rw [List.getElem?_eq_none (Nat.le_refl _)] at e
    cases e
def names : List Nat := [48, 49, 50, 51, 52, 53, 54, 55, 56, 57, 65, 66, 67, 68, 69, 70, 71, 72, 73, 74, 75, 76, 77, 78, 79, 80, 81, 82, 83, 84, 85, 86, 87, 88, 89, 90, 97, 98, 99, 100, 101, 102, 103, 104, 105, 106, 107, 108, 109, 110, 111, 112, 113, 114, 115, 116, 117, 118, 119, 120, 121, 122]
def marks : List Nat := [48, 49, 50, 51, 52, 53, 54, 55, 56, 57, 65, 66, 67, 68, 69, 70, 71, 72, 73, 74, 75, 76, 77, 78, 79, 80, 81, 82, 83, 84, 85, 86, 87, 88, 89, 90, 97, 98, 99, 100, 101]
def letters : List Nat := [65, 67, 71, 84, 78]
end Ln

/-! ### references and their lines -/
namespace Lw
open PySem PySem.Spec PyProof.Rows L2 Fw
structure Rf where
  nm : List Nat
  ps : List (List Nat)
def Rf.tx (r : Rf) : List Nat := r.ps.flatten
def Rf.k (r : Rf) : List Nat × List Nat := (r.nm, r.tx)
def Rf.ls (r : Rf) : List (List Nat) := (62 :: r.nm) :: r.ps
structure Rf.Good (r : Rf) : Prop where
  nm : ∀ c ∈ r.nm, c ∈ Ln.names
  n1 : 1 ≤ r.nm.length
  n2 : r.nm.length ≤ 40
  p0 : r.ps ≠ []
  ps : ∀ p ∈ r.ps, 1 ≤ p.length ∧ ∀ c ∈ p, Lt.isL c
  t2 : r.tx.length ≤ 1000
def flines (rs : List Rf) : List (List Nat) := rs.flatMap Rf.ls
theorem fl_cut {rs : List Rf} {i : Nat} {r : Rf} (h : rs[i]? = some r) : flines rs = flines (rs.take i) ++ (r.ls ++ flines (rs.drop (i + 1))) := by
  have hlt := (List.getElem?_eq_some_iff.mp h).1
  have he := (List.getElem?_eq_some_iff.mp h).2
  have e : rs = rs.take i ++ r :: rs.drop (i + 1) := by
    rw [← he, ← List.drop_eq_getElem_cons hlt, List.take_append_drop]
  rw [flines, e, List.flatMap_append, List.flatMap_cons]
  rw [← e]
  rfl
theorem fl_get {rs : List Rf} {i k : Nat} {r : Rf} {l : List Nat} (h : rs[i]? = some r) (hk : r.ls[k]? = some l) : (flines rs)[(flines (rs.take i)).length + k]? = some l := by
  have hlt := (List.getElem?_eq_some_iff.mp hk).1
  rw [fl_cut h, List.getElem?_append_right (by omega), show ∀ a b : Nat, a + b - a = b by omega, List.getElem?_append_left hlt, hk]
theorem fl_take {rs : List Rf} {i : Nat} {r : Rf} (h : rs[i]? = some r) : (flines (rs.take (i + 1))).length = (flines (rs.take i)).length + (1 + r.ps.length) := by
  rw [List.take_add_one, h, flines, List.flatMap_append, List.length_append]
  simp [flines, Rf.ls]
  omega
theorem fl_add (rs : List Rf) (r : Rf) : flines (rs ++ [r]) = flines rs ++ r.ls := by rw [flines, List.flatMap_append]; simp [flines]
theorem fl_le {rs : List Rf} {i : Nat} (_ : i ≤ rs.length) : (flines (rs.take i)).length ≤ (flines rs).length := by
  have e : rs = rs.take i ++ rs.drop i := (List.take_append_drop i rs).symm
  have e2 : (flines rs).length = (flines (rs.take i)).length + (flines (rs.drop i)).length := by
    conv => lhs; rw [e]
    rw [flines, List.flatMap_append, List.length_append]
    rfl
  omega
/-- what stands behind the last part of reference i: nothing, or a head -/
theorem fl_next {rs : List Rf} {i : Nat} {r : Rf} (h : rs[i]? = some r) : (i + 1 = rs.length ∧ (flines (rs.take (i + 1))).length = (flines rs).length) ∨ (∃ s, rs[i + 1]? = some s) := by
  have hlt := (List.getElem?_eq_some_iff.mp h).1
  by_cases e : i + 1 = rs.length
  · exact .inl ⟨e, by rw [e, List.take_length]⟩
  · exact .inr ⟨_, List.getElem?_eq_getElem (by omega)⟩
structure Ry where
  t : Addr
  nm : List Nat
  tx : List Nat
def Ry.k (z : Ry) : List Nat × List Nat := (z.nm, z.tx)
def cRy (zs : List Ry) : Ck := ⟨fun F => ∀ z ∈ zs, F z.t = some (.tup [vS z.nm, vS z.tx]), fun s h z hz => s _ _ (h z hz)⟩
def kd (k : List Nat × List Nat) : PyData := .tuple [.str (S k.1), .str (S k.2)]
theorem dp_rys {K : PySem.W.Frag} {H : Hp} {p : Addr} {zs : List Ry} {ks : List (List Nat × List Nat)} (hr : zs.map Ry.k = ks) (h : SqL K H p (zs.map fun z => .ref z.t)) (hz : ∀ z ∈ zs, H z.t = some (.tup [vS z.nm, vS z.tx])) : Dp K H (.ref p) (.list (ks.map kd)) := by
  subst hr
  rw [List.map_map]
  exact .lst h (dpAll_map fun z hm => .tup (.inl (.inl (hz z hm))) (.cons (.str _) (.cons (.str _) .nil)))
theorem Ln.names_lt2 : ∀ c ∈ Ln.names, c < 1114112 := by decide
structure KGood (k : List Nat × List Nat) : Prop where
  nm : ∀ c ∈ k.1, c ∈ Ln.names
  n1 : 1 ≤ k.1.length
  n2 : k.1.length ≤ 40
  tx : ∀ c ∈ k.2, Lt.isL c
  t1 : 1 ≤ k.2.length
  t2 : k.2.length ≤ 1000
theorem shp_ks {ks : List (List Nat × List Nat)} (hg : ∀ k ∈ ks, KGood k) : SeqAt.shaped (.list (ks.map kd)) = true := by
  refine (shp_list (n := 1) fun d hd => ?_).shaped (by decide)
  obtain ⟨r, hr, rfl⟩ := List.mem_map.mp hd
  have g := hg r hr
  refine shp_tuple (n := 0) fun e he => ?_
  simp only [List.mem_cons, List.not_mem_nil, or_false] at he
  rcases he with rfl | rfl
  · exact shp_str fun c hc => Ln.names_lt2 c (g.nm c hc)
  · refine shp_str fun c hc => ?_
    have h := g.tx c hc
    simp only [Lt.isL, List.mem_cons, List.not_mem_nil, or_false] at h
    omega
theorem shp_fl {rs : List Rf} (hg : ∀ r ∈ rs, r.Good) : SeqAt.shaped (.list ((flines rs).map fun l => PyData.str (S l))) = true := by
  refine (shp_list (n := 0) fun d hd => ?_).shaped (by decide)
  obtain ⟨l, hl, rfl⟩ := List.mem_map.mp hd
  obtain ⟨r, hr, hl2⟩ := List.mem_flatMap.mp hl
  have g := hg r hr
  refine shp_str fun c hc => ?_
  rcases List.mem_cons.mp hl2 with rfl | hl2
  · rcases List.mem_cons.mp hc with rfl | hc
    · decide
    · exact Ln.names_lt2 c (g.nm c hc)
  · have h := (g.ps l hl2).2 c hc
    simp only [Lt.isL, List.mem_cons, List.not_mem_nil, or_false] at h
    omega
/-- a text in parts of sixty -/
def sixty (l : List Nat) : List (List Nat) := (List.range ((l.length + 59) / 60)).map fun j => (l.drop (60 * j)).take 60
theorem sixty_upto (l : List Nat) : ∀ n, 60 * n ≤ l.length + 59 → ((List.range n).map fun j => (l.drop (60 * j)).take 60).flatten = l.take (60 * n)
  | 0, _ => by simp
  | n + 1, h => by
    rw [List.range_succ, List.map_append, List.flatten_append, sixty_upto l n (by omega)]
    simp only [List.map_cons, List.map_nil, List.flatten_cons, List.flatten_nil, List.append_nil]
    rw [show 60 * (n + 1) = 60 * n + 60 by omega, List.take_add]
theorem sixty_flat (l : List Nat) : (sixty l).flatten = l := by
  rw [sixty, sixty_upto l _ (by omega), List.take_of_length_le (by omega)]
theorem sixty_part {l : List Nat} {p : List Nat} (h : p ∈ sixty l) : 1 ≤ p.length ∧ p.length ≤ 60 ∧ ∀ c ∈ p, c ∈ l := by
  obtain ⟨j, hj, rfl⟩ := List.mem_map.mp h
  rw [List.mem_range] at hj
  refine ⟨?_, ?_, fun c hc => List.mem_of_mem_drop (List.mem_of_mem_take hc)⟩
  · rw [List.length_take, List.length_drop]
    omega
  · rw [List.length_take]
    omega
theorem sixty_ne {l : List Nat} (h : 1 ≤ l.length) : sixty l ≠ [] := by
  intro e
  have := congrArg List.length e
  rw [sixty, List.length_map, List.length_range, List.length_nil] at this
  omega
end Lw

namespace Lw
open PySem PySem.Spec PyProof.Rows L2 Fw
/-! ### the text by places -/
def top (i : Nat) : Stmt := PySem.Challenge.pw_homereads_k02_lines_of_references.main.body.getD i (.Pass ⟨0, 0, 0, 0⟩)
abbrev s_first_wrong : Stmt := top 9
abbrev s_check_last : Stmt := top 10
abbrev s_name_in : Stmt := top 11
abbrev s_letters_in : Stmt := top 12
abbrev s_read_references : Stmt := top 13
abbrev s_write_references : Stmt := top 14
abbrev s_law_cell : Stmt := top 16
abbrev s_law_row : Stmt := top 17
abbrev s_law_text : Stmt := top 19
abbrev s_law_name : Stmt := top 23
abbrev s_law_divided : Stmt := top 24
abbrev s_law : Stmt := top 25
theorem sc_first_wrong : FnScope ["line", "start", "signs", "column"] ["line", "start", "signs"] (defScope s_first_wrong) := ⟨rfl, rfl, rfl, by decide +kernel, rfl, by decide +kernel, by decide +kernel⟩
theorem sc_check_last : FnScope ["lines", "index"] ["lines", "index"] (defScope s_check_last) := ⟨rfl, rfl, rfl, by decide +kernel, rfl, by decide +kernel, by decide +kernel⟩
theorem sc_name_in : FnScope ["lines", "index", "head", "line", "wrong"] ["lines", "index", "head"] (defScope s_name_in) := ⟨rfl, rfl, rfl, by decide +kernel, rfl, by decide +kernel, by decide +kernel⟩
theorem sc_letters_in : FnScope ["lines", "index", "room", "line", "wrong"] ["lines", "index", "room"] (defScope s_letters_in) := ⟨rfl, rfl, rfl, by decide +kernel, rfl, by decide +kernel, by decide +kernel⟩
theorem sc_read_references : FnScope ["lines", "result", "index", "name", "text"] ["lines"] (defScope s_read_references) := ⟨rfl, rfl, rfl, by decide +kernel, rfl, by decide +kernel, by decide +kernel⟩
theorem sc_write_references : FnScope ["references", "lines", "name", "text", "start"] ["references"] (defScope s_write_references) := ⟨rfl, rfl, rfl, by decide +kernel, rfl, by decide +kernel, by decide +kernel⟩
theorem sc_law_cell : FnScope ["_law_script", "_law_k"] ["_law_script", "_law_k"] (defScope s_law_cell) := ⟨rfl, rfl, rfl, by decide +kernel, rfl, by decide +kernel, by decide +kernel⟩
theorem sc_law_row : FnScope ["_law_cell_here", "_law_count", "_law_bound", "_law_rest", "_law_mixed", "_law_row_here", "_law_k"] ["_law_cell_here", "_law_count", "_law_bound"] (defScope s_law_row) := ⟨rfl, rfl, rfl, by decide +kernel, rfl, by decide +kernel, by decide +kernel⟩
theorem sc_law_text : FnScope ["_law_cell_here", "_law_size", "_law_drawn", "_law_kind", "_law_text_here", "_law_k", "_law_letter"] ["_law_cell_here", "_law_size"] (defScope s_law_text) := ⟨rfl, rfl, rfl, by decide +kernel, rfl, by decide +kernel, by decide +kernel⟩
theorem sc_law_name : FnScope ["_law_cell_here", "_law_signs", "_law_size", "_law_x"] ["_law_cell_here"] (defScope s_law_name) := ⟨rfl, rfl, rfl, by decide +kernel, rfl, by decide +kernel, by decide +kernel⟩
theorem sc_law_divided : FnScope ["_law_text_here", "_law_cell_here", "_law_lines", "_law_drawn", "_law_at", "_law_k"] ["_law_text_here", "_law_cell_here"] (defScope s_law_divided) := ⟨rfl, rfl, rfl, by decide +kernel, rfl, by decide +kernel, by decide +kernel⟩
theorem sc_law : FnScope ["_law_script", "_law_count", "_law_references_here", "_law_full", "_law_other", "_law_k", "_law_cell_here", "_law_text_here", "_law_name_here", "_law_at", "_law_handed", "_law_told", "_law_lines", "_law_given", "_law_found", "_law_one"] ["_law_script"] (defScope s_law) := ⟨rfl, rfl, rfl, by decide +kernel, rfl, by decide +kernel, by decide +kernel⟩
structure Tx (w : World) (K : PySem.W.Frag) (mg : Str → Option Value) : Prop where
  g_first_wrong : mg "first_wrong" = some (.ref (He.ga K "first_wrong"))
  g_check_last : mg "check_last" = some (.ref (He.ga K "check_last"))
  g_name_in : mg "name_in" = some (.ref (He.ga K "name_in"))
  g_letters_in : mg "letters_in" = some (.ref (He.ga K "letters_in"))
  g_read_references : mg "read_references" = some (.ref (He.ga K "read_references"))
  g_write_references : mg "write_references" = some (.ref (He.ga K "write_references"))
  g_law_cell : mg "_law_cell" = some (.ref (He.ga K "_law_cell"))
  g_law_row : mg "_law_row" = some (.ref (He.ga K "_law_row"))
  g_law_text : mg "_law_text" = some (.ref (He.ga K "_law_text"))
  g_law_name : mg "_law_name" = some (.ref (He.ga K "_law_name"))
  g_law_divided : mg "_law_divided" = some (.ref (He.ga K "_law_divided"))
  g_law : mg "law" = some (.ref (He.ga K "law"))
  z_range : mg "range" = none
  z_len : mg "len" = none
  z_min : mg "min" = none
  z_int : mg "int" = none
  z_abs : mg "abs" = none
  z_list : mg "list" = none
  z_isinstance : mg "isinstance" = none
  z_all : mg "all" = none
  z_tuple : mg "tuple" = none
  k_LETTERS : ∃ t, mg "LETTERS" = some (.str (S [65, 67, 71, 84, 78]) t)
  k_NAME_SIGNS : ∃ t, mg "NAME_SIGNS" = some (.str (S [48, 49, 50, 51, 52, 53, 54, 55, 56, 57, 65, 66, 67, 68, 69, 70, 71, 72, 73, 74, 75, 76, 77, 78, 79, 80, 81, 82, 83, 84, 85, 86, 87, 88, 89, 90, 97, 98, 99, 100, 101, 102, 103, 104, 105, 106, 107, 108, 109, 110, 111, 112, 113, 114, 115, 116, 117, 118, 119, 120, 121, 122]) t)
  k_LONGEST_NAME : ∃ t, mg "LONGEST_NAME" = some (.int 40 t)
  k_LONGEST_REFERENCE : ∃ t, mg "LONGEST_REFERENCE" = some (.int 100000 t)
  k_LINE_LENGTH : ∃ t, mg "LINE_LENGTH" = some (.int 60 t)
  d_first_wrong : ∃ fd, FnP K "first_wrong" "first_wrong" s_first_wrong (He.ga K "first_wrong") fd
  d_check_last : ∃ fd, FnP K "check_last" "check_last" s_check_last (He.ga K "check_last") fd
  d_name_in : ∃ fd, FnP K "name_in" "name_in" s_name_in (He.ga K "name_in") fd
  d_letters_in : ∃ fd, FnP K "letters_in" "letters_in" s_letters_in (He.ga K "letters_in") fd
  d_read_references : ∃ fd, FnP K "read_references" "read_references" s_read_references (He.ga K "read_references") fd
  d_write_references : ∃ fd, FnP K "write_references" "write_references" s_write_references (He.ga K "write_references") fd
  d_law_cell : ∃ fd, FnP K "_law_cell" "_law_cell" s_law_cell (He.ga K "_law_cell") fd
  d_law_row : ∃ fd, FnP K "_law_row" "_law_row" s_law_row (He.ga K "_law_row") fd
  d_law_text : ∃ fd, FnP K "_law_text" "_law_text" s_law_text (He.ga K "_law_text") fd
  d_law_name : ∃ fd, FnP K "_law_name" "_law_name" s_law_name (He.ga K "_law_name") fd
  d_law_divided : ∃ fd, FnP K "_law_divided" "_law_divided" s_law_divided (He.ga K "_law_divided") fd
  d_law : ∃ fd, FnP K "law" "law" s_law (He.ga K "law") fd
/-! ### steps as one tactic -/
local macro_rules | `(tactic| walk_at "sq") => `(tactic| first
  | with_reducible assumption
  | exact Own.ofH (by assumption) (by assumption)
  | exact Own.lst (by assumption) 0 | exact Own.lst (by assumption) 1 | exact Own.lst (by assumption) 2 | exact Own.lst (by assumption) 3 | exact Own.lst (by assumption) 4 | exact Own.lst (by assumption) 5
  | exact Own.tS (by assumption) 0 | exact Own.tS (by assumption) 1 | exact Own.tS (by assumption) 2 | exact Own.tS (by assumption) 3 | exact Own.tS (by assumption) 4 | exact Own.tS (by assumption) 5 | exact Own.tS (by assumption) 6 | exact Own.tS (by assumption) 7
  | exact .inl (.inl (Own.tO (by assumption) 0)) | exact .inl (.inl (Own.tO (by assumption) 1)) | exact .inl (.inl (Own.tO (by assumption) 2)) | exact .inl (.inl (Own.tO (by assumption) 3)) | exact .inl (.inl (Own.tO (by assumption) 4))
  | exact .inl (.inl (Own.tL (by assumption) 0)) | exact .inl (.inl (Own.tL (by assumption) 1)) | exact .inl (.inl (Own.tL (by assumption) 2)) | exact .inl (.inl (Own.tL (by assumption) 3)))
local macro_rules | `(tactic| walk_at "at") => `(tactic| first
  | with_reducible assumption
  | exact Own.ofHO (by assumption) (by assumption)
  | exact Own.at_ (by assumption) 0 | exact Own.at_ (by assumption) 1 | exact Own.at_ (by assumption) 2 | exact Own.at_ (by assumption) 3 | exact Own.at_ (by assumption) 4 | exact Own.at_ (by assumption) 5
  | exact Own.tO (by assumption) 0 | exact Own.tO (by assumption) 1 | exact Own.tO (by assumption) 2 | exact Own.tO (by assumption) 3 | exact Own.tO (by assumption) 4 | exact Own.tO (by assumption) 5
  | exact Own.tL (by assumption) 0 | exact Own.tL (by assumption) 1 | exact Own.tL (by assumption) 2 | exact Own.tL (by assumption) 3 | exact Own.tT (by assumption) 0 | exact Own.tT (by assumption) 1 | exact Own.tT (by assumption) 2 | exact Own.tT (by assumption) 3)
local macro_rules | `(tactic| walk_at "st") => `(tactic| first
  | with_reducible assumption
  | exact Own.ofHT (by assumption) (by assumption)
  | exact Own.tU (by assumption) 0 | exact Own.tU (by assumption) 1 | exact Own.tU (by assumption) 2 | exact Own.tU (by assumption) 3 | exact Own.tU (by assumption) 4 | exact Own.tU (by assumption) 5
  | exact .inl (.inl (Own.tO (by assumption) 0)) | exact .inl (.inl (Own.tO (by assumption) 1)) | exact .inl (.inl (Own.tO (by assumption) 2)) | exact .inl (.inl (Own.tO (by assumption) 3)) | exact .inl (.inl (Own.tO (by assumption) 4)) | exact .inl (.inl (Own.tO (by assumption) 5))
  | exact .inl (.inl (Own.tT (by assumption) 0)) | exact .inl (.inl (Own.tT (by assumption) 1)) | exact .inl (.inl (Own.tT (by assumption) 2)) | exact .inl (.inl (Own.tT (by assumption) 3)))
local macro_rules | `(tactic| walk_at "side") => `(tactic| first
  | with_reducible assumption
  | (with_reducible refine w_cdiv ?_ ?_ <;> omega)
  | (with_reducible refine w_cmul1 ?_ ?_ <;> first | omega | (simp only [List.length_append, List.length_cons, List.length_nil, List.length_map, List.length_reverse, List.length_range]; omega))
  | (with_reducible refine w_cmul2 ?_ ?_ <;> first | omega | (simp only [List.length_append, List.length_cons, List.length_nil, List.length_map, List.length_reverse, List.length_range]; omega))
  | (with_reducible refine And.intro ?_ ?_ <;> first | omega | (simp only [↓q_ckw, List.length_append, List.length_cons, List.length_nil, List.length_map, List.length_reverse, List.length_range]; omega))
  | (with_reducible refine w_size ?_; first | omega | (simp only [↓q_ckw, List.length_append, List.length_cons, List.length_nil, List.length_map, List.length_reverse, List.length_range]; omega))
  | (with_reducible refine w_sizel ?_; first | omega | (simp only [↓q_ckw, List.length_append, List.length_cons, List.length_nil, List.length_map, List.length_reverse, List.length_range]; omega))
  | with_reducible exact True.intro
  | with_reducible rfl
  | omega)
local macro_rules | `(tactic| walk_at "qs") => `(tactic| simp only [List.length_map, ↓q_inSg, ↓q_notInSg, ↓q_min2, ↓q_max2, ↓q_gsub, ↓q_asgG, ↓q_asgT, ↓q_gnil, ↓q_gcons, ↓q_par, ↓q_two, ↓q_chain, ↓q_m1, ↓q_isS, ↓q_augS, ↓q_ipI, ↓q_starts, decide_S, q_dec1, ↓q_iteNT, ↓q_iteNF, decide_true, decide_false, ↓q_wipe1, ↓q_wipe2, ↓q_wipe3, ↓q_wipe4, List.set_cons_succ, List.set_cons_zero, ↓q_ckw, ↓q_var0, ↓q_asg0, ↓q_gn0, ↓q_aug0, ↓q_var1, ↓q_asg1, ↓q_gn1, ↓q_aug1, ↓q_var2, ↓q_asg2, ↓q_gn2, ↓q_aug2, ↓q_var3, ↓q_asg3, ↓q_gn3, ↓q_aug3, ↓q_var4, ↓q_asg4, ↓q_gn4, ↓q_aug4, ↓q_var5, ↓q_asg5, ↓q_gn5, ↓q_aug5, ↓q_var6, ↓q_asg6, ↓q_gn6, ↓q_aug6, ↓q_var7, ↓q_asg7, ↓q_gn7, ↓q_aug7, ↓q_var8, ↓q_asg8, ↓q_gn8, ↓q_aug8, ↓q_var9, ↓q_asg9, ↓q_gn9, ↓q_aug9, ↓q_var10, ↓q_asg10, ↓q_gn10, ↓q_aug10, ↓q_var11, ↓q_asg11, ↓q_gn11, ↓q_aug11, ↓q_var12, ↓q_asg12, ↓q_gn12, ↓q_aug12, ↓q_var13, ↓q_asg13, ↓q_gn13, ↓q_aug13, ↓q_var14, ↓q_asg14, ↓q_gn14, ↓q_aug14, ↓q_var15, ↓q_asg15, ↓q_gn15, ↓q_aug15, ↓q_var16, ↓q_asg16, ↓q_gn16, ↓q_aug16, ↓q_var17, ↓q_asg17, ↓q_gn17, ↓q_aug17, ↓q_var18, ↓q_asg18, ↓q_gn18, ↓q_aug18, ↓q_var19, ↓q_asg19, ↓q_gn19, ↓q_aug19, ↓q_var20, ↓q_asg20, ↓q_gn20, ↓q_aug20, ↓q_var21, ↓q_asg21, ↓q_gn21, ↓q_aug21, ↓q_var22, ↓q_asg22, ↓q_gn22, ↓q_aug22, ↓q_var23, ↓q_asg23, ↓q_gn23, ↓q_aug23, ↓q_seq, ↓q_next, ↓q_brk, ↓q_cont, ↓q_ret, ↓q_retN, ↓q_drop, ↓q_if, ↓q_c, ↓q_op, ↓q_un, ↓q_cb, ↓q_nil, ↓q_cons, ↓q_call, ↓q_test, ↓q_tB, ↓q_bl, ↓q_int, ↓q_and, ↓q_or, ↓q_not, ↓q_andV, ↓q_orV, ↓q_notV, ↓q_ifE, ↓q_I0, ↓q_I, ↓q_U, ↓q_eqI, ↓q_neI, ↓q_eqS, ↓q_neS, ↓q_eqB, ↓q_neB, ↓q_abs, ↓q_toint, ↓q_tointB, ↓q_lenS, ↓q_addS, ↓q_slS, ↓q_sl, ↓q_noP, ↓q_part, ↓q_lst, ↓q_tup, ↓q_bm, ↓q_bm0, ↓q_for, ↓q_iRng1, ↓q_iRng2, ↓q_iRng3, ↓q_iList, ↓q_iTup, ↓q_iStr, ↓q_iRev, ↓q_iEnum, ↓q_yes, ↓q_lc, ↓q_iteT, ↓q_iteF])
local macro_rules | `(tactic| walk_at "h1") => `(tactic| first
  | ((with_reducible refine h_NewL ?_); first | refine w_newL (by assumption) (fun _ _ _ => ?_) ?_)
  | ((with_reducible refine h_NewT ?_); first | refine w_newT (by assumption) (fun _ _ _ _ => ?_) ?_)
  | ((with_reducible refine h_Ty ?_); first | refine w_tyL ?_ (by walk_at "sq"))
  | ((with_reducible refine h_App ?_); first | refine w_app0 (by assumption) (fun _ _ => ?_) ?_ | refine w_app1 (by assumption) (fun _ _ => ?_) ?_ | refine w_app2 (by assumption) (fun _ _ => ?_) ?_ | refine w_app3 (by assumption) (fun _ _ => ?_) ?_ | refine w_app4 (by assumption) (fun _ _ => ?_) ?_)
  | ((with_reducible refine h_Len ?_); first | refine w_lenL ?_ (by walk_at "sq") | refine w_lenT ?_ (by walk_at "st"))
  | ((with_reducible refine h_Ix ?_); first | refine w_ixN ?_ (by walk_at "sq") ?_)
  | ((with_reducible refine h_IxS ?_); first | refine w_ixC ?_ ?_ ?_)
  | ((with_reducible refine h_MulS ?_); first | refine w_mulS ?_ ?_ ?_)
  | ((with_reducible refine h_Isi ?_); first | with_reducible refine w_isiII ?_ | with_reducible refine w_isiIB ?_ | with_reducible refine w_isiBB ?_ | with_reducible refine w_isiSS ?_ | refine w_isiLL ?_ (by walk_at "at") | refine w_isiTT ?_ (by walk_at "at"))
  | ((with_reducible refine h_Set ?_); first | refine w_set0 (by assumption) (fun _ _ => ?_) ?_ | refine w_set1 (by assumption) (fun _ _ => ?_) ?_ | refine w_set2 (by assumption) (fun _ _ => ?_) ?_ | refine w_set3 (by assumption) (fun _ _ => ?_) ?_)
  | ((with_reducible refine h_Get ?_); first | refine w_getN ?_ (by walk_at "sq") ?_)
  | ((with_reducible refine h_ListQ ?_); first | refine w_listL (by assumption) (by walk_at "sq") (fun _ _ _ => ?_) ?_)
  | ((with_reducible refine h_ListS ?_); first | refine w_listS (by assumption) (fun _ _ _ => ?_) ?_)
  | ((with_reducible refine h_Rep ?_); first | refine w_rep (by assumption) (by walk_at "at") (fun _ _ _ => ?_) ?_ ?_)
  | ((with_reducible refine h_SlL ?_); first | refine w_slL (by assumption) (by walk_at "sq") (fun _ _ _ => ?_))
  | ((with_reducible refine h_Cat ?_); first | refine w_cat (by assumption) (by walk_at "at") (by walk_at "at") (fun _ _ _ => ?_) ?_)
  | ((with_reducible refine h_Ext ?_); first | refine w_ext0 (by assumption) (by walk_at "at") (fun _ _ => ?_) ?_ | refine w_ext1 (by assumption) (by walk_at "at") (fun _ _ => ?_) ?_)
  | ((with_reducible refine h_Rev ?_); first | refine w_rev0 (by assumption) (fun _ _ => ?_))
  | ((with_reducible refine h_Idx ?_); first | refine w_idxS ?_ ?_)
  | ((with_reducible refine h_Gtup ?_); first | refine w_gtup ?_ (by walk_at "st"))
  | ((with_reducible refine h_EqD ?_); first | refine w_eqDI ?_ (by walk_at "sq") (by walk_at "sq"))
  | ((with_reducible refine h_NeD ?_); first | refine w_neDI ?_ (by walk_at "sq") (by walk_at "sq"))
  | (with_reducible refine w_conj ?_ ?_))
local macro_rules | `(tactic| walk_at "1") => `(tactic| first | walk_at "qs" | walk_at "h1")
local macro_rules | `(tactic| walk_at "go") => `(tactic| ((repeat (walk_at "1")); (try (all_goals try (walk_at "side")))))
section
variable {P : Program} {w : World} {K : PySem.W.Frag} {mg : Str → Option Value} {base : Heap}
/-! #### write_references -/
def sp_write_references (K : PySem.W.Frag) : Sp := fun vs H Q _ => ∃ (a : Addr) (zs : List Ry), vs = [.ref a] ∧ SqL K H a (zs.map fun z => .ref z.t) ∧ (∀ z ∈ zs, H z.t = some (.tup [vS z.nm, vS z.tx])) ∧ (∀ z ∈ zs, KGood z.k) ∧ zs.length ≤ 100 ∧
  SpN (fun v L F => ∃ p, v = .ref p ∧ L = [(p, .lst ((flines (zs.map fun z => ⟨z.nm, sixty z.tx⟩)).map vS))]) H Q
theorem len_write_references : ∀ vs H Q E, sp_write_references K vs H Q E → vs.length = ["references"].length := by
  rintro _ _ _ _ ⟨_, _, rfl, _⟩
  rfl
theorem c_write_references {F0 H0 F H : Hp} {L : List (Addr × HO)} {C : List Ck} {Q : VK} {E : XK} {a : Addr} {zs : List Ry} (O : Own F0 H0 F H L C) (hs : SqL K H a (zs.map fun z => .ref z.t)) (hz : ∀ z ∈ zs, H z.t = some (.tup [vS z.nm, vS z.tx])) (hg : ∀ z ∈ zs, KGood z.k) (hn : zs.length ≤ 100)
    (q : ∀ p F' H', Own F0 H0 F' H' ((p, .lst ((flines (zs.map fun z => ⟨z.nm, sixty z.tx⟩)).map vS)) :: L) C → Q (.ref p) H') : sp_write_references K [.ref a] H Q E :=
  ⟨a, zs, rfl, hs, hz, hg, hn, O.callN fun v L' F' H' r O' => by
    obtain ⟨p, rfl, rfl⟩ := r
    exact q p F' H' O'⟩
theorem fl_bound : ∀ {zs : List Ry} {n : Nat}, (∀ z ∈ zs, KGood z.k) → zs.length ≤ n → (flines (zs.map fun z => ⟨z.nm, sixty z.tx⟩)).length ≤ 18 * n
  | [], _, _, _ => Nat.zero_le _
  | z :: zs, n, hg, hn => by
    have ih := fl_bound (zs := zs) (n := n - 1) (fun z h => hg z (List.mem_cons_of_mem _ h)) (by rw [List.length_cons] at hn; omega)
    have h1 := (hg z List.mem_cons_self).t2
    have h2 : z.tx.length ≤ 1000 := h1
    rw [List.length_cons] at hn
    rw [List.map_cons, flines, List.flatMap_cons, List.length_append]
    have e : (Rf.ls ⟨z.nm, sixty z.tx⟩).length = (z.tx.length + 59) / 60 + 1 := by rw [Rf.ls, List.length_cons, sixty, List.length_map, List.length_range]
    rw [e]
    have ih2 : (List.flatMap Rf.ls (zs.map fun z => ⟨z.nm, sixty z.tx⟩)).length ≤ 18 * (n - 1) := ih
    omega
theorem ok_write_references (T : Tx w K mg) : Dn P w K mg base 1 (He.ga K "write_references") ["references"] (sp_write_references K) := by
  refine dn_mk T.d_write_references sc_write_references (fun _ _ _ _ _ _ us hl => match us, hl with | [_], _ => rfl) len_write_references fun cdv A outer s H vs Q E hr h => ?_
  refine ⟨_, (pss_cons (ps_set (i := 1) sc_write_references.nd rfl (.inl rfl) (pe_lst pa_nil))
      (pss_cons (ps_for PassesOwn.never rfl (iL_ (K := K) (pv 0)) (gt_ (K := K) (n := 2) (by rfl) (pgs_cons (pg_name (i := 2) sc_write_references.nd rfl (.inl rfl)) (pgs_cons (pg_name (i := 3) sc_write_references.nd rfl (.inl rfl)) pgs_nil)))
      (pss_cons (ps_expr (bm_ (K := K) PySem.F.plainAttrs_list PySem.F.slot_list_append PySem.F.type_list_append mt_append (pv 1) (pa_cons (pe_op k_addS (pe_strL (l := [62]) (by decide +kernel)) (pv 2)) pa_nil)))
      (pss_one (ps_for PassesOwn.never rfl (pi_range3 (by rfl) T.z_range (pa_cons pe_int (pa_cons (pe_callB k_lenS (by rfl) T.z_len (by decide +kernel) (pa_cons (pv 3) pa_nil)) (pa_cons (pe_globI (by rfl) T.k_LINE_LENGTH) pa_nil)))) (pg_name (i := 4) sc_write_references.nd rfl (.inl rfl))
      (pss_one (ps_expr (bm_ (K := K) PySem.F.plainAttrs_list PySem.F.slot_list_append PySem.F.type_list_append mt_append (pv 1) (pa_cons (pe_slice k_slS (pv 3) (po_some (pv 4)) (po_some (pe_op op_add (pv 4) (pe_globI (by rfl) T.k_LINE_LENGTH)))) pa_nil))))))))
      (pss_one (ps_ret (pv 1))))), ?_⟩
  obtain ⟨a, zs, rfl, hs, hz, hg, hn, F, sF, _, q⟩ := h
  have O := Own.start (C := []) sF trivial
  refine cut [some (.ref a), none, none, none, none] rfl ?_
  walk_at "go"
  rename_i p H1 O1
  refine w_foL (xs := zs.map fun z => .ref z.t) (fun i σ' H' => ∃ F' x2 x3 x4, σ' = [some (.ref a), some (.ref p), x2, x3, x4] ∧ Own F H F' H' [(p, .lst ((flines ((zs.take i).map fun z => ⟨z.nm, sixty z.tx⟩)).map vS))] []) (O1.ofH hs) ⟨F, none, none, none, rfl, O1⟩ (fun i σ' H' _ h => by
    obtain ⟨F', _, _, _, _, O'⟩ := h
    exact O'.ofH hs) ?_ ?_
  · rintro i x σ' H2 hx ⟨F2, x2, x3, x4, rfl, O2⟩
    rw [List.getElem?_map] at hx
    cases e : zs[i]? with
    | none => rw [e] at hx; cases hx
    | some z =>
      rw [e] at hx
      cases hx
      have hlt := (List.getElem?_eq_some_iff.mp e).1
      have hm := List.mem_of_getElem? e
      have gr := hg z hm
      have et : zs.take (i + 1) = zs.take i ++ [z] := by rw [List.take_add_one, e]; rfl
      have hl : (flines ((zs.take i).map fun z => ⟨z.nm, sixty z.tx⟩)).length ≤ 1800 := by
        have := fl_bound (zs := zs.take i) (n := i) (fun z h => hg z (List.mem_of_mem_take h)) (by rw [List.length_take]; omega)
        omega
      have hT : SqT K H2 z.t _ := .inl (.inl (O2.ofHO (hz z hm)))
      have gn2 : z.nm.length ≤ 40 := gr.n2
      have gt2 : z.tx.length ≤ 1000 := gr.t2
      walk_at "go"
      rename_i H3 O3
      refine w_rg3 (n := (z.tx.length + 59) / 60) (rgc_pos (c := 60) (by omega) (by omega)) (fun j σ' H' => ∃ x4, σ' = [some (.ref a), some (.ref p), some (vS z.nm), some (vS z.tx), x4] ∧ Own F H F2 H' [(p, .lst ((flines ((zs.take i).map fun z => ⟨z.nm, sixty z.tx⟩)).map vS ++ [vS ([62] ++ z.nm)] ++ ((List.range j).map fun j => (z.tx.drop (60 * j)).take 60).map vS))] []) ⟨x4, rfl, by simpa using O3⟩ ?_ ?_
      · rintro j σ' H4 hj ⟨y4, rfl, O4⟩
        have hz2 : z.tx.length ≤ sizeLine := by rw [sizeLine_eq]; omega
        rw [show (0 : Int) + (j : Int) * 60 = ((60 * j : Nat) : Int) by omega]
        walk_at "go"
        rename_i O5
        refine ⟨_, rfl, ?_⟩
        rw [show ((60 * j : Nat) : Int) + 60 = ((60 * j + 60 : Nat) : Int) by omega, cutN_nat, show 60 * j + 60 - 60 * j = 60 by omega] at O5
        rw [List.range_succ, List.map_append, List.map_append, ← List.append_assoc]
        exact O5
      · rintro σ' H4 ⟨y4, rfl, O4⟩
        refine ⟨F2, _, _, _, rfl, ?_⟩
        rw [et, List.map_append, show List.map (fun z : Ry => (⟨z.nm, sixty z.tx⟩ : Rf)) [z] = [⟨z.nm, sixty z.tx⟩] from rfl, fl_add, List.map_append]
        rw [List.append_assoc] at O4
        exact O4
  · rintro σ' H2 ⟨F2, x2, x3, x4, rfl, O2⟩
    rw [List.length_map, List.take_length] at O2
    walk_at "go"
    exact O2.ret q ⟨p, rfl, rfl⟩

/-! #### _law_cell -/
def sp_law_cell (K : PySem.W.Frag) : Sp := fun vs H Q _ => ∃ (a : Addr) (ns : List Int) (k : Int), vs = [.ref a, .int k] ∧ 0 ≤ k ∧ SqL K H a (ns.map V.int) ∧ SpV (fun v => v = .int (ns.getD k.toNat 0)) H Q
theorem len_law_cell : ∀ vs H Q E, sp_law_cell K vs H Q E → vs.length = ["_law_script", "_law_k"].length := by
  rintro _ _ _ _ ⟨_, _, _, rfl, _⟩
  rfl
theorem c_law_cell {F0 H0 F H : Hp} {L : List (Addr × HO)} {C : List Ck} {Q : VK} {E : XK} {a : Addr} {ns : List Int} {k : Int} (O : Own F0 H0 F H L C) (hs : SqL K H a (ns.map V.int)) (hk : 0 ≤ k) (q : ∀ H', Own F0 H0 F H' L C → Q (.int (ns.getD k.toNat 0)) H') :
    sp_law_cell K [.ref a, .int k] H Q E := ⟨a, ns, k, rfl, hk, hs, O.callS fun _ _ e O' => by rw [e]; exact q _ O'⟩
theorem ok_law_cell (T : Tx w K mg) : Dn P w K mg base 1 (He.ga K "_law_cell") ["_law_script", "_law_k"] (sp_law_cell K) := by
  refine dn_mk T.d_law_cell sc_law_cell (fun _ _ _ _ _ _ us hl => match us, hl with | [_, _], _ => rfl) len_law_cell fun cdv A outer s H vs Q E hr h => ?_
  refine ⟨_, (pss_cons (ps_if (pt_cmpR op_lt (pv 1) (pe_callB (lenQ_ (K := K)) (by rfl) T.z_len (by decide +kernel) (pa_cons (pv 0) pa_nil)) (nomark _))
      (pss_one (ps_ret (pe_callTy k_int (by rfl) T.z_int (by decide +kernel) (pa_cons (pe_ix (ixL_ (K := K)) (pv 0) (pv 1) (fun _ _ => rfl)) pa_nil))))
      pss_nil)
      (pss_one (ps_ret pe_int))), ?_⟩
  obtain ⟨a, ns, k, rfl, hk, hs, q⟩ := h
  have O := Own.start0 (H := H)
  refine cut [some (.ref a), some (.int k)] rfl ?_
  walk_at "go"
  refine w_iteD (fun h => ?_) (fun h => ?_)
  · walk_at "go"
    exact O.retS q rfl
  · walk_at "go"
    refine O.retS q ?_
    rw [List.getD_eq_getElem?_getD, List.getElem?_eq_none (by omega)]
    rfl

/-! #### _law_row: some integers from 0 on below a bound -/
def sp_law_row (K : PySem.W.Frag) : Sp := fun vs H Q _ => ∃ (c n b : Int), vs = [.int c, .int n, .int b] ∧ (0 < b ∧ b < 1073741824) ∧ (0 ≤ n ∧ n ≤ 1000000) ∧
  SpN (RL fun xs => ∃ ns : List Int, xs = ns.map V.int ∧ ns.length = n.toNat ∧ ∀ x ∈ ns, 0 ≤ x ∧ x < b) H Q
theorem len_law_row : ∀ vs H Q E, sp_law_row K vs H Q E → vs.length = ["_law_cell_here", "_law_count", "_law_bound"].length := by
  rintro _ _ _ _ ⟨_, _, _, rfl, _⟩
  rfl
theorem c_law_row {F0 H0 F H : Hp} {L : List (Addr × HO)} {C : List Ck} {Q : VK} {E : XK} {c n b : Int} (O : Own F0 H0 F H L C) (hb : 0 < b ∧ b < 1073741824) (hn : 0 ≤ n ∧ n ≤ 1000000)
    (q : ∀ p F' H' (ns : List Int), ns.length = n.toNat → (∀ x ∈ ns, 0 ≤ x ∧ x < b) → Own F0 H0 F' H' ((p, .lst (ns.map V.int)) :: L) C → Q (.ref p) H') :
    sp_law_row K [.int c, .int n, .int b] H Q E := ⟨c, n, b, rfl, hb, hn, O.callN fun v L' F' H' r O' => by
  obtain ⟨p, xs, rfl, rfl, ns, rfl, hl, hx⟩ := r
  exact q p F' H' ns hl hx O'⟩
theorem ok_law_row (T : Tx w K mg) : Dn P w K mg base 1 (He.ga K "_law_row") ["_law_cell_here", "_law_count", "_law_bound"] (sp_law_row K) := by
  refine dn_mk T.d_law_row sc_law_row (fun _ _ _ _ _ _ us hl => match us, hl with | [_, _, _], _ => rfl) len_law_row fun cdv A outer s H vs Q E hr h => ?_
  refine ⟨_, (pss_cons (ps_set (i := 3) sc_law_row.nd rfl (.inl rfl) (pe_callB k_abs (by rfl) T.z_abs (by decide +kernel) (pa_cons (pe_callTy k_int (by rfl) T.z_int (by decide +kernel) (pa_cons (pv 0) pa_nil)) pa_nil)))
      (pss_cons (ps_set (i := 4) sc_law_row.nd rfl (.inl rfl) (pe_op op_add (pe_op op_mod (pe_callTy k_int (by rfl) T.z_int (by decide +kernel) (pa_cons (pv 0) pa_nil)) pe_int) pe_int))
      (pss_cons (ps_set (i := 5) sc_law_row.nd rfl (.inl rfl) (pe_lst pa_nil))
      (pss_cons (ps_for PassesOwn.never rfl (pi_range1 (by rfl) T.z_range (pa_cons (pv 1) pa_nil)) (pg_name (i := 6) sc_law_row.nd rfl (.inl rfl))
      (pss_one (ps_if (pt_cmpR op_ge (pv 3) (pv 2) (nomark _))
      (pss_cons (ps_expr (bm_ (K := K) PySem.F.plainAttrs_list PySem.F.slot_list_append PySem.F.type_list_append mt_append (pv 5) (pa_cons (pe_op op_mod (pe_callTy k_int (by rfl) T.z_int (by decide +kernel) (pa_cons (pv 3) pa_nil)) (pv 2)) pa_nil)))
      (pss_one (ps_set (i := 3) sc_law_row.nd rfl (.inl rfl) (pe_op op_fdiv (pv 3) (pv 2)))))
      (pss_cons (ps_set (i := 4) sc_law_row.nd rfl (.inl rfl) (pe_op op_mod (pe_callTy k_int (by rfl) T.z_int (by decide +kernel) (pa_cons (pe_op op_add (pe_op op_add (pe_op op_mul (pv 4) pe_int) (pe_op op_mul pe_int (pv 6))) pe_int) pa_nil)) pe_int))
      (pss_one (ps_expr (bm_ (K := K) PySem.F.plainAttrs_list PySem.F.slot_list_append PySem.F.type_list_append mt_append (pv 5) (pa_cons (pe_op op_mod (pe_callTy k_int (by rfl) T.z_int (by decide +kernel) (pa_cons (pe_op op_fdiv (pe_op op_mul (pv 4) pe_int) pe_int) pa_nil)) (pv 2)) pa_nil))))))))
      (pss_one (ps_ret (pv 5))))))), ?_⟩
  obtain ⟨c, n, b, rfl, hb, hn, F, sF, _, q⟩ := h
  have O := Own.start (C := []) sF trivial
  refine cut [some (.int c), some (.int n), some (.int b), none, none, none, none] rfl ?_
  walk_at "go"
  rename_i p H1 O1
  refine w_rg1 (by omega) (fun i σ' H' => ∃ (rest mixed : Int) (ns : List Int) (y : Option V), σ' = [some (.int c), some (.int n), some (.int b), some (.int rest), some (.int mixed), some (.ref p), y] ∧ (0 ≤ mixed ∧ mixed < 2147483648) ∧
    Own F H F H' [(p, .lst (ns.map V.int))] [] ∧ ns.length = i ∧ ∀ x ∈ ns, 0 ≤ x ∧ x < b) ⟨_, _, [], _, rfl, by omega, O1, rfl, fun _ h => nomatch h⟩ ?_ ?_
  · rintro i σ' H' hi ⟨rest, mixed, ns, y, rfl, hm, O2, hl, hx⟩
    have add : ∀ z : Int, ns.map V.int ++ [V.int (z % b)] = (ns ++ [z % b]).map V.int := fun z => by rw [List.map_append]; rfl
    have hx2 : ∀ z : Int, ∀ x ∈ ns ++ [z % b], 0 ≤ x ∧ x < b := fun z x h => by
      rcases List.mem_append.mp h with h | h
      · exact hx x h
      · rw [List.mem_singleton.mp h]
        exact ⟨Int.emod_nonneg _ (by omega), Int.emod_lt_of_pos _ hb.1⟩
    have hz : (ns.map V.int).length < sizeLine := by rw [sizeLine_eq, List.length_map]; omega
    walk_at "go"
    refine w_iteD (fun h => ?_) (fun h => ?_)
    · walk_at "go"
      rename_i H3 O3
      rw [add] at O3
      exact ⟨_, _, _, _, rfl, hm, O3, by rw [List.length_append, hl]; rfl, hx2 _⟩
    · walk_at "go"
      rename_i H3 O3
      rw [add] at O3
      exact ⟨_, _, _, _, rfl, by omega, O3, by rw [List.length_append, hl]; rfl, hx2 _⟩
  · rintro σ' H' ⟨rest, mixed, ns, y, rfl, hm, O2, hl, hx⟩
    walk_at "go"
    exact O2.ret q ⟨p, _, rfl, rfl, ns, rfl, hl, hx⟩

/-! #### _law_text: some text of a size -/
def sp_law_text (K : PySem.W.Frag) : Sp := fun vs H Q _ => ∃ (c n : Int), vs = [.int c, .int n] ∧ (0 ≤ n ∧ n ≤ 1000000) ∧
  SpV (fun v => ∃ l, v = vS l ∧ l.length = n.toNat ∧ ∀ x ∈ l, x ∈ [65, 67, 71, 84, 78]) H Q
theorem len_law_text : ∀ vs H Q E, sp_law_text K vs H Q E → vs.length = ["_law_cell_here", "_law_size"].length := by
  rintro _ _ _ _ ⟨_, _, rfl, _⟩
  rfl
theorem c_law_text {F0 H0 F H : Hp} {L : List (Addr × HO)} {C : List Ck} {Q : VK} {E : XK} {c n : Int} (O : Own F0 H0 F H L C) (hn : 0 ≤ n ∧ n ≤ 1000000)
    (q : ∀ H' l, l.length = n.toNat → (∀ x ∈ l, x ∈ [65, 67, 71, 84, 78]) → Own F0 H0 F H' L C → Q (vS l) H') :
    sp_law_text K [.int c, .int n] H Q E := ⟨c, n, rfl, hn, O.callS fun v H' r O' => by
  obtain ⟨l, rfl, hl, hx⟩ := r
  exact q H' l hl hx O'⟩
theorem ok_law_text (T : Tx w K mg) : Dn P w K mg base 2 (He.ga K "_law_text") ["_law_cell_here", "_law_size"] (sp_law_text K) := by
  obtain ⟨fd_law_row, G_law_row, b_law_row, kp_law_row, _⟩ := ok_law_row (P := P) (w := w) (base := base) T
  refine dn_mk T.d_law_text sc_law_text (fun _ _ _ _ _ _ us hl => match us, hl with | [_, _], _ => rfl) len_law_text fun cdv A outer s H vs Q E hr h => ?_
  refine ⟨_, (pss_cons (ps_set (i := 2) sc_law_text.nd rfl (.inl rfl) (pe_call G_law_row (hr.mono (by decide)) (by rfl) T.g_law_row kp_law_row b_law_row .nil pass0 (pa_cons (pv 0) (pa_cons (pv 1) (pa_cons pe_int pa_nil)))))
      (pss_cons (ps_set (i := 3) sc_law_text.nd rfl (.inl rfl) (pe_op op_mod (pe_op op_fdiv (pe_callB k_abs (by rfl) T.z_abs (by decide +kernel) (pa_cons (pe_callTy k_int (by rfl) T.z_int (by decide +kernel) (pa_cons (pv 0) pa_nil)) pa_nil)) pe_int) pe_int))
      (pss_cons (ps_set (i := 4) sc_law_text.nd rfl (.inl rfl) (pe_strL (l := []) (by decide +kernel)))
      (pss_cons (ps_for PassesOwn.never rfl (pi_range1 (by rfl) T.z_range (pa_cons (pv 1) pa_nil)) (pg_name (i := 5) sc_law_text.nd rfl (.inl rfl))
      (pss_cons (ps_set (i := 6) sc_law_text.nd rfl (.inl rfl) (pe_ix k_ixS (pe_strL (l := [65, 67, 71, 84]) (by decide +kernel)) (pe_op op_mod (pe_ix (ixL_ (K := K)) (pv 2) (pv 5) (fun _ _ => rfl)) pe_int) (fun _ _ => rfl)))
      (Evl.pss_cut (ps_if (PW.pt (pw_and (pt_cmpR op_eq (pv 3) pe_int (nomark _)) (pw_and (pt_cmpR op_gt (pv 5) pe_int (nomark _)) (pw_and1 (pt_cmpR op_gt (pe_op op_mod (pe_ix (ixL_ (K := K)) (pv 2) (pv 5) (fun _ _ => rfl)) pe_int) pe_int (nomark _))))))
      (pss_one (ps_set (i := 6) sc_law_text.nd rfl (.inl rfl) (pe_ix k_ixS (pv 4) (pe_op op_sub (pv 5) pe_int) (fun _ _ => rfl))))
      pss_nil)
      (Evl.pss_cut (ps_if (pt_cmpR op_eq (pv 3) pe_int (nomark _))
      (pss_one (ps_set (i := 6) sc_law_text.nd rfl (.inl rfl) (pe_ix k_ixS (pe_strL (l := [65, 67]) (by decide +kernel)) (pe_op op_mod (pe_ix (ixL_ (K := K)) (pv 2) (pv 5) (fun _ _ => rfl)) pe_int) (fun _ _ => rfl))))
      pss_nil)
      (Evl.pss_cut (ps_if (PW.pt (pw_and (pt_cmpR op_eq (pv 3) pe_int (nomark _)) (pw_and1 (pt_cmpR op_gt (pe_ix (ixL_ (K := K)) (pv 2) (pv 5) (fun _ _ => rfl)) pe_int (nomark _)))))
      (pss_one (ps_set (i := 6) sc_law_text.nd rfl (.inl rfl) (pe_strL (l := [78]) (by decide +kernel))))
      pss_nil)
      (pss_one (ps_set (i := 4) sc_law_text.nd rfl (.inl rfl) (pe_op k_addS (pv 4) (pv 6)))))))))
      (pss_one (ps_ret (pv 4))))))), ?_⟩
  obtain ⟨c, n, rfl, hn, q⟩ := h
  have O := Own.start0 (H := H)
  refine cut [some (.int c), some (.int n), none, none, none, none, none] rfl ?_
  walk_at "go"
  refine c_law_row O (by omega) (by omega) fun p F1 H1 ns hl hx O1 => ?_
  walk_at "go"
  refine w_rg1 (by omega) (fun i σ' H' => ∃ (kd : Int) (l : List Nat) (y z : Option V), σ' = [some (.int c), some (.int n), some (.ref p), some (.int kd), some (vS l), y, z] ∧
    Own noF H F1 H' [(p, .lst (ns.map V.int))] [] ∧ l.length = i ∧ ∀ x ∈ l, x ∈ [65, 67, 71, 84, 78]) ⟨_, [], _, _, rfl, O1, rfl, fun _ h => nomatch h⟩ ?_ ?_
  · rintro i σ' H' hi ⟨kd, l, y, z, rfl, O2, hi2, hx2⟩
    have done : ∀ d, d ∈ [65, 67, 71, 84, 78] → (l ++ [d]).length = i + 1 ∧ ∀ x ∈ l ++ [d], x ∈ [65, 67, 71, 84, 78] := fun d hd => ⟨by rw [List.length_append, hi2]; rfl, fun x h => by
      rcases List.mem_append.mp h with h | h
      · exact hx2 x h
      · rw [List.mem_singleton.mp h]
        exact hd⟩
    have h4 : ∀ d : Int, [65, 67, 71, 84].getD (d % 4).toNat 0 ∈ [65, 67, 71, 84, 78] := fun d => List.mem_append_left [78] (getD_mem (xs := [65, 67, 71, 84]) (by show _ < 4; omega))
    have h2 : ∀ d : Int, [65, 67].getD (d % 2).toNat 0 ∈ [65, 67, 71, 84, 78] := fun d => List.mem_append_left [71, 84, 78] (getD_mem (xs := [65, 67]) (by show _ < 2; omega))
    walk_at "go"
    let Mid : L2.St → Hp → Prop := fun σ' H' => ∃ d, σ' = [some (.int c), some (.int n), some (.ref p), some (.int kd), some (vS l), some (.int (i : Nat)), some (vS [d])] ∧ Own noF H F1 H' [(p, .lst (ns.map V.int))] [] ∧ d ∈ [65, 67, 71, 84, 78]
    refine w_cut Mid ?_ ?_
    · walk_at "go"
      refine w_iteD (fun h1 => ?_) (fun _ => ⟨_, rfl, O2, h4 _⟩)
      refine w_iteD (fun h5 => ?_) (fun _ => ⟨_, rfl, O2, h4 _⟩)
      walk_at "go"
      refine w_iteD (fun h6 => ?_) (fun _ => ⟨_, rfl, O2, h4 _⟩)
      walk_at "go"
      exact ⟨_, rfl, O2, hx2 _ (getD_mem (by omega))⟩
    · rintro σ2 H2 ⟨d2, rfl, O3, hd2⟩
      walk_at "go"
      refine w_cut Mid ?_ ?_
      · walk_at "go"
        refine w_iteD (fun h1 => ?_) (fun _ => ⟨_, rfl, O3, hd2⟩)
        walk_at "go"
        exact ⟨_, rfl, O3, h2 _⟩
      · rintro σ3 H3 ⟨d3, rfl, O4, hd3⟩
        walk_at "go"
        refine w_cut Mid ?_ ?_
        · walk_at "go"
          refine w_iteD (fun h1 => ?_) (fun _ => ⟨_, rfl, O4, hd3⟩)
          walk_at "go"
          refine w_iteD (fun h6 => ?_) (fun _ => ⟨_, rfl, O4, hd3⟩)
          exact ⟨_, rfl, O4, by decide⟩
        · rintro σ4 H4 ⟨d4, rfl, O5, hd4⟩
          walk_at "go"
          exact ⟨_, _, _, _, rfl, O5, done _ hd4⟩
  · rintro σ' H' ⟨kd, l, y, z, rfl, O2, hi2, hx2⟩
    walk_at "go"
    exact O2.retS q ⟨l, rfl, hi2, hx2⟩

/-! #### _law_name -/
def sp_law_name (K : PySem.W.Frag) : Sp := fun vs H Q _ => ∃ c : Int, vs = [.int c] ∧ SpV (fun v => ∃ l : List Nat, v = vS l ∧ 1 ≤ l.length ∧ l.length ≤ 40 ∧ ∀ x ∈ l, x ∈ Ln.names) H Q
theorem len_law_name : ∀ vs H Q E, sp_law_name K vs H Q E → vs.length = ["_law_cell_here"].length := by
  rintro _ _ _ _ ⟨_, rfl, _⟩
  rfl
theorem c_law_name {F0 H0 F H : Hp} {L : List (Addr × HO)} {C : List Ck} {Q : VK} {E : XK} {c : Int} (O : Own F0 H0 F H L C)
    (q : ∀ H' l, 1 ≤ l.length → l.length ≤ 40 → (∀ x ∈ l, x ∈ Ln.names) → Own F0 H0 F H' L C → Q (vS l) H') :
    sp_law_name K [.int c] H Q E := ⟨c, rfl, O.callS fun v H' r O' => by
  obtain ⟨l, rfl, h1, h2, h3⟩ := r
  exact q H' l h1 h2 h3 O'⟩
theorem ok_law_name (T : Tx w K mg) : Dn P w K mg base 2 (He.ga K "_law_name") ["_law_cell_here"] (sp_law_name K) := by
  obtain ⟨fd_law_row, G_law_row, b_law_row, kp_law_row, _⟩ := ok_law_row (P := P) (w := w) (base := base) T
  refine dn_mk T.d_law_name sc_law_name (fun _ _ _ _ _ _ us hl => match us, hl with | [_], _ => rfl) len_law_name fun cdv A outer s H vs Q E hr h => ?_
  refine ⟨_, (pss_cons (ps_set (i := 1) sc_law_name.nd rfl (.inr rfl) (pe_strL (l := [48, 49, 50, 51, 52, 53, 54, 55, 56, 57, 65, 66, 67, 68, 69, 70, 71, 72, 73, 74, 75, 76, 77, 78, 79, 80, 81, 82, 83, 84, 85, 86, 87, 88, 89, 90, 97, 98, 99, 100, 101, 102, 103, 104, 105, 106, 107, 108, 109, 110, 111, 112, 113, 114, 115, 116, 117, 118, 119, 120, 121, 122]) (by decide +kernel)))
      (pss_cons (ps_set (i := 2) sc_law_name.nd rfl (.inl rfl) (pe_op op_add pe_int (pe_op op_mod (pe_callB k_abs (by rfl) T.z_abs (by decide +kernel) (pa_cons (pe_callTy k_int (by rfl) T.z_int (by decide +kernel) (pa_cons (pv 0) pa_nil)) pa_nil)) pe_int)))
      (Evl.pss_cut (ps_if (pt_cmpR op_eq (pe_op op_mod (pe_op op_fdiv (pe_callB k_abs (by rfl) T.z_abs (by decide +kernel) (pa_cons (pe_callTy k_int (by rfl) T.z_int (by decide +kernel) (pa_cons (pv 0) pa_nil)) pa_nil)) pe_int) pe_int) pe_int (nomark _))
      (pss_one (ps_set (i := 2) sc_law_name.nd rfl (.inl rfl) pe_int))
      pss_nil)
      (pss_one (ps_ret (pe_joinL (K := K) (pe_strL (l := []) (by decide +kernel)) (pe_lc (own := [("_law_x", 3)]) rfl sc_law_name.nd (iL_ (K := K) (pe_call G_law_row (hr.mono (by decide)) (by rfl) T.g_law_row kp_law_row b_law_row .nil pass0 (pa_cons (pv 0) (pa_cons (pv 2) (pa_cons pe_int pa_nil))))) (blkOk_by (own := [("_law_x", 3)]) (N := ["_law_cell_here", "_law_signs", "_law_size", "_law_x"]) (sc := defScope s_law_name) (by decide +kernel)) (fun _ _ _ _ _ => (pg_name (i := 3) sc_law_name.nd rfl (.inl rfl))) (fun _ _ _ _ _ => pts_nil) (fun _ _ _ _ _ => (pe_ix k_ixS (pv 1) (pv 3) (fun _ _ => rfl)))))))))), ?_⟩
  obtain ⟨c, rfl, q⟩ := h
  have O := Own.start0 (H := H)
  refine cut [some (.int c), none, none, none] rfl ?_
  walk_at "go"
  refine w_cut (fun σ' H' => ∃ n : Int, 1 ≤ n ∧ n ≤ 40 ∧ σ' = [some (.int c), some (vS Ln.names), some (.int n), none] ∧ H' = H) ?_ ?_
  · walk_at "go"
    refine w_iteD (fun h1 => ?_) (fun h1 => ?_)
    · exact ⟨40, by omega, by omega, rfl, trivial⟩
    · exact ⟨_, by omega, by omega, rfl, trivial⟩
  · rintro σ' H' ⟨n, h1, h2, rfl, rfl⟩
    walk_at "go"
    refine c_law_row O (by omega) (by omega) fun p F1 H1 ms hml hmx O1 => ?_
    refine w_lcL O1 (O1.lst 0) (fun O8 _ => O8.lst 1) (fun i acc F' => acc = (((ms.take i).map fun x => Ln.names.getD x.toNat 0).map fun c => [c]).map vS) rfl ?_ ?_
    · rintro j x acc D F' H8 hx8 rfl sF O8
      rw [List.getElem?_map] at hx8
      cases e8 : ms[j]? with
      | none => rw [e8] at hx8; cases hx8
      | some m =>
        rw [e8] at hx8
        cases hx8
        have hm := hmx m (List.mem_of_getElem? e8)
        have et8 : ms.take (j + 1) = ms.take j ++ [m] := by rw [List.take_add_one, e8]; rfl
        have hj := (List.getElem?_eq_some_iff.mp e8).1
        have hml : 0 ≤ m ∧ m < (Ln.names.length : Nat) := by
          show _ ∧ _ < ((62 : Nat) : Int)
          omega
        have hmz : Ln.names.length ≤ sizeLine := by rw [sizeLine_eq]; decide
        walk_at "go"
        refine w_put O8 sF ?_ ?_
        · rw [et8, List.map_append, List.map_append, List.map_append]
          rfl
        · rw [sizeLine_eq, List.length_map, List.length_map, List.length_map, List.length_take]
          omega
    · rintro acc D F' H8 rfl sF O8
      rw [List.length_map, List.take_length] at O8
      refine w_join (ls := (ms.map fun x => Ln.names.getD x.toNat 0).map fun c => [c]) ?_ (O8.lst 0) ?_
      · rw [joinN_ones]
        refine O8.retS q ⟨_, rfl, by rw [List.length_map]; omega, by rw [List.length_map]; omega, fun x hx => ?_⟩
        obtain ⟨m, hm, rfl⟩ := List.mem_map.mp hx
        have := hmx m hm
        exact getD_mem (by show _ < 62; omega)
      · rw [sum_ones fun l hl => by
          obtain ⟨c, _, rfl⟩ := List.mem_map.mp hl
          rfl]
        rw [List.length_map, List.length_map, List.length_nil]
        omega

/-! #### check_last, where there is a line -/
def sp_check_last (K : PySem.W.Frag) : Sp := fun vs H Q _ => ∃ (a : Addr) (xs : List V) (i : Nat), vs = [.ref a, .int (i : Nat)] ∧ SqL K H a xs ∧ i < xs.length ∧ Q .non H
theorem len_check_last : ∀ vs H Q E, sp_check_last K vs H Q E → vs.length = ["lines", "index"].length := by
  rintro _ _ _ _ ⟨_, _, _, rfl, _⟩
  rfl
theorem c_check_last {H : Hp} {Q : VK} {E : XK} {a : Addr} {xs : List V} {i : Nat} (hs : SqL K H a xs) (h : i < xs.length) (q : Q .non H) : sp_check_last K [.ref a, .int (i : Nat)] H Q E := ⟨a, xs, i, rfl, hs, h, q⟩
theorem ok_check_last (T : Tx w K mg) : Dn P w K mg base 1 (He.ga K "check_last") ["lines", "index"] (sp_check_last K) := by
  refine dn_mk T.d_check_last sc_check_last (fun _ _ _ _ _ _ us hl => match us, hl with | [_, _], _ => rfl) len_check_last fun cdv A outer s H vs Q E hr h => ?_
  refine ⟨_, (pss_one (ps_if (pt_cmpR op_ge (pv 1) (pe_callB (lenQ_ (K := K)) (by rfl) T.z_len (by decide +kernel) (pa_cons (pv 0) pa_nil)) (nomark _))
      (pss_one ps_never)
      pss_nil)), ?_⟩
  obtain ⟨a, xs, i, rfl, hs, h, q⟩ := h
  refine cut [some (.ref a), some (.int (i : Nat))] rfl ?_
  walk_at "go"
  refine w_iteD (fun h1 => ?_) (fun _ => ?_)
  · omega
  · exact q

/-! #### first_wrong -/
def sp_first_wrong (K : PySem.W.Frag) : Sp := fun vs H Q _ => ∃ (l sg : List Nat) (s : Nat), vs = [vS l, .int (s : Nat), vS sg] ∧ s ≤ l.length ∧ l.length ≤ 1000000 ∧ Q (.int (Ln.fw l s sg : Nat)) H
theorem len_first_wrong : ∀ vs H Q E, sp_first_wrong K vs H Q E → vs.length = ["line", "start", "signs"].length := by
  rintro _ _ _ _ ⟨_, _, _, rfl, _⟩
  rfl
theorem c_first_wrong {H : Hp} {Q : VK} {E : XK} {l sg : List Nat} {s : Nat} (h : s ≤ l.length) (hl : l.length ≤ 1000000) (q : Q (.int (Ln.fw l s sg : Nat)) H) : sp_first_wrong K [vS l, .int (s : Nat), vS sg] H Q E := ⟨l, sg, s, rfl, h, hl, q⟩
theorem ok_first_wrong (T : Tx w K mg) : Dn P w K mg base 1 (He.ga K "first_wrong") ["line", "start", "signs"] (sp_first_wrong K) := by
  refine dn_mk T.d_first_wrong sc_first_wrong (fun _ _ _ _ _ _ us hl => match us, hl with | [_, _, _], _ => rfl) len_first_wrong fun cdv A outer s H vs Q E hr h => ?_
  refine ⟨_, (pss_cons (ps_for PassesOwn.never rfl (pi_range2 (by rfl) T.z_range (pa_cons (pv 1) (pa_cons (pe_callB k_lenS (by rfl) T.z_len (by decide +kernel) (pa_cons (pv 0) pa_nil)) pa_nil))) (pg_name (i := 3) sc_first_wrong.nd rfl (.inl rfl))
      (pss_one (ps_if (pt_cmpR k_notInS (pe_ix k_ixS (pv 0) (pv 3) (fun _ _ => rfl)) (pv 2) (by rfl))
      (pss_one (ps_ret (pv 3)))
      pss_nil)))
      (pss_one (ps_ret (pe_callB k_lenS (by rfl) T.z_len (by decide +kernel) (pa_cons (pv 0) pa_nil))))), ?_⟩
  obtain ⟨l, sg, s0, rfl, h, hl, q⟩ := h
  refine cut [some (vS l), some (.int (s0 : Nat)), some (vS sg), none] rfl ?_
  walk_at "go"
  refine w_rg2 (by omega) (fun i σ' H' => ∃ y, σ' = [some (vS l), some (.int (s0 : Nat)), some (vS sg), y] ∧ H' = H ∧ ∀ j c, s0 ≤ j → j < s0 + i → l[j]? = some c → c ∈ sg) ⟨none, rfl, rfl, fun j c h1 h2 => by omega⟩ ?_ ?_
  · rintro i σ' H' hi ⟨y, rfl, rfl, hg⟩
    have hlt : s0 + i < l.length := by omega
    have hx : l.getD (Int.toNat ((s0 : Int) + (i : Int))) 0 = l[s0 + i] := by
      rw [show Int.toNat ((s0 : Int) + (i : Int)) = s0 + i by omega, List.getD_eq_getElem?_getD, List.getElem?_eq_getElem hlt]
      rfl
    walk_at "go"
    rw [hx]
    refine w_iteN (fun hb => ?_) (fun hb => ?_)
    · walk_at "go"
      rw [show ((s0 : Int) + (i : Int)) = ((s0 + i : Nat) : Int) by omega, ← Ln.fw_is (l := l) (s := s0) (k := s0 + i) (sg := sg) (by omega) (by omega) (fun j c h1 h2 e => hg j c h1 h2 e) fun c e => by
        rw [List.getElem?_eq_getElem hlt] at e
        rw [← Option.some.inj e]
        exact hb]
      exact q
    · walk_at "go"
      refine ⟨some (.int ((s0 : Int) + (i : Int))), rfl, by first | rfl | exact trivial, fun j c h1 h2 e => ?_⟩
      by_cases hj : j < s0 + i
      · exact hg j c h1 hj e
      · have ej : j = s0 + i := by omega
        rw [ej, List.getElem?_eq_getElem hlt] at e
        rw [← Option.some.inj e]
        exact hb
  · rintro σ' H' ⟨y, rfl, rfl, hg⟩
    walk_at "go"
    rw [← Ln.fw_is (l := l) (s := s0) (k := l.length) (sg := sg) h (Nat.le_refl _) (fun j c h1 h2 e => hg j c h1 (by omega) e) fun c e => by
      rw [List.getElem?_eq_none (Nat.le_refl _)] at e
      cases e]
    exact q

/-! #### name_in, of a good line -/
def sp_name_in (K : PySem.W.Frag) : Sp := fun vs H Q _ => ∃ (a : Addr) (ls : List (List Nat)) (i hd : Nat) (nm : List Nat), vs = [.ref a, .int (i : Nat), vS [hd]] ∧ SqL K H a (ls.map vS) ∧ ls[i]? = some (hd :: nm) ∧ (∀ c ∈ nm, c ∈ Ln.names) ∧ 1 ≤ nm.length ∧ nm.length ≤ 40 ∧ Q (vS nm) H
theorem len_name_in : ∀ vs H Q E, sp_name_in K vs H Q E → vs.length = ["lines", "index", "head"].length := by
  rintro _ _ _ _ ⟨_, _, _, _, _, rfl, _⟩
  rfl
theorem c_name_in {H : Hp} {Q : VK} {E : XK} {a : Addr} {ls : List (List Nat)} {i hd : Nat} {nm : List Nat} (hs : SqL K H a (ls.map vS)) (hi : ls[i]? = some (hd :: nm)) (hn : ∀ c ∈ nm, c ∈ Ln.names) (h1 : 1 ≤ nm.length) (h2 : nm.length ≤ 40) (q : Q (vS nm) H) :
    sp_name_in K [.ref a, .int (i : Nat), vS [hd]] H Q E := ⟨a, ls, i, hd, nm, rfl, hs, hi, hn, h1, h2, q⟩
theorem ok_name_in (T : Tx w K mg) : Dn P w K mg base 2 (He.ga K "name_in") ["lines", "index", "head"] (sp_name_in K) := by
  obtain ⟨fd_check_last, G_check_last, b_check_last, kp_check_last, _⟩ := ok_check_last (P := P) (w := w) (base := base) T
  obtain ⟨fd_first_wrong, G_first_wrong, b_first_wrong, kp_first_wrong, _⟩ := ok_first_wrong (P := P) (w := w) (base := base) T
  refine dn_mk T.d_name_in sc_name_in (fun _ _ _ _ _ _ us hl => match us, hl with | [_, _, _], _ => rfl) len_name_in fun cdv A outer s H vs Q E hr h => ?_
  refine ⟨_, (pss_cons (ps_expr (pe_call G_check_last (hr.mono (by decide)) (by rfl) T.g_check_last kp_check_last b_check_last .nil pass0 (pa_cons (pv 0) (pa_cons (pv 1) pa_nil))))
      (pss_cons (ps_set (i := 3) sc_name_in.nd rfl (.inl rfl) (pe_ix (ixL_ (K := K)) (pv 0) (pv 1) (fun _ _ => rfl)))
      (pss_cons (ps_if (pt_not (pt_val (pe_startsL (pv 3) (pv 2))))
      (pss_one ps_never)
      pss_nil)
      (pss_cons (ps_set (i := 4) sc_name_in.nd rfl (.inl rfl) (pe_callB (min2_ rfl) (by rfl) T.z_min (by decide +kernel) (pa_cons (pe_call G_first_wrong (hr.mono (by decide)) (by rfl) T.g_first_wrong kp_first_wrong b_first_wrong .nil pass0 (pa_cons (pv 3) (pa_cons pe_int (pa_cons (pe_globS (by rfl) T.k_NAME_SIGNS) pa_nil)))) (pa_cons (pe_op op_add (pe_globI (by rfl) T.k_LONGEST_NAME) pe_int) pa_nil))))
      (pss_cons (ps_if (PW.pt (pw_or (pt_cmpR op_lt (pv 4) (pe_callB k_lenS (by rfl) T.z_len (by decide +kernel) (pa_cons (pv 3) pa_nil)) (nomark _)) (pw_or1 (pt_cmpR op_eq (pe_callB k_lenS (by rfl) T.z_len (by decide +kernel) (pa_cons (pv 3) pa_nil)) pe_int (nomark _)))))
      (pss_one ps_never)
      pss_nil)
      (pss_one (ps_ret (pe_slice k_slS (pv 3) (po_some pe_int) po_none)))))))), ?_⟩
  obtain ⟨a, ls, i, hd, nm, rfl, hs, hi, hn, h1, h2, q⟩ := h
  have hlt := (List.getElem?_eq_some_iff.mp hi).1
  have hg : ls.getD (Int.toNat (i : Int)) [] = hd :: nm := by
    rw [Int.toNat_natCast, List.getD_eq_getElem?_getD, hi]
    rfl
  refine cut [some (.ref a), some (.int (i : Nat)), some (vS [hd]), none, none] rfl ?_
  walk_at "go"
  refine c_check_last hs (by rw [List.length_map]; exact hlt) ?_
  walk_at "go"
  refine w_ixStrs ?_ hs (by omega)
  rw [hg]
  walk_at "go"
  rw [show ([hd].isPrefixOf (hd :: nm)) = true by simp [List.isPrefixOf]]
  walk_at "go"
  have e : Ln.fw (hd :: nm) 1 Ln.names = nm.length + 1 := Ln.fw_all (by simp) (fun c hc => hn c (by simpa using hc))
  refine c_first_wrong (s := 1) (sg := Ln.names) (by simp) (by simp; omega) ?_
  rw [e]
  walk_at "go"
  refine w_iteD (fun h => ?_) (fun _ => ?_)
  · rw [List.length_cons] at h
    omega
  · have hz : (hd :: nm).length ≤ sizeLine := by rw [sizeLine_eq, List.length_cons]; omega
    walk_at "go"
    refine w_iteD (fun h => ?_) (fun _ => ?_)
    · rw [List.length_cons] at h
      omega
    · walk_at "go"
      rw [show (1 : Int) = ((1 : Nat) : Int) from rfl, cutN_from]
      exact q

/-! #### letters_in, of a good line -/
def sp_letters_in (K : PySem.W.Frag) : Sp := fun vs H Q _ => ∃ (a : Addr) (ls : List (List Nat)) (i : Nat) (room : Int) (l : List Nat), vs = [.ref a, .int (i : Nat), .int room] ∧ SqL K H a (ls.map vS) ∧ ls[i]? = some l ∧ (∀ c ∈ l, Lt.isL c) ∧ 1 ≤ l.length ∧ (l.length : Int) ≤ room ∧ l.length ≤ 100000 ∧ Q (vS l) H
theorem len_letters_in : ∀ vs H Q E, sp_letters_in K vs H Q E → vs.length = ["lines", "index", "room"].length := by
  rintro _ _ _ _ ⟨_, _, _, _, _, rfl, _⟩
  rfl
theorem c_letters_in {H : Hp} {Q : VK} {E : XK} {a : Addr} {ls : List (List Nat)} {i : Nat} {room : Int} {l : List Nat} (hs : SqL K H a (ls.map vS)) (hi : ls[i]? = some l) (hn : ∀ c ∈ l, Lt.isL c) (h1 : 1 ≤ l.length) (h2 : (l.length : Int) ≤ room) (h3 : l.length ≤ 100000) (q : Q (vS l) H) :
    sp_letters_in K [.ref a, .int (i : Nat), .int room] H Q E := ⟨a, ls, i, room, l, rfl, hs, hi, hn, h1, h2, h3, q⟩
theorem ok_letters_in (T : Tx w K mg) : Dn P w K mg base 2 (He.ga K "letters_in") ["lines", "index", "room"] (sp_letters_in K) := by
  obtain ⟨fd_check_last, G_check_last, b_check_last, kp_check_last, _⟩ := ok_check_last (P := P) (w := w) (base := base) T
  obtain ⟨fd_first_wrong, G_first_wrong, b_first_wrong, kp_first_wrong, _⟩ := ok_first_wrong (P := P) (w := w) (base := base) T
  refine dn_mk T.d_letters_in sc_letters_in (fun _ _ _ _ _ _ us hl => match us, hl with | [_, _, _], _ => rfl) len_letters_in fun cdv A outer s H vs Q E hr h => ?_
  refine ⟨_, (pss_cons (ps_expr (pe_call G_check_last (hr.mono (by decide)) (by rfl) T.g_check_last kp_check_last b_check_last .nil pass0 (pa_cons (pv 0) (pa_cons (pv 1) pa_nil))))
      (pss_cons (ps_set (i := 3) sc_letters_in.nd rfl (.inl rfl) (pe_ix (ixL_ (K := K)) (pv 0) (pv 1) (fun _ _ => rfl)))
      (pss_cons (ps_if (pt_cmpR op_eq (pv 3) (pe_strL (l := []) (by decide +kernel)) (nomark _))
      (pss_one ps_never)
      pss_nil)
      (pss_cons (ps_set (i := 4) sc_letters_in.nd rfl (.inl rfl) (pe_callB (min2_ rfl) (by rfl) T.z_min (by decide +kernel) (pa_cons (pe_call G_first_wrong (hr.mono (by decide)) (by rfl) T.g_first_wrong kp_first_wrong b_first_wrong .nil pass0 (pa_cons (pv 3) (pa_cons pe_int (pa_cons (pe_globS (by rfl) T.k_LETTERS) pa_nil)))) (pa_cons (pv 2) pa_nil))))
      (pss_cons (ps_if (pt_cmpR op_lt (pv 4) (pe_callB k_lenS (by rfl) T.z_len (by decide +kernel) (pa_cons (pv 3) pa_nil)) (nomark _))
      (pss_one ps_never)
      pss_nil)
      (pss_one (ps_ret (pv 3)))))))), ?_⟩
  obtain ⟨a, ls, i, room, l, rfl, hs, hi, hn, h1, h2, h3, q⟩ := h
  have hlt := (List.getElem?_eq_some_iff.mp hi).1
  have hg : ls.getD (Int.toNat (i : Int)) [] = l := by
    rw [Int.toNat_natCast, List.getD_eq_getElem?_getD, hi]
    rfl
  refine cut [some (.ref a), some (.int (i : Nat)), some (.int room), none, none] rfl ?_
  walk_at "go"
  refine c_check_last hs (by rw [List.length_map]; exact hlt) ?_
  walk_at "go"
  refine w_ixStrs ?_ hs (by omega)
  rw [hg]
  walk_at "go"
  refine w_iteD (fun h => ?_) (fun _ => ?_)
  · rw [h] at h1
    exact absurd h1 (by decide)
  · walk_at "go"
    have e : Ln.fw l 0 [65, 67, 71, 84, 78] = l.length := Ln.fw_all (Nat.zero_le _) (fun c hc => hn c (by simpa using hc))
    refine c_first_wrong (s := 0) (sg := [65, 67, 71, 84, 78]) (Nat.zero_le _) (by omega) ?_
    rw [e]
    walk_at "go"
    refine w_iteD (fun h => ?_) (fun _ => q)
    omega

/-! #### read_references, of good lines -/
def RRf (rs : List Rf) : V → List (Addr × HO) → Hp → Prop := fun v L F => ∃ p zs, v = .ref p ∧ L = [(p, .lst (zs.map fun z => .ref z.t))] ∧ zs.map Ry.k = rs.map Rf.k ∧ (cRy zs).p F
def sp_read_references (K : PySem.W.Frag) : Sp := fun vs H Q _ => ∃ (a : Addr) (rs : List Rf), vs = [.ref a] ∧ SqL K H a ((flines rs).map vS) ∧ (∀ r ∈ rs, r.Good) ∧ rs.length ≤ 100 ∧ SpN (RRf rs) H Q
theorem len_read_references : ∀ vs H Q E, sp_read_references K vs H Q E → vs.length = ["lines"].length := by
  rintro _ _ _ _ ⟨_, _, rfl, _⟩
  rfl
theorem c_read_references {F0 H0 F H : Hp} {L : List (Addr × HO)} {C : List Ck} {Q : VK} {E : XK} {a : Addr} {rs : List Rf} (O : Own F0 H0 F H L C) (hs : SqL K H a ((flines rs).map vS)) (hg : ∀ r ∈ rs, r.Good) (hn : rs.length ≤ 100)
    (q : ∀ p zs F' H', zs.map Ry.k = rs.map Rf.k → Own F0 H0 F' H' ((p, .lst (zs.map fun z => .ref z.t)) :: L) (cRy zs :: C) → Q (.ref p) H') : sp_read_references K [.ref a] H Q E :=
  ⟨a, rs, rfl, hs, hg, hn, O.callN fun v L' F' H' r O' => by
    obtain ⟨p, zs, rfl, rfl, h1, h2⟩ := r
    exact q p zs F' H' h1 (O'.push _ h2)⟩
theorem ok_read_references (T : Tx w K mg) : Dn P w K mg base 3 (He.ga K "read_references") ["lines"] (sp_read_references K) := by
  obtain ⟨fd_name_in, G_name_in, b_name_in, kp_name_in, _⟩ := ok_name_in (P := P) (w := w) (base := base) T
  obtain ⟨fd_letters_in, G_letters_in, b_letters_in, kp_letters_in, _⟩ := ok_letters_in (P := P) (w := w) (base := base) T
  refine dn_mk T.d_read_references sc_read_references (fun _ _ _ _ _ _ us hl => match us, hl with | [_], _ => rfl) len_read_references fun cdv A outer s H vs Q E hr h => ?_
  refine ⟨_, (pss_cons (ps_set (i := 1) sc_read_references.nd rfl (.inl rfl) (pe_lst pa_nil))
      (pss_cons (ps_set (i := 2) sc_read_references.nd rfl (.inl rfl) pe_int)
      (pss_cons (ps_while PassesOwn.never (pt_cmpR op_lt (pv 2) (pe_callB (lenQ_ (K := K)) (by rfl) T.z_len (by decide +kernel) (pa_cons (pv 0) pa_nil)) (nomark _))
      (pss_cons (ps_set (i := 3) sc_read_references.nd rfl (.inl rfl) (pe_call G_name_in (hr.mono (by decide)) (by rfl) T.g_name_in kp_name_in b_name_in .nil pass0 (pa_cons (pv 0) (pa_cons (pv 2) (pa_cons (pe_strL (l := [62]) (by decide +kernel)) pa_nil)))))
      (pss_cons (ps_set (i := 4) sc_read_references.nd rfl (.inl rfl) (pe_call G_letters_in (hr.mono (by decide)) (by rfl) T.g_letters_in kp_letters_in b_letters_in .nil pass0 (pa_cons (pv 0) (pa_cons (pe_op op_add (pv 2) pe_int) (pa_cons (pe_globI (by rfl) T.k_LONGEST_REFERENCE) pa_nil)))))
      (pss_cons (ps_aug (i := 2) sc_read_references.nd rfl (.inl rfl) pe_int ip_add)
      (pss_cons (ps_while PassesOwn.never (PW.pt (pw_and (pt_cmpR op_lt (pv 2) (pe_callB (lenQ_ (K := K)) (by rfl) T.z_len (by decide +kernel) (pa_cons (pv 0) pa_nil)) (nomark _)) (pw_and1 (pt_not (pt_val (pe_startsL (pe_ix (ixL_ (K := K)) (pv 0) (pv 2) (fun _ _ => rfl)) (pe_strL (l := [62]) (by decide +kernel))))))))
      (pss_cons (ps_set (i := 4) sc_read_references.nd rfl (.inl rfl) (pe_op k_addS (pv 4) (pe_call G_letters_in (hr.mono (by decide)) (by rfl) T.g_letters_in kp_letters_in b_letters_in .nil pass0 (pa_cons (pv 0) (pa_cons (pv 2) (pa_cons (pe_op op_sub (pe_globI (by rfl) T.k_LONGEST_REFERENCE) (pe_callB k_lenS (by rfl) T.z_len (by decide +kernel) (pa_cons (pv 4) pa_nil))) pa_nil))))))
      (pss_one (ps_aug (i := 2) sc_read_references.nd rfl (.inl rfl) pe_int ip_add))))
      (pss_one (ps_expr (bm_ (K := K) PySem.F.plainAttrs_list PySem.F.slot_list_append PySem.F.type_list_append mt_append (pv 1) (pa_cons (pe_tup (pa_cons (pv 3) (pa_cons (pv 4) pa_nil))) pa_nil)))))))))
      (pss_one (ps_ret (pv 1)))))), ?_⟩
  obtain ⟨a, rs, rfl, hs, hg, hn, F, sF, _, q⟩ := h
  have O := Own.start (C := []) sF trivial
  refine cut [some (.ref a), none, none, none, none] rfl ?_
  walk_at "go"
  rename_i p H1 O1
  refine w_wh (fun m σ' H' => ∃ i zs F' x3 x4, m = rs.length - i ∧ i ≤ rs.length ∧ zs.map Ry.k = (rs.take i).map Rf.k ∧ σ' = [some (.ref a), some (.ref p), some (.int (((flines (rs.take i)).length : Nat) : Int)), x3, x4] ∧ Own F H F' H' [(p, .lst (zs.map fun z => .ref z.t))] [cRy zs]) rs.length ⟨0, [], F, none, none, rfl, Nat.zero_le _, rfl, rfl, O1.push (cRy []) fun _ h => (nomatch h)⟩ ?_
  rintro m σ' H2 ⟨i, zs, F2, x3, x4, rfl, hi, hz, rfl, O2⟩
  have hs2 := O2.ofH hs
  have hzl : zs.length = i := by
    have e := congrArg List.length hz
    rw [List.length_map, List.length_map, List.length_take] at e
    omega
  walk_at "go"
  refine w_iteD (fun h => ?_) (fun h => ?_)
  · refine ⟨_, fun _ _ z => z, ?_⟩
    have hlt : i < rs.length := by
      by_cases e : i = rs.length
      · rw [e, List.take_length] at h
        omega
      · omega
    obtain ⟨r, hr⟩ : ∃ r, rs[i]? = some r := ⟨_, List.getElem?_eq_getElem hlt⟩
    have gr := hg r (List.mem_of_getElem? hr)
    have et : rs.take (i + 1) = rs.take i ++ [r] := by rw [List.take_add_one, hr]; rfl
    have hft := fl_take hr
    have hfl := fl_le (rs := rs) (i := i + 1) (by omega)
    obtain ⟨g, hgo⟩ : ∃ g, g = (flines (rs.take i)).length := ⟨_, rfl⟩
    have hget : ∀ k l, r.ls[k]? = some l → (flines rs)[g + k]? = some l := fun k l e => by
      rw [hgo]
      exact fl_get hr e
    rw [← hgo] at hft h ⊢
    obtain ⟨p0, ps, hps⟩ : ∃ p0 ps, r.ps = p0 :: ps := by
      cases e : r.ps with
      | nil => exact absurd e gr.p0
      | cons p0 ps => exact ⟨p0, ps, rfl⟩
    have gp := gr.ps
    have gt := gr.t2
    rw [Rf.tx] at gt
    have g0 := gp p0 (by rw [hps]; exact List.mem_cons_self)
    walk_at "go"
    refine c_name_in hs2 (hget 0 _ rfl) gr.nm gr.n1 gr.n2 ?_
    walk_at "go"
    rw [show (g : Int) + 1 = ((g + 1 : Nat) : Int) from rfl]
    have hp0l : p0.length ≤ 1000 := by
      rw [hps, List.flatten_cons, List.length_append] at gt
      omega
    refine c_letters_in hs2 (hget 1 p0 (by rw [Rf.ls, hps]; rfl)) g0.2 g0.1 (by omega) (by omega) ?_
    walk_at "go"
    rw [show (g : Int) + 2 = ((g + 2 : Nat) : Int) from rfl]
    refine w_wh (fun m σ' H' => ∃ j, 1 ≤ j ∧ j ≤ r.ps.length ∧ m = r.ps.length - j ∧ σ' = [some (.ref a), some (.ref p), some (.int ((g + 1 + j : Nat) : Int)), some (vS r.nm), some (vS ((r.ps.take j).flatten))] ∧ H' = H2) (r.ps.length - 1) ⟨1, Nat.le_refl _, by rw [hps, List.length_cons]; omega, rfl, by rw [hps, show ((g + 1 + 1 : Nat) : Int) = ((g + 2 : Nat) : Int) from rfl, List.take_succ_cons, List.take_zero, List.flatten_cons, List.flatten_nil, List.append_nil], rfl⟩ ?_
    rintro m σ' H3 ⟨j, h1j, hj, rfl, rfl, rfl⟩
    walk_at "go"
    by_cases hjl : j < r.ps.length
    · refine w_iteD (fun hk => ?_) (fun hk => absurd (show ((g + 1 + j : Nat) : Int) < (flines rs).length by omega) hk)
      obtain ⟨pj, hpj⟩ : ∃ pj, r.ps[j]? = some pj := ⟨_, List.getElem?_eq_getElem hjl⟩
      have gj := gp pj (List.mem_of_getElem? hpj)
      have hgj := hget (1 + j) pj (by rw [Rf.ls, show 1 + j = j + 1 by omega, List.getElem?_cons_succ]; exact hpj)
      rw [← Nat.add_assoc] at hgj
      refine w_ixStrs ?_ hs2 (by omega)
      rw [Int.toNat_natCast, List.getD_eq_getElem?_getD, hgj, show (some pj).getD [] = pj from rfl]
      have hnp : [62].isPrefixOf pj = false := by
        cases pj with
        | nil => rfl
        | cons c l =>
          have h := gj.2 c List.mem_cons_self
          simp only [Lt.isL, List.mem_cons, List.not_mem_nil, or_false] at h
          have h2 : (62 == c) = false := by rw [beq_eq_false_iff_ne]; omega
          simp [List.isPrefixOf, h2]
      have et2 : r.ps.take (j + 1) = r.ps.take j ++ [pj] := by rw [List.take_add_one, hpj]; rfl
      have hlen : ((r.ps.take j).flatten).length + pj.length ≤ 1000 := by
        have e : r.ps = r.ps.take j ++ r.ps.drop j := (List.take_append_drop j r.ps).symm
        have e2 : r.ps.drop j = pj :: r.ps.drop (j + 1) := by rw [List.drop_eq_getElem_cons hjl, (List.getElem?_eq_some_iff.mp hpj).2]
        rw [e, e2, List.flatten_append, List.length_append, List.flatten_cons, List.length_append] at gt
        omega
      walk_at "go"
      rw [hnp]
      walk_at "go"
      refine ⟨_, fun _ _ z => z, ?_⟩
      have hz1 : ((r.ps.take j).flatten).length ≤ sizeLine := by rw [sizeLine_eq]; omega
      walk_at "go"
      refine c_letters_in hs2 hgj gj.2 gj.1 (by omega) (by omega) ?_
      walk_at "go"
      refine ⟨r.ps.length - (j + 1), by omega, j + 1, by omega, by omega, rfl, ?_, trivial⟩
      rw [et2, List.flatten_append, List.flatten_singleton]
      rfl
    · have hje : j = r.ps.length := by omega
      have hjt : r.ps.take j = r.ps := by rw [hje, List.take_length]
      rw [hjt]
      rcases fl_next hr with ⟨he, hT⟩ | ⟨s, hs1⟩
      case' inl => refine w_iteD (fun hk => absurd hk (by omega)) (fun hk => ?_)
      case' inr =>
        have hn0 := fl_get hs1 (k := 0) (l := 62 :: s.nm) rfl
        rw [Nat.add_zero, hft, show g + (1 + r.ps.length) = g + 1 + j by omega] at hn0
        have hk2 := (List.getElem?_eq_some_iff.mp hn0).1
        refine w_iteD (fun hk => ?_) (fun hk => absurd (by omega) hk)
        refine w_ixStrs ?_ hs2 (by omega)
        rw [Int.toNat_natCast, List.getD_eq_getElem?_getD, hn0, show (some (62 :: s.nm)).getD [] = 62 :: s.nm from rfl]
        walk_at "go"
        rw [show [62].isPrefixOf (62 :: s.nm) = true by simp [List.isPrefixOf]]
        walk_at "go"
      all_goals
        walk_at "go"
        rename_i t F4 H4 O4 H5 O5
        refine ⟨rs.length - (i + 1), by omega, i + 1, zs ++ [⟨t, r.nm, r.tx⟩], F4, some (vS r.nm), some (vS r.ps.flatten), rfl, by omega, ?_, ?_, ?_⟩
        · rw [List.map_append, hz, et, List.map_append]
          rfl
        · rw [hft, show g + (1 + r.ps.length) = g + 1 + j by omega]
        · rw [List.map_append]
          refine O5.chunks (C' := [cRy (zs ++ [⟨t, r.nm, r.tx⟩])]) ⟨fun z hz => ?_, trivial⟩
          rcases List.mem_append.mp hz with hz | hz
          · exact (show ∀ z ∈ zs, F4 z.t = some (.tup [vS z.nm, vS z.tx]) from O5.ck 1) z hz
          · rw [List.mem_singleton.mp hz]
            exact O5.ck 0
  · rw [show i = rs.length by
      by_cases e : i = rs.length
      · exact e
      · exfalso
        obtain ⟨r, hr⟩ : ∃ r, rs[i]? = some r := ⟨_, List.getElem?_eq_getElem (by omega)⟩
        have h1 := fl_take hr
        have h2 := fl_le (rs := rs) (i := i + 1) (by omega)
        omega, List.take_length] at hz
    exact O2.ret q ⟨p, zs, rfl, rfl, hz, O2.ck 0⟩

/-! #### _law_divided -/
def sp_law_divided (K : PySem.W.Frag) : Sp := fun vs H Q _ => ∃ (l : List Nat) (c : Int), vs = [vS l, .int c] ∧ 1 ≤ l.length ∧ l.length ≤ 150 ∧ SpN (fun v L F => ∃ (p : Addr) (ps : List (List Nat)), v = .ref p ∧ L = [(p, .lst (ps.map vS))] ∧ ps.flatten = l ∧ (∀ p ∈ ps, 1 ≤ p.length) ∧ ps.length ≤ 150) H Q
theorem len_law_divided : ∀ vs H Q E, sp_law_divided K vs H Q E → vs.length = ["_law_text_here", "_law_cell_here"].length := by
  rintro _ _ _ _ ⟨_, _, rfl, _⟩
  rfl
theorem c_law_divided {F0 H0 F H : Hp} {L : List (Addr × HO)} {C : List Ck} {Q : VK} {E : XK} {l : List Nat} {c : Int} (O : Own F0 H0 F H L C) (h1 : 1 ≤ l.length) (h2 : l.length ≤ 150)
    (q : ∀ p F' H' (ps : List (List Nat)), ps.flatten = l → (∀ p ∈ ps, 1 ≤ p.length) → ps.length ≤ 150 → Own F0 H0 F' H' ((p, .lst (ps.map vS)) :: L) C → Q (.ref p) H') :
    sp_law_divided K [vS l, .int c] H Q E := ⟨l, c, rfl, h1, h2, O.callN fun v L' F' H' r O' => by
  obtain ⟨p, ps, rfl, rfl, h1, h2, h3⟩ := r
  exact q p F' H' ps h1 h2 h3 O'⟩
theorem ok_law_divided (T : Tx w K mg) : Dn P w K mg base 2 (He.ga K "_law_divided") ["_law_text_here", "_law_cell_here"] (sp_law_divided K) := by
  obtain ⟨fd_law_row, G_law_row, b_law_row, kp_law_row, _⟩ := ok_law_row (P := P) (w := w) (base := base) T
  refine dn_mk T.d_law_divided sc_law_divided (fun _ _ _ _ _ _ us hl => match us, hl with | [_, _], _ => rfl) len_law_divided fun cdv A outer s H vs Q E hr h => ?_
  refine ⟨_, (pss_cons (ps_set (i := 2) sc_law_divided.nd rfl (.inl rfl) (pe_lst pa_nil))
      (pss_cons (ps_set (i := 3) sc_law_divided.nd rfl (.inl rfl) (pe_call G_law_row (hr.mono (by decide)) (by rfl) T.g_law_row kp_law_row b_law_row .nil pass0 (pa_cons (pv 1) (pa_cons pe_int (pa_cons pe_int pa_nil)))))
      (pss_cons (ps_set (i := 4) sc_law_divided.nd rfl (.inl rfl) pe_int)
      (pss_cons (ps_for PassesOwn.never rfl (pi_range1 (by rfl) T.z_range (pa_cons pe_int pa_nil)) (pg_name (i := 5) sc_law_divided.nd rfl (.inl rfl))
      (pss_one (ps_if (pt_cmpR op_lt (pv 4) (pe_callB k_lenS (by rfl) T.z_len (by decide +kernel) (pa_cons (pv 0) pa_nil)) (nomark _))
      (pss_cons (ps_expr (bm_ (K := K) PySem.F.plainAttrs_list PySem.F.slot_list_append PySem.F.type_list_append mt_append (pv 2) (pa_cons (pe_slice k_slS (pv 0) (po_some (pv 4)) (po_some (pe_op op_add (pe_op op_add (pv 4) pe_int) (pe_ix (ixL_ (K := K)) (pv 3) (pv 5) (fun _ _ => rfl))))) pa_nil)))
      (pss_one (ps_set (i := 4) sc_law_divided.nd rfl (.inl rfl) (pe_op op_add (pe_op op_add (pv 4) pe_int) (pe_ix (ixL_ (K := K)) (pv 3) (pv 5) (fun _ _ => rfl))))))
      pss_nil)))
      (pss_one (ps_ret (pv 2))))))), ?_⟩
  obtain ⟨l, c, rfl, h1, h2, F, sF, _, q⟩ := h
  have O := Own.start (C := []) sF trivial
  refine cut [some (vS l), some (.int c), none, none, none, none] rfl ?_
  walk_at "go"
  rename_i p H1 O1
  refine c_law_row O1 (by omega) (by omega) fun pd F2 H2 ds hdl hdx O2 => ?_
  walk_at "go"
  refine w_rg1 (by omega) (fun i σ' H' => ∃ (z0 : Nat) (ps : List (List Nat)) (y5 : Option V), σ' = [some (vS l), some (.int c), some (.ref p), some (.ref pd), some (.int (z0 : Nat)), y5] ∧ Own F H F2 H' [(pd, .lst (ds.map V.int)), (p, .lst (ps.map vS))] [] ∧ ps.flatten = l.take z0 ∧ (∀ p ∈ ps, 1 ≤ p.length) ∧ ps.length ≤ i ∧ (l.length ≤ z0 ∨ i ≤ z0)) ⟨0, [], none, rfl, O2, rfl, fun _ h => (nomatch h), Nat.le_refl _, .inr (Nat.zero_le _)⟩ ?_ ?_
  · rintro i σ' H3 hi ⟨z0, ps, y5, rfl, O3, hf, hp, hpl, hat⟩
    walk_at "go"
    refine w_iteD (fun ha => ?_) (fun ha => ?_)
    · obtain ⟨d, hd, hd2⟩ : ∃ d : Nat, ds.getD i 0 = (d : Int) ∧ d < 70 := by
        have := hdx _ (getD_mem (d := 0) (show i < ds.length by omega))
        exact ⟨(ds.getD i 0).toNat, by omega, by omega⟩
      have hz : l.length ≤ sizeLine := by rw [sizeLine_eq]; omega
      have hpz : (ps.map vS).length < sizeLine := by rw [sizeLine_eq, List.length_map]; omega
      walk_at "go"
      rename_i O4
      rw [Int.toNat_natCast, hd] at O4 ⊢
      rw [show (z0 : Int) + 1 + (d : Int) = ((z0 + 1 + d : Nat) : Int) by omega] at O4 ⊢
      rw [cutN_nat, show z0 + 1 + d - z0 = 1 + d by omega] at O4
      refine ⟨z0 + 1 + d, ps ++ [(l.drop z0).take (1 + d)], _, rfl, ?_, ?_, ?_, ?_, ?_⟩
      · rw [List.map_append]
        exact O4
      · rw [List.flatten_append, hf, List.flatten_singleton, show z0 + 1 + d = z0 + (1 + d) by omega]
        exact List.take_add.symm
      · intro x hx
        rcases List.mem_append.mp hx with hx | hx
        · exact hp x hx
        · rw [List.mem_singleton.mp hx, List.length_take, List.length_drop]
          omega
      · rw [List.length_append, List.length_singleton]
        omega
      · right
        omega
    · exact ⟨z0, ps, _, rfl, O3, hf, hp, by omega, .inl (by omega)⟩
  · rintro σ' H3 ⟨z0, ps, y5, rfl, O3, hf, hp, hpl, hat⟩
    walk_at "go"
    refine (O3.sub (List.sublist_cons_self _ _)).ret q ⟨p, ps, rfl, rfl, ?_, hp, by omega⟩
    rw [hf, List.take_of_length_le (by omega)]

/-! #### law -/
def sp_law (K : PySem.W.Frag) : Sp := fun vs H Q _ => ∃ (a : Addr) (ns : List Int), vs = [.ref a] ∧ SqL K H a (ns.map V.int) ∧ ∀ H', Q (.bl true) H'
theorem law_start {H : Hp} {a : Addr} {ns : List Int} (hS : SqL K H a (ns.map V.int)) (hl : ns.length ≤ 63) : sp_law K [.ref a] H (fun v _ => v = .bl true) fun _ _ _ => False := ⟨a, ns, rfl, hS, fun _ => rfl⟩
theorem len_law : ∀ vs H Q E, sp_law K vs H Q E → vs.length = ["_law_script"].length := by
  rintro _ _ _ _ ⟨_, _, rfl, _⟩
  rfl
def fsOf (zs : List Ry) : List Rf := zs.map fun z => ⟨z.nm, sixty z.tx⟩
theorem fs_k (zs : List Ry) : (fsOf zs).map Rf.k = zs.map Ry.k := by
  rw [fsOf, List.map_map]
  refine List.map_congr_left fun z _ => ?_
  show (z.nm, (sixty z.tx).flatten) = (z.nm, z.tx)
  rw [sixty_flat]
theorem fs_good {zs : List Ry} (h : ∀ z ∈ zs, KGood z.k) : ∀ r ∈ fsOf zs, r.Good := by
  intro r hr
  obtain ⟨z, hz, rfl⟩ := List.mem_map.mp hr
  have g := h z hz
  refine ⟨g.nm, g.n1, g.n2, sixty_ne g.t1, fun p hp => ⟨(sixty_part hp).1, fun c hc => g.tx c ((sixty_part hp).2.2 c hc)⟩, ?_⟩
  show (sixty z.tx).flatten.length ≤ 1000
  rw [sixty_flat]
  exact g.t2
theorem fl_len {rs : List Rf} {n : Nat} : (∀ r ∈ rs, r.ps.length ≤ 150) → rs.length ≤ n → (flines rs).length ≤ 151 * n := by
  induction rs generalizing n with
  | nil => exact fun _ _ => Nat.zero_le _
  | cons r rs ih =>
    intro h hn
    rw [List.length_cons] at hn
    have := ih (n := n - 1) (fun r hr => h r (List.mem_cons_of_mem _ hr)) (by omega)
    have h2 := h r List.mem_cons_self
    rw [flines, List.flatMap_cons, List.length_append, Rf.ls, List.length_cons]
    have e : (List.flatMap Rf.ls rs).length = (flines rs).length := rfl
    omega
theorem ok_law (T : Tx w K mg) : Dn P w K mg base 4 (He.ga K "law") ["_law_script"] (sp_law K) := by
  obtain ⟨fd_write_references, G_write_references, b_write_references, kp_write_references, _⟩ := ok_write_references (P := P) (w := w) (base := base) T
  obtain ⟨fd_law_cell, G_law_cell, b_law_cell, kp_law_cell, _⟩ := ok_law_cell (P := P) (w := w) (base := base) T
  obtain ⟨fd_law_text, G_law_text, b_law_text, kp_law_text, _⟩ := ok_law_text (P := P) (w := w) (base := base) T
  obtain ⟨fd_law_name, G_law_name, b_law_name, kp_law_name, _⟩ := ok_law_name (P := P) (w := w) (base := base) T
  obtain ⟨fd_read_references, G_read_references, b_read_references, kp_read_references, _⟩ := ok_read_references (P := P) (w := w) (base := base) T
  obtain ⟨fd_law_divided, G_law_divided, b_law_divided, kp_law_divided, _⟩ := ok_law_divided (P := P) (w := w) (base := base) T
  refine dn_mk T.d_law sc_law (fun _ _ _ _ _ _ us hl => match us, hl with | [_], _ => rfl) len_law fun cdv A outer s H vs Q E hr h => ?_
  refine ⟨_, (pss_cons (ps_set (i := 1) sc_law.nd rfl (.inl rfl) (pe_op op_mod (pe_call G_law_cell (hr.mono (by decide)) (by rfl) T.g_law_cell kp_law_cell b_law_cell .nil pass0 (pa_cons (pv 0) (pa_cons pe_int pa_nil))) pe_int))
      (pss_cons (ps_set (i := 2) sc_law.nd rfl (.inl rfl) (pe_lst pa_nil))
      (pss_cons (ps_set (i := 3) sc_law.nd rfl (.inl rfl) (pe_lst pa_nil))
      (pss_cons (ps_set (i := 4) sc_law.nd rfl (.inl rfl) (pe_lst pa_nil))
      (pss_cons (ps_for PassesOwn.never rfl (pi_range1 (by rfl) T.z_range (pa_cons (pv 1) pa_nil)) (pg_name (i := 5) sc_law.nd rfl (.inl rfl))
      (pss_cons (ps_set (i := 6) sc_law.nd rfl (.inl rfl) (pe_call G_law_cell (hr.mono (by decide)) (by rfl) T.g_law_cell kp_law_cell b_law_cell .nil pass0 (pa_cons (pv 0) (pa_cons (pe_op op_add pe_int (pe_op op_mul pe_int (pv 5))) pa_nil))))
      (pss_cons (ps_set (i := 7) sc_law.nd rfl (.inr rfl) (pe_call G_law_text (hr.mono (by decide)) (by rfl) T.g_law_text kp_law_text b_law_text .nil pass0 (pa_cons (pe_call G_law_cell (hr.mono (by decide)) (by rfl) T.g_law_cell kp_law_cell b_law_cell .nil pass0 (pa_cons (pv 0) (pa_cons (pe_op op_add pe_int (pe_op op_mul pe_int (pv 5))) pa_nil))) (pa_cons (pe_op op_add pe_int (pe_op op_mod (pe_op op_fdiv (pe_callB k_abs (by rfl) T.z_abs (by decide +kernel) (pa_cons (pe_callTy k_int (by rfl) T.z_int (by decide +kernel) (pa_cons (pv 6) pa_nil)) pa_nil)) pe_int) pe_int)) pa_nil))))
      (pss_cons (ps_set (i := 8) sc_law.nd rfl (.inl rfl) (pe_call G_law_name (hr.mono (by decide)) (by rfl) T.g_law_name kp_law_name b_law_name .nil pass0 (pa_cons (pv 6) pa_nil)))
      (pss_cons (ps_expr (bm_ (K := K) PySem.F.plainAttrs_list PySem.F.slot_list_append PySem.F.type_list_append mt_append (pv 2) (pa_cons (pe_tup (pa_cons (pv 8) (pa_cons (pv 7) pa_nil))) pa_nil)))
      (pss_cons (ps_set (i := 3) sc_law.nd rfl (.inl rfl) (pe_op op_cat (pe_op op_cat (pv 3) (pe_lst (pa_cons (pe_op k_addS (pe_strL (l := [62]) (by decide +kernel)) (pv 8)) pa_nil))) (pe_lc (own := [("_law_at", 9)]) rfl sc_law.nd (pi_range3 (by rfl) T.z_range (pa_cons pe_int (pa_cons (pe_callB k_lenS (by rfl) T.z_len (by decide +kernel) (pa_cons (pv 7) pa_nil)) (pa_cons pe_int pa_nil)))) (blkOk_by (own := [("_law_at", 9)]) (N := ["_law_script", "_law_count", "_law_references_here", "_law_full", "_law_other", "_law_k", "_law_cell_here", "_law_text_here", "_law_name_here", "_law_at", "_law_handed", "_law_told", "_law_lines", "_law_given", "_law_found", "_law_one"]) (sc := defScope s_law) (by decide +kernel)) (fun _ _ _ _ _ => (pg_name (i := 9) sc_law.nd rfl (.inl rfl))) (fun _ _ _ _ _ => pts_nil) (fun _ _ _ _ _ => (pe_slice k_slS (pv 7) (po_some (pv 9)) (po_some (pe_op op_add (pv 9) pe_int)))))))
      (pss_one (ps_set (i := 4) sc_law.nd rfl (.inl rfl) (pe_op op_cat (pe_op op_cat (pv 4) (pe_lst (pa_cons (pe_op k_addS (pe_strL (l := [62]) (by decide +kernel)) (pv 8)) pa_nil))) (pe_call G_law_divided (hr.mono (by decide)) (by rfl) T.g_law_divided kp_law_divided b_law_divided .nil pass0 (pa_cons (pv 7) (pa_cons (pe_call G_law_cell (hr.mono (by decide)) (by rfl) T.g_law_cell kp_law_cell b_law_cell .nil pass0 (pa_cons (pv 0) (pa_cons (pe_op op_add pe_int (pe_op op_mul pe_int (pv 5))) pa_nil))) pa_nil))))))))))))
      (pss_cons (ps_set (i := 10) sc_law.nd rfl (.inl rfl) (pe_callTy (listQ_ (K := K)) (by rfl) T.z_list (by decide +kernel) (pa_cons (pv 2) pa_nil)))
      (pss_cons (ps_set (i := 11) sc_law.nd rfl (.inl rfl) (pe_call G_write_references (hr.mono (by decide)) (by rfl) T.g_write_references kp_write_references b_write_references .nil pass0 (pa_cons (pv 10) pa_nil)))
      (pss_cons (ps_if (PW.pt (pw_or (pt_not (pt_val (pe_callB (isi_ (K := K)) (by rfl) T.z_isinstance (by decide +kernel) (pa_cons (pv 11) (pa_cons (pe_bltn (v := .ty "list") (by rfl) T.z_list (by decide +kernel) rfl) pa_nil))))) (pw_or (pt_cmpR (neD_ (K := K) hr.units) (pv 11) (pv 3) (nomark _)) (pw_or1 (pt_cmpR (neD_ (K := K) hr.units) (pv 10) (pv 2) (nomark _))))))
      (pss_one (ps_ret pe_bl))
      pss_nil)
      (pss_cons (ps_for PassesOwn.never rfl (iL_ (K := K) (pe_lst (pa_cons (pv 3) (pa_cons (pv 4) pa_nil)))) (pg_name (i := 12) sc_law.nd rfl (.inl rfl))
      (pss_cons (ps_set (i := 13) sc_law.nd rfl (.inl rfl) (pe_callTy (listQ_ (K := K)) (by rfl) T.z_list (by decide +kernel) (pa_cons (pv 12) pa_nil)))
      (pss_cons (ps_set (i := 14) sc_law.nd rfl (.inl rfl) (pe_call G_read_references (hr.mono (by decide)) (by rfl) T.g_read_references kp_read_references b_read_references .nil pass0 (pa_cons (pv 13) pa_nil)))
      (pss_cons (ps_if (PW.pt (pw_or (pt_not (pt_val (pe_callB (isi_ (K := K)) (by rfl) T.z_isinstance (by decide +kernel) (pa_cons (pv 14) (pa_cons (pe_bltn (v := .ty "list") (by rfl) T.z_list (by decide +kernel) rfl) pa_nil))))) (pw_or (pt_cmpR (neD_ (K := K) hr.units) (pv 14) (pv 2) (nomark _)) (pw_or1 (pt_cmpR (neD_ (K := K) hr.units) (pv 13) (pv 12) (nomark _))))))
      (pss_one (ps_ret pe_bl))
      pss_nil)
      (pss_cons (ps_if (pt_not (pt_val (pe_callB (all_ (K := K) rfl) (by rfl) T.z_all (by decide +kernel) (pa_cons (pe_lc (own := [("_law_one", 15)]) rfl sc_law.nd (iL_ (K := K) (pv 14)) (blkOk_by (own := [("_law_one", 15)]) (N := ["_law_script", "_law_count", "_law_references_here", "_law_full", "_law_other", "_law_k", "_law_cell_here", "_law_text_here", "_law_name_here", "_law_at", "_law_handed", "_law_told", "_law_lines", "_law_given", "_law_found", "_law_one"]) (sc := defScope s_law) (by decide +kernel)) (fun _ _ _ _ _ => (pg_name (i := 15) sc_law.nd rfl (.inl rfl))) (fun _ _ _ _ _ => pts_nil) (fun _ _ _ _ _ => (pe_callB (isi_ (K := K)) (by rfl) T.z_isinstance (by decide +kernel) (pa_cons (pv 15) (pa_cons (pe_bltn (v := .ty "tuple") (by rfl) T.z_tuple (by decide +kernel) rfl) pa_nil))))) pa_nil))))
      (pss_one (ps_ret pe_bl))
      pss_nil)
      (pss_cons (ps_expr (bm_ (K := K) PySem.F.plainAttrs_list PySem.F.slot_list_append PySem.F.type_list_append mt_append (pv 14) (pa_cons (pe_tup (pa_cons (pe_strL (l := [120]) (by decide +kernel)) (pa_cons (pe_strL (l := [65]) (by decide +kernel)) pa_nil))) pa_nil)))
      (pss_one (ps_if (pt_cmpR (neD_ (K := K) hr.units) (pe_call G_read_references (hr.mono (by decide)) (by rfl) T.g_read_references kp_read_references b_read_references .nil pass0 (pa_cons (pv 13) pa_nil)) (pv 2) (nomark _))
      (pss_one (ps_ret pe_bl))
      pss_nil))))))))
      (pss_one (ps_ret pe_bl))))))))))), ?_⟩
  obtain ⟨a, ns, rfl, hs, q⟩ := h
  have O := Own.start0 (H := H)
  refine cut [some (.ref a), none, none, none, none, none, none, none, none, none, none, none, none, none, none, none] rfl ?_
  walk_at "go"
  refine c_law_cell O (by walk_at "sq") (by omega) fun H1 O1 => ?_
  obtain ⟨n, hn⟩ : ∃ n : Nat, ns.getD (0 : Int).toNat 0 % 5 = (n : Int) := ⟨(ns.getD (0 : Int).toNat 0 % 5).toNat, by omega⟩
  have hn5 : n < 5 := by omega
  walk_at "go"
  rw [hn]
  rename_i pr H2 O2 pf H3 O3 po H4 O4
  refine w_rg1 (by omega) (fun i σ' H' => ∃ (F1 : Hp) (zs : List Ry) (os : List Rf) (pf po : Addr) (y5 y6 y7 y8 y9 : Option V), zs.length = i ∧ (∀ z ∈ zs, KGood z.k) ∧ os.map Rf.k = zs.map Ry.k ∧ (∀ r ∈ os, r.Good ∧ r.ps.length ≤ 150) ∧ σ' = [some (.ref a), some (.int (n : Nat)), some (.ref pr), some (.ref pf), some (.ref po), y5, y6, y7, y8, y9, none, none, none, none, none, none] ∧ Own noF H F1 H' [(po, .lst ((flines os).map vS)), (pf, .lst ((flines (fsOf zs)).map vS)), (pr, .lst (zs.map fun z => .ref z.t))] [cRy zs])
    ⟨noF, [], [], pf, po, none, none, none, none, none, rfl, fun _ h => (nomatch h), rfl, fun _ h => (nomatch h), rfl, O4.push (cRy []) fun _ h => (nomatch h)⟩ ?_ ?_
  · rintro i σ' H3 hi ⟨F3, zs, os, pf, po, y5, y6, y7, y8, y9, hzl, hzg, hok, hog, rfl, O3⟩
    have hi7 : i < 5 := by omega
    have hol : os.length = i := by
      have e := congrArg List.length hok
      rw [List.length_map, List.length_map] at e
      omega
    have hfl : (flines (fsOf zs)).length ≤ 2000 := by
      have := fl_bound (n := i) hzg (by omega)
      have e : (flines (fsOf zs)).length = (flines (zs.map fun z => (⟨z.nm, sixty z.tx⟩ : Rf))).length := rfl
      omega
    have hfo : (flines os).length ≤ 2000 := by
      have := fl_len (n := i) (fun r hr => (hog r hr).2) (by omega)
      omega
    walk_at "go"
    refine c_law_cell O3 (by walk_at "sq") (by omega) fun H4 O4 => ?_
    generalize ns.getD _ 0 = c
    walk_at "go"
    refine c_law_cell O4 (by walk_at "sq") (by omega) fun H5 O5 => ?_
    generalize ns.getD _ 0 = d
    walk_at "go"
    refine c_law_text O5 (by omega) fun H6 l hl hx O6 => ?_
    walk_at "go"
    refine c_law_name O6 fun H7 nm hn1 hn2 hn3 O7 => ?_
    have hl1 : 1 ≤ l.length ∧ l.length ≤ 150 := by omega
    have hlz : l.length ≤ sizeLine := by rw [sizeLine_eq]; omega
    walk_at "go"
    rename_i t F8 H8 O8 H9 O9 n1 H10 O10 c1 H11 O11
    refine w_lcR3 (n := (l.length + 59) / 60) O11 (rgc_pos (c := 60) (by omega) (by omega)) (fun j acc F' => acc = ((List.range j).map fun j => (l.drop (60 * j)).take 60).map vS) rfl ?_ ?_
    · rintro j acc D F' H8 hj rfl sF O8
      rw [show (0 : Int) + (j : Int) * 60 = ((60 * j : Nat) : Int) by omega]
      walk_at "go"
      rw [show ((60 * j : Nat) : Int) + 60 = ((60 * j + 60 : Nat) : Int) by omega, cutN_nat, show 60 * j + 60 - 60 * j = 60 by omega]
      refine w_put O8 sF ?_ ?_
      · rw [List.range_succ, List.map_append, List.map_append]
        rfl
      · rw [sizeLine_eq, List.length_map, List.length_map, List.length_range]
        omega
    · rintro acc D F' H12 rfl sF O12
      have esx : (List.range ((l.length + 59) / 60)).map (fun j => (l.drop (60 * j)).take 60) = sixty l := rfl
      have hsxl : (sixty l).length ≤ 10 := by rw [sixty, List.length_map, List.length_range]; omega
      rw [esx] at O12
      walk_at "go"
      rename_i c2 Ha Oa n2 Hb Ob c3 Hc Oc
      refine c_law_cell Oc (by walk_at "sq") (by omega) fun H14 O14 => ?_
      generalize ns.getD _ 0 = d3
      refine c_law_divided O14 hl1.1 hl1.2 fun pd F15 H15 ps hpf hp1 hpl O15 => ?_
      walk_at "go"
      rename_i c4 H16 O16
      have hxl : ∀ x ∈ l, Lt.isL x := fun x h => hx x h
      have gk : KGood (nm, l) := ⟨hn3, hn1, hn2, hxl, hl1.1, by show l.length ≤ 1000; omega⟩
      have go : Rf.Good ⟨nm, ps⟩ := ⟨hn3, hn1, hn2, fun e => by
          rw [show ps = [] from e] at hpf
          rw [← hpf] at hl1
          exact absurd hl1.1 (by decide), fun p hp => ⟨hp1 p hp, fun c hc => hxl c (by rw [← hpf]; exact List.mem_flatten.mpr ⟨p, hp, hc⟩)⟩, by show ps.flatten.length ≤ 1000; rw [hpf]; omega⟩
      refine ⟨F15, zs ++ [⟨t, nm, l⟩], os ++ [⟨nm, ps⟩], c2, c4, some (.int (i : Nat)), some (.int c), some (vS l), some (vS nm), y9, by rw [List.length_append, hzl]; rfl, fun z hz => ?_, ?_, fun r hr => ?_, rfl, ?_⟩
      · rcases List.mem_append.mp hz with hz | hz
        · exact hzg z hz
        · rw [List.mem_singleton.mp hz]
          exact gk
      · rw [List.map_append, List.map_append, hok]
        show _ ++ [(nm, ps.flatten)] = _ ++ [(nm, l)]
        rw [hpf]
      · rcases List.mem_append.mp hr with hr | hr
        · exact hog r hr
        · rw [List.mem_singleton.mp hr]
          exact ⟨go, hpl⟩
      · have O17 := (O16.sub (.cons₂ _ (.cons _ (.cons _ (.cons _ (.cons₂ _ (.cons _ (.cons _ (.cons _ (.cons _ (.cons _ (.cons₂ _ .slnil)))))))))))).chunks (C' := [cRy (zs ++ [⟨t, nm, l⟩])]) ⟨fun z hz => by
          rcases List.mem_append.mp hz with hz | hz
          · exact (show ∀ z ∈ zs, F15 z.t = some (.tup [vS z.nm, vS z.tx]) from O16.ck 1) z hz
          · rw [List.mem_singleton.mp hz]
            exact O16.ck 0, trivial⟩
        rw [fl_add, show fsOf (zs ++ [⟨t, nm, l⟩]) = fsOf zs ++ [⟨nm, sixty l⟩] by rw [fsOf, List.map_append]; rfl, fl_add, List.map_append, List.map_append, List.map_append]
        rw [List.append_assoc, List.append_assoc] at O17
        exact O17
  · rintro σ' H3 ⟨F3, zs, os, pf, po, y5, y6, y7, y8, y9, hzl, hzg, hok, hog, rfl, O3⟩
    have hol : os.length = zs.length := by
      have e := congrArg List.length hok
      rwa [List.length_map, List.length_map] at e
    have hz5 : zs.length ≤ 4 := by omega
    have hks : ∀ k ∈ zs.map Ry.k, KGood k := fun k hk => by
      obtain ⟨z, hz, rfl⟩ := List.mem_map.mp hk
      exact hzg z hz
    have cY : ∀ {F H : Hp} {us : List Ry}, Same F H → (cRy us).p F → ∀ z ∈ us, H z.t = some (.tup [vS z.nm, vS z.tx]) := fun s h => (cRy _).mono s h
    have hfs : ∀ r ∈ fsOf zs, r.ps.length ≤ 150 := fun r hr => by
      obtain ⟨z, hz, rfl⟩ := List.mem_map.mp hr
      have := (hzg z hz).t2
      show (sixty z.tx).length ≤ 150
      have h2 : z.tx.length ≤ 1000 := this
      rw [sixty, List.length_map, List.length_range]
      omega
    walk_at "go"
    rename_i ph H4 O4
    refine c_write_references O4 (O4.lst 0) (cY O4.fh (O4.ck 0)) hzg (by omega) fun pt F5 H5 O5 => ?_
    walk_at "go"
    refine w_neD1 (d := .list ((flines (fsOf zs)).map fun l => PyData.str (S l))) (dp_strs (O5.lst 0)) (dp_strs (O5.lst 3)) (shp_fl (fs_good hzg)) ?_
    walk_at "go"
    refine w_neD1 (dp_rys rfl (O5.lst 1) (cY O5.fh (O5.ck 0))) (dp_rys rfl (O5.lst 4) (cY O5.fh (O5.ck 0))) (shp_ks hks) ?_
    walk_at "go"
    rename_i pp H6 O6
    have aL : ∀ {F H' : Hp} {L : List (Addr × HO)} {C : List Ck} {p : Addr} {xs : List V}, Own noF H F H' L C → (p, HO.lst xs) ∈ L → SqL K H' p xs := fun O h => .inl (.inl (O.own _ h).2.2)
    refine w_foL (xs := [.ref pf, .ref po]) (fun i σ' H' => ∃ (F1 : Hp) (y12 y13 y14 y15 : Option V), σ' = [some (.ref a), some (.int (n : Nat)), some (.ref pr), some (.ref pf), some (.ref po), y5, y6, y7, y8, y9, some (.ref ph), some (.ref pt), y12, y13, y14, y15] ∧ Own noF H F1 H' [(pp, .lst [.ref pf, .ref po]), (po, .lst ((flines os).map vS)), (pf, .lst ((flines (fsOf zs)).map vS)), (pr, .lst (zs.map fun z => .ref z.t))] [cRy zs]) (O6.lst 0) ⟨F5, none, none, none, none, rfl, O6.sub (.cons₂ _ (.cons _ (.cons _ (.cons₂ _ (.cons₂ _ (.cons₂ _ .slnil))))))⟩ ?_ ?_ ?_
    · rintro i σ' H' _ ⟨F1, _, _, _, _, _, O7⟩
      exact O7.lst 0
    · rintro i x σ' H7 hx ⟨F7, y12, y13, y14, y15, rfl, O7⟩
      obtain ⟨pl, rs, rfl, hrk, hrg, hrl, hrm⟩ : ∃ (pl : Addr) (rs : List Rf), x = .ref pl ∧ rs.map Rf.k = zs.map Ry.k ∧ (∀ r ∈ rs, r.Good) ∧ (flines rs).length ≤ 10000 ∧ (pl, HO.lst ((flines rs).map vS)) ∈ [(pp, .lst [.ref pf, .ref po]), (po, .lst ((flines os).map vS)), (pf, .lst ((flines (fsOf zs)).map vS)), (pr, .lst (zs.map fun z => .ref z.t))] := by
        match i, hx with
        | 0, hx =>
          refine ⟨pf, fsOf zs, (Option.some.inj hx).symm, fs_k zs, fs_good hzg, ?_, by simp⟩
          have := fl_len (rs := fsOf zs) (n := 4) hfs (by rw [fsOf, List.length_map]; exact hz5)
          omega
        | 1, hx =>
          refine ⟨po, os, (Option.some.inj hx).symm, hok, fun r hr => (hog r hr).1, ?_, by simp⟩
          have := fl_len (n := 4) (fun r hr => (hog r hr).2) (by omega)
          omega
      have hrn : rs.length ≤ 4 := by
        have e := congrArg List.length hrk
        rw [List.length_map, List.length_map] at e
        omega
      have hpl := aL O7 hrm
      have hlz : ((flines rs).map vS).length ≤ sizeLine := by rw [sizeLine_eq, List.length_map]; omega
      walk_at "go"
      rename_i pg H8 O8
      refine c_read_references O8 (O8.lst 0) hrg (by omega) fun pd us F9 H9 huk O9 => ?_
      rw [hrk] at huk
      have hul : us.length ≤ 4 := by
        have e := congrArg List.length huk
        rw [List.length_map, List.length_map] at e
        omega
      walk_at "go"
      refine w_neD1 (dp_rys huk (O9.lst 0) (cY O9.fh (O9.ck 0))) (dp_rys rfl (O9.lst 5) (cY O9.fh (O9.ck 1))) (shp_ks hks) ?_
      walk_at "go"
      refine w_neD1 (dp_strs (O9.lst 1)) (dp_strs (aL O9 (List.mem_cons_of_mem _ (List.mem_cons_of_mem _ hrm)))) (shp_fl hrg) ?_
      walk_at "go"
      refine w_lcL O9 (O9.lst 0) (fun O8 _ => O8.lst 1) (fun i acc F' => acc = (List.replicate i true).map V.bl) rfl ?_ ?_
      · rintro j x acc D F' H12 hx8 rfl sF O12
        rw [List.getElem?_map] at hx8
        cases e8 : us[j]? with
        | none => rw [e8] at hx8; cases hx8
        | some z =>
          rw [e8] at hx8
          cases hx8
          have hj := (List.getElem?_eq_some_iff.mp e8).1
          have hT := cY O12.fh (O12.ck 0) z (List.mem_of_getElem? e8)
          walk_at "go"
          refine w_put O12 sF ?_ ?_
          · rw [List.replicate_succ', List.map_append]
            rfl
          · rw [sizeLine_eq, List.length_map, List.length_replicate]
            omega
      · rintro acc D F' H12 rfl sF O12
        refine w_all (O12.lst 0) ?_
        rw [List.length_map, show (List.replicate us.length true).all id = true by simp]
        have O13 := O12.sub (List.sublist_cons_self _ _)
        clear O12 O9
        walk_at "go"
        rename_i t2 F14 H14 O14 H15 O15
        refine c_read_references O15 (O15.lst 1) hrg (by omega) fun p2 us2 F16 H16 hk2 O16 => ?_
        rw [hrk] at hk2
        refine w_neD1 (dp_rys hk2 (O16.lst 0) (cY O16.fh (O16.ck 0))) (dp_rys rfl (O16.lst 6) (cY O16.fh (O16.ck 3))) (shp_ks hks) ?_
        walk_at "go"
        exact ⟨F16, some (.ref pl), some (.ref pg), some (.ref pd), y15, rfl, (O16.sub (.cons _ (.cons _ (.cons _ (List.Sublist.refl _))))).chunks ⟨O16.ck 3, trivial⟩⟩
    · rintro σ' H7 ⟨F7, y12, y13, y14, y15, rfl, O7⟩
      walk_at "go"
      exact q _

end
/-! ### the head -/
def dd_first_wrong : He.DefD := ⟨("first_wrong", none), "first_wrong", "first_wrong", defArgs s_first_wrong, defBody s_first_wrong, defScope s_first_wrong, [], []⟩
def dd_check_last : He.DefD := ⟨("check_last", none), "check_last", "check_last", defArgs s_check_last, defBody s_check_last, defScope s_check_last, [], []⟩
def dd_name_in : He.DefD := ⟨("name_in", none), "name_in", "name_in", defArgs s_name_in, defBody s_name_in, defScope s_name_in, [], []⟩
def dd_letters_in : He.DefD := ⟨("letters_in", none), "letters_in", "letters_in", defArgs s_letters_in, defBody s_letters_in, defScope s_letters_in, [], []⟩
def dd_read_references : He.DefD := ⟨("read_references", none), "read_references", "read_references", defArgs s_read_references, defBody s_read_references, defScope s_read_references, [], []⟩
def dd_write_references : He.DefD := ⟨("write_references", none), "write_references", "write_references", defArgs s_write_references, defBody s_write_references, defScope s_write_references, [], []⟩
def dd_law_cell : He.DefD := ⟨("_law_cell", none), "_law_cell", "_law_cell", defArgs s_law_cell, defBody s_law_cell, defScope s_law_cell, [], []⟩
def dd_law_row : He.DefD := ⟨("_law_row", none), "_law_row", "_law_row", defArgs s_law_row, defBody s_law_row, defScope s_law_row, [], []⟩
def dd_law_text : He.DefD := ⟨("_law_text", none), "_law_text", "_law_text", defArgs s_law_text, defBody s_law_text, defScope s_law_text, [], []⟩
def dd_law_name : He.DefD := ⟨("_law_name", none), "_law_name", "_law_name", defArgs s_law_name, defBody s_law_name, defScope s_law_name, [], []⟩
def dd_law_divided : He.DefD := ⟨("_law_divided", none), "_law_divided", "_law_divided", defArgs s_law_divided, defBody s_law_divided, defScope s_law_divided, [], []⟩
def dd_law : He.DefD := ⟨("law", none), "law", "law", defArgs s_law, defBody s_law, defScope s_law, [], []⟩
def fn : List He.DefD := [dd_first_wrong, dd_check_last, dd_name_in, dd_letters_in, dd_read_references, dd_write_references, dd_law_cell, dd_law_row, dd_law_text, dd_law_name, dd_law_divided, dd_law]
def fa : List He.Fa := [.glo "first_wrong", .glo "check_last", .glo "name_in", .glo "letters_in", .glo "read_references", .glo "write_references", .glo "_law_cell", .glo "_law_row", .glo "_law_text", .glo "_law_name", .glo "_law_divided", .glo "law", .free "range", .free "len", .free "min", .free "int", .free "abs", .free "list", .free "isinstance", .free "all", .free "tuple", .str "LETTERS" (S [65, 67, 71, 84, 78]), .str "NAME_SIGNS" (S [48, 49, 50, 51, 52, 53, 54, 55, 56, 57, 65, 66, 67, 68, 69, 70, 71, 72, 73, 74, 75, 76, 77, 78, 79, 80, 81, 82, 83, 84, 85, 86, 87, 88, 89, 90, 97, 98, 99, 100, 101, 102, 103, 104, 105, 106, 107, 108, 109, 110, 111, 112, 113, 114, 115, 116, 117, 118, 119, 120, 121, 122]), .int "LONGEST_NAME" 40, .int "LONGEST_REFERENCE" 100000, .int "LINE_LENGTH" 60]
abbrev R : PySem.W.OpenRow := PySem.W.OpenLaw.row PySem.Challenge.rw_homereads_k02_lines_of_references
abbrev hk : PySem.W.Hook := He.hookD 4 fa fn
def ob (s : PySem.W.SharedT) : He.AlD := He.obsDG 4 fa fn (HandSHeadRun.getT s)
theorem ob_eq (s : PySem.W.SharedT) : ob s = hk.obs s.abs := He.obsDG_eq (HandSHeadRun.getT_eq s)
def names : List PySem.Str := (["HomeError", "InvalidLine", "LETTERS", "NAME_SIGNS", "LONGEST_NAME", "LONGEST_REFERENCE", "LINE_LENGTH", "first_wrong", "check_last", "name_in", "letters_in", "read_references", "write_references", "_law_cell", "_law_row", "_law_integer", "_law_text", "_law_turned", "_law_read", "_law_references", "_law_name", "_law_divided"] : List PySem.Str)
theorem run (w : World) : HandSHeadRun.RunEq R (PySem.W.view R.prog [25]) hk ob 4000 names w := by
  refine PySem.W.byRow2 "special-get-raises" (P := fun w => HandSHeadRun.RunEq R (PySem.W.view R.prog [25]) hk ob 4000 names w) (fun w => ?_) (fun w => ?_) w
  · intro os
    kernel_rfl
  · intro os
    kernel_rfl
theorem tx {w : World} {K : PySem.W.Frag} {h : Heap} {mg : Str → Option Value} (X : K.In h) (G : h.Ns mainGlobals mg) (c : He.SaysD fa fn K) : Tx w K mg where
  g_first_wrong := He.glo_ok X G (c.fact 0 (f := .glo "first_wrong") rfl)
  g_check_last := He.glo_ok X G (c.fact 1 (f := .glo "check_last") rfl)
  g_name_in := He.glo_ok X G (c.fact 2 (f := .glo "name_in") rfl)
  g_letters_in := He.glo_ok X G (c.fact 3 (f := .glo "letters_in") rfl)
  g_read_references := He.glo_ok X G (c.fact 4 (f := .glo "read_references") rfl)
  g_write_references := He.glo_ok X G (c.fact 5 (f := .glo "write_references") rfl)
  g_law_cell := He.glo_ok X G (c.fact 6 (f := .glo "_law_cell") rfl)
  g_law_row := He.glo_ok X G (c.fact 7 (f := .glo "_law_row") rfl)
  g_law_text := He.glo_ok X G (c.fact 8 (f := .glo "_law_text") rfl)
  g_law_name := He.glo_ok X G (c.fact 9 (f := .glo "_law_name") rfl)
  g_law_divided := He.glo_ok X G (c.fact 10 (f := .glo "_law_divided") rfl)
  g_law := He.glo_ok X G (c.fact 11 (f := .glo "law") rfl)
  z_range := He.free_ok X G (c.fact 12 (f := .free "range") rfl)
  z_len := He.free_ok X G (c.fact 13 (f := .free "len") rfl)
  z_min := He.free_ok X G (c.fact 14 (f := .free "min") rfl)
  z_int := He.free_ok X G (c.fact 15 (f := .free "int") rfl)
  z_abs := He.free_ok X G (c.fact 16 (f := .free "abs") rfl)
  z_list := He.free_ok X G (c.fact 17 (f := .free "list") rfl)
  z_isinstance := He.free_ok X G (c.fact 18 (f := .free "isinstance") rfl)
  z_all := He.free_ok X G (c.fact 19 (f := .free "all") rfl)
  z_tuple := He.free_ok X G (c.fact 20 (f := .free "tuple") rfl)
  k_LETTERS := He.str_ok X G (c.fact 21 (f := .str "LETTERS" (S [65, 67, 71, 84, 78])) rfl)
  k_NAME_SIGNS := He.str_ok X G (c.fact 22 (f := .str "NAME_SIGNS" (S [48, 49, 50, 51, 52, 53, 54, 55, 56, 57, 65, 66, 67, 68, 69, 70, 71, 72, 73, 74, 75, 76, 77, 78, 79, 80, 81, 82, 83, 84, 85, 86, 87, 88, 89, 90, 97, 98, 99, 100, 101, 102, 103, 104, 105, 106, 107, 108, 109, 110, 111, 112, 113, 114, 115, 116, 117, 118, 119, 120, 121, 122])) rfl)
  k_LONGEST_NAME := He.int_ok X G (c.fact 23 (f := .int "LONGEST_NAME" 40) rfl)
  k_LONGEST_REFERENCE := He.int_ok X G (c.fact 24 (f := .int "LONGEST_REFERENCE" 100000) rfl)
  k_LINE_LENGTH := He.int_ok X G (c.fact 25 (f := .int "LINE_LENGTH" 60) rfl)
  d_first_wrong := c.def_ 0 (d := dd_first_wrong) rfl
  d_check_last := c.def_ 1 (d := dd_check_last) rfl
  d_name_in := c.def_ 2 (d := dd_name_in) rfl
  d_letters_in := c.def_ 3 (d := dd_letters_in) rfl
  d_read_references := c.def_ 4 (d := dd_read_references) rfl
  d_write_references := c.def_ 5 (d := dd_write_references) rfl
  d_law_cell := c.def_ 6 (d := dd_law_cell) rfl
  d_law_row := c.def_ 7 (d := dd_law_row) rfl
  d_law_text := c.def_ 8 (d := dd_law_text) rfl
  d_law_name := c.def_ 9 (d := dd_law_name) rfl
  d_law_divided := c.def_ 10 (d := dd_law_divided) rfl
  d_law := c.def_ 11 (d := dd_law) rfl
theorem facts {P : Program} {w : World} {K : PySem.W.Frag} {h : Heap} {mg : Str → Option Value} {f : Addr} (X : K.In h) (G : h.Ns mainGlobals mg) (hfa : mg ("law" : Str) = some (.ref f)) (c : He.SaysD fa fn K) :
    ∃ fd : FuncData, (∀ (s : Shared) (v : Value), BindsTo s fd ⟨[v], []⟩ [("_law_script", v)]) ∧ ∀ base : Heap, K.In base → base.Ns mainGlobals mg → FnOk P w K mg base CX0 4 f fd ["_law_script"] (sp_law K) := by
  have T := tx (w := w) X G c
  have e := hfa.symm.trans T.g_law
  cases e
  obtain ⟨fd, F⟩ := T.d_law
  have lF := lk_of F
  have b := FunD.bindsA (ps := ["_law_script"]) F fun _ _ _ _ _ _ us hl => match us, hl with | [_], _ => rfl
  refine ⟨fd, fun s v => b s [v] rfl, fun base _ _ => ?_⟩
  obtain ⟨fd2, G2, _, _, l2⟩ := ok_law (P := P) (w := w) (base := base) T
  rw [lk_same lF l2]
  exact G2
end Lw
open PySem PySem.W PySem.Calls PyProof.Rows
set_option maxHeartbeats 0 in
theorem PySem.Challenge.cw_homereads_k02_lines_of_references_holds : PySem.Challenge.rw_homereads_k02_lines_of_references.Holds := by
  w_on; o_law
  refine HandSHeadRun.head_any (r := OpenLaw.row PySem.Challenge.rw_homereads_k02_lines_of_references) (q := view (OpenLaw.row PySem.Challenge.rw_homereads_k02_lines_of_references).prog [25]) (H := Lw.hk) (ob := Lw.ob) (M := 4000) (loose := Lw.names) (d := HandSHeadRun.topDef (OpenLaw.row PySem.Challenge.rw_homereads_k02_lines_of_references).prog 25) (kwd := []) Lw.ob_eq
    (by kernel_rfl) (fun s => by kernel_rfl) Lw.run (by kernel_rfl) (by kernel_rfl) (by kernel_rfl) (by rfl) (by first | assumption | decide +kernel) (by decide +kernel) ⟨rfl, rfl, rfl, rfl, rfl, by decide +kernel⟩ ?hw ?hc
  case hw => w_witness2
  case hc =>
    refine L2.walk_ofE (l := PySem.Challenge.rw_homereads_k02_lines_of_references) (n := 63) (k := 4) (x := "_law_script") (CX := L2.CX0) rfl (by decide) (by kernel_rfl) ⟨rfl, by decide, by decide⟩ ?F (fun _ _ _ _ z => z)
    intro w mg fa h Y G hmg0
    obtain ⟨K, KX, c⟩ := Y
    have hmg : mg ("law" : PySem.Str) = some (.ref fa) := by
      have e : (HandSHeadRun.topDef (OpenLaw.row PySem.Challenge.rw_homereads_k02_lines_of_references).prog 25).name = ("law" : PySem.Str) := by kernel_rfl
      rw [← e]
      exact hmg0
    obtain ⟨fd, hb, hF⟩ := Lw.facts (P := (PySem.Challenge.rw_homereads_k02_lines_of_references).prog) (w := w) KX G hmg c
    exact ⟨K, fd, Lw.sp_law K, KX, hb, fun H a ns hl _ hS => Lw.law_start hS hl, hF⟩
