import PyProof.Rows.All
import Wide.All
import OpenK.AllK
import Wide.FinOn
import KE.KStateDown
import Lean
import HandS.ForMost
import HandS.Defaults
import HandS.Head0
import HandS.Head1
import HandS.Head2
import HandS.HeadEnd
import HandS.HeadHook1
import HandS.HeadHook2
import HandS.HeadHook3
import HandS.HeadHook4
import HandS.More
import HandS.IsInst
import HandS.SortKw
import HandS.SortInts
import HandS.Evl
import HandS.Wide
import HandS.WideBits
import HandS.Replace
import HandS.RaiseMore
import HandS.Flt
import HandS.Deep
import HandS.SetFor
import HandS.Steps
import HandS.More
import HandS.TryOnly
import HandS.ExcOwn
import HandS.ExcIs
import HandS.ExcInit
import HandS.ExcField
import HandS.WordsExc
import HandS.FStr
import KE.KExcIs
import KE.BitLaws
import PySem.Challenge.RW_homereads_k05_faults_of_read_lines
set_option Elab.async false
set_option linter.all false
set_option maxRecDepth 100000
set_option maxHeartbeats 4000000
namespace Fw
open PySem PySem.Spec PyProof.Rows L2

/-! ### facts that stay while the heap grows -/
structure Ck where
  p : Hp → Prop
  mono : ∀ {F F' : Hp}, Same F F' → p F → p F'
def AllC : List Ck → Hp → Prop
  | [], _ => True
  | c :: r, F => c.p F ∧ AllC r F
theorem AllC.mono : ∀ {Cs : List Ck} {F F' : Hp}, Same F F' → AllC Cs F → AllC Cs F'
  | [], _, _, _, _ => trivial
  | c :: r, _, _, s, h => ⟨c.mono s h.1, AllC.mono s h.2⟩
theorem AllC.get : ∀ {Cs : List Ck} {F : Hp} {i : Nat} {c : Ck}, AllC Cs F → Cs[i]? = some c → c.p F
  | [], _, _, _, _, e => by simp at e
  | c :: r, _, 0, _, h, e => by
    have e1 : c = _ := Option.some.inj e
    rw [← e1]
    exact h.1
  | c :: r, _, i + 1, d, h, e => AllC.get (Cs := r) (i := i) (c := d) h.2 e
def cL (a : Addr) (xs : List V) : Ck := ⟨fun F => F a = some (.lst xs), fun s h => s _ _ h⟩
def cT (a : Addr) (xs : List V) : Ck := ⟨fun F => F a = some (.tup xs), fun s h => s _ _ h⟩
def cO (a : Addr) (o : HO) : Ck := ⟨fun F => F a = some o, fun s h => s _ _ h⟩
theorem Same.sqt {K : PySem.W.Frag} {H H' : Hp} {a : Addr} {xs : List V} (e : Same H H') (h : SqT K H a xs) : SqT K H' a xs := by
  rcases h with (h | ⟨o, h⟩) | h
  · exact .inl (.inl (e _ _ h))
  · exact .inl (.inr ⟨o, e _ _ h⟩)
  · exact .inr h
mutual
theorem Dp.mono {K : PySem.W.Frag} {H H' : Hp} (e : Same H H') : ∀ (d : PyData) (v : V), Dp K H v d → Dp K H' v d
  | .none, _, h => by cases h; exact .non
  | .bool b, _, h => by cases h; exact .bl b
  | .int i, _, h => by cases h; exact .int i
  | .str x, _, h => by cases h; exact .str x
  | .list ds, _, h => by
    cases h with
    | lst hs ha => exact .lst (e.seq hs) (DpAll.mono e ds _ ha)
  | .tuple ds, _, h => by
    cases h with
    | tup hs ha => exact .tup (Same.sqt e hs) (DpAll.mono e ds _ ha)
  | .dict _, _, h => by cases h
theorem DpAll.mono {K : PySem.W.Frag} {H H' : Hp} (e : Same H H') : ∀ (ds : List PyData) (vs : List V), DpAll K H vs ds → DpAll K H' vs ds
  | [], _, h => by cases h; exact .nil
  | d :: ds, _, h => by
    cases h with
    | cons h1 h2 => exact .cons (Dp.mono e d _ h1) (DpAll.mono e ds _ h2)
end
def cS (K : PySem.W.Frag) (a : Addr) (xs : List V) : Ck := ⟨fun F => SqL K F a xs, fun s h => s.seq h⟩
def cU (K : PySem.W.Frag) (a : Addr) (xs : List V) : Ck := ⟨fun F => SqT K F a xs, fun s h => Same.sqt s h⟩
def cD (K : PySem.W.Frag) (v : V) (d : PyData) : Ck := ⟨fun F => Dp K F v d, fun s h => Dp.mono s _ _ h⟩
def cDs (K : PySem.W.Frag) (vs : List V) (ds : List PyData) : Ck := ⟨fun F => DpAll K F vs ds, fun s h => DpAll.mono s _ _ h⟩

/-! ### the heap's parts -/
/-- F0, H0: frozen part and heap at the entry; F: the frozen part now, H: the heap now; L: the def's own objects, each may still change -/
structure Own (F0 H0 F H : Hp) (L : List (Addr × HO)) (C : List Ck) : Prop where
  f0 : Same F0 F
  fh : Same F H
  hh : Same H0 H
  new : ∀ a o, F a = some o → F0 a = some o ∨ H0 a = none
  own : ∀ q ∈ L, F q.1 = none ∧ H0 q.1 = none ∧ H q.1 = some q.2
  nd : (L.map Prod.fst).Nodup
  cs : AllC C F
/-- what a call may do: F' F grown by new objects, all kept -/
structure Ext (F H F' H' : Hp) : Prop where
  ff : Same F F'
  fh : Same F' H'
  hh : Same H H'
  new : ∀ a o, F' a = some o → F a = some o ∨ H a = none
structure OwnNew (H F' H' : Hp) (L : List (Addr × HO)) : Prop where
  at_ : ∀ q ∈ L, F' q.1 = none ∧ H q.1 = none ∧ H' q.1 = some q.2
  nd : (L.map Prod.fst).Nodup
section
variable {F0 H0 F H F' H' : Hp} {L L' : List (Addr × HO)} {C C' : List Ck} {p a : Addr} {o o' : HO} {K : PySem.W.Frag} {xs : List V} {i : Nat}
theorem Own.start (s : Same F H) (cs : AllC C F) : Own F H F H [] C := ⟨Same.refl _, s, Same.refl _, fun _ _ h => .inl h, fun _ h => (nomatch h), List.nodup_nil, cs⟩
theorem Own.ck (O : Own F0 H0 F H L C) (i : Nat) {c : Ck} (h : C[i]? = some c := by rfl) : c.p F := O.cs.get h
theorem Own.push (O : Own F0 H0 F H L C) (c : Ck) (h : c.p F) : Own F0 H0 F H L (c :: C) := { O with cs := ⟨h, O.cs⟩ }
theorem Own.chunks (O : Own F0 H0 F H L C) (h : AllC C' F) : Own F0 H0 F H L C' := { O with cs := h }
theorem Own.at_ (O : Own F0 H0 F H L C) (i : Nat) {a : Addr} {o : HO} (h : L[i]? = some (a, o) := by rfl) : H a = some o := (O.own (a, o) (List.mem_of_getElem? h)).2.2
theorem Own.none0 (O : Own F0 H0 F H L C) (np : H p = none) : F p = none ∧ H0 p = none := ⟨O.fh.free np, O.hh.free np⟩
theorem Own.alloc (O : Own F0 H0 F H L C) (np : H p = none) (o : HO) : Own F0 H0 F (upd H p o) ((p, o) :: L) C := by
  have s : Same H (upd H p o) := fun b u e => by rw [upd_ne (ne_of_none e np)]; exact e
  refine ⟨O.f0, O.fh.trans s, O.hh.trans s, O.new, fun q hq => ?_, ?_, O.cs⟩
  · rcases List.mem_cons.mp hq with e | hq
    · subst e
      exact ⟨(O.none0 np).1, (O.none0 np).2, upd_same⟩
    · obtain ⟨h1, h2, h3⟩ := O.own q hq
      exact ⟨h1, h2, s _ _ h3⟩
  · rw [List.map_cons]
    refine List.nodup_cons.mpr ⟨fun hm => ?_, O.nd⟩
    obtain ⟨q, hq, e⟩ := List.mem_map.mp hm
    have h3 := (O.own q hq).2.2
    rw [e, np] at h3
    cases h3
/-- a new object that is frozen at once -/
theorem Own.ice (O : Own F0 H0 F H L C) (np : H p = none) (o : HO) : Own F0 H0 (upd F p o) (upd H p o) L (cO p o :: C) := by
  have s : Same H (upd H p o) := fun b u e => by rw [upd_ne (ne_of_none e np)]; exact e
  have sF : Same F (upd F p o) := fun b u e => by rw [upd_ne (ne_of_none e (O.none0 np).1)]; exact e
  refine ⟨O.f0.trans sF, fun b u e => ?_, O.hh.trans s, fun b u e => ?_, fun q hq => ?_, O.nd, ⟨upd_same, O.cs.mono sF⟩⟩
  · by_cases hb : b = p
    · subst hb
      rw [upd_same] at e ⊢
      exact e
    · rw [upd_ne hb] at e ⊢
      exact O.fh b u e
  · by_cases hb : b = p
    · subst hb
      exact .inr (O.none0 np).2
    · rw [upd_ne hb] at e
      exact O.new b u e
  · obtain ⟨h1, h2, h3⟩ := O.own q hq
    refine ⟨?_, h2, s _ _ h3⟩
    rw [upd_ne (ne_of_none h3 np)]
    exact h1
theorem nodup_map_get {L : List (Addr × HO)} (nd : (L.map Prod.fst).Nodup) {i j : Nat} {q r : Addr × HO} (h1 : L[i]? = some q) (h2 : L[j]? = some r) (e : q.1 = r.1) : i = j := by
  have a1 : (L.map Prod.fst)[i]? = some q.1 := by rw [List.getElem?_map, h1]; rfl
  have a2 : (L.map Prod.fst)[j]? = some q.1 := by rw [List.getElem?_map, h2, e]; rfl
  obtain ⟨l1, e1⟩ := List.getElem?_eq_some_iff.mp a1
  obtain ⟨l2, e2⟩ := List.getElem?_eq_some_iff.mp a2
  exact (List.getElem_inj nd).mp (e1.trans e2.symm)
theorem Own.set (O : Own F0 H0 F H L C) (i : Nat) {a : Addr} {o : HO} (hi : L[i]? = some (a, o)) (o' : HO) : Own F0 H0 F (upd H a o') (L.set i (a, o')) C := by
  obtain ⟨hF, hH0, hH⟩ := O.own (a, o) (List.mem_of_getElem? hi)
  have keep : ∀ b u, b ≠ a → H b = some u → upd H a o' b = some u := fun b u n e => by rw [upd_ne n]; exact e
  refine ⟨O.f0, fun b u e => keep b u (ne_of_none e hF) (O.fh b u e), fun b u e => keep b u (ne_of_none e hH0) (O.hh b u e), O.new, fun q hq => ?_, ?_, O.cs⟩
  · obtain ⟨j, hj⟩ := List.mem_iff_getElem?.mp hq
    by_cases e : i = j
    · subst e
      have hlt : i < L.length := (List.getElem?_eq_some_iff.mp hi).1
      rw [List.getElem?_set_self hlt] at hj
      cases hj
      exact ⟨hF, hH0, upd_same⟩
    · rw [List.getElem?_set_ne e] at hj
      obtain ⟨h1, h2, h3⟩ := O.own q (List.mem_of_getElem? hj)
      exact ⟨h1, h2, keep _ _ (fun z => e (nodup_map_get O.nd hi hj z.symm)) h3⟩
  · have e : (L.set i (a, o')).map Prod.fst = L.map Prod.fst := by
      rw [List.map_set]
      refine List.ext_getElem? fun j => ?_
      by_cases h : i = j
      · subst h
        have hlt : i < (L.map Prod.fst).length := by rw [List.length_map]; exact (List.getElem?_eq_some_iff.mp hi).1
        rw [List.getElem?_set_self hlt, List.getElem?_map, hi]
        rfl
      · rw [List.getElem?_set_ne h]
    rw [e]
    exact O.nd
theorem Own.sub (O : Own F0 H0 F H L C) (h : L'.Sublist L) : Own F0 H0 F H L' C := ⟨O.f0, O.fh, O.hh, O.new, fun q hq => O.own q (h.subset hq), O.nd.sublist (h.map _), O.cs⟩
/-- the last made own object is frozen -/
theorem Own.freeze (O : Own F0 H0 F H ((p, o) :: L) C) : Own F0 H0 (upd F p o) H L (cO p o :: C) := by
  obtain ⟨hF, hH0, hH⟩ := O.own (p, o) List.mem_cons_self
  have sF : Same F (upd F p o) := fun b u e => by rw [upd_ne (ne_of_none e hF)]; exact e
  have nd := O.nd
  rw [List.map_cons] at nd
  obtain ⟨n1, n2⟩ := List.nodup_cons.mp nd
  refine ⟨O.f0.trans sF, fun b u e => ?_, O.hh, fun b u e => ?_, fun q hq => ?_, n2, ⟨upd_same, O.cs.mono sF⟩⟩
  · by_cases hb : b = p
    · subst hb
      rw [upd_same] at e
      cases e
      exact hH
    · rw [upd_ne hb] at e
      exact O.fh b u e
  · by_cases hb : b = p
    · subst hb
      exact .inr hH0
    · rw [upd_ne hb] at e
      exact O.new b u e
  · obtain ⟨h1, h2, h3⟩ := O.own q (List.mem_cons_of_mem _ hq)
    refine ⟨?_, h2, h3⟩
    rw [upd_ne (fun z => n1 (by
      have m := List.mem_map_of_mem (f := Prod.fst) hq
      rw [z] at m
      exact m))]
    exact h1
theorem Own.grow (O : Own F0 H0 F H L C) (e : Ext F H F' H') (n : OwnNew H F' H' L') : Own F0 H0 F' H' (L' ++ L) C := by
  refine ⟨O.f0.trans e.ff, e.fh, O.hh.trans e.hh, fun b u h => ?_, fun q hq => ?_, ?_, O.cs.mono e.ff⟩
  · rcases e.new b u h with h | h
    · exact O.new b u h
    · exact .inr (O.hh.free h)
  · rcases List.mem_append.mp hq with hq | hq
    · obtain ⟨h1, h2, h3⟩ := n.at_ q hq
      exact ⟨h1, O.hh.free h2, h3⟩
    · obtain ⟨h1, h2, h3⟩ := O.own q hq
      refine ⟨?_, h2, e.hh _ _ h3⟩
      cases z : F' q.1 with
      | none => rfl
      | some u =>
        rcases e.new _ _ z with h | h
        · rw [h1] at h; cases h
        · rw [h3] at h; cases h
  · rw [List.map_append]
    refine List.nodup_append.mpr ⟨n.nd, O.nd, fun x hx y hy e2 => ?_⟩
    obtain ⟨q, hq, rfl⟩ := List.mem_map.mp hx
    obtain ⟨r, hr, rfl⟩ := List.mem_map.mp hy
    have h3 := (O.own r hr).2.2
    rw [← e2, (n.at_ q hq).2.1] at h3
    cases h3
/-- the heap alone grew -/
theorem Own.more (O : Own F0 H0 F H L C) (e : Same H H') : Own F0 H0 F H' L C := by
  have g := O.grow (F' := F) (H' := H') (L' := []) ⟨Same.refl _, O.fh.trans e, e, fun _ _ h => .inl h⟩ ⟨fun _ h => (nomatch h), List.nodup_nil⟩
  exact g
theorem Own.ext (O : Own F H F' H' L C) : Ext F H F' H' := ⟨O.f0, O.fh, O.hh, O.new⟩
theorem Own.news (O : Own F H F' H' L C) : OwnNew H F' H' L := ⟨fun q hq => let ⟨h1, h2, h3⟩ := O.own q hq; ⟨h1, h2, h3⟩, O.nd⟩
/-! what stands where -/
theorem Own.lst (O : Own F0 H0 F H L C) (i : Nat) {a : Addr} {xs : List V} (h : L[i]? = some (a, .lst xs) := by rfl) : SqL K H a xs := .inl (.inl (O.at_ i h))
theorem Own.tL (O : Own F0 H0 F H L C) (i : Nat) {a : Addr} {xs : List V} (h : C[i]? = some (cL a xs) := by rfl) : H a = some (.lst xs) := O.fh _ _ (O.cs.get h)
theorem Own.tT (O : Own F0 H0 F H L C) (i : Nat) {a : Addr} {xs : List V} (h : C[i]? = some (cT a xs) := by rfl) : H a = some (.tup xs) := O.fh _ _ (O.cs.get h)
theorem Own.tO (O : Own F0 H0 F H L C) (i : Nat) {a : Addr} {o : HO} (h : C[i]? = some (cO a o) := by rfl) : H a = some o := O.fh _ _ (O.cs.get h)
theorem Own.tS (O : Own F0 H0 F H L C) (i : Nat) {a : Addr} {xs : List V} (h : C[i]? = some (cS K a xs) := by rfl) : SqL K H a xs := O.fh.seq (O.cs.get h)
theorem Own.tU (O : Own F0 H0 F H L C) (i : Nat) {a : Addr} {xs : List V} (h : C[i]? = some (cU K a xs) := by rfl) : SqT K H a xs := Same.sqt O.fh (O.cs.get h)
theorem Own.tD (O : Own F0 H0 F H L C) (i : Nat) {v : V} {d : PyData} (h : C[i]? = some (cD K v d) := by rfl) : Dp K H v d := Dp.mono O.fh _ _ (O.cs.get h)
end

/-! ### promises -/
/-- a def whose result is told by R: the value, its new own objects, the frozen part behind it -/
def Spec (A : Hp → Prop) (R : V → List (Addr × HO) → Hp → Prop) (H : Hp) (Q : VK) : Prop :=
  ∃ F, Same F H ∧ A F ∧ ∀ F' H' v L, Ext F H F' H' → OwnNew H F' H' L → R v L F' → Q v H'
section
variable {F0 H0 F H F' H' : Hp} {L L' : List (Addr × HO)} {C C' : List Ck} {A : Hp → Prop} {R : V → List (Addr × HO) → Hp → Prop} {Q : VK}
theorem Own.call (O : Own F0 H0 F H L C) (hA : A F) (k : ∀ v L' F' H', R v L' F' → Own F0 H0 F' H' (L' ++ L) C → Q v H') : Spec A R H Q :=
  ⟨F, O.fh, hA, fun _ _ _ _ e n r => k _ _ _ _ r (O.grow e n)⟩
theorem Own.ret (O : Own F H F' H' L C) {v : V} (q : ∀ F' H' v L, Ext F H F' H' → OwnNew H F' H' L → R v L F' → Q v H') (r : R v L F') : Q v H' := q _ _ _ _ O.ext O.news r
end
/-- a fresh list of flat things -/
def RL (P : List V → Prop) : V → List (Addr × HO) → Hp → Prop := fun v L _ => ∃ p xs, v = .ref p ∧ L = [(p, .lst xs)] ∧ P xs
/-- a plain value -/
def RV (P : V → Prop) : V → List (Addr × HO) → Hp → Prop := fun v L _ => L = [] ∧ P v
/-- frozen data -/
def RD (K : PySem.W.Frag) (P : PyData → Prop) : V → List (Addr × HO) → Hp → Prop := fun v L F => ∃ d, L = [] ∧ Dp K F v d ∧ P d

def Lk (K : PySem.W.Frag) (f : Addr) (fd : FuncData) : Prop := ∃ oc od osl, K.lookup f = some ⟨oc, od, .func fd, osl⟩
/-- a def that keeps its promise, with what a caller needs -/
def Dn (P : Program) (w : World) (K : PySem.W.Frag) (mg : Str → Option Value) (base : Heap) (k : Nat) (f : Addr) (ps : List Str) (sp : Sp) : Prop :=
  ∃ fd, FnOk P w K mg base CX0 k f fd ps sp ∧ Binds K fd ps [] ∧ PySem.W.keepIn K (.ref f) = true ∧ Lk K f fd
abbrev FnP (K : PySem.W.Frag) (x q : Str) (st : Stmt) (f : Addr) (fd : FuncData) : Prop := FunD K x q (defArgs st) (defBody st) (defScope st) [] [] f fd

/-! ### steps -/
section
variable {nx bk ct : L2.St → Hp → Prop} {rt : VK} {t u : TS} {σ : L2.St} {H : Hp} {te ta tb : TE} {tt tt' : TT} {Q : VK} {i : Nat} {v x y : V} {g : TG}
theorem w_seq (h : t ⟨u ⟨nx, rt, bk, ct⟩, rt, bk, ct⟩ σ H) : tSeq t u ⟨nx, rt, bk, ct⟩ σ H := h
theorem w_next (h : nx σ H) : tNext ⟨nx, rt, bk, ct⟩ σ H := h
theorem w_brk (h : bk σ H) : tBreak ⟨nx, rt, bk, ct⟩ σ H := h
theorem w_cont (h : ct σ H) : tCont ⟨nx, rt, bk, ct⟩ σ H := h
theorem w_asg (h : te σ H fun x H1 => nx (σ.set i (some x)) H1) : tAsg te (gName i) ⟨nx, rt, bk, ct⟩ σ H := h
theorem w_asgG (h : te σ H fun x H1 => g x σ H1 nx) : tAsg te g ⟨nx, rt, bk, ct⟩ σ H := h
theorem w_aug {f : Int → Int → Int} {a : Int} (hx : σ[i]? = some (some (.int a))) (h : te σ H fun y H1 => ∃ b, y = .int b ∧ nx (σ.set i (some (.int (f a b)))) H1) : tAug i te (ipI f) ⟨nx, rt, bk, ct⟩ σ H := by
  refine ⟨_, hx, ?_⟩
  have e : (fun y H1 => ∃ b, y = V.int b ∧ nx (σ.set i (some (.int (f a b)))) H1) = (fun y H1 => ipI f (.int a) y H1 fun z H2 => nx (σ.set i (some z)) H2) := by
    funext y H1
    apply propext
    constructor
    · rintro ⟨b, rfl, q⟩
      exact ⟨a, b, rfl, rfl, q⟩
    · rintro ⟨a', b, e1, rfl, q⟩
      cases e1
      exact ⟨b, rfl, q⟩
  rw [e] at h
  exact h
theorem w_ret (h : te σ H rt) : tRet te ⟨nx, rt, bk, ct⟩ σ H := h
theorem w_retN (h : rt .non H) : tRetN ⟨nx, rt, bk, ct⟩ σ H := h
theorem w_drop (h : te σ H fun _ H1 => nx σ H1) : tDrop te ⟨nx, rt, bk, ct⟩ σ H := h
theorem w_if (h : tt σ H fun b H1 => if b = true then t ⟨nx, rt, bk, ct⟩ σ H1 else u ⟨nx, rt, bk, ct⟩ σ H1) : tIfS tt t u ⟨nx, rt, bk, ct⟩ σ H := h
theorem w_var (h : σ[i]? = some (some v)) (q : Q v H) : tVar i σ H Q := ⟨v, h, q⟩
theorem w_c (q : Q v H) : tC v σ H Q := q
theorem w_op {r : R2} (h : ta σ H fun x H1 => tb σ H1 fun y H2 => r x y H2 Q) : tOp r ta tb σ H Q := h
theorem w_un {r : V → Hp → VK → Prop} (h : ta σ H fun x H1 => r x H1 Q) : tUn r ta σ H Q := h
theorem w_cb {r : List V → Hp → VK → Prop} {tA : TA} (h : tA σ H fun vs H1 => r vs H1 Q) : tCB r tA σ H Q := h
theorem w_nil {Q : List V → Hp → Prop} (h : Q [] H) : tNil σ H Q := h
theorem w_cons {tA : TA} {Q : List V → Hp → Prop} (h : ta σ H fun x H1 => tA σ H1 fun xs H2 => Q (x :: xs) H2) : tCons ta tA σ H Q := h
theorem w_call {sp : Sp} {dvs : List V} {E : XK} {tA : TA} (h : tA σ H fun vs H1 => sp (vs ++ dvs) H1 Q E) : tCall sp dvs E tA σ H Q := h
theorem w_test {Q : Bool → Hp → Prop} (h : te σ H fun x H1 => ∃ k, x = .bl k ∧ Q k H1) : tTest te σ H Q := h
theorem w_tB {Q : Bool → Hp → Prop} (h : te σ H fun x H1 => ∃ k, x = .bl k ∧ Q k H1) : tB te σ H Q := h
theorem w_bl {Q : Bool → Prop} {b : Bool} (h : Q b) : ∃ k, V.bl b = .bl k ∧ Q k := ⟨b, rfl, h⟩
theorem w_intP {Q : Int → Prop} {b : Int} (h : Q b) : ∃ k, V.int b = .int k ∧ Q k := ⟨b, rfl, h⟩
theorem w_and {Q : Bool → Hp → Prop} (h : tt σ H fun c H1 => if c = true then tt' σ H1 Q else Q false H1) : tAnd tt tt' σ H Q := h
theorem w_or {Q : Bool → Hp → Prop} (h : tt σ H fun c H1 => if c = true then Q true H1 else tt' σ H1 Q) : tOr tt tt' σ H Q := h
theorem w_not {Q : Bool → Hp → Prop} (h : tt σ H fun c H1 => Q (!c) H1) : tNot tt σ H Q := h
theorem w_andV (h : ta σ H fun x H1 => ∃ c, x = .bl c ∧ if c = true then tb σ H1 Q else Q (.bl false) H1) : tAndV ta tb σ H Q := h
theorem w_orV (h : ta σ H fun x H1 => ∃ c, x = .bl c ∧ if c = true then Q (.bl true) H1 else tb σ H1 Q) : tOrV ta tb σ H Q := h
theorem w_notV (h : ta σ H fun x H1 => ∃ c, x = .bl c ∧ Q (.bl (!c)) H1) : tNotV ta σ H Q := h
theorem w_ifE (h : tt σ H fun c H1 => if c = true then ta σ H1 Q else tb σ H1 Q) : tIf tt ta tb σ H Q := h
theorem w_iteD {c : Prop} [Decidable c] {A B : Prop} (h1 : c → A) (h2 : ¬ c → B) : if decide c = true then A else B := by
  by_cases h : c
  · rw [if_pos (decide_eq_true h)]; exact h1 h
  · rw [if_neg (by rw [decide_eq_false h]; decide)]; exact h2 h
theorem w_iteN {c : Prop} [Decidable c] {A B : Prop} (h1 : ¬ c → A) (h2 : c → B) : if (!decide c) = true then A else B := by
  by_cases h : c
  · rw [if_neg (by rw [decide_eq_true h]; decide)]; exact h2 h
  · rw [if_pos (by rw [decide_eq_false h]; rfl)]; exact h1 h
theorem w_iteB {b : Bool} {A B : Prop} (h1 : b = true → A) (h2 : b = false → B) : if b = true then A else B := by
  cases b with
  | true => rw [if_pos rfl]; exact h1 rfl
  | false => rw [if_neg Bool.false_ne_true]; exact h2 rfl
theorem w_I0 {g : Int → Int → V} {i j : Int} (q : Q (g i j) H) : rI0 g (.int i) (.int j) H Q := ⟨i, j, rfl, rfl, q⟩
theorem w_I {P : Int → Int → Prop} {g : Int → Int → V} {i j : Int} (q : Q (g i j) H) (hc : P i j) : rI P g (.int i) (.int j) H Q := ⟨i, j, rfl, rfl, hc, q⟩
theorem w_U {g : Int → V} {i : Int} (q : Q (g i) H) : rU g (.int i) H Q := ⟨i, rfl, q⟩
theorem w_eqI {i j : Int} (q : Q (.bl (decide (i = j))) H) : rEq (.int i) (.int j) H Q := ⟨rfl, by
  rw [show decide (V.int i = V.int j) = decide (i = j) from decide_eq_decide.mpr ⟨fun h => V.int.inj h, fun h => by rw [h]⟩]
  exact q⟩
theorem w_neI {i j : Int} (q : Q (.bl (!decide (i = j))) H) : rNe (.int i) (.int j) H Q := ⟨rfl, by
  rw [show decide (V.int i = V.int j) = decide (i = j) from decide_eq_decide.mpr ⟨fun h => V.int.inj h, fun h => by rw [h]⟩]
  exact q⟩
theorem w_eqS {i j : Str} (q : Q (.bl (decide (i = j))) H) : rEq (.str i) (.str j) H Q := ⟨rfl, by
  rw [show decide (V.str i = V.str j) = decide (i = j) from decide_eq_decide.mpr ⟨fun h => V.str.inj h, fun h => by rw [h]⟩]
  exact q⟩
theorem w_neS {i j : Str} (q : Q (.bl (!decide (i = j))) H) : rNe (.str i) (.str j) H Q := ⟨rfl, by
  rw [show decide (V.str i = V.str j) = decide (i = j) from decide_eq_decide.mpr ⟨fun h => V.str.inj h, fun h => by rw [h]⟩]
  exact q⟩
theorem w_eqB {i j : Bool} (q : Q (.bl (decide (i = j))) H) : rEq (.bl i) (.bl j) H Q := ⟨rfl, by
  rw [show decide (V.bl i = V.bl j) = decide (i = j) from decide_eq_decide.mpr ⟨fun h => V.bl.inj h, fun h => by rw [h]⟩]
  exact q⟩
theorem w_neB {i j : Bool} (q : Q (.bl (!decide (i = j))) H) : rNe (.bl i) (.bl j) H Q := ⟨rfl, by
  rw [show decide (V.bl i = V.bl j) = decide (i = j) from decide_eq_decide.mpr ⟨fun h => V.bl.inj h, fun h => by rw [h]⟩]
  exact q⟩
end
end Fw

namespace Fw
open PySem PySem.Spec PyProof.Rows L2

/-! ### texts by their signs -/
def S (l : List Nat) : Str := ⟨l.toArray⟩
theorem S_inj {l m : List Nat} : S l = S m ↔ l = m := ⟨fun h => by
  have e := congrArg (fun z : Str => z.cps.toList) h
  simpa [S] using e, fun h => by rw [h]⟩
theorem S_len (l : List Nat) : (S l).length = l.length := by simp [S, Str.length]
theorem S_app (l m : List Nat) : S l ++ S m = S (l ++ m) := by
  show Str.append (S l) (S m) = S (l ++ m)
  unfold Str.append S
  simp
theorem S_of (z : Str) : z = S z.cps.toList := by
  obtain ⟨a⟩ := z
  simp [S]
theorem S_list (l : List Nat) : (S l).cps.toList = l := by simp [S]
/-- l[lo:hi] -/
def cutN (l : List Nat) (lo hi : Option Int) : List Nat := (l.drop (HT.sIx l.length 0 lo)).take (HT.sIx l.length l.length hi - HT.sIx l.length 0 lo)
theorem S_cut (l : List Nat) (lo hi : Option Int) : cutS (S l) lo hi = S (cutN l lo hi) := by
  unfold cutS cutN
  rw [S_len, S_list]
  rfl
abbrev vS (l : List Nat) : V := .str (S l)

/-! ### rules with named readings -/
section
variable {X : Cx}
theorem pe_strL {x : Str} {l : List Nat} {j : Nat} {pos : Pos} (h : x = S l) : PE X (.Constant (.str x) j pos) (tC (vS l)) := by
  rw [h]
  exact pe_str
theorem pe_globS {x : Str} {l : List Nat} {pos : Pos} (hg : Gl X x) (hm : ∃ t, X.mg x = some (.str (S l) t)) (hd : (x == ("__debug__" : Str)) = false := by decide) : PE X (.Name x pos) (tC (vS l)) := by
  obtain ⟨t, hm⟩ := hm
  exact pe_glob hg hm ⟨_, rfl⟩ hd
theorem pe_globI {x : Str} {i : Int} {pos : Pos} (hg : Gl X x) (hm : ∃ t, X.mg x = some (.int i t)) (hd : (x == ("__debug__" : Str)) = false := by decide) : PE X (.Name x pos) (tC (.int i)) := by
  obtain ⟨t, hm⟩ := hm
  exact pe_glob hg hm ⟨_, rfl⟩ hd
theorem pe_globR {x : Str} {a : Addr} {pos : Pos} (hg : Gl X x) (hm : X.mg x = some (.ref a)) (hd : (x == ("__debug__" : Str)) = false := by decide) : PE X (.Name x pos) (tC (.ref a)) := pe_glob hg hm rfl hd
def rAbs : List V → Hp → VK → Prop := fun xs H Q => ∃ i : Int, xs = [.int i] ∧ Q (.int (i.natAbs : Nat)) H
theorem k_abs : CallR X (.builtin "abs") rAbs := by
  intro pins s σ H vs us Q I r h
  obtain ⟨i, e, q⟩ := h
  refine call_abs pins s σ H vs us Q I r ⟨i, e, ?_⟩
  have e2 : (if i < 0 then -i else i) = ((i.natAbs : Nat) : Int) := by split <;> omega
  rw [e2]
  exact q
def rInt : List V → Hp → VK → Prop := fun xs H Q => ∃ i : Int, xs = [.int i] ∧ Q (.int i) H
theorem k_int : CallR X (.type "int") rInt := fun pins s σ H vs us Q I r ⟨i, e, q⟩ => call_int1 pins s σ H vs us Q I r (.inl ⟨i, e, q⟩)
def rIntB : List V → Hp → VK → Prop := fun xs H Q => ∃ b : Bool, xs = [.bl b] ∧ Q (.int (if b then 1 else 0)) H
theorem k_intB : CallR X (.type "int") rIntB := fun pins s σ H vs us Q I r ⟨i, e, q⟩ => call_int1 pins s σ H vs us Q I r (.inr ⟨i, e, q⟩)
def rLenS : List V → Hp → VK → Prop := fun xs H Q => ∃ l, xs = [vS l] ∧ l.length ≤ sizeLine ∧ Q (.int (l.length : Nat)) H
theorem k_lenS : CallR X (.builtin "len") rLenS := fun pins s σ H vs us Q I r ⟨l, e, hz, q⟩ => call_len_str pins s σ H vs us Q I r ⟨S l, e, by rw [S_len]; exact hz, by rw [S_len]; exact q⟩
def rAddS : R2 := fun x y H Q => ∃ l m, x = vS l ∧ y = vS m ∧ l.length + m.length ≤ sizeLine ∧ Q (vS (l ++ m)) H
theorem k_addS : OpR X (binaryOp .Add) rAddS := fun pins s σ H x y u v Q I rx ry ⟨l, m, e1, e2, hz, q⟩ => op_add_str pins s σ H x y u v Q I rx ry ⟨S l, S m, e1, e2, by rw [S_len, S_len]; exact hz, by rw [S_app]; exact q⟩
def rIxSg : R2 := fun x y H Q => ∃ l i c, x = vS l ∧ y = .int i ∧ l.length ≤ sizeLine ∧ atI l i = some c ∧ Q (vS [c]) H
theorem k_ixS : IxR X rIxSg := by
  intro value slice pins s σ H x y u v Q I rx ry h
  obtain ⟨l, i, c, e1, e2, hz, ha, q⟩ := h
  exact ix_str value slice pins s σ H x y u v Q I rx ry ⟨S l, i, c, e1, e2, by rw [S_len]; exact hz, by rw [S_list]; exact ha, q⟩
def rSlSg : V → Option Int → Option Int → Hp → VK → Prop := fun x lo hi H Q => ∃ l, x = vS l ∧ l.length ≤ sizeLine ∧ Q (vS (cutN l lo hi)) H
theorem SlR.weak {r r' : V → Option Int → Option Int → Hp → VK → Prop} (h : SlR X r) (w : ∀ x lo hi H Q, r' x lo hi H Q → r x lo hi H Q) : SlR X r' := by
  unfold SlR at *
  intros
  rename_i a b
  first
    | exact h _ _ _ _ _ _ _ _ _ _ _ _ (by assumption) (by assumption) (by assumption) (by assumption) (by assumption) (w _ _ _ _ _ (by assumption))
theorem k_slS : SlR X rSlSg := SlR.weak sl_str fun x lo hi H Q ⟨l, e, hz, q⟩ => ⟨S l, e, by rw [S_len]; exact hz, by rw [S_cut]; exact q⟩
def rIsi (K : PySem.W.Frag) : List V → Hp → VK → Prop := L2.rIsi K
theorem k_isi : CallR X (.builtin "isinstance") (rIsi X.K) := call_isi
def rLenQ (K : PySem.W.Frag) : List V → Hp → VK → Prop := fun vs H Q => ∃ a xs, vs = [.ref a] ∧ (SqL K H a xs ∨ SqT K H a xs) ∧ Q (.int (xs.length : Nat)) H
theorem k_lenQ : CallR X (.builtin "len") (rLenQ X.K) := fun pins s σ H vs us Q I r ⟨a, xs, e, h, q⟩ => call_len_seq pins s σ H vs us Q I r ⟨a, xs, e, h, q⟩
/-! the written part by its own letter -/
theorem ixL_ {K : PySem.W.Frag} (e : X.K = K := by rfl) : IxR X (rIxL K) := e ▸ ix_list
theorem ixT_ {K : PySem.W.Frag} (e : X.K = K := by rfl) : IxR X (rIxT K) := e ▸ ix_tup
theorem lenQ_ {K : PySem.W.Frag} (e : X.K = K := by rfl) : CallR X (.builtin "len") (rLenQ K) := e ▸ k_lenQ
theorem isi_ {K : PySem.W.Frag} (e : X.K = K := by rfl) : CallR X (.builtin "isinstance") (rIsi K) := e ▸ k_isi
theorem eqD_ {K : PySem.W.Frag} (hu : X.A.units + 64 < cLine) (e : X.K = K := by rfl) : OpR X (compareOp .Eq) (rEqD K) := e ▸ op_eqD hu
theorem neD_ {K : PySem.W.Frag} (hu : X.A.units + 64 < cLine) (e : X.K = K := by rfl) : OpR X (compareOp .NotEq) (rNeD K) := e ▸ op_neD hu
theorem inQ_ {K : PySem.W.Frag} (e : X.K = K := by rfl) : OpR X (compareOp .In) (rIn K false) := e ▸ op_in_seq
theorem notInQ_ {K : PySem.W.Frag} (e : X.K = K := by rfl) : OpR X (compareOp .NotIn) (rIn K true) := e ▸ op_notIn_seq
theorem max_ {K : PySem.W.Frag} (hc : X.calm = true) (e : X.K = K := by rfl) : CallR X (.builtin "max") (rMax K) := e ▸ cr_max hc
theorem min_ {K : PySem.W.Frag} (hc : X.calm = true) (e : X.K = K := by rfl) : CallR X (.builtin "min") (rMin K) := e ▸ cr_min hc
theorem sum_ {K : PySem.W.Frag} (hc : X.calm = true) (e : X.K = K := by rfl) : CallR X (.builtin "sum") (rSum K) := e ▸ cr_sum hc
theorem all_ {K : PySem.W.Frag} (hc : X.calm = true) (e : X.K = K := by rfl) : CallR X (.builtin "all") (rAll K) := e ▸ cr_all hc
theorem any_ {K : PySem.W.Frag} (hc : X.calm = true) (e : X.K = K := by rfl) : CallR X (.builtin "any") (rAny K) := e ▸ cr_any hc
theorem slL_ {K : PySem.W.Frag} (e : X.K = K := by rfl) : SlR X (rSlL K) := e ▸ sl_list
theorem slT_ {K : PySem.W.Frag} (e : X.K = K := by rfl) : SlR X (rSlT K) := e ▸ sl_tup
theorem iL_ {K : PySem.W.Frag} {tg l : Expr} {tl : TE} (h : PE X l tl) (e : X.K = K := by rfl) : PI X tg l (iList K tl) := e ▸ pi_list h
theorem iT_ {K : PySem.W.Frag} {tg l : Expr} {tl : TE} (h : PE X l tl) (e : X.K = K := by rfl) : PI X tg l (iTup K tl) := e ▸ pi_tup h
section
variable {K : PySem.W.Frag} {T : String} {name : Str} {id : String} {o e : Expr} {es : List Expr} {apos cpos p pos tpos : Pos} {r : V → List V → Hp → VK → Prop} {to : TE} {t ta : TA} {tg : Expr}
theorem bm0_ (pa : PlainAttrs T) (slot : Slot T name id) (hty : typeOf (.builtin id) = pure (.type "method_descriptor")) (hm : MtR X id r) (ho : PE X o to) (eK : X.K = K := by rfl)
    (hbase : attributeBase o name X.env (eval o X.env) = eval o X.env := by rfl) (hline : (apos.endLine == cpos.line) = true := by rfl) : PE X (.Call (.Attribute o name apos) [] [] cpos) (tBM0 K T r to) := by
  subst eK
  exact pe_bm0 pa slot hty hm ho hbase hline
theorem bm_ (pa : PlainAttrs T) (slot : Slot T name id) (hty : typeOf (.builtin id) = pure (.type "method_descriptor")) (hm : MtR X id r) (ho : PE X o to) (ha : PA X (e :: es) t) (eK : X.K = K := by rfl)
    (hbase : attributeBase o name X.env (eval o X.env) = eval o X.env := by rfl)
    (hfew : ((backTo cpos (starEach (e :: es) X.env)).all (fun x => !x.1) && (backToKw cpos (keywordEach [] X.env)).all (fun x => x.1.isSome)
      && decide ((e :: es).length + ([] : List Keyword).length + (if ([] : List Keyword).isEmpty then 0 else 1) < 30)) = true := by rfl)
    (hline : (apos.endLine == cpos.line) = true := by rfl) (hs : starEach (e :: es) X.env = (false, eval e X.env) :: starEach es X.env := by rfl) (hplain : (backTo cpos (starEach es X.env)).any (·.1) = false := by rfl) :
    PE X (.Call (.Attribute o name apos) (e :: es) [] cpos) (tBM K T r to t) := by
  subst eK
  exact pe_bm pa slot hty hm ho ha hbase hfew hline hs hplain
theorem gt_ {es : List Expr} {k : Nat} {t : TGs} {n : Nat} (hc : X.calm = true) (h : PGs X es t) (eK : X.K = K := by rfl)
    (hn : (assignEach es X.env).length = n := by rfl) (hst : (assignEach es X.env).findIdx? (·.1) = none := by rfl) : PG X (.Tuple es k pos) (gTup K n t) := by
  subst eK
  exact pg_tup hc h hn hst
theorem rev_ (hg : Gl X "reversed") (hm : X.mg "reversed" = none) (ha : PA X [e] ta) (eK : X.K = K := by rfl) (hs : starEach [e] X.env = [(false, eval e X.env)] := by rfl) : PI X tg (.Call (.Name "reversed" p) [e] [] pos) (iRev K ta) := by
  subst eK
  exact pi_reversed hg hm ha hs
theorem enum_ {elts : List Expr} {kk : Nat} (hg : Gl X "enumerate") (hm : X.mg "enumerate" = none) (ha : PA X [e] ta) (eK : X.K = K := by rfl) (hs : starEach [e] X.env = [(false, eval e X.env)] := by rfl) : PI X (.Tuple elts kk tpos) (.Call (.Name "enumerate" p) [e] [] pos) (iEnum K ta) := by
  subst eK
  exact pi_enum hg hm ha hs
theorem sortRev_ {b : Bool} (eK : X.K = K := by rfl) : CallRK X (.builtin "sorted") [Str.ofString "reverse"] (rSortedKw K b [.bl b]) := eK ▸ cr_sortedRev
end
/-- text * n -/
def rMulS : R2 := fun x y H Q => ∃ l, ∃ k : Int, x = vS l ∧ y = .int k ∧ 0 ≤ k ∧ k < 2 ^ 30 ∧ l.length * k.toNat ≤ sizeLine ∧ Q (vS (List.replicate k.toNat l).flatten) H
theorem mul_flat (l : List Nat) : ∀ n acc, ((List.replicate n l.toArray).foldl (fun (a b : Array Nat) => a ++ b) acc) = acc ++ (List.replicate n l).flatten.toArray
  | 0, acc => by simp
  | n + 1, acc => by
    rw [List.replicate_succ, List.foldl_cons, mul_flat l n, List.replicate_succ, List.flatten_cons]
    simp
theorem txt_mul {l : List Nat} {k : Int} (hk : 0 ≤ k) : Txt.mul (S l) k = S (List.replicate k.toNat l).flatten := by
  unfold Txt.mul
  by_cases h1 : k < 1
  · have e : k = 0 := by omega
    subst e
    rw [if_pos h1]
    rfl
  · rw [if_neg h1]
    by_cases h2 : (k == 1 || (S l).length == 0) = true
    · rw [if_pos h2]
      rcases (Bool.or_eq_true _ _).mp h2 with e | e
      · have e1 : k = 1 := eq_of_beq e
        subst e1
        show S l = S (List.replicate 1 l).flatten
        simp
      · have e1 : (S l).length = 0 := eq_of_beq e
        rw [S_len] at e1
        have e2 : l = [] := List.eq_nil_of_length_eq_zero e1
        subst e2
        show S [] = _
        rw [S_inj]
        induction k.toNat with
        | zero => rfl
        | succ n ih => rw [List.replicate_succ, List.flatten_cons, ← ih]; rfl
    · rw [if_neg h2]
      show (⟨(List.replicate k.toNat l.toArray).foldl (fun (a b : Array Nat) => a ++ b) #[]⟩ : Str) = _
      rw [mul_flat]
      simp [S]
theorem k_mulS : OpR X (binaryOp .Mult) rMulS := by
  intro pins s σ H x y u v Q I rx ry h
  obtain ⟨l, k, rfl, rfl, h0, h1, hz, q⟩ := h
  obtain ⟨t, rfl⟩ := rx
  obtain ⟨t2, rfl⟩ := ry
  rw [sizeLine_eq] at hz
  refine SB.mul (x := S l) ⟨?_, fun a b => ?_, fun a b => ?_⟩ fun t' tk => ⟨vS (List.replicate k.toNat l).flatten, H, I.tok tk, ⟨t', by rw [txt_mul h0]⟩, q⟩
  · rw [decide_eq_false (by omega), decide_eq_false (by omega)] <;> rfl
  · rw [S_len]
    have h3 : (l.length : Int) * k ≤ 16777216 := by
      have e : ((l.length * k.toNat : Nat) : Int) = (l.length : Int) * k := by
        rw [Int.natCast_mul, Int.toNat_of_nonneg h0]
      omega
    have h4 : (l.length : Int) ≤ (2 ^ 63 - 1) / k := by
      refine Int.le_ediv_of_mul_le (by omega) ?_
      omega
    omega
  · rw [S_len]
    exact decide_eq_false (by rw [sizeLine_eq]; omega)
end
end Fw

namespace Fw
open PySem PySem.Spec PyProof.Rows L2
section
variable {nx bk ct : L2.St → Hp → Prop} {rt : VK} {t u tb : TS} {H : Hp} {te ta tb' : TE} {Q : VK} {v x y : V} {g : TG}

theorem w_var0 {σ : L2.St} (q : Q v H) : tVar 0 (some v :: σ) H Q := ⟨v, rfl, q⟩
theorem w_asg0 {o : Option V} {σ : L2.St} (h : te (o :: σ) H fun x H1 => nx (some x :: σ) H1) : tAsg te (gName 0) ⟨nx, rt, bk, ct⟩ (o :: σ) H := h
theorem w_gn0 {o : Option V} {σ : L2.St} {R : L2.St → Hp → Prop} (h : R (some v :: σ) H) : gName 0 v (o :: σ) H R := h
theorem w_aug0 {f : Int → Int → Int} {a : Int} {σ : L2.St} (h : te (some (.int a) :: σ) H fun y H1 => ∃ b, y = .int b ∧ nx (some (.int (f a b)) :: σ) H1) : tAug 0 te (ipI f) ⟨nx, rt, bk, ct⟩ (some (.int a) :: σ) H := w_aug (i := 0) rfl h
theorem w_var1 {x0 : Option V} {σ : L2.St} (q : Q v H) : tVar 1 (x0 :: some v :: σ) H Q := ⟨v, rfl, q⟩
theorem w_asg1 {x0 : Option V} {o : Option V} {σ : L2.St} (h : te (x0 :: o :: σ) H fun x H1 => nx (x0 :: some x :: σ) H1) : tAsg te (gName 1) ⟨nx, rt, bk, ct⟩ (x0 :: o :: σ) H := h
theorem w_gn1 {x0 : Option V} {o : Option V} {σ : L2.St} {R : L2.St → Hp → Prop} (h : R (x0 :: some v :: σ) H) : gName 1 v (x0 :: o :: σ) H R := h
theorem w_aug1 {x0 : Option V} {f : Int → Int → Int} {a : Int} {σ : L2.St} (h : te (x0 :: some (.int a) :: σ) H fun y H1 => ∃ b, y = .int b ∧ nx (x0 :: some (.int (f a b)) :: σ) H1) : tAug 1 te (ipI f) ⟨nx, rt, bk, ct⟩ (x0 :: some (.int a) :: σ) H := w_aug (i := 1) rfl h
theorem w_var2 {x0 x1 : Option V} {σ : L2.St} (q : Q v H) : tVar 2 (x0 :: x1 :: some v :: σ) H Q := ⟨v, rfl, q⟩
theorem w_asg2 {x0 x1 : Option V} {o : Option V} {σ : L2.St} (h : te (x0 :: x1 :: o :: σ) H fun x H1 => nx (x0 :: x1 :: some x :: σ) H1) : tAsg te (gName 2) ⟨nx, rt, bk, ct⟩ (x0 :: x1 :: o :: σ) H := h
theorem w_gn2 {x0 x1 : Option V} {o : Option V} {σ : L2.St} {R : L2.St → Hp → Prop} (h : R (x0 :: x1 :: some v :: σ) H) : gName 2 v (x0 :: x1 :: o :: σ) H R := h
theorem w_aug2 {x0 x1 : Option V} {f : Int → Int → Int} {a : Int} {σ : L2.St} (h : te (x0 :: x1 :: some (.int a) :: σ) H fun y H1 => ∃ b, y = .int b ∧ nx (x0 :: x1 :: some (.int (f a b)) :: σ) H1) : tAug 2 te (ipI f) ⟨nx, rt, bk, ct⟩ (x0 :: x1 :: some (.int a) :: σ) H := w_aug (i := 2) rfl h
theorem w_var3 {x0 x1 x2 : Option V} {σ : L2.St} (q : Q v H) : tVar 3 (x0 :: x1 :: x2 :: some v :: σ) H Q := ⟨v, rfl, q⟩
theorem w_asg3 {x0 x1 x2 : Option V} {o : Option V} {σ : L2.St} (h : te (x0 :: x1 :: x2 :: o :: σ) H fun x H1 => nx (x0 :: x1 :: x2 :: some x :: σ) H1) : tAsg te (gName 3) ⟨nx, rt, bk, ct⟩ (x0 :: x1 :: x2 :: o :: σ) H := h
theorem w_gn3 {x0 x1 x2 : Option V} {o : Option V} {σ : L2.St} {R : L2.St → Hp → Prop} (h : R (x0 :: x1 :: x2 :: some v :: σ) H) : gName 3 v (x0 :: x1 :: x2 :: o :: σ) H R := h
theorem w_aug3 {x0 x1 x2 : Option V} {f : Int → Int → Int} {a : Int} {σ : L2.St} (h : te (x0 :: x1 :: x2 :: some (.int a) :: σ) H fun y H1 => ∃ b, y = .int b ∧ nx (x0 :: x1 :: x2 :: some (.int (f a b)) :: σ) H1) : tAug 3 te (ipI f) ⟨nx, rt, bk, ct⟩ (x0 :: x1 :: x2 :: some (.int a) :: σ) H := w_aug (i := 3) rfl h
theorem w_var4 {x0 x1 x2 x3 : Option V} {σ : L2.St} (q : Q v H) : tVar 4 (x0 :: x1 :: x2 :: x3 :: some v :: σ) H Q := ⟨v, rfl, q⟩
theorem w_asg4 {x0 x1 x2 x3 : Option V} {o : Option V} {σ : L2.St} (h : te (x0 :: x1 :: x2 :: x3 :: o :: σ) H fun x H1 => nx (x0 :: x1 :: x2 :: x3 :: some x :: σ) H1) : tAsg te (gName 4) ⟨nx, rt, bk, ct⟩ (x0 :: x1 :: x2 :: x3 :: o :: σ) H := h
theorem w_gn4 {x0 x1 x2 x3 : Option V} {o : Option V} {σ : L2.St} {R : L2.St → Hp → Prop} (h : R (x0 :: x1 :: x2 :: x3 :: some v :: σ) H) : gName 4 v (x0 :: x1 :: x2 :: x3 :: o :: σ) H R := h
theorem w_aug4 {x0 x1 x2 x3 : Option V} {f : Int → Int → Int} {a : Int} {σ : L2.St} (h : te (x0 :: x1 :: x2 :: x3 :: some (.int a) :: σ) H fun y H1 => ∃ b, y = .int b ∧ nx (x0 :: x1 :: x2 :: x3 :: some (.int (f a b)) :: σ) H1) : tAug 4 te (ipI f) ⟨nx, rt, bk, ct⟩ (x0 :: x1 :: x2 :: x3 :: some (.int a) :: σ) H := w_aug (i := 4) rfl h
theorem w_var5 {x0 x1 x2 x3 x4 : Option V} {σ : L2.St} (q : Q v H) : tVar 5 (x0 :: x1 :: x2 :: x3 :: x4 :: some v :: σ) H Q := ⟨v, rfl, q⟩
theorem w_asg5 {x0 x1 x2 x3 x4 : Option V} {o : Option V} {σ : L2.St} (h : te (x0 :: x1 :: x2 :: x3 :: x4 :: o :: σ) H fun x H1 => nx (x0 :: x1 :: x2 :: x3 :: x4 :: some x :: σ) H1) : tAsg te (gName 5) ⟨nx, rt, bk, ct⟩ (x0 :: x1 :: x2 :: x3 :: x4 :: o :: σ) H := h
theorem w_gn5 {x0 x1 x2 x3 x4 : Option V} {o : Option V} {σ : L2.St} {R : L2.St → Hp → Prop} (h : R (x0 :: x1 :: x2 :: x3 :: x4 :: some v :: σ) H) : gName 5 v (x0 :: x1 :: x2 :: x3 :: x4 :: o :: σ) H R := h
theorem w_aug5 {x0 x1 x2 x3 x4 : Option V} {f : Int → Int → Int} {a : Int} {σ : L2.St} (h : te (x0 :: x1 :: x2 :: x3 :: x4 :: some (.int a) :: σ) H fun y H1 => ∃ b, y = .int b ∧ nx (x0 :: x1 :: x2 :: x3 :: x4 :: some (.int (f a b)) :: σ) H1) : tAug 5 te (ipI f) ⟨nx, rt, bk, ct⟩ (x0 :: x1 :: x2 :: x3 :: x4 :: some (.int a) :: σ) H := w_aug (i := 5) rfl h
theorem w_var6 {x0 x1 x2 x3 x4 x5 : Option V} {σ : L2.St} (q : Q v H) : tVar 6 (x0 :: x1 :: x2 :: x3 :: x4 :: x5 :: some v :: σ) H Q := ⟨v, rfl, q⟩
theorem w_asg6 {x0 x1 x2 x3 x4 x5 : Option V} {o : Option V} {σ : L2.St} (h : te (x0 :: x1 :: x2 :: x3 :: x4 :: x5 :: o :: σ) H fun x H1 => nx (x0 :: x1 :: x2 :: x3 :: x4 :: x5 :: some x :: σ) H1) : tAsg te (gName 6) ⟨nx, rt, bk, ct⟩ (x0 :: x1 :: x2 :: x3 :: x4 :: x5 :: o :: σ) H := h
theorem w_gn6 {x0 x1 x2 x3 x4 x5 : Option V} {o : Option V} {σ : L2.St} {R : L2.St → Hp → Prop} (h : R (x0 :: x1 :: x2 :: x3 :: x4 :: x5 :: some v :: σ) H) : gName 6 v (x0 :: x1 :: x2 :: x3 :: x4 :: x5 :: o :: σ) H R := h
theorem w_aug6 {x0 x1 x2 x3 x4 x5 : Option V} {f : Int → Int → Int} {a : Int} {σ : L2.St} (h : te (x0 :: x1 :: x2 :: x3 :: x4 :: x5 :: some (.int a) :: σ) H fun y H1 => ∃ b, y = .int b ∧ nx (x0 :: x1 :: x2 :: x3 :: x4 :: x5 :: some (.int (f a b)) :: σ) H1) : tAug 6 te (ipI f) ⟨nx, rt, bk, ct⟩ (x0 :: x1 :: x2 :: x3 :: x4 :: x5 :: some (.int a) :: σ) H := w_aug (i := 6) rfl h
theorem w_var7 {x0 x1 x2 x3 x4 x5 x6 : Option V} {σ : L2.St} (q : Q v H) : tVar 7 (x0 :: x1 :: x2 :: x3 :: x4 :: x5 :: x6 :: some v :: σ) H Q := ⟨v, rfl, q⟩
theorem w_asg7 {x0 x1 x2 x3 x4 x5 x6 : Option V} {o : Option V} {σ : L2.St} (h : te (x0 :: x1 :: x2 :: x3 :: x4 :: x5 :: x6 :: o :: σ) H fun x H1 => nx (x0 :: x1 :: x2 :: x3 :: x4 :: x5 :: x6 :: some x :: σ) H1) : tAsg te (gName 7) ⟨nx, rt, bk, ct⟩ (x0 :: x1 :: x2 :: x3 :: x4 :: x5 :: x6 :: o :: σ) H := h
theorem w_gn7 {x0 x1 x2 x3 x4 x5 x6 : Option V} {o : Option V} {σ : L2.St} {R : L2.St → Hp → Prop} (h : R (x0 :: x1 :: x2 :: x3 :: x4 :: x5 :: x6 :: some v :: σ) H) : gName 7 v (x0 :: x1 :: x2 :: x3 :: x4 :: x5 :: x6 :: o :: σ) H R := h
theorem w_aug7 {x0 x1 x2 x3 x4 x5 x6 : Option V} {f : Int → Int → Int} {a : Int} {σ : L2.St} (h : te (x0 :: x1 :: x2 :: x3 :: x4 :: x5 :: x6 :: some (.int a) :: σ) H fun y H1 => ∃ b, y = .int b ∧ nx (x0 :: x1 :: x2 :: x3 :: x4 :: x5 :: x6 :: some (.int (f a b)) :: σ) H1) : tAug 7 te (ipI f) ⟨nx, rt, bk, ct⟩ (x0 :: x1 :: x2 :: x3 :: x4 :: x5 :: x6 :: some (.int a) :: σ) H := w_aug (i := 7) rfl h
theorem w_var8 {x0 x1 x2 x3 x4 x5 x6 x7 : Option V} {σ : L2.St} (q : Q v H) : tVar 8 (x0 :: x1 :: x2 :: x3 :: x4 :: x5 :: x6 :: x7 :: some v :: σ) H Q := ⟨v, rfl, q⟩
theorem w_asg8 {x0 x1 x2 x3 x4 x5 x6 x7 : Option V} {o : Option V} {σ : L2.St} (h : te (x0 :: x1 :: x2 :: x3 :: x4 :: x5 :: x6 :: x7 :: o :: σ) H fun x H1 => nx (x0 :: x1 :: x2 :: x3 :: x4 :: x5 :: x6 :: x7 :: some x :: σ) H1) : tAsg te (gName 8) ⟨nx, rt, bk, ct⟩ (x0 :: x1 :: x2 :: x3 :: x4 :: x5 :: x6 :: x7 :: o :: σ) H := h
theorem w_gn8 {x0 x1 x2 x3 x4 x5 x6 x7 : Option V} {o : Option V} {σ : L2.St} {R : L2.St → Hp → Prop} (h : R (x0 :: x1 :: x2 :: x3 :: x4 :: x5 :: x6 :: x7 :: some v :: σ) H) : gName 8 v (x0 :: x1 :: x2 :: x3 :: x4 :: x5 :: x6 :: x7 :: o :: σ) H R := h
theorem w_aug8 {x0 x1 x2 x3 x4 x5 x6 x7 : Option V} {f : Int → Int → Int} {a : Int} {σ : L2.St} (h : te (x0 :: x1 :: x2 :: x3 :: x4 :: x5 :: x6 :: x7 :: some (.int a) :: σ) H fun y H1 => ∃ b, y = .int b ∧ nx (x0 :: x1 :: x2 :: x3 :: x4 :: x5 :: x6 :: x7 :: some (.int (f a b)) :: σ) H1) : tAug 8 te (ipI f) ⟨nx, rt, bk, ct⟩ (x0 :: x1 :: x2 :: x3 :: x4 :: x5 :: x6 :: x7 :: some (.int a) :: σ) H := w_aug (i := 8) rfl h
theorem w_var9 {x0 x1 x2 x3 x4 x5 x6 x7 x8 : Option V} {σ : L2.St} (q : Q v H) : tVar 9 (x0 :: x1 :: x2 :: x3 :: x4 :: x5 :: x6 :: x7 :: x8 :: some v :: σ) H Q := ⟨v, rfl, q⟩
theorem w_asg9 {x0 x1 x2 x3 x4 x5 x6 x7 x8 : Option V} {o : Option V} {σ : L2.St} (h : te (x0 :: x1 :: x2 :: x3 :: x4 :: x5 :: x6 :: x7 :: x8 :: o :: σ) H fun x H1 => nx (x0 :: x1 :: x2 :: x3 :: x4 :: x5 :: x6 :: x7 :: x8 :: some x :: σ) H1) : tAsg te (gName 9) ⟨nx, rt, bk, ct⟩ (x0 :: x1 :: x2 :: x3 :: x4 :: x5 :: x6 :: x7 :: x8 :: o :: σ) H := h
theorem w_gn9 {x0 x1 x2 x3 x4 x5 x6 x7 x8 : Option V} {o : Option V} {σ : L2.St} {R : L2.St → Hp → Prop} (h : R (x0 :: x1 :: x2 :: x3 :: x4 :: x5 :: x6 :: x7 :: x8 :: some v :: σ) H) : gName 9 v (x0 :: x1 :: x2 :: x3 :: x4 :: x5 :: x6 :: x7 :: x8 :: o :: σ) H R := h
theorem w_aug9 {x0 x1 x2 x3 x4 x5 x6 x7 x8 : Option V} {f : Int → Int → Int} {a : Int} {σ : L2.St} (h : te (x0 :: x1 :: x2 :: x3 :: x4 :: x5 :: x6 :: x7 :: x8 :: some (.int a) :: σ) H fun y H1 => ∃ b, y = .int b ∧ nx (x0 :: x1 :: x2 :: x3 :: x4 :: x5 :: x6 :: x7 :: x8 :: some (.int (f a b)) :: σ) H1) : tAug 9 te (ipI f) ⟨nx, rt, bk, ct⟩ (x0 :: x1 :: x2 :: x3 :: x4 :: x5 :: x6 :: x7 :: x8 :: some (.int a) :: σ) H := w_aug (i := 9) rfl h
theorem w_var10 {x0 x1 x2 x3 x4 x5 x6 x7 x8 x9 : Option V} {σ : L2.St} (q : Q v H) : tVar 10 (x0 :: x1 :: x2 :: x3 :: x4 :: x5 :: x6 :: x7 :: x8 :: x9 :: some v :: σ) H Q := ⟨v, rfl, q⟩
theorem w_asg10 {x0 x1 x2 x3 x4 x5 x6 x7 x8 x9 : Option V} {o : Option V} {σ : L2.St} (h : te (x0 :: x1 :: x2 :: x3 :: x4 :: x5 :: x6 :: x7 :: x8 :: x9 :: o :: σ) H fun x H1 => nx (x0 :: x1 :: x2 :: x3 :: x4 :: x5 :: x6 :: x7 :: x8 :: x9 :: some x :: σ) H1) : tAsg te (gName 10) ⟨nx, rt, bk, ct⟩ (x0 :: x1 :: x2 :: x3 :: x4 :: x5 :: x6 :: x7 :: x8 :: x9 :: o :: σ) H := h
theorem w_gn10 {x0 x1 x2 x3 x4 x5 x6 x7 x8 x9 : Option V} {o : Option V} {σ : L2.St} {R : L2.St → Hp → Prop} (h : R (x0 :: x1 :: x2 :: x3 :: x4 :: x5 :: x6 :: x7 :: x8 :: x9 :: some v :: σ) H) : gName 10 v (x0 :: x1 :: x2 :: x3 :: x4 :: x5 :: x6 :: x7 :: x8 :: x9 :: o :: σ) H R := h
theorem w_aug10 {x0 x1 x2 x3 x4 x5 x6 x7 x8 x9 : Option V} {f : Int → Int → Int} {a : Int} {σ : L2.St} (h : te (x0 :: x1 :: x2 :: x3 :: x4 :: x5 :: x6 :: x7 :: x8 :: x9 :: some (.int a) :: σ) H fun y H1 => ∃ b, y = .int b ∧ nx (x0 :: x1 :: x2 :: x3 :: x4 :: x5 :: x6 :: x7 :: x8 :: x9 :: some (.int (f a b)) :: σ) H1) : tAug 10 te (ipI f) ⟨nx, rt, bk, ct⟩ (x0 :: x1 :: x2 :: x3 :: x4 :: x5 :: x6 :: x7 :: x8 :: x9 :: some (.int a) :: σ) H := w_aug (i := 10) rfl h
theorem w_var11 {x0 x1 x2 x3 x4 x5 x6 x7 x8 x9 x10 : Option V} {σ : L2.St} (q : Q v H) : tVar 11 (x0 :: x1 :: x2 :: x3 :: x4 :: x5 :: x6 :: x7 :: x8 :: x9 :: x10 :: some v :: σ) H Q := ⟨v, rfl, q⟩
theorem w_asg11 {x0 x1 x2 x3 x4 x5 x6 x7 x8 x9 x10 : Option V} {o : Option V} {σ : L2.St} (h : te (x0 :: x1 :: x2 :: x3 :: x4 :: x5 :: x6 :: x7 :: x8 :: x9 :: x10 :: o :: σ) H fun x H1 => nx (x0 :: x1 :: x2 :: x3 :: x4 :: x5 :: x6 :: x7 :: x8 :: x9 :: x10 :: some x :: σ) H1) : tAsg te (gName 11) ⟨nx, rt, bk, ct⟩ (x0 :: x1 :: x2 :: x3 :: x4 :: x5 :: x6 :: x7 :: x8 :: x9 :: x10 :: o :: σ) H := h
theorem w_gn11 {x0 x1 x2 x3 x4 x5 x6 x7 x8 x9 x10 : Option V} {o : Option V} {σ : L2.St} {R : L2.St → Hp → Prop} (h : R (x0 :: x1 :: x2 :: x3 :: x4 :: x5 :: x6 :: x7 :: x8 :: x9 :: x10 :: some v :: σ) H) : gName 11 v (x0 :: x1 :: x2 :: x3 :: x4 :: x5 :: x6 :: x7 :: x8 :: x9 :: x10 :: o :: σ) H R := h
theorem w_aug11 {x0 x1 x2 x3 x4 x5 x6 x7 x8 x9 x10 : Option V} {f : Int → Int → Int} {a : Int} {σ : L2.St} (h : te (x0 :: x1 :: x2 :: x3 :: x4 :: x5 :: x6 :: x7 :: x8 :: x9 :: x10 :: some (.int a) :: σ) H fun y H1 => ∃ b, y = .int b ∧ nx (x0 :: x1 :: x2 :: x3 :: x4 :: x5 :: x6 :: x7 :: x8 :: x9 :: x10 :: some (.int (f a b)) :: σ) H1) : tAug 11 te (ipI f) ⟨nx, rt, bk, ct⟩ (x0 :: x1 :: x2 :: x3 :: x4 :: x5 :: x6 :: x7 :: x8 :: x9 :: x10 :: some (.int a) :: σ) H := w_aug (i := 11) rfl h
theorem w_var12 {x0 x1 x2 x3 x4 x5 x6 x7 x8 x9 x10 x11 : Option V} {σ : L2.St} (q : Q v H) : tVar 12 (x0 :: x1 :: x2 :: x3 :: x4 :: x5 :: x6 :: x7 :: x8 :: x9 :: x10 :: x11 :: some v :: σ) H Q := ⟨v, rfl, q⟩
theorem w_asg12 {x0 x1 x2 x3 x4 x5 x6 x7 x8 x9 x10 x11 : Option V} {o : Option V} {σ : L2.St} (h : te (x0 :: x1 :: x2 :: x3 :: x4 :: x5 :: x6 :: x7 :: x8 :: x9 :: x10 :: x11 :: o :: σ) H fun x H1 => nx (x0 :: x1 :: x2 :: x3 :: x4 :: x5 :: x6 :: x7 :: x8 :: x9 :: x10 :: x11 :: some x :: σ) H1) : tAsg te (gName 12) ⟨nx, rt, bk, ct⟩ (x0 :: x1 :: x2 :: x3 :: x4 :: x5 :: x6 :: x7 :: x8 :: x9 :: x10 :: x11 :: o :: σ) H := h
theorem w_gn12 {x0 x1 x2 x3 x4 x5 x6 x7 x8 x9 x10 x11 : Option V} {o : Option V} {σ : L2.St} {R : L2.St → Hp → Prop} (h : R (x0 :: x1 :: x2 :: x3 :: x4 :: x5 :: x6 :: x7 :: x8 :: x9 :: x10 :: x11 :: some v :: σ) H) : gName 12 v (x0 :: x1 :: x2 :: x3 :: x4 :: x5 :: x6 :: x7 :: x8 :: x9 :: x10 :: x11 :: o :: σ) H R := h
theorem w_aug12 {x0 x1 x2 x3 x4 x5 x6 x7 x8 x9 x10 x11 : Option V} {f : Int → Int → Int} {a : Int} {σ : L2.St} (h : te (x0 :: x1 :: x2 :: x3 :: x4 :: x5 :: x6 :: x7 :: x8 :: x9 :: x10 :: x11 :: some (.int a) :: σ) H fun y H1 => ∃ b, y = .int b ∧ nx (x0 :: x1 :: x2 :: x3 :: x4 :: x5 :: x6 :: x7 :: x8 :: x9 :: x10 :: x11 :: some (.int (f a b)) :: σ) H1) : tAug 12 te (ipI f) ⟨nx, rt, bk, ct⟩ (x0 :: x1 :: x2 :: x3 :: x4 :: x5 :: x6 :: x7 :: x8 :: x9 :: x10 :: x11 :: some (.int a) :: σ) H := w_aug (i := 12) rfl h
theorem w_var13 {x0 x1 x2 x3 x4 x5 x6 x7 x8 x9 x10 x11 x12 : Option V} {σ : L2.St} (q : Q v H) : tVar 13 (x0 :: x1 :: x2 :: x3 :: x4 :: x5 :: x6 :: x7 :: x8 :: x9 :: x10 :: x11 :: x12 :: some v :: σ) H Q := ⟨v, rfl, q⟩
theorem w_asg13 {x0 x1 x2 x3 x4 x5 x6 x7 x8 x9 x10 x11 x12 : Option V} {o : Option V} {σ : L2.St} (h : te (x0 :: x1 :: x2 :: x3 :: x4 :: x5 :: x6 :: x7 :: x8 :: x9 :: x10 :: x11 :: x12 :: o :: σ) H fun x H1 => nx (x0 :: x1 :: x2 :: x3 :: x4 :: x5 :: x6 :: x7 :: x8 :: x9 :: x10 :: x11 :: x12 :: some x :: σ) H1) : tAsg te (gName 13) ⟨nx, rt, bk, ct⟩ (x0 :: x1 :: x2 :: x3 :: x4 :: x5 :: x6 :: x7 :: x8 :: x9 :: x10 :: x11 :: x12 :: o :: σ) H := h
theorem w_gn13 {x0 x1 x2 x3 x4 x5 x6 x7 x8 x9 x10 x11 x12 : Option V} {o : Option V} {σ : L2.St} {R : L2.St → Hp → Prop} (h : R (x0 :: x1 :: x2 :: x3 :: x4 :: x5 :: x6 :: x7 :: x8 :: x9 :: x10 :: x11 :: x12 :: some v :: σ) H) : gName 13 v (x0 :: x1 :: x2 :: x3 :: x4 :: x5 :: x6 :: x7 :: x8 :: x9 :: x10 :: x11 :: x12 :: o :: σ) H R := h
theorem w_aug13 {x0 x1 x2 x3 x4 x5 x6 x7 x8 x9 x10 x11 x12 : Option V} {f : Int → Int → Int} {a : Int} {σ : L2.St} (h : te (x0 :: x1 :: x2 :: x3 :: x4 :: x5 :: x6 :: x7 :: x8 :: x9 :: x10 :: x11 :: x12 :: some (.int a) :: σ) H fun y H1 => ∃ b, y = .int b ∧ nx (x0 :: x1 :: x2 :: x3 :: x4 :: x5 :: x6 :: x7 :: x8 :: x9 :: x10 :: x11 :: x12 :: some (.int (f a b)) :: σ) H1) : tAug 13 te (ipI f) ⟨nx, rt, bk, ct⟩ (x0 :: x1 :: x2 :: x3 :: x4 :: x5 :: x6 :: x7 :: x8 :: x9 :: x10 :: x11 :: x12 :: some (.int a) :: σ) H := w_aug (i := 13) rfl h
theorem w_var14 {x0 x1 x2 x3 x4 x5 x6 x7 x8 x9 x10 x11 x12 x13 : Option V} {σ : L2.St} (q : Q v H) : tVar 14 (x0 :: x1 :: x2 :: x3 :: x4 :: x5 :: x6 :: x7 :: x8 :: x9 :: x10 :: x11 :: x12 :: x13 :: some v :: σ) H Q := ⟨v, rfl, q⟩
theorem w_asg14 {x0 x1 x2 x3 x4 x5 x6 x7 x8 x9 x10 x11 x12 x13 : Option V} {o : Option V} {σ : L2.St} (h : te (x0 :: x1 :: x2 :: x3 :: x4 :: x5 :: x6 :: x7 :: x8 :: x9 :: x10 :: x11 :: x12 :: x13 :: o :: σ) H fun x H1 => nx (x0 :: x1 :: x2 :: x3 :: x4 :: x5 :: x6 :: x7 :: x8 :: x9 :: x10 :: x11 :: x12 :: x13 :: some x :: σ) H1) : tAsg te (gName 14) ⟨nx, rt, bk, ct⟩ (x0 :: x1 :: x2 :: x3 :: x4 :: x5 :: x6 :: x7 :: x8 :: x9 :: x10 :: x11 :: x12 :: x13 :: o :: σ) H := h
theorem w_gn14 {x0 x1 x2 x3 x4 x5 x6 x7 x8 x9 x10 x11 x12 x13 : Option V} {o : Option V} {σ : L2.St} {R : L2.St → Hp → Prop} (h : R (x0 :: x1 :: x2 :: x3 :: x4 :: x5 :: x6 :: x7 :: x8 :: x9 :: x10 :: x11 :: x12 :: x13 :: some v :: σ) H) : gName 14 v (x0 :: x1 :: x2 :: x3 :: x4 :: x5 :: x6 :: x7 :: x8 :: x9 :: x10 :: x11 :: x12 :: x13 :: o :: σ) H R := h
theorem w_aug14 {x0 x1 x2 x3 x4 x5 x6 x7 x8 x9 x10 x11 x12 x13 : Option V} {f : Int → Int → Int} {a : Int} {σ : L2.St} (h : te (x0 :: x1 :: x2 :: x3 :: x4 :: x5 :: x6 :: x7 :: x8 :: x9 :: x10 :: x11 :: x12 :: x13 :: some (.int a) :: σ) H fun y H1 => ∃ b, y = .int b ∧ nx (x0 :: x1 :: x2 :: x3 :: x4 :: x5 :: x6 :: x7 :: x8 :: x9 :: x10 :: x11 :: x12 :: x13 :: some (.int (f a b)) :: σ) H1) : tAug 14 te (ipI f) ⟨nx, rt, bk, ct⟩ (x0 :: x1 :: x2 :: x3 :: x4 :: x5 :: x6 :: x7 :: x8 :: x9 :: x10 :: x11 :: x12 :: x13 :: some (.int a) :: σ) H := w_aug (i := 14) rfl h
theorem w_var15 {x0 x1 x2 x3 x4 x5 x6 x7 x8 x9 x10 x11 x12 x13 x14 : Option V} {σ : L2.St} (q : Q v H) : tVar 15 (x0 :: x1 :: x2 :: x3 :: x4 :: x5 :: x6 :: x7 :: x8 :: x9 :: x10 :: x11 :: x12 :: x13 :: x14 :: some v :: σ) H Q := ⟨v, rfl, q⟩
theorem w_asg15 {x0 x1 x2 x3 x4 x5 x6 x7 x8 x9 x10 x11 x12 x13 x14 : Option V} {o : Option V} {σ : L2.St} (h : te (x0 :: x1 :: x2 :: x3 :: x4 :: x5 :: x6 :: x7 :: x8 :: x9 :: x10 :: x11 :: x12 :: x13 :: x14 :: o :: σ) H fun x H1 => nx (x0 :: x1 :: x2 :: x3 :: x4 :: x5 :: x6 :: x7 :: x8 :: x9 :: x10 :: x11 :: x12 :: x13 :: x14 :: some x :: σ) H1) : tAsg te (gName 15) ⟨nx, rt, bk, ct⟩ (x0 :: x1 :: x2 :: x3 :: x4 :: x5 :: x6 :: x7 :: x8 :: x9 :: x10 :: x11 :: x12 :: x13 :: x14 :: o :: σ) H := h
theorem w_gn15 {x0 x1 x2 x3 x4 x5 x6 x7 x8 x9 x10 x11 x12 x13 x14 : Option V} {o : Option V} {σ : L2.St} {R : L2.St → Hp → Prop} (h : R (x0 :: x1 :: x2 :: x3 :: x4 :: x5 :: x6 :: x7 :: x8 :: x9 :: x10 :: x11 :: x12 :: x13 :: x14 :: some v :: σ) H) : gName 15 v (x0 :: x1 :: x2 :: x3 :: x4 :: x5 :: x6 :: x7 :: x8 :: x9 :: x10 :: x11 :: x12 :: x13 :: x14 :: o :: σ) H R := h
theorem w_aug15 {x0 x1 x2 x3 x4 x5 x6 x7 x8 x9 x10 x11 x12 x13 x14 : Option V} {f : Int → Int → Int} {a : Int} {σ : L2.St} (h : te (x0 :: x1 :: x2 :: x3 :: x4 :: x5 :: x6 :: x7 :: x8 :: x9 :: x10 :: x11 :: x12 :: x13 :: x14 :: some (.int a) :: σ) H fun y H1 => ∃ b, y = .int b ∧ nx (x0 :: x1 :: x2 :: x3 :: x4 :: x5 :: x6 :: x7 :: x8 :: x9 :: x10 :: x11 :: x12 :: x13 :: x14 :: some (.int (f a b)) :: σ) H1) : tAug 15 te (ipI f) ⟨nx, rt, bk, ct⟩ (x0 :: x1 :: x2 :: x3 :: x4 :: x5 :: x6 :: x7 :: x8 :: x9 :: x10 :: x11 :: x12 :: x13 :: x14 :: some (.int a) :: σ) H := w_aug (i := 15) rfl h
theorem w_var16 {x0 x1 x2 x3 x4 x5 x6 x7 x8 x9 x10 x11 x12 x13 x14 x15 : Option V} {σ : L2.St} (q : Q v H) : tVar 16 (x0 :: x1 :: x2 :: x3 :: x4 :: x5 :: x6 :: x7 :: x8 :: x9 :: x10 :: x11 :: x12 :: x13 :: x14 :: x15 :: some v :: σ) H Q := ⟨v, rfl, q⟩
theorem w_asg16 {x0 x1 x2 x3 x4 x5 x6 x7 x8 x9 x10 x11 x12 x13 x14 x15 : Option V} {o : Option V} {σ : L2.St} (h : te (x0 :: x1 :: x2 :: x3 :: x4 :: x5 :: x6 :: x7 :: x8 :: x9 :: x10 :: x11 :: x12 :: x13 :: x14 :: x15 :: o :: σ) H fun x H1 => nx (x0 :: x1 :: x2 :: x3 :: x4 :: x5 :: x6 :: x7 :: x8 :: x9 :: x10 :: x11 :: x12 :: x13 :: x14 :: x15 :: some x :: σ) H1) : tAsg te (gName 16) ⟨nx, rt, bk, ct⟩ (x0 :: x1 :: x2 :: x3 :: x4 :: x5 :: x6 :: x7 :: x8 :: x9 :: x10 :: x11 :: x12 :: x13 :: x14 :: x15 :: o :: σ) H := h
theorem w_gn16 {x0 x1 x2 x3 x4 x5 x6 x7 x8 x9 x10 x11 x12 x13 x14 x15 : Option V} {o : Option V} {σ : L2.St} {R : L2.St → Hp → Prop} (h : R (x0 :: x1 :: x2 :: x3 :: x4 :: x5 :: x6 :: x7 :: x8 :: x9 :: x10 :: x11 :: x12 :: x13 :: x14 :: x15 :: some v :: σ) H) : gName 16 v (x0 :: x1 :: x2 :: x3 :: x4 :: x5 :: x6 :: x7 :: x8 :: x9 :: x10 :: x11 :: x12 :: x13 :: x14 :: x15 :: o :: σ) H R := h
theorem w_aug16 {x0 x1 x2 x3 x4 x5 x6 x7 x8 x9 x10 x11 x12 x13 x14 x15 : Option V} {f : Int → Int → Int} {a : Int} {σ : L2.St} (h : te (x0 :: x1 :: x2 :: x3 :: x4 :: x5 :: x6 :: x7 :: x8 :: x9 :: x10 :: x11 :: x12 :: x13 :: x14 :: x15 :: some (.int a) :: σ) H fun y H1 => ∃ b, y = .int b ∧ nx (x0 :: x1 :: x2 :: x3 :: x4 :: x5 :: x6 :: x7 :: x8 :: x9 :: x10 :: x11 :: x12 :: x13 :: x14 :: x15 :: some (.int (f a b)) :: σ) H1) : tAug 16 te (ipI f) ⟨nx, rt, bk, ct⟩ (x0 :: x1 :: x2 :: x3 :: x4 :: x5 :: x6 :: x7 :: x8 :: x9 :: x10 :: x11 :: x12 :: x13 :: x14 :: x15 :: some (.int a) :: σ) H := w_aug (i := 16) rfl h
theorem w_var17 {x0 x1 x2 x3 x4 x5 x6 x7 x8 x9 x10 x11 x12 x13 x14 x15 x16 : Option V} {σ : L2.St} (q : Q v H) : tVar 17 (x0 :: x1 :: x2 :: x3 :: x4 :: x5 :: x6 :: x7 :: x8 :: x9 :: x10 :: x11 :: x12 :: x13 :: x14 :: x15 :: x16 :: some v :: σ) H Q := ⟨v, rfl, q⟩
theorem w_asg17 {x0 x1 x2 x3 x4 x5 x6 x7 x8 x9 x10 x11 x12 x13 x14 x15 x16 : Option V} {o : Option V} {σ : L2.St} (h : te (x0 :: x1 :: x2 :: x3 :: x4 :: x5 :: x6 :: x7 :: x8 :: x9 :: x10 :: x11 :: x12 :: x13 :: x14 :: x15 :: x16 :: o :: σ) H fun x H1 => nx (x0 :: x1 :: x2 :: x3 :: x4 :: x5 :: x6 :: x7 :: x8 :: x9 :: x10 :: x11 :: x12 :: x13 :: x14 :: x15 :: x16 :: some x :: σ) H1) : tAsg te (gName 17) ⟨nx, rt, bk, ct⟩ (x0 :: x1 :: x2 :: x3 :: x4 :: x5 :: x6 :: x7 :: x8 :: x9 :: x10 :: x11 :: x12 :: x13 :: x14 :: x15 :: x16 :: o :: σ) H := h
theorem w_gn17 {x0 x1 x2 x3 x4 x5 x6 x7 x8 x9 x10 x11 x12 x13 x14 x15 x16 : Option V} {o : Option V} {σ : L2.St} {R : L2.St → Hp → Prop} (h : R (x0 :: x1 :: x2 :: x3 :: x4 :: x5 :: x6 :: x7 :: x8 :: x9 :: x10 :: x11 :: x12 :: x13 :: x14 :: x15 :: x16 :: some v :: σ) H) : gName 17 v (x0 :: x1 :: x2 :: x3 :: x4 :: x5 :: x6 :: x7 :: x8 :: x9 :: x10 :: x11 :: x12 :: x13 :: x14 :: x15 :: x16 :: o :: σ) H R := h
theorem w_aug17 {x0 x1 x2 x3 x4 x5 x6 x7 x8 x9 x10 x11 x12 x13 x14 x15 x16 : Option V} {f : Int → Int → Int} {a : Int} {σ : L2.St} (h : te (x0 :: x1 :: x2 :: x3 :: x4 :: x5 :: x6 :: x7 :: x8 :: x9 :: x10 :: x11 :: x12 :: x13 :: x14 :: x15 :: x16 :: some (.int a) :: σ) H fun y H1 => ∃ b, y = .int b ∧ nx (x0 :: x1 :: x2 :: x3 :: x4 :: x5 :: x6 :: x7 :: x8 :: x9 :: x10 :: x11 :: x12 :: x13 :: x14 :: x15 :: x16 :: some (.int (f a b)) :: σ) H1) : tAug 17 te (ipI f) ⟨nx, rt, bk, ct⟩ (x0 :: x1 :: x2 :: x3 :: x4 :: x5 :: x6 :: x7 :: x8 :: x9 :: x10 :: x11 :: x12 :: x13 :: x14 :: x15 :: x16 :: some (.int a) :: σ) H := w_aug (i := 17) rfl h
theorem w_var18 {x0 x1 x2 x3 x4 x5 x6 x7 x8 x9 x10 x11 x12 x13 x14 x15 x16 x17 : Option V} {σ : L2.St} (q : Q v H) : tVar 18 (x0 :: x1 :: x2 :: x3 :: x4 :: x5 :: x6 :: x7 :: x8 :: x9 :: x10 :: x11 :: x12 :: x13 :: x14 :: x15 :: x16 :: x17 :: some v :: σ) H Q := ⟨v, rfl, q⟩
theorem w_asg18 {x0 x1 x2 x3 x4 x5 x6 x7 x8 x9 x10 x11 x12 x13 x14 x15 x16 x17 : Option V} {o : Option V} {σ : L2.St} (h : te (x0 :: x1 :: x2 :: x3 :: x4 :: x5 :: x6 :: x7 :: x8 :: x9 :: x10 :: x11 :: x12 :: x13 :: x14 :: x15 :: x16 :: x17 :: o :: σ) H fun x H1 => nx (x0 :: x1 :: x2 :: x3 :: x4 :: x5 :: x6 :: x7 :: x8 :: x9 :: x10 :: x11 :: x12 :: x13 :: x14 :: x15 :: x16 :: x17 :: some x :: σ) H1) : tAsg te (gName 18) ⟨nx, rt, bk, ct⟩ (x0 :: x1 :: x2 :: x3 :: x4 :: x5 :: x6 :: x7 :: x8 :: x9 :: x10 :: x11 :: x12 :: x13 :: x14 :: x15 :: x16 :: x17 :: o :: σ) H := h
theorem w_gn18 {x0 x1 x2 x3 x4 x5 x6 x7 x8 x9 x10 x11 x12 x13 x14 x15 x16 x17 : Option V} {o : Option V} {σ : L2.St} {R : L2.St → Hp → Prop} (h : R (x0 :: x1 :: x2 :: x3 :: x4 :: x5 :: x6 :: x7 :: x8 :: x9 :: x10 :: x11 :: x12 :: x13 :: x14 :: x15 :: x16 :: x17 :: some v :: σ) H) : gName 18 v (x0 :: x1 :: x2 :: x3 :: x4 :: x5 :: x6 :: x7 :: x8 :: x9 :: x10 :: x11 :: x12 :: x13 :: x14 :: x15 :: x16 :: x17 :: o :: σ) H R := h
theorem w_aug18 {x0 x1 x2 x3 x4 x5 x6 x7 x8 x9 x10 x11 x12 x13 x14 x15 x16 x17 : Option V} {f : Int → Int → Int} {a : Int} {σ : L2.St} (h : te (x0 :: x1 :: x2 :: x3 :: x4 :: x5 :: x6 :: x7 :: x8 :: x9 :: x10 :: x11 :: x12 :: x13 :: x14 :: x15 :: x16 :: x17 :: some (.int a) :: σ) H fun y H1 => ∃ b, y = .int b ∧ nx (x0 :: x1 :: x2 :: x3 :: x4 :: x5 :: x6 :: x7 :: x8 :: x9 :: x10 :: x11 :: x12 :: x13 :: x14 :: x15 :: x16 :: x17 :: some (.int (f a b)) :: σ) H1) : tAug 18 te (ipI f) ⟨nx, rt, bk, ct⟩ (x0 :: x1 :: x2 :: x3 :: x4 :: x5 :: x6 :: x7 :: x8 :: x9 :: x10 :: x11 :: x12 :: x13 :: x14 :: x15 :: x16 :: x17 :: some (.int a) :: σ) H := w_aug (i := 18) rfl h
theorem w_var19 {x0 x1 x2 x3 x4 x5 x6 x7 x8 x9 x10 x11 x12 x13 x14 x15 x16 x17 x18 : Option V} {σ : L2.St} (q : Q v H) : tVar 19 (x0 :: x1 :: x2 :: x3 :: x4 :: x5 :: x6 :: x7 :: x8 :: x9 :: x10 :: x11 :: x12 :: x13 :: x14 :: x15 :: x16 :: x17 :: x18 :: some v :: σ) H Q := ⟨v, rfl, q⟩
theorem w_asg19 {x0 x1 x2 x3 x4 x5 x6 x7 x8 x9 x10 x11 x12 x13 x14 x15 x16 x17 x18 : Option V} {o : Option V} {σ : L2.St} (h : te (x0 :: x1 :: x2 :: x3 :: x4 :: x5 :: x6 :: x7 :: x8 :: x9 :: x10 :: x11 :: x12 :: x13 :: x14 :: x15 :: x16 :: x17 :: x18 :: o :: σ) H fun x H1 => nx (x0 :: x1 :: x2 :: x3 :: x4 :: x5 :: x6 :: x7 :: x8 :: x9 :: x10 :: x11 :: x12 :: x13 :: x14 :: x15 :: x16 :: x17 :: x18 :: some x :: σ) H1) : tAsg te (gName 19) ⟨nx, rt, bk, ct⟩ (x0 :: x1 :: x2 :: x3 :: x4 :: x5 :: x6 :: x7 :: x8 :: x9 :: x10 :: x11 :: x12 :: x13 :: x14 :: x15 :: x16 :: x17 :: x18 :: o :: σ) H := h
theorem w_gn19 {x0 x1 x2 x3 x4 x5 x6 x7 x8 x9 x10 x11 x12 x13 x14 x15 x16 x17 x18 : Option V} {o : Option V} {σ : L2.St} {R : L2.St → Hp → Prop} (h : R (x0 :: x1 :: x2 :: x3 :: x4 :: x5 :: x6 :: x7 :: x8 :: x9 :: x10 :: x11 :: x12 :: x13 :: x14 :: x15 :: x16 :: x17 :: x18 :: some v :: σ) H) : gName 19 v (x0 :: x1 :: x2 :: x3 :: x4 :: x5 :: x6 :: x7 :: x8 :: x9 :: x10 :: x11 :: x12 :: x13 :: x14 :: x15 :: x16 :: x17 :: x18 :: o :: σ) H R := h
theorem w_aug19 {x0 x1 x2 x3 x4 x5 x6 x7 x8 x9 x10 x11 x12 x13 x14 x15 x16 x17 x18 : Option V} {f : Int → Int → Int} {a : Int} {σ : L2.St} (h : te (x0 :: x1 :: x2 :: x3 :: x4 :: x5 :: x6 :: x7 :: x8 :: x9 :: x10 :: x11 :: x12 :: x13 :: x14 :: x15 :: x16 :: x17 :: x18 :: some (.int a) :: σ) H fun y H1 => ∃ b, y = .int b ∧ nx (x0 :: x1 :: x2 :: x3 :: x4 :: x5 :: x6 :: x7 :: x8 :: x9 :: x10 :: x11 :: x12 :: x13 :: x14 :: x15 :: x16 :: x17 :: x18 :: some (.int (f a b)) :: σ) H1) : tAug 19 te (ipI f) ⟨nx, rt, bk, ct⟩ (x0 :: x1 :: x2 :: x3 :: x4 :: x5 :: x6 :: x7 :: x8 :: x9 :: x10 :: x11 :: x12 :: x13 :: x14 :: x15 :: x16 :: x17 :: x18 :: some (.int a) :: σ) H := w_aug (i := 19) rfl h
theorem cut {P : L2.St → Hp → Prop} {σ0 : L2.St} (σ : L2.St) (e : σ0 = σ) (h : P σ H) : P σ0 H := by
  rw [e]
  exact h
end
section
variable {nx bk ct : L2.St → Hp → Prop} {rt : VK} {t u tb : TS} {σ : L2.St} {H F0 H0 F : Hp} {L : List (Addr × HO)} {C : List Ck} {te ta tc : TE} {tA : TA} {Q : VK} {v x y : V} {g : TG} {K : PySem.W.Frag} {a : Addr} {xs : List V} {l m : List Nat} {i : Int} {c : Nat}
theorem isVar {i : Nat} (h : tVar i σ H Q) : tVar i σ H Q := h
theorem isAsg {i : Nat} {D : Ends} (h : tAsg te (gName i) D σ H) : tAsg te (gName i) D σ H := h
theorem isGn {i : Nat} {R : L2.St → Hp → Prop} (h : gName i v σ H R) : gName i v σ H R := h
theorem isAug {i : Nat} {f : Int → Int → Int} {D : Ends} (h : tAug i te (ipI f) D σ H) : tAug i te (ipI f) D σ H := h
theorem w_abs (q : Q (.int (i.natAbs : Nat)) H) : rAbs [.int i] H Q := ⟨i, rfl, q⟩
theorem w_toint (q : Q (.int i) H) : rInt [.int i] H Q := ⟨i, rfl, q⟩
theorem w_tointB {b : Bool} (q : Q (.int (if b then 1 else 0)) H) : rIntB [.bl b] H Q := ⟨b, rfl, q⟩
theorem w_lenS (q : Q (.int (l.length : Nat)) H) (hz : l.length ≤ sizeLine) : rLenS [vS l] H Q := ⟨l, rfl, hz, q⟩
theorem w_addS (q : Q (vS (l ++ m)) H) (hz : l.length + m.length ≤ sizeLine) : rAddS (vS l) (vS m) H Q := ⟨l, m, rfl, rfl, hz, q⟩
theorem w_ixS (q : Q (vS [c]) H) (ha : atI l i = some c) (hz : l.length ≤ sizeLine) : rIxSg (vS l) (.int i) H Q := ⟨l, i, c, rfl, rfl, hz, ha, q⟩
theorem w_mulS (q : Q (vS (List.replicate i.toNat l).flatten) H) (h : 0 ≤ i ∧ i < 2 ^ 30) (hz : l.length * i.toNat ≤ sizeLine) : rMulS (vS l) (.int i) H Q := ⟨l, i, rfl, rfl, h.1, h.2, hz, q⟩
theorem w_slS {lo hi : Option Int} (q : Q (vS (cutN l lo hi)) H) (hz : l.length ≤ sizeLine) : rSlSg (vS l) lo hi H Q := ⟨l, rfl, hz, q⟩
theorem w_sl {r : V → Option Int → Option Int → Hp → VK → Prop} {tl th : TO} (h : te σ H fun x H1 => tl σ H1 fun lo H2 => th σ H2 fun hi H3 => r x lo hi H3 Q) : tSl r te tl th σ H Q := h
theorem w_noP {R : Option Int → Hp → Prop} (h : R none H) : tNoPart σ H R := h
theorem w_part {R : Option Int → Hp → Prop} (h : te σ H fun x H1 => ∃ i, x = .int i ∧ R (some i) H1) : tPart te σ H R := h
theorem w_ixL (q : Q v H) (hs : SqL K H a xs) (ha : atI xs i = some v) : rIxL K (.ref a) (.int i) H Q := ⟨a, xs, i, v, rfl, rfl, hs, ha, q⟩
theorem w_ixT (q : Q v H) (hs : SqT K H a xs) (ha : atI xs i = some v) : rIxT K (.ref a) (.int i) H Q := ⟨a, xs, i, v, rfl, rfl, hs, ha, q⟩
theorem w_lenL (q : Q (.int (xs.length : Nat)) H) (hs : SqL K H a xs) : rLenQ K [.ref a] H Q := ⟨a, xs, rfl, .inl hs, q⟩
theorem w_lenT (q : Q (.int (xs.length : Nat)) H) (hs : SqT K H a xs) : rLenQ K [.ref a] H Q := ⟨a, xs, rfl, .inr hs, q⟩
def NewL (xs : List V) (H : Hp) (Q : VK) : Prop := xs.length ≤ sizeLine ∧ ∀ p, H p = none → Q (.ref p) (upd H p (.lst xs))
def NewT (xs : List V) (H : Hp) (Q : VK) : Prop := xs.length ≤ sizeLine ∧ ∀ p, H p = none → Q (.ref p) (upd H p (.tup xs))
theorem w_lst (h : tA σ H fun xs H1 => NewL xs H1 Q) : tLst tA σ H Q := h
theorem w_tup (h : tA σ H fun xs H1 => NewT xs H1 Q) : tTup tA σ H Q := h
theorem w_newL (O : Own F0 H0 F H L C) (k : ∀ p H', Own F0 H0 F H' ((p, .lst xs) :: L) C → Q (.ref p) H') (hz : xs.length ≤ sizeLine) : NewL xs H Q := ⟨hz, fun p np => k p _ (O.alloc np _)⟩
theorem w_newT (O : Own F0 H0 F H L C) (k : ∀ p F' H', Own F0 H0 F' H' L (cO p (.tup xs) :: C) → Q (.ref p) H') (hz : xs.length ≤ sizeLine) : NewT xs H Q := ⟨hz, fun p np => k p _ _ (O.ice np _)⟩
theorem w_bm {T : String} {r : V → List V → Hp → VK → Prop} {to : TE} (h : to σ H fun x H1 => tyV K T x H1 ∧ tA σ H1 fun vs H2 => r x vs H2 Q) : tBM K T r to tA σ H Q := h
theorem w_bm0 {T : String} {r : V → List V → Hp → VK → Prop} {to : TE} (h : to σ H fun x H1 => tyV K T x H1 ∧ r x [] H1 Q) : tBM0 K T r to σ H Q := h
theorem w_tyL {P : Prop} (h : P) (hs : SqL K H a xs) : tyV K "list" (.ref a) H ∧ P := ⟨.inl ⟨rfl, _, hs⟩, h⟩
theorem w_app {j : Nat} (O : Own F0 H0 F H L C) (hi : L[j]? = some (a, .lst xs)) (k : ∀ H', Own F0 H0 F H' (L.set j (a, .lst (xs ++ [v]))) C → Q .non H') (hz : xs.length < sizeLine) : rAppend (.ref a) [v] H Q :=
  ⟨a, xs, v, rfl, rfl, O.at_ j hi, hz, k _ (O.set j hi _)⟩
theorem w_app0 (O : Own F0 H0 F H ((a, .lst xs) :: L) C) (k : ∀ H', Own F0 H0 F H' ((a, .lst (xs ++ [v])) :: L) C → Q .non H') (hz : xs.length < sizeLine) : rAppend (.ref a) [v] H Q := w_app (j := 0) O rfl k hz
theorem w_app1 {q : Addr × HO} (O : Own F0 H0 F H (q :: (a, .lst xs) :: L) C) (k : ∀ H', Own F0 H0 F H' (q :: (a, .lst (xs ++ [v])) :: L) C → Q .non H') (hz : xs.length < sizeLine) : rAppend (.ref a) [v] H Q := w_app (j := 1) O rfl k hz
theorem w_app2 {q q' : Addr × HO} (O : Own F0 H0 F H (q :: q' :: (a, .lst xs) :: L) C) (k : ∀ H', Own F0 H0 F H' (q :: q' :: (a, .lst (xs ++ [v])) :: L) C → Q .non H') (hz : xs.length < sizeLine) : rAppend (.ref a) [v] H Q := w_app (j := 2) O rfl k hz
/-! loops -/
def LoopEnd (J : It) (g : TG) (tb : TS) (D : Ends) (σ : L2.St) (H : Hp) : Prop := ∃ W : Nat → Nat → L2.St → Hp → Prop, (∃ m, W 0 m σ H) ∧ ∀ i m σ H, W i m σ H →
  (J.stop i H ∧ D.nx σ H) ∨ (J.go i H ∧ ∃ N : L2.St → Hp → Prop, (∀ σ' H', N σ' H' → ∃ m', m' < m ∧ W (i + 1) m' σ' H') ∧ ∀ x H', J.yld i H x H' → g x σ H' fun σ2 H2 => tb { D with nx := N, ct := N, bk := D.nx } σ2 H2)
theorem w_for {wi : TI} (h : wi σ H fun J H1 => LoopEnd J g tb ⟨nx, rt, bk, ct⟩ σ H1) : tFor wi g tb ⟨nx, rt, bk, ct⟩ σ H := h
def Rg1 (vs : List V) (H : Hp) (R : It → Hp → Prop) : Prop := ∃ j : Int, vs = [.int j] ∧ -(2 ^ 62) ≤ j ∧ j < 2 ^ 62 ∧ R (Itr 0 j.toNat) H
theorem w_iRng1 {R : It → Hp → Prop} (h : tA σ H fun vs H1 => Rg1 vs H1 R) : iRng1 tA σ H R := h
theorem w_rg1 {n : Int} (hn : -(2 ^ 62) ≤ n ∧ n < 2 ^ 62) (Pv : Nat → L2.St → Hp → Prop) (h0 : Pv 0 σ H)
    (hs : ∀ (i : Nat) σ' H', (i : Int) < n → Pv i σ' H' → g (.int (i : Nat)) σ' H' fun σ2 H2 => tb ⟨Pv (i + 1), rt, nx, Pv (i + 1)⟩ σ2 H2) (hd : ∀ σ' H', Pv n.toNat σ' H' → nx σ' H') :
    Rg1 [.int n] H fun J H1 => LoopEnd J g tb ⟨nx, rt, bk, ct⟩ σ H1 := by
  refine ⟨n, rfl, hn.1, hn.2, for_range (lo := 0) (n := n.toNat) (D := ⟨nx, rt, bk, ct⟩) Pv h0 (fun i σ' H' hi p => ?_) hd⟩
  have q := hs i σ' H' (by omega) p
  rw [show (0 : Int) + (i : Int) = (i : Int) from Int.zero_add _]
  exact q
def Rg2 (vs : List V) (H : Hp) (R : It → Hp → Prop) : Prop := ∃ i j : Int, vs = [.int i, .int j] ∧ (-(2 ^ 62) ≤ i ∧ i < 2 ^ 62 ∧ -(2 ^ 62) ≤ j ∧ j < 2 ^ 62) ∧ R (Itr i (j - i).toNat) H
theorem w_iRng2 {R : It → Hp → Prop} (h : tA σ H fun vs H1 => Rg2 vs H1 R) : iRng2 tA σ H R := h
theorem w_rg2 {b n : Int} (hn : -(2 ^ 62) ≤ b ∧ b < 2 ^ 62 ∧ -(2 ^ 62) ≤ n ∧ n < 2 ^ 62) (Pv : Nat → L2.St → Hp → Prop) (h0 : Pv 0 σ H)
    (hs : ∀ (i : Nat) σ' H', b + (i : Int) < n → Pv i σ' H' → g (.int (b + (i : Nat))) σ' H' fun σ2 H2 => tb ⟨Pv (i + 1), rt, nx, Pv (i + 1)⟩ σ2 H2) (hd : ∀ σ' H', Pv (n - b).toNat σ' H' → nx σ' H') :
    Rg2 [.int b, .int n] H fun J H1 => LoopEnd J g tb ⟨nx, rt, bk, ct⟩ σ H1 :=
  ⟨b, n, rfl, hn, for_range (lo := b) (n := (n - b).toNat) (D := ⟨nx, rt, bk, ct⟩) Pv h0 (fun i σ' H' hi p => hs i σ' H' (by omega) p) hd⟩
def Rg3 (vs : List V) (H : Hp) (R : It → Hp → Prop) : Prop := ∃ (i j c : Int) (n : Nat), vs = [.int i, .int j, .int c] ∧ RgC i j c n ∧ R (Itc i c n) H
theorem w_iRng3 {R : It → Hp → Prop} (h : tA σ H fun vs H1 => Rg3 vs H1 R) : iRng3 tA σ H R := h
theorem w_rg3 {b e c : Int} {n : Nat} (hn : RgC b e c n) (Pv : Nat → L2.St → Hp → Prop) (h0 : Pv 0 σ H)
    (hs : ∀ (i : Nat) σ' H', i < n → Pv i σ' H' → g (.int (b + (i : Nat) * c)) σ' H' fun σ2 H2 => tb ⟨Pv (i + 1), rt, nx, Pv (i + 1)⟩ σ2 H2) (hd : ∀ σ' H', Pv n σ' H' → nx σ' H') :
    Rg3 [.int b, .int e, .int c] H fun J H1 => LoopEnd J g tb ⟨nx, rt, bk, ct⟩ σ H1 :=
  ⟨b, e, c, n, rfl, hn, for_rangeC (lo := b) (c := c) (n := n) (D := ⟨nx, rt, bk, ct⟩) Pv h0 (fun i σ' H' hi p => hs i σ' H' hi p) hd⟩
def FoL (K : PySem.W.Frag) (x : V) (H : Hp) (R : It → Hp → Prop) : Prop := ∃ a, x = .ref a ∧ (∃ xs, SqL K H a xs) ∧ R (Itl K a) H
theorem w_iList {R : It → Hp → Prop} (h : te σ H fun x H1 => FoL K x H1 R) : iList K te σ H R := h
theorem w_foL (Pv : Nat → L2.St → Hp → Prop) (hx : SqL K H a xs) (h0 : Pv 0 σ H) (hl : ∀ i σ' H', i ≤ xs.length → Pv i σ' H' → SqL K H' a xs)
    (hs : ∀ (i : Nat) x σ' H', xs[i]? = some x → Pv i σ' H' → g x σ' H' fun σ2 H2 => tb ⟨Pv (i + 1), rt, nx, Pv (i + 1)⟩ σ2 H2) (hd : ∀ σ' H', Pv xs.length σ' H' → nx σ' H') :
    FoL K (.ref a) H fun J H1 => LoopEnd J g tb ⟨nx, rt, bk, ct⟩ σ H1 :=
  ⟨a, rfl, ⟨xs, hx⟩, for_list (D := ⟨nx, rt, bk, ct⟩) Pv h0 hl (fun i x σ' H' hi p => hs i x σ' H' hi p) hd⟩
def FoT (K : PySem.W.Frag) (x : V) (H : Hp) (R : It → Hp → Prop) : Prop := ∃ a, x = .ref a ∧ (∃ xs, SqT K H a xs) ∧ R (Itt K a) H
theorem w_iTup {R : It → Hp → Prop} (h : te σ H fun x H1 => FoT K x H1 R) : iTup K te σ H R := h
theorem w_foT (Pv : Nat → L2.St → Hp → Prop) (hx : SqT K H a xs) (h0 : Pv 0 σ H) (hl : ∀ i σ' H', i ≤ xs.length → Pv i σ' H' → SqT K H' a xs)
    (hs : ∀ (i : Nat) x σ' H', xs[i]? = some x → Pv i σ' H' → g x σ' H' fun σ2 H2 => tb ⟨Pv (i + 1), rt, nx, Pv (i + 1)⟩ σ2 H2) (hd : ∀ σ' H', Pv xs.length σ' H' → nx σ' H') :
    FoT K (.ref a) H fun J H1 => LoopEnd J g tb ⟨nx, rt, bk, ct⟩ σ H1 :=
  ⟨a, rfl, ⟨xs, hx⟩, for_tup (D := ⟨nx, rt, bk, ct⟩) Pv h0 hl (fun i x σ' H' hi p => hs i x σ' H' hi p) hd⟩
def FoS (x : V) (H : Hp) (R : It → Hp → Prop) : Prop := ∃ z, x = .str z ∧ R (Its z) H
theorem w_iStr {R : It → Hp → Prop} (h : te σ H fun x H1 => FoS x H1 R) : iStr te σ H R := h
theorem w_foS (Pv : Nat → L2.St → Hp → Prop) (h0 : Pv 0 σ H)
    (hs : ∀ (i : Nat) (c : Nat) σ' H', l[i]? = some c → Pv i σ' H' → g (vS [c]) σ' H' fun σ2 H2 => tb ⟨Pv (i + 1), rt, nx, Pv (i + 1)⟩ σ2 H2) (hd : ∀ σ' H', Pv l.length σ' H' → nx σ' H') :
    FoS (vS l) H fun J H1 => LoopEnd J g tb ⟨nx, rt, bk, ct⟩ σ H1 := by
  refine ⟨S l, rfl, fun i k σ' H' => k = l.length - i ∧ i ≤ l.length ∧ Pv i σ' H', ⟨l.length, by simp, Nat.zero_le _, h0⟩, ?_⟩
  rintro i k σ' H' ⟨rfl, hi, p⟩
  have hsz : (S l).cps.size = l.length := by simp [S]
  by_cases hlt : i < l.length
  · refine .inr ⟨by show i < (S l).cps.size; rw [hsz]; exact hlt, Pv (i + 1), fun σ2 H2 p' => ⟨l.length - (i + 1), by omega, rfl, hlt, p'⟩, ?_⟩
    rintro x H2 ⟨rfl, c, hc, rfl⟩
    refine hs i c σ' _ ?_ p
    simpa [S] using hc
  · have e : i = l.length := by omega
    subst e
    exact .inl ⟨by show (S l).cps.size ≤ l.length; rw [hsz]; exact Nat.le_refl _, hd _ _ p⟩
def FoR (K : PySem.W.Frag) (vs : List V) (H : Hp) (R : It → Hp → Prop) : Prop := ∃ (a : Addr) (xs : List V), vs = [.ref a] ∧ SqL K H a xs ∧ R (Itv K a xs.length) H
theorem w_iRev {R : It → Hp → Prop} (h : tA σ H fun vs H1 => FoR K vs H1 R) : iRev K tA σ H R := h
/-- i: the turns done; the item is the one at length - 1 - i -/
theorem w_foR (Pv : Nat → L2.St → Hp → Prop) (hx : SqL K H a xs) (h0 : Pv 0 σ H) (hl : ∀ i σ' H', Pv i σ' H' → SqL K H' a xs)
    (hs : ∀ (i : Nat) x σ' H', i < xs.length → xs[xs.length - 1 - i]? = some x → Pv i σ' H' → g x σ' H' fun σ2 H2 => tb ⟨Pv (i + 1), rt, nx, Pv (i + 1)⟩ σ2 H2) (hd : ∀ σ' H', Pv xs.length σ' H' → nx σ' H') :
    FoR K [.ref a] H fun J H1 => LoopEnd J g tb ⟨nx, rt, bk, ct⟩ σ H1 := by
  refine ⟨a, xs, rfl, hx, fun i k σ' H' => k = xs.length - i ∧ i ≤ xs.length ∧ Pv i σ' H', ⟨xs.length, by simp, Nat.zero_le _, h0⟩, ?_⟩
  rintro i k σ' H' ⟨rfl, hi, p⟩
  by_cases hlt : i < xs.length
  · have hs1 : SqL K H' a xs := hl i σ' H' p
    have hg : xs[xs.length - 1 - i]? = some (xs[xs.length - 1 - i]'(by omega)) := List.getElem?_eq_getElem (by omega)
    refine .inr ⟨⟨hlt, xs, _, hs1, hg⟩, Pv (i + 1), fun σ2 H2 p' => ⟨xs.length - (i + 1), by omega, rfl, hlt, p'⟩, ?_⟩
    rintro x H2 ⟨rfl, hx2⟩
    exact hs i x σ' _ hlt (hx2 xs hs1) p
  · have e : i = xs.length := by omega
    subst e
    exact .inl ⟨Nat.le_refl _, hd _ _ p⟩
def FoE (K : PySem.W.Frag) (vs : List V) (H : Hp) (R : It → Hp → Prop) : Prop := ∃ (a : Addr) (xs : List V), vs = [.ref a] ∧ SqL K H a xs ∧ R (Ite K a) H
theorem w_iEnum {R : It → Hp → Prop} (h : tA σ H fun vs H1 => FoE K vs H1 R) : iEnum K tA σ H R := h
theorem w_foE (Pv : Nat → L2.St → Hp → Prop) (hx : SqL K H a xs) (h0 : Pv 0 σ H) (hl : ∀ i σ' H', Pv i σ' H' → SqL K H' a xs)
    (hs : ∀ (i : Nat) x σ' H' T, xs[i]? = some x → Pv i σ' H' → H' T = none → g (.ref T) σ' (upd H' T (.tup [.int (i : Nat), x])) fun σ2 H2 => tb ⟨Pv (i + 1), rt, nx, Pv (i + 1)⟩ σ2 H2) (hd : ∀ σ' H', Pv xs.length σ' H' → nx σ' H') :
    FoE K [.ref a] H fun J H1 => LoopEnd J g tb ⟨nx, rt, bk, ct⟩ σ H1 := by
  refine ⟨a, xs, rfl, hx, fun i k σ' H' => k = xs.length - i ∧ i ≤ xs.length ∧ Pv i σ' H', ⟨xs.length, by simp, Nat.zero_le _, h0⟩, ?_⟩
  rintro i k σ' H' ⟨rfl, hi, p⟩
  have hs1 : SqL K H' a xs := hl i σ' H' p
  by_cases hlt : i < xs.length
  · refine .inr ⟨⟨xs, _, hs1, List.getElem?_eq_getElem hlt⟩, Pv (i + 1), fun σ2 H2 p' => ⟨xs.length - (i + 1), by omega, rfl, hlt, p'⟩, ?_⟩
    rintro v H2 ⟨T, x, rfl, nT, rfl, hx2⟩
    exact hs i x σ' H' T (hx2 xs hs1) p nT
  · have e : i = xs.length := by omega
    subst e
    exact .inl ⟨⟨xs, hs1, Nat.le_refl _⟩, hd _ _ p⟩
/-- while: Pv with a number that falls -/
theorem w_while (Pv : Nat → L2.St → Hp → Prop) (m0 : Nat) (h0 : Pv m0 σ H) {c : TT}
    (hs : ∀ m σ' H', Pv m σ' H' → c σ' H' fun b H1 => if b = true then tb ⟨fun σ2 H2 => ∃ m', m' < m ∧ Pv m' σ2 H2, rt, nx, fun σ2 H2 => ∃ m', m' < m ∧ Pv m' σ2 H2⟩ σ' H1 else nx σ' H1)
    (mono : ∀ σ H (Q Q' : Bool → Hp → Prop), (∀ b H1, Q b H1 → Q' b H1) → c σ H Q → c σ H Q') : tWhile c tb ⟨nx, rt, bk, ct⟩ σ H := by
  refine ⟨Pv, ⟨m0, h0⟩, fun m σ' H' p => mono σ' H' _ _ (fun b H1 q => ?_) (hs m σ' H' p)⟩
  cases b with
  | true => exact ⟨_, fun _ _ z => z, q⟩
  | false => exact q
/-! comprehensions -/
def LcEnd (J : It) (g : TG) (tt : TT) (te : TE) (vs : List Nat) (σ : L2.St) (H1 : Hp) (Q : VK) : Prop := ∀ D, H1 D = none → ∃ W : Nat → Nat → Hp → Prop, (∃ m, W 0 m (upd H1 D (.lst []))) ∧ ∀ i m H, W i m H →
  (J.stop i H ∧ Q (.ref D) H) ∨ (J.go i H ∧ ∃ Nx : Hp → Prop, (∀ H', Nx H' → ∃ m', m' < m ∧ W (i + 1) m' H') ∧ ∀ x H', J.yld i H x H' → g x (wipe σ vs) H' fun σ2 H2 => wipe σ2 vs = wipe σ vs ∧ tt σ2 H2 fun b H3 =>
    if b = true then te σ2 H3 fun y H4 => ∃ acc, H4 D = some (.lst acc) ∧ acc.length < sizeLine ∧ Nx (upd H4 D (.lst (acc ++ [y]))) else Nx H3)
theorem w_lc {wi : TI} {tt : TT} {vs : List Nat} (h : wi σ H fun J H1 => LcEnd J g tt te vs σ H1 Q) : tLc wi g tt te vs σ H Q := h
/-- the item is put behind the list at D -/
def Put (D : Addr) (N : Hp → Prop) (y : V) (H4 : Hp) : Prop := ∃ acc, H4 D = some (.lst acc) ∧ acc.length < sizeLine ∧ N (upd H4 D (.lst (acc ++ [y])))
/-- what holds between two turns of a comprehension -/
def Btw (F0 H0 F : Hp) (L : List (Addr × HO)) (C : List Ck) (D : Addr) (Iv : List V → Hp → Prop) (H' : Hp) : Prop := ∃ F' acc, Own F0 H0 F' H' ((D, .lst acc) :: L) C ∧ Same F F' ∧ Iv acc F'
theorem w_put {Iv : List V → Hp → Prop} {D : Addr} {acc : List V} {F1 : Hp} (O : Own F0 H0 F1 H ((D, .lst acc) :: L) C) (sF : Same F F1) (hI : Iv (acc ++ [y]) F1) (hz : acc.length < sizeLine) : Put D (Btw F0 H0 F L C D Iv) y H :=
  ⟨acc, O.at_ 0, hz, F1, _, O.set 0 rfl _, sF, hI⟩
theorem w_skip {Iv : List V → Hp → Prop} {D : Addr} {acc : List V} {F1 : Hp} (O : Own F0 H0 F1 H ((D, .lst acc) :: L) C) (sF : Same F F1) (hI : Iv acc F1) : Btw F0 H0 F L C D Iv H := ⟨F1, acc, O, sF, hI⟩
theorem w_yes {Q : Bool → Hp → Prop} (h : Q true H) : tYes σ H Q := h
theorem w_iteT {A B : Prop} (h : A) : if true = true then A else B := by rw [if_pos rfl]; exact h
theorem w_iteF {A B : Prop} (h : B) : if false = true then A else B := by rw [if_neg Bool.false_ne_true]; exact h
theorem lc_any {J : It} {tt : TT} {vs : List Nat} (n : Nat) (Y : Nat → V → Prop) (O : Own F0 H0 F H L C) (Iv : Nat → List V → Hp → Prop) (h0 : Iv 0 [] F)
    (go : ∀ i H' F' acc D, i < n → Own F0 H0 F' H' ((D, .lst acc) :: L) C → Same F F' → J.go i H') (stop : ∀ H' F' acc D, Own F0 H0 F' H' ((D, .lst acc) :: L) C → Same F F' → J.stop n H')
    (yld : ∀ i x H' H2 F' acc D, i < n → Own F0 H0 F' H' ((D, .lst acc) :: L) C → Same F F' → J.yld i H' x H2 → H2 = H' ∧ Y i x)
    (turn : ∀ (i : Nat) x acc D F' H', i < n → Y i x → Iv i acc F' → Same F F' → Own F0 H0 F' H' ((D, .lst acc) :: L) C → g x (wipe σ vs) H' fun σ2 H2 => wipe σ2 vs = wipe σ vs ∧ tt σ2 H2 fun b H3 =>
      if b = true then te σ2 H3 (Put D (Btw F0 H0 F L C D (Iv (i + 1)))) else Btw F0 H0 F L C D (Iv (i + 1)) H3)
    (done : ∀ acc D F' H', Iv n acc F' → Same F F' → Own F0 H0 F' H' ((D, .lst acc) :: L) C → Q (.ref D) H') :
    LcEnd J g tt te vs σ H Q := by
  intro D hD
  refine ⟨fun i k H' => k = n - i ∧ i ≤ n ∧ Btw F0 H0 F L C D (Iv i) H', ⟨n, by omega, Nat.zero_le _, F, [], O.alloc hD _, Same.refl _, h0⟩, ?_⟩
  rintro i k H' ⟨rfl, hi, F', acc, O', sF, hI⟩
  by_cases hlt : i < n
  · refine .inr ⟨go i H' F' acc D hlt O' sF, Btw F0 H0 F L C D (Iv (i + 1)), fun H2 p' => ⟨n - (i + 1), by omega, rfl, hlt, p'⟩, fun x H2 hy => ?_⟩
    obtain ⟨rfl, hY⟩ := yld i x H' H2 F' acc D hlt O' sF hy
    exact turn i x acc D F' _ hlt hY hI sF O'
  · have e : i = n := by omega
    subst e
    exact .inl ⟨stop H' F' acc D O' sF, done acc D F' H' hI sF O'⟩
/-- [te for x in xs], xs a list that the frozen part or another own object holds -/
theorem w_lcL {tt : TT} {vs : List Nat} (O : Own F0 H0 F H L C) (hx : SqL K H a xs) (hl : ∀ {F' H' acc D}, Own F0 H0 F' H' ((D, .lst acc) :: L) C → Same F F' → SqL K H' a xs) (Iv : Nat → List V → Hp → Prop) (h0 : Iv 0 [] F)
    (turn : ∀ (i : Nat) x acc D F' H', xs[i]? = some x → Iv i acc F' → Same F F' → Own F0 H0 F' H' ((D, .lst acc) :: L) C → g x (wipe σ vs) H' fun σ2 H2 => wipe σ2 vs = wipe σ vs ∧ tt σ2 H2 fun b H3 =>
      if b = true then te σ2 H3 (Put D (Btw F0 H0 F L C D (Iv (i + 1)))) else Btw F0 H0 F L C D (Iv (i + 1)) H3)
    (done : ∀ acc D F' H', Iv xs.length acc F' → Same F F' → Own F0 H0 F' H' ((D, .lst acc) :: L) C → Q (.ref D) H') :
    FoL K (.ref a) H fun J H1 => LcEnd J g tt te vs σ H1 Q := by
  refine ⟨a, rfl, ⟨xs, hx⟩, lc_any xs.length (fun i x => xs[i]? = some x) O Iv h0 (fun i H' F' acc D hi O' sF => ?_) (fun H' F' acc D O' sF => ⟨xs, hl O' sF, Nat.le_refl _⟩) (fun i x H' H2 F' acc D hi O' sF hy => ⟨hy.1, hy.2 xs (hl O' sF)⟩) (fun i x acc D F' H' _ hY => turn i x acc D F' H' hY) done⟩
  exact ⟨xs, _, hl O' sF, List.getElem?_eq_getElem hi⟩
theorem w_lcT {tt : TT} {vs : List Nat} (O : Own F0 H0 F H L C) (hx : SqT K H a xs) (hl : ∀ {F' H' acc D}, Own F0 H0 F' H' ((D, .lst acc) :: L) C → Same F F' → SqT K H' a xs) (Iv : Nat → List V → Hp → Prop) (h0 : Iv 0 [] F)
    (turn : ∀ (i : Nat) x acc D F' H', xs[i]? = some x → Iv i acc F' → Same F F' → Own F0 H0 F' H' ((D, .lst acc) :: L) C → g x (wipe σ vs) H' fun σ2 H2 => wipe σ2 vs = wipe σ vs ∧ tt σ2 H2 fun b H3 =>
      if b = true then te σ2 H3 (Put D (Btw F0 H0 F L C D (Iv (i + 1)))) else Btw F0 H0 F L C D (Iv (i + 1)) H3)
    (done : ∀ acc D F' H', Iv xs.length acc F' → Same F F' → Own F0 H0 F' H' ((D, .lst acc) :: L) C → Q (.ref D) H') :
    FoT K (.ref a) H fun J H1 => LcEnd J g tt te vs σ H1 Q := by
  refine ⟨a, rfl, ⟨xs, hx⟩, lc_any xs.length (fun i x => xs[i]? = some x) O Iv h0 (fun i H' F' acc D hi O' sF => ?_) (fun H' F' acc D O' sF => ⟨xs, hl O' sF, Nat.le_refl _⟩) (fun i x H' H2 F' acc D hi O' sF hy => ⟨hy.1, hy.2 xs (hl O' sF)⟩) (fun i x acc D F' H' _ hY => turn i x acc D F' H' hY) done⟩
  exact ⟨xs, _, hl O' sF, List.getElem?_eq_getElem hi⟩
theorem w_lcR1 {tt : TT} {vs : List Nat} {n : Int} (O : Own F0 H0 F H L C) (hn : -(2 ^ 62) ≤ n ∧ n < 2 ^ 62) (Iv : Nat → List V → Hp → Prop) (h0 : Iv 0 [] F)
    (turn : ∀ (i : Nat) acc D F' H', (i : Int) < n → Iv i acc F' → Same F F' → Own F0 H0 F' H' ((D, .lst acc) :: L) C → g (.int (i : Nat)) (wipe σ vs) H' fun σ2 H2 => wipe σ2 vs = wipe σ vs ∧ tt σ2 H2 fun b H3 =>
      if b = true then te σ2 H3 (Put D (Btw F0 H0 F L C D (Iv (i + 1)))) else Btw F0 H0 F L C D (Iv (i + 1)) H3)
    (done : ∀ acc D F' H', Iv n.toNat acc F' → Same F F' → Own F0 H0 F' H' ((D, .lst acc) :: L) C → Q (.ref D) H') :
    Rg1 [.int n] H fun J H1 => LcEnd J g tt te vs σ H1 Q := by
  refine ⟨n, rfl, hn.1, hn.2, lc_any n.toNat (fun i x => x = .int (i : Nat)) O Iv h0 (fun i H' F' acc D hi O' sF => hi) (fun H' F' acc D O' sF => Nat.le_refl _) (fun i x H' H2 F' acc D hi O' sF hy => ⟨hy.1, by rw [hy.2, Int.zero_add]⟩) (fun i x acc D F' H' hi hY => ?_) done⟩
  intro h1 h2 h3
  rw [show x = .int (i : Nat) from hY]
  exact turn i acc D F' H' (by omega) h1 h2 h3
theorem w_lcS {tt : TT} {vs : List Nat} (O : Own F0 H0 F H L C) (Iv : Nat → List V → Hp → Prop) (h0 : Iv 0 [] F)
    (turn : ∀ (i : Nat) (c : Nat) acc D F' H', l[i]? = some c → Iv i acc F' → Same F F' → Own F0 H0 F' H' ((D, .lst acc) :: L) C → g (vS [c]) (wipe σ vs) H' fun σ2 H2 => wipe σ2 vs = wipe σ vs ∧ tt σ2 H2 fun b H3 =>
      if b = true then te σ2 H3 (Put D (Btw F0 H0 F L C D (Iv (i + 1)))) else Btw F0 H0 F L C D (Iv (i + 1)) H3)
    (done : ∀ acc D F' H', Iv l.length acc F' → Same F F' → Own F0 H0 F' H' ((D, .lst acc) :: L) C → Q (.ref D) H') :
    FoS (vS l) H fun J H1 => LcEnd J g tt te vs σ H1 Q := by
  have hsz : (S l).cps.size = l.length := by simp [S]
  refine ⟨S l, rfl, lc_any l.length (fun i x => ∃ c, l[i]? = some c ∧ x = vS [c]) O Iv h0 (fun i H' F' acc D hi O' sF => ?_) (fun H' F' acc D O' sF => ?_) (fun i x H' H2 F' acc D hi O' sF hy => ?_) (fun i x acc D F' H' hi hY => ?_) done⟩
  · show i < (S l).cps.size
    rw [hsz]; exact hi
  · show (S l).cps.size ≤ l.length
    rw [hsz]; exact Nat.le_refl _
  · obtain ⟨h1, c, hc, rfl⟩ := hy
    exact ⟨h1, c, by simpa [S] using hc, rfl⟩
  · obtain ⟨c, hc, rfl⟩ := hY
    exact turn i c acc D F' H' hc
end

/-! ### defs -/
section
variable {P : Program} {w : World} {K : PySem.W.Frag} {mg : Str → Option Value} {base : Heap}
theorem dn_mk {x q : Str} {st : Stmt} {f : Addr} {N ps : List Str} {k : Nat} {sp : Sp} (F : ∃ fd, FnP K x q st f fd) (S : FnScope N ps (defScope st))
    (hb : ∀ (kV doc pm : Value) (an : Option Addr) (cdv ct : Value) (us : List Value), us.length = ps.length → bindArgs (PySem.W.fnOf x q (defArgs st) (defBody st) (defScope st) .none kV doc pm an cdv ct) ⟨us, []⟩ = pure (ps.zip us))
    (len : ∀ vs H Q E, sp vs H Q E → vs.length = ps.length)
    (hbody : ∀ (cdv : Value) (A : Around) (outer : List Env) (s : Shared) (H : Hp) (vs : List V) (Q : VK) (E : XK), Room k (A.deeper (envOfC q (defScope st) s.heap.objs.size f cdv)) → sp vs H Q E →
      ∃ t, PSs (cxOf CX0 P w K mg base N q (defScope st) f cdv A outer s H E).nox (defBody st) t ∧ t ⟨fun _ H' => Q .non H', Q, fun _ _ => False, fun _ _ => False⟩ (start N vs) H) : Dn P w K mg base (k + 1) f ps sp := by
  obtain ⟨fd, F⟩ := F
  refine ⟨fd, F.ok S len fun cdv A outer s H vs Q E hr hsp => ?_, F.bindsN hb, F.kp, ?_⟩
  · obtain ⟨t, h, q⟩ := hbody cdv A outer s H vs Q E hr hsp
    exact ⟨t, h.nox, q⟩
  · obtain ⟨oc, od, dV, kV, doc, pm, an, cdv, ct, osl, e, lk, _⟩ := F.ex
    exact ⟨_, _, _, lk⟩
theorem lk_same {f : Addr} {fd fd' : FuncData} (h : Lk K f fd) (h' : Lk K f fd') : fd = fd' := by
  obtain ⟨oc, od, osl, lk⟩ := h
  obtain ⟨oc', od', osl', lk'⟩ := h'
  rw [lk] at lk'
  injection lk' with e
  injection e with _ _ e _
  injection e
theorem lk_of {x q : Str} {st : Stmt} {f : Addr} {fd : FuncData} (F : FnP K x q st f fd) : Lk K f fd := by
  obtain ⟨oc, od, dV, kV, doc, pm, an, cdv, ct, osl, e, lk, _⟩ := F.ex
  exact ⟨_, _, _, lk⟩
end

/-! ### promises of defs that hand back a plain value -/
def SpecV (A : Hp → Prop) (R : V → Prop) (H : Hp) (Q : VK) : Prop := ∃ F, Same F H ∧ A F ∧ ∀ v H', Same H H' → R v → Q v H'
theorem Own.callV {F0 H0 F H : Hp} {L : List (Addr × HO)} {C : List Ck} {A : Hp → Prop} {R : V → Prop} {Q : VK} (O : Own F0 H0 F H L C) (hA : A F) (k : ∀ v H', R v → Own F0 H0 F H' L C → Q v H') : SpecV A R H Q :=
  ⟨F, O.fh, hA, fun _ _ s r => k _ _ r (O.more s)⟩
theorem Own.retV {F H F' H' : Hp} {L : List (Addr × HO)} {C : List Ck} {R : V → Prop} {Q : VK} {v : V} (O : Own F H F' H' L C) (q : ∀ v H', Same H H' → R v → Q v H') (r : R v) : Q v H' := q _ _ O.hh r

/-! ### items -/
section
variable {H : Hp} {Q : VK} {K : PySem.W.Frag} {a : Addr} {l : List Nat} {ns : List Int} {i : Int}
theorem atI_get {α : Type} {xs : List α} {d : α} (h : 0 ≤ i ∧ i < xs.length) : atI xs i = some (xs.getD i.toNat d) := by
  have e : i = ((i.toNat : Nat) : Int) := (Int.toNat_of_nonneg h.1).symm
  have hl : i.toNat < xs.length := by omega
  have h2 := atI_nat (xs := xs) (j := i.toNat) (v := xs.getD i.toNat d) (by rw [List.getD_eq_getElem?_getD, List.getElem?_eq_getElem hl]; rfl)
  rw [← e] at h2
  exact h2
theorem w_ixN (q : Q (.int (ns.getD i.toNat 0)) H) (hs : SqL K H a (ns.map V.int)) (h : 0 ≤ i ∧ i < ns.length) : rIxL K (.ref a) (.int i) H Q := by
  refine w_ixL q hs ?_
  have h2 := atI_get (xs := ns.map V.int) (d := .int 0) (i := i) (by rw [List.length_map]; exact h)
  rw [h2]
  congr 1
  rw [List.getD_eq_getElem?_getD, List.getD_eq_getElem?_getD, List.getElem?_map]
  cases ns[i.toNat]? <;> rfl
theorem w_ixC (q : Q (vS [l.getD i.toNat 0]) H) (h : 0 ≤ i ∧ i < l.length) (hz : l.length ≤ sizeLine) : rIxSg (vS l) (.int i) H Q := w_ixS q (atI_get h) hz
theorem getD_map_int (ns : List Int) (n : Nat) : (ns.map V.int).getD n (.int 0) = .int (ns.getD n 0) := by
  rw [List.getD_eq_getElem?_getD, List.getD_eq_getElem?_getD, List.getElem?_map]
  cases ns[n]? <;> rfl
theorem getD_mem {α : Type} {xs : List α} {n : Nat} {d : α} (h : n < xs.length) : xs.getD n d ∈ xs := by
  rw [List.getD_eq_getElem?_getD, List.getElem?_eq_getElem h]
  exact List.getElem_mem h
end
end Fw

namespace Fw
open PySem PySem.Spec PyProof.Rows L2
/-! ### the same steps as equations -/
section
variable {nx bk ct : L2.St → Hp → Prop} {rt : VK} {t u tb : TS} {H : Hp} {te ta tc : TE} {Q : VK} {v x y : V} {g : TG} {tt tt' : TT} {tA : TA} {K : PySem.W.Frag} {σs : L2.St}

theorem q_var0 {σ : L2.St} : tVar 0 (some v :: σ) H Q = Q v H := propext ⟨fun ⟨_, e, q⟩ => by cases (show some v = some _ from Option.some.inj e); exact q, fun q => ⟨v, rfl, q⟩⟩
theorem q_asg0 {o : Option V} {σ : L2.St} : tAsg te (gName 0) ⟨nx, rt, bk, ct⟩ (o :: σ) H = te (o :: σ) H fun x H1 => nx (some x :: σ) H1 := rfl
theorem q_gn0 {o : Option V} {σ : L2.St} {R : L2.St → Hp → Prop} : gName 0 v (o :: σ) H R = R (some v :: σ) H := rfl
theorem q_aug0 {f : Int → Int → Int} {a : Int} {σ : L2.St} : tAug 0 te (ipI f) ⟨nx, rt, bk, ct⟩ (some (.int a) :: σ) H = te (some (.int a) :: σ) H fun y H1 => ∃ b, y = .int b ∧ nx (some (.int (f a b)) :: σ) H1 := by
  have e : (fun y H1 => ∃ b, y = V.int b ∧ nx (some (.int (f a b)) :: σ) H1) = (fun y H1 => ipI f (.int a) y H1 fun z H2 => nx (some z :: σ) H2) := by
    funext y H1
    exact propext ⟨fun ⟨b, e1, q⟩ => ⟨a, b, rfl, e1, q⟩, fun ⟨a', b, e0, e1, q⟩ => by cases e0; exact ⟨b, e1, q⟩⟩
  rw [e]
  exact propext ⟨fun ⟨x, e, q⟩ => by cases (show some (V.int a) = some _ from Option.some.inj e); exact q, fun q => ⟨_, rfl, q⟩⟩
theorem q_var1 {x0 : Option V} {σ : L2.St} : tVar 1 (x0 :: some v :: σ) H Q = Q v H := propext ⟨fun ⟨_, e, q⟩ => by cases (show some v = some _ from Option.some.inj e); exact q, fun q => ⟨v, rfl, q⟩⟩
theorem q_asg1 {x0 : Option V} {o : Option V} {σ : L2.St} : tAsg te (gName 1) ⟨nx, rt, bk, ct⟩ (x0 :: o :: σ) H = te (x0 :: o :: σ) H fun x H1 => nx (x0 :: some x :: σ) H1 := rfl
theorem q_gn1 {x0 : Option V} {o : Option V} {σ : L2.St} {R : L2.St → Hp → Prop} : gName 1 v (x0 :: o :: σ) H R = R (x0 :: some v :: σ) H := rfl
theorem q_aug1 {x0 : Option V} {f : Int → Int → Int} {a : Int} {σ : L2.St} : tAug 1 te (ipI f) ⟨nx, rt, bk, ct⟩ (x0 :: some (.int a) :: σ) H = te (x0 :: some (.int a) :: σ) H fun y H1 => ∃ b, y = .int b ∧ nx (x0 :: some (.int (f a b)) :: σ) H1 := by
  have e : (fun y H1 => ∃ b, y = V.int b ∧ nx (x0 :: some (.int (f a b)) :: σ) H1) = (fun y H1 => ipI f (.int a) y H1 fun z H2 => nx (x0 :: some z :: σ) H2) := by
    funext y H1
    exact propext ⟨fun ⟨b, e1, q⟩ => ⟨a, b, rfl, e1, q⟩, fun ⟨a', b, e0, e1, q⟩ => by cases e0; exact ⟨b, e1, q⟩⟩
  rw [e]
  exact propext ⟨fun ⟨x, e, q⟩ => by cases (show some (V.int a) = some _ from Option.some.inj e); exact q, fun q => ⟨_, rfl, q⟩⟩
theorem q_var2 {x0 x1 : Option V} {σ : L2.St} : tVar 2 (x0 :: x1 :: some v :: σ) H Q = Q v H := propext ⟨fun ⟨_, e, q⟩ => by cases (show some v = some _ from Option.some.inj e); exact q, fun q => ⟨v, rfl, q⟩⟩
theorem q_asg2 {x0 x1 : Option V} {o : Option V} {σ : L2.St} : tAsg te (gName 2) ⟨nx, rt, bk, ct⟩ (x0 :: x1 :: o :: σ) H = te (x0 :: x1 :: o :: σ) H fun x H1 => nx (x0 :: x1 :: some x :: σ) H1 := rfl
theorem q_gn2 {x0 x1 : Option V} {o : Option V} {σ : L2.St} {R : L2.St → Hp → Prop} : gName 2 v (x0 :: x1 :: o :: σ) H R = R (x0 :: x1 :: some v :: σ) H := rfl
theorem q_aug2 {x0 x1 : Option V} {f : Int → Int → Int} {a : Int} {σ : L2.St} : tAug 2 te (ipI f) ⟨nx, rt, bk, ct⟩ (x0 :: x1 :: some (.int a) :: σ) H = te (x0 :: x1 :: some (.int a) :: σ) H fun y H1 => ∃ b, y = .int b ∧ nx (x0 :: x1 :: some (.int (f a b)) :: σ) H1 := by
  have e : (fun y H1 => ∃ b, y = V.int b ∧ nx (x0 :: x1 :: some (.int (f a b)) :: σ) H1) = (fun y H1 => ipI f (.int a) y H1 fun z H2 => nx (x0 :: x1 :: some z :: σ) H2) := by
    funext y H1
    exact propext ⟨fun ⟨b, e1, q⟩ => ⟨a, b, rfl, e1, q⟩, fun ⟨a', b, e0, e1, q⟩ => by cases e0; exact ⟨b, e1, q⟩⟩
  rw [e]
  exact propext ⟨fun ⟨x, e, q⟩ => by cases (show some (V.int a) = some _ from Option.some.inj e); exact q, fun q => ⟨_, rfl, q⟩⟩
theorem q_var3 {x0 x1 x2 : Option V} {σ : L2.St} : tVar 3 (x0 :: x1 :: x2 :: some v :: σ) H Q = Q v H := propext ⟨fun ⟨_, e, q⟩ => by cases (show some v = some _ from Option.some.inj e); exact q, fun q => ⟨v, rfl, q⟩⟩
theorem q_asg3 {x0 x1 x2 : Option V} {o : Option V} {σ : L2.St} : tAsg te (gName 3) ⟨nx, rt, bk, ct⟩ (x0 :: x1 :: x2 :: o :: σ) H = te (x0 :: x1 :: x2 :: o :: σ) H fun x H1 => nx (x0 :: x1 :: x2 :: some x :: σ) H1 := rfl
theorem q_gn3 {x0 x1 x2 : Option V} {o : Option V} {σ : L2.St} {R : L2.St → Hp → Prop} : gName 3 v (x0 :: x1 :: x2 :: o :: σ) H R = R (x0 :: x1 :: x2 :: some v :: σ) H := rfl
theorem q_aug3 {x0 x1 x2 : Option V} {f : Int → Int → Int} {a : Int} {σ : L2.St} : tAug 3 te (ipI f) ⟨nx, rt, bk, ct⟩ (x0 :: x1 :: x2 :: some (.int a) :: σ) H = te (x0 :: x1 :: x2 :: some (.int a) :: σ) H fun y H1 => ∃ b, y = .int b ∧ nx (x0 :: x1 :: x2 :: some (.int (f a b)) :: σ) H1 := by
  have e : (fun y H1 => ∃ b, y = V.int b ∧ nx (x0 :: x1 :: x2 :: some (.int (f a b)) :: σ) H1) = (fun y H1 => ipI f (.int a) y H1 fun z H2 => nx (x0 :: x1 :: x2 :: some z :: σ) H2) := by
    funext y H1
    exact propext ⟨fun ⟨b, e1, q⟩ => ⟨a, b, rfl, e1, q⟩, fun ⟨a', b, e0, e1, q⟩ => by cases e0; exact ⟨b, e1, q⟩⟩
  rw [e]
  exact propext ⟨fun ⟨x, e, q⟩ => by cases (show some (V.int a) = some _ from Option.some.inj e); exact q, fun q => ⟨_, rfl, q⟩⟩
theorem q_var4 {x0 x1 x2 x3 : Option V} {σ : L2.St} : tVar 4 (x0 :: x1 :: x2 :: x3 :: some v :: σ) H Q = Q v H := propext ⟨fun ⟨_, e, q⟩ => by cases (show some v = some _ from Option.some.inj e); exact q, fun q => ⟨v, rfl, q⟩⟩
theorem q_asg4 {x0 x1 x2 x3 : Option V} {o : Option V} {σ : L2.St} : tAsg te (gName 4) ⟨nx, rt, bk, ct⟩ (x0 :: x1 :: x2 :: x3 :: o :: σ) H = te (x0 :: x1 :: x2 :: x3 :: o :: σ) H fun x H1 => nx (x0 :: x1 :: x2 :: x3 :: some x :: σ) H1 := rfl
theorem q_gn4 {x0 x1 x2 x3 : Option V} {o : Option V} {σ : L2.St} {R : L2.St → Hp → Prop} : gName 4 v (x0 :: x1 :: x2 :: x3 :: o :: σ) H R = R (x0 :: x1 :: x2 :: x3 :: some v :: σ) H := rfl
theorem q_aug4 {x0 x1 x2 x3 : Option V} {f : Int → Int → Int} {a : Int} {σ : L2.St} : tAug 4 te (ipI f) ⟨nx, rt, bk, ct⟩ (x0 :: x1 :: x2 :: x3 :: some (.int a) :: σ) H = te (x0 :: x1 :: x2 :: x3 :: some (.int a) :: σ) H fun y H1 => ∃ b, y = .int b ∧ nx (x0 :: x1 :: x2 :: x3 :: some (.int (f a b)) :: σ) H1 := by
  have e : (fun y H1 => ∃ b, y = V.int b ∧ nx (x0 :: x1 :: x2 :: x3 :: some (.int (f a b)) :: σ) H1) = (fun y H1 => ipI f (.int a) y H1 fun z H2 => nx (x0 :: x1 :: x2 :: x3 :: some z :: σ) H2) := by
    funext y H1
    exact propext ⟨fun ⟨b, e1, q⟩ => ⟨a, b, rfl, e1, q⟩, fun ⟨a', b, e0, e1, q⟩ => by cases e0; exact ⟨b, e1, q⟩⟩
  rw [e]
  exact propext ⟨fun ⟨x, e, q⟩ => by cases (show some (V.int a) = some _ from Option.some.inj e); exact q, fun q => ⟨_, rfl, q⟩⟩
theorem q_var5 {x0 x1 x2 x3 x4 : Option V} {σ : L2.St} : tVar 5 (x0 :: x1 :: x2 :: x3 :: x4 :: some v :: σ) H Q = Q v H := propext ⟨fun ⟨_, e, q⟩ => by cases (show some v = some _ from Option.some.inj e); exact q, fun q => ⟨v, rfl, q⟩⟩
theorem q_asg5 {x0 x1 x2 x3 x4 : Option V} {o : Option V} {σ : L2.St} : tAsg te (gName 5) ⟨nx, rt, bk, ct⟩ (x0 :: x1 :: x2 :: x3 :: x4 :: o :: σ) H = te (x0 :: x1 :: x2 :: x3 :: x4 :: o :: σ) H fun x H1 => nx (x0 :: x1 :: x2 :: x3 :: x4 :: some x :: σ) H1 := rfl
theorem q_gn5 {x0 x1 x2 x3 x4 : Option V} {o : Option V} {σ : L2.St} {R : L2.St → Hp → Prop} : gName 5 v (x0 :: x1 :: x2 :: x3 :: x4 :: o :: σ) H R = R (x0 :: x1 :: x2 :: x3 :: x4 :: some v :: σ) H := rfl
theorem q_aug5 {x0 x1 x2 x3 x4 : Option V} {f : Int → Int → Int} {a : Int} {σ : L2.St} : tAug 5 te (ipI f) ⟨nx, rt, bk, ct⟩ (x0 :: x1 :: x2 :: x3 :: x4 :: some (.int a) :: σ) H = te (x0 :: x1 :: x2 :: x3 :: x4 :: some (.int a) :: σ) H fun y H1 => ∃ b, y = .int b ∧ nx (x0 :: x1 :: x2 :: x3 :: x4 :: some (.int (f a b)) :: σ) H1 := by
  have e : (fun y H1 => ∃ b, y = V.int b ∧ nx (x0 :: x1 :: x2 :: x3 :: x4 :: some (.int (f a b)) :: σ) H1) = (fun y H1 => ipI f (.int a) y H1 fun z H2 => nx (x0 :: x1 :: x2 :: x3 :: x4 :: some z :: σ) H2) := by
    funext y H1
    exact propext ⟨fun ⟨b, e1, q⟩ => ⟨a, b, rfl, e1, q⟩, fun ⟨a', b, e0, e1, q⟩ => by cases e0; exact ⟨b, e1, q⟩⟩
  rw [e]
  exact propext ⟨fun ⟨x, e, q⟩ => by cases (show some (V.int a) = some _ from Option.some.inj e); exact q, fun q => ⟨_, rfl, q⟩⟩
theorem q_var6 {x0 x1 x2 x3 x4 x5 : Option V} {σ : L2.St} : tVar 6 (x0 :: x1 :: x2 :: x3 :: x4 :: x5 :: some v :: σ) H Q = Q v H := propext ⟨fun ⟨_, e, q⟩ => by cases (show some v = some _ from Option.some.inj e); exact q, fun q => ⟨v, rfl, q⟩⟩
theorem q_asg6 {x0 x1 x2 x3 x4 x5 : Option V} {o : Option V} {σ : L2.St} : tAsg te (gName 6) ⟨nx, rt, bk, ct⟩ (x0 :: x1 :: x2 :: x3 :: x4 :: x5 :: o :: σ) H = te (x0 :: x1 :: x2 :: x3 :: x4 :: x5 :: o :: σ) H fun x H1 => nx (x0 :: x1 :: x2 :: x3 :: x4 :: x5 :: some x :: σ) H1 := rfl
theorem q_gn6 {x0 x1 x2 x3 x4 x5 : Option V} {o : Option V} {σ : L2.St} {R : L2.St → Hp → Prop} : gName 6 v (x0 :: x1 :: x2 :: x3 :: x4 :: x5 :: o :: σ) H R = R (x0 :: x1 :: x2 :: x3 :: x4 :: x5 :: some v :: σ) H := rfl
theorem q_aug6 {x0 x1 x2 x3 x4 x5 : Option V} {f : Int → Int → Int} {a : Int} {σ : L2.St} : tAug 6 te (ipI f) ⟨nx, rt, bk, ct⟩ (x0 :: x1 :: x2 :: x3 :: x4 :: x5 :: some (.int a) :: σ) H = te (x0 :: x1 :: x2 :: x3 :: x4 :: x5 :: some (.int a) :: σ) H fun y H1 => ∃ b, y = .int b ∧ nx (x0 :: x1 :: x2 :: x3 :: x4 :: x5 :: some (.int (f a b)) :: σ) H1 := by
  have e : (fun y H1 => ∃ b, y = V.int b ∧ nx (x0 :: x1 :: x2 :: x3 :: x4 :: x5 :: some (.int (f a b)) :: σ) H1) = (fun y H1 => ipI f (.int a) y H1 fun z H2 => nx (x0 :: x1 :: x2 :: x3 :: x4 :: x5 :: some z :: σ) H2) := by
    funext y H1
    exact propext ⟨fun ⟨b, e1, q⟩ => ⟨a, b, rfl, e1, q⟩, fun ⟨a', b, e0, e1, q⟩ => by cases e0; exact ⟨b, e1, q⟩⟩
  rw [e]
  exact propext ⟨fun ⟨x, e, q⟩ => by cases (show some (V.int a) = some _ from Option.some.inj e); exact q, fun q => ⟨_, rfl, q⟩⟩
theorem q_var7 {x0 x1 x2 x3 x4 x5 x6 : Option V} {σ : L2.St} : tVar 7 (x0 :: x1 :: x2 :: x3 :: x4 :: x5 :: x6 :: some v :: σ) H Q = Q v H := propext ⟨fun ⟨_, e, q⟩ => by cases (show some v = some _ from Option.some.inj e); exact q, fun q => ⟨v, rfl, q⟩⟩
theorem q_asg7 {x0 x1 x2 x3 x4 x5 x6 : Option V} {o : Option V} {σ : L2.St} : tAsg te (gName 7) ⟨nx, rt, bk, ct⟩ (x0 :: x1 :: x2 :: x3 :: x4 :: x5 :: x6 :: o :: σ) H = te (x0 :: x1 :: x2 :: x3 :: x4 :: x5 :: x6 :: o :: σ) H fun x H1 => nx (x0 :: x1 :: x2 :: x3 :: x4 :: x5 :: x6 :: some x :: σ) H1 := rfl
theorem q_gn7 {x0 x1 x2 x3 x4 x5 x6 : Option V} {o : Option V} {σ : L2.St} {R : L2.St → Hp → Prop} : gName 7 v (x0 :: x1 :: x2 :: x3 :: x4 :: x5 :: x6 :: o :: σ) H R = R (x0 :: x1 :: x2 :: x3 :: x4 :: x5 :: x6 :: some v :: σ) H := rfl
theorem q_aug7 {x0 x1 x2 x3 x4 x5 x6 : Option V} {f : Int → Int → Int} {a : Int} {σ : L2.St} : tAug 7 te (ipI f) ⟨nx, rt, bk, ct⟩ (x0 :: x1 :: x2 :: x3 :: x4 :: x5 :: x6 :: some (.int a) :: σ) H = te (x0 :: x1 :: x2 :: x3 :: x4 :: x5 :: x6 :: some (.int a) :: σ) H fun y H1 => ∃ b, y = .int b ∧ nx (x0 :: x1 :: x2 :: x3 :: x4 :: x5 :: x6 :: some (.int (f a b)) :: σ) H1 := by
  have e : (fun y H1 => ∃ b, y = V.int b ∧ nx (x0 :: x1 :: x2 :: x3 :: x4 :: x5 :: x6 :: some (.int (f a b)) :: σ) H1) = (fun y H1 => ipI f (.int a) y H1 fun z H2 => nx (x0 :: x1 :: x2 :: x3 :: x4 :: x5 :: x6 :: some z :: σ) H2) := by
    funext y H1
    exact propext ⟨fun ⟨b, e1, q⟩ => ⟨a, b, rfl, e1, q⟩, fun ⟨a', b, e0, e1, q⟩ => by cases e0; exact ⟨b, e1, q⟩⟩
  rw [e]
  exact propext ⟨fun ⟨x, e, q⟩ => by cases (show some (V.int a) = some _ from Option.some.inj e); exact q, fun q => ⟨_, rfl, q⟩⟩
theorem q_var8 {x0 x1 x2 x3 x4 x5 x6 x7 : Option V} {σ : L2.St} : tVar 8 (x0 :: x1 :: x2 :: x3 :: x4 :: x5 :: x6 :: x7 :: some v :: σ) H Q = Q v H := propext ⟨fun ⟨_, e, q⟩ => by cases (show some v = some _ from Option.some.inj e); exact q, fun q => ⟨v, rfl, q⟩⟩
theorem q_asg8 {x0 x1 x2 x3 x4 x5 x6 x7 : Option V} {o : Option V} {σ : L2.St} : tAsg te (gName 8) ⟨nx, rt, bk, ct⟩ (x0 :: x1 :: x2 :: x3 :: x4 :: x5 :: x6 :: x7 :: o :: σ) H = te (x0 :: x1 :: x2 :: x3 :: x4 :: x5 :: x6 :: x7 :: o :: σ) H fun x H1 => nx (x0 :: x1 :: x2 :: x3 :: x4 :: x5 :: x6 :: x7 :: some x :: σ) H1 := rfl
theorem q_gn8 {x0 x1 x2 x3 x4 x5 x6 x7 : Option V} {o : Option V} {σ : L2.St} {R : L2.St → Hp → Prop} : gName 8 v (x0 :: x1 :: x2 :: x3 :: x4 :: x5 :: x6 :: x7 :: o :: σ) H R = R (x0 :: x1 :: x2 :: x3 :: x4 :: x5 :: x6 :: x7 :: some v :: σ) H := rfl
theorem q_aug8 {x0 x1 x2 x3 x4 x5 x6 x7 : Option V} {f : Int → Int → Int} {a : Int} {σ : L2.St} : tAug 8 te (ipI f) ⟨nx, rt, bk, ct⟩ (x0 :: x1 :: x2 :: x3 :: x4 :: x5 :: x6 :: x7 :: some (.int a) :: σ) H = te (x0 :: x1 :: x2 :: x3 :: x4 :: x5 :: x6 :: x7 :: some (.int a) :: σ) H fun y H1 => ∃ b, y = .int b ∧ nx (x0 :: x1 :: x2 :: x3 :: x4 :: x5 :: x6 :: x7 :: some (.int (f a b)) :: σ) H1 := by
  have e : (fun y H1 => ∃ b, y = V.int b ∧ nx (x0 :: x1 :: x2 :: x3 :: x4 :: x5 :: x6 :: x7 :: some (.int (f a b)) :: σ) H1) = (fun y H1 => ipI f (.int a) y H1 fun z H2 => nx (x0 :: x1 :: x2 :: x3 :: x4 :: x5 :: x6 :: x7 :: some z :: σ) H2) := by
    funext y H1
    exact propext ⟨fun ⟨b, e1, q⟩ => ⟨a, b, rfl, e1, q⟩, fun ⟨a', b, e0, e1, q⟩ => by cases e0; exact ⟨b, e1, q⟩⟩
  rw [e]
  exact propext ⟨fun ⟨x, e, q⟩ => by cases (show some (V.int a) = some _ from Option.some.inj e); exact q, fun q => ⟨_, rfl, q⟩⟩
theorem q_var9 {x0 x1 x2 x3 x4 x5 x6 x7 x8 : Option V} {σ : L2.St} : tVar 9 (x0 :: x1 :: x2 :: x3 :: x4 :: x5 :: x6 :: x7 :: x8 :: some v :: σ) H Q = Q v H := propext ⟨fun ⟨_, e, q⟩ => by cases (show some v = some _ from Option.some.inj e); exact q, fun q => ⟨v, rfl, q⟩⟩
theorem q_asg9 {x0 x1 x2 x3 x4 x5 x6 x7 x8 : Option V} {o : Option V} {σ : L2.St} : tAsg te (gName 9) ⟨nx, rt, bk, ct⟩ (x0 :: x1 :: x2 :: x3 :: x4 :: x5 :: x6 :: x7 :: x8 :: o :: σ) H = te (x0 :: x1 :: x2 :: x3 :: x4 :: x5 :: x6 :: x7 :: x8 :: o :: σ) H fun x H1 => nx (x0 :: x1 :: x2 :: x3 :: x4 :: x5 :: x6 :: x7 :: x8 :: some x :: σ) H1 := rfl
theorem q_gn9 {x0 x1 x2 x3 x4 x5 x6 x7 x8 : Option V} {o : Option V} {σ : L2.St} {R : L2.St → Hp → Prop} : gName 9 v (x0 :: x1 :: x2 :: x3 :: x4 :: x5 :: x6 :: x7 :: x8 :: o :: σ) H R = R (x0 :: x1 :: x2 :: x3 :: x4 :: x5 :: x6 :: x7 :: x8 :: some v :: σ) H := rfl
theorem q_aug9 {x0 x1 x2 x3 x4 x5 x6 x7 x8 : Option V} {f : Int → Int → Int} {a : Int} {σ : L2.St} : tAug 9 te (ipI f) ⟨nx, rt, bk, ct⟩ (x0 :: x1 :: x2 :: x3 :: x4 :: x5 :: x6 :: x7 :: x8 :: some (.int a) :: σ) H = te (x0 :: x1 :: x2 :: x3 :: x4 :: x5 :: x6 :: x7 :: x8 :: some (.int a) :: σ) H fun y H1 => ∃ b, y = .int b ∧ nx (x0 :: x1 :: x2 :: x3 :: x4 :: x5 :: x6 :: x7 :: x8 :: some (.int (f a b)) :: σ) H1 := by
  have e : (fun y H1 => ∃ b, y = V.int b ∧ nx (x0 :: x1 :: x2 :: x3 :: x4 :: x5 :: x6 :: x7 :: x8 :: some (.int (f a b)) :: σ) H1) = (fun y H1 => ipI f (.int a) y H1 fun z H2 => nx (x0 :: x1 :: x2 :: x3 :: x4 :: x5 :: x6 :: x7 :: x8 :: some z :: σ) H2) := by
    funext y H1
    exact propext ⟨fun ⟨b, e1, q⟩ => ⟨a, b, rfl, e1, q⟩, fun ⟨a', b, e0, e1, q⟩ => by cases e0; exact ⟨b, e1, q⟩⟩
  rw [e]
  exact propext ⟨fun ⟨x, e, q⟩ => by cases (show some (V.int a) = some _ from Option.some.inj e); exact q, fun q => ⟨_, rfl, q⟩⟩
theorem q_var10 {x0 x1 x2 x3 x4 x5 x6 x7 x8 x9 : Option V} {σ : L2.St} : tVar 10 (x0 :: x1 :: x2 :: x3 :: x4 :: x5 :: x6 :: x7 :: x8 :: x9 :: some v :: σ) H Q = Q v H := propext ⟨fun ⟨_, e, q⟩ => by cases (show some v = some _ from Option.some.inj e); exact q, fun q => ⟨v, rfl, q⟩⟩
theorem q_asg10 {x0 x1 x2 x3 x4 x5 x6 x7 x8 x9 : Option V} {o : Option V} {σ : L2.St} : tAsg te (gName 10) ⟨nx, rt, bk, ct⟩ (x0 :: x1 :: x2 :: x3 :: x4 :: x5 :: x6 :: x7 :: x8 :: x9 :: o :: σ) H = te (x0 :: x1 :: x2 :: x3 :: x4 :: x5 :: x6 :: x7 :: x8 :: x9 :: o :: σ) H fun x H1 => nx (x0 :: x1 :: x2 :: x3 :: x4 :: x5 :: x6 :: x7 :: x8 :: x9 :: some x :: σ) H1 := rfl
theorem q_gn10 {x0 x1 x2 x3 x4 x5 x6 x7 x8 x9 : Option V} {o : Option V} {σ : L2.St} {R : L2.St → Hp → Prop} : gName 10 v (x0 :: x1 :: x2 :: x3 :: x4 :: x5 :: x6 :: x7 :: x8 :: x9 :: o :: σ) H R = R (x0 :: x1 :: x2 :: x3 :: x4 :: x5 :: x6 :: x7 :: x8 :: x9 :: some v :: σ) H := rfl
theorem q_aug10 {x0 x1 x2 x3 x4 x5 x6 x7 x8 x9 : Option V} {f : Int → Int → Int} {a : Int} {σ : L2.St} : tAug 10 te (ipI f) ⟨nx, rt, bk, ct⟩ (x0 :: x1 :: x2 :: x3 :: x4 :: x5 :: x6 :: x7 :: x8 :: x9 :: some (.int a) :: σ) H = te (x0 :: x1 :: x2 :: x3 :: x4 :: x5 :: x6 :: x7 :: x8 :: x9 :: some (.int a) :: σ) H fun y H1 => ∃ b, y = .int b ∧ nx (x0 :: x1 :: x2 :: x3 :: x4 :: x5 :: x6 :: x7 :: x8 :: x9 :: some (.int (f a b)) :: σ) H1 := by
  have e : (fun y H1 => ∃ b, y = V.int b ∧ nx (x0 :: x1 :: x2 :: x3 :: x4 :: x5 :: x6 :: x7 :: x8 :: x9 :: some (.int (f a b)) :: σ) H1) = (fun y H1 => ipI f (.int a) y H1 fun z H2 => nx (x0 :: x1 :: x2 :: x3 :: x4 :: x5 :: x6 :: x7 :: x8 :: x9 :: some z :: σ) H2) := by
    funext y H1
    exact propext ⟨fun ⟨b, e1, q⟩ => ⟨a, b, rfl, e1, q⟩, fun ⟨a', b, e0, e1, q⟩ => by cases e0; exact ⟨b, e1, q⟩⟩
  rw [e]
  exact propext ⟨fun ⟨x, e, q⟩ => by cases (show some (V.int a) = some _ from Option.some.inj e); exact q, fun q => ⟨_, rfl, q⟩⟩
theorem q_var11 {x0 x1 x2 x3 x4 x5 x6 x7 x8 x9 x10 : Option V} {σ : L2.St} : tVar 11 (x0 :: x1 :: x2 :: x3 :: x4 :: x5 :: x6 :: x7 :: x8 :: x9 :: x10 :: some v :: σ) H Q = Q v H := propext ⟨fun ⟨_, e, q⟩ => by cases (show some v = some _ from Option.some.inj e); exact q, fun q => ⟨v, rfl, q⟩⟩
theorem q_asg11 {x0 x1 x2 x3 x4 x5 x6 x7 x8 x9 x10 : Option V} {o : Option V} {σ : L2.St} : tAsg te (gName 11) ⟨nx, rt, bk, ct⟩ (x0 :: x1 :: x2 :: x3 :: x4 :: x5 :: x6 :: x7 :: x8 :: x9 :: x10 :: o :: σ) H = te (x0 :: x1 :: x2 :: x3 :: x4 :: x5 :: x6 :: x7 :: x8 :: x9 :: x10 :: o :: σ) H fun x H1 => nx (x0 :: x1 :: x2 :: x3 :: x4 :: x5 :: x6 :: x7 :: x8 :: x9 :: x10 :: some x :: σ) H1 := rfl
theorem q_gn11 {x0 x1 x2 x3 x4 x5 x6 x7 x8 x9 x10 : Option V} {o : Option V} {σ : L2.St} {R : L2.St → Hp → Prop} : gName 11 v (x0 :: x1 :: x2 :: x3 :: x4 :: x5 :: x6 :: x7 :: x8 :: x9 :: x10 :: o :: σ) H R = R (x0 :: x1 :: x2 :: x3 :: x4 :: x5 :: x6 :: x7 :: x8 :: x9 :: x10 :: some v :: σ) H := rfl
theorem q_aug11 {x0 x1 x2 x3 x4 x5 x6 x7 x8 x9 x10 : Option V} {f : Int → Int → Int} {a : Int} {σ : L2.St} : tAug 11 te (ipI f) ⟨nx, rt, bk, ct⟩ (x0 :: x1 :: x2 :: x3 :: x4 :: x5 :: x6 :: x7 :: x8 :: x9 :: x10 :: some (.int a) :: σ) H = te (x0 :: x1 :: x2 :: x3 :: x4 :: x5 :: x6 :: x7 :: x8 :: x9 :: x10 :: some (.int a) :: σ) H fun y H1 => ∃ b, y = .int b ∧ nx (x0 :: x1 :: x2 :: x3 :: x4 :: x5 :: x6 :: x7 :: x8 :: x9 :: x10 :: some (.int (f a b)) :: σ) H1 := by
  have e : (fun y H1 => ∃ b, y = V.int b ∧ nx (x0 :: x1 :: x2 :: x3 :: x4 :: x5 :: x6 :: x7 :: x8 :: x9 :: x10 :: some (.int (f a b)) :: σ) H1) = (fun y H1 => ipI f (.int a) y H1 fun z H2 => nx (x0 :: x1 :: x2 :: x3 :: x4 :: x5 :: x6 :: x7 :: x8 :: x9 :: x10 :: some z :: σ) H2) := by
    funext y H1
    exact propext ⟨fun ⟨b, e1, q⟩ => ⟨a, b, rfl, e1, q⟩, fun ⟨a', b, e0, e1, q⟩ => by cases e0; exact ⟨b, e1, q⟩⟩
  rw [e]
  exact propext ⟨fun ⟨x, e, q⟩ => by cases (show some (V.int a) = some _ from Option.some.inj e); exact q, fun q => ⟨_, rfl, q⟩⟩
theorem q_var12 {x0 x1 x2 x3 x4 x5 x6 x7 x8 x9 x10 x11 : Option V} {σ : L2.St} : tVar 12 (x0 :: x1 :: x2 :: x3 :: x4 :: x5 :: x6 :: x7 :: x8 :: x9 :: x10 :: x11 :: some v :: σ) H Q = Q v H := propext ⟨fun ⟨_, e, q⟩ => by cases (show some v = some _ from Option.some.inj e); exact q, fun q => ⟨v, rfl, q⟩⟩
theorem q_asg12 {x0 x1 x2 x3 x4 x5 x6 x7 x8 x9 x10 x11 : Option V} {o : Option V} {σ : L2.St} : tAsg te (gName 12) ⟨nx, rt, bk, ct⟩ (x0 :: x1 :: x2 :: x3 :: x4 :: x5 :: x6 :: x7 :: x8 :: x9 :: x10 :: x11 :: o :: σ) H = te (x0 :: x1 :: x2 :: x3 :: x4 :: x5 :: x6 :: x7 :: x8 :: x9 :: x10 :: x11 :: o :: σ) H fun x H1 => nx (x0 :: x1 :: x2 :: x3 :: x4 :: x5 :: x6 :: x7 :: x8 :: x9 :: x10 :: x11 :: some x :: σ) H1 := rfl
theorem q_gn12 {x0 x1 x2 x3 x4 x5 x6 x7 x8 x9 x10 x11 : Option V} {o : Option V} {σ : L2.St} {R : L2.St → Hp → Prop} : gName 12 v (x0 :: x1 :: x2 :: x3 :: x4 :: x5 :: x6 :: x7 :: x8 :: x9 :: x10 :: x11 :: o :: σ) H R = R (x0 :: x1 :: x2 :: x3 :: x4 :: x5 :: x6 :: x7 :: x8 :: x9 :: x10 :: x11 :: some v :: σ) H := rfl
theorem q_aug12 {x0 x1 x2 x3 x4 x5 x6 x7 x8 x9 x10 x11 : Option V} {f : Int → Int → Int} {a : Int} {σ : L2.St} : tAug 12 te (ipI f) ⟨nx, rt, bk, ct⟩ (x0 :: x1 :: x2 :: x3 :: x4 :: x5 :: x6 :: x7 :: x8 :: x9 :: x10 :: x11 :: some (.int a) :: σ) H = te (x0 :: x1 :: x2 :: x3 :: x4 :: x5 :: x6 :: x7 :: x8 :: x9 :: x10 :: x11 :: some (.int a) :: σ) H fun y H1 => ∃ b, y = .int b ∧ nx (x0 :: x1 :: x2 :: x3 :: x4 :: x5 :: x6 :: x7 :: x8 :: x9 :: x10 :: x11 :: some (.int (f a b)) :: σ) H1 := by
  have e : (fun y H1 => ∃ b, y = V.int b ∧ nx (x0 :: x1 :: x2 :: x3 :: x4 :: x5 :: x6 :: x7 :: x8 :: x9 :: x10 :: x11 :: some (.int (f a b)) :: σ) H1) = (fun y H1 => ipI f (.int a) y H1 fun z H2 => nx (x0 :: x1 :: x2 :: x3 :: x4 :: x5 :: x6 :: x7 :: x8 :: x9 :: x10 :: x11 :: some z :: σ) H2) := by
    funext y H1
    exact propext ⟨fun ⟨b, e1, q⟩ => ⟨a, b, rfl, e1, q⟩, fun ⟨a', b, e0, e1, q⟩ => by cases e0; exact ⟨b, e1, q⟩⟩
  rw [e]
  exact propext ⟨fun ⟨x, e, q⟩ => by cases (show some (V.int a) = some _ from Option.some.inj e); exact q, fun q => ⟨_, rfl, q⟩⟩
theorem q_var13 {x0 x1 x2 x3 x4 x5 x6 x7 x8 x9 x10 x11 x12 : Option V} {σ : L2.St} : tVar 13 (x0 :: x1 :: x2 :: x3 :: x4 :: x5 :: x6 :: x7 :: x8 :: x9 :: x10 :: x11 :: x12 :: some v :: σ) H Q = Q v H := propext ⟨fun ⟨_, e, q⟩ => by cases (show some v = some _ from Option.some.inj e); exact q, fun q => ⟨v, rfl, q⟩⟩
theorem q_asg13 {x0 x1 x2 x3 x4 x5 x6 x7 x8 x9 x10 x11 x12 : Option V} {o : Option V} {σ : L2.St} : tAsg te (gName 13) ⟨nx, rt, bk, ct⟩ (x0 :: x1 :: x2 :: x3 :: x4 :: x5 :: x6 :: x7 :: x8 :: x9 :: x10 :: x11 :: x12 :: o :: σ) H = te (x0 :: x1 :: x2 :: x3 :: x4 :: x5 :: x6 :: x7 :: x8 :: x9 :: x10 :: x11 :: x12 :: o :: σ) H fun x H1 => nx (x0 :: x1 :: x2 :: x3 :: x4 :: x5 :: x6 :: x7 :: x8 :: x9 :: x10 :: x11 :: x12 :: some x :: σ) H1 := rfl
theorem q_gn13 {x0 x1 x2 x3 x4 x5 x6 x7 x8 x9 x10 x11 x12 : Option V} {o : Option V} {σ : L2.St} {R : L2.St → Hp → Prop} : gName 13 v (x0 :: x1 :: x2 :: x3 :: x4 :: x5 :: x6 :: x7 :: x8 :: x9 :: x10 :: x11 :: x12 :: o :: σ) H R = R (x0 :: x1 :: x2 :: x3 :: x4 :: x5 :: x6 :: x7 :: x8 :: x9 :: x10 :: x11 :: x12 :: some v :: σ) H := rfl
theorem q_aug13 {x0 x1 x2 x3 x4 x5 x6 x7 x8 x9 x10 x11 x12 : Option V} {f : Int → Int → Int} {a : Int} {σ : L2.St} : tAug 13 te (ipI f) ⟨nx, rt, bk, ct⟩ (x0 :: x1 :: x2 :: x3 :: x4 :: x5 :: x6 :: x7 :: x8 :: x9 :: x10 :: x11 :: x12 :: some (.int a) :: σ) H = te (x0 :: x1 :: x2 :: x3 :: x4 :: x5 :: x6 :: x7 :: x8 :: x9 :: x10 :: x11 :: x12 :: some (.int a) :: σ) H fun y H1 => ∃ b, y = .int b ∧ nx (x0 :: x1 :: x2 :: x3 :: x4 :: x5 :: x6 :: x7 :: x8 :: x9 :: x10 :: x11 :: x12 :: some (.int (f a b)) :: σ) H1 := by
  have e : (fun y H1 => ∃ b, y = V.int b ∧ nx (x0 :: x1 :: x2 :: x3 :: x4 :: x5 :: x6 :: x7 :: x8 :: x9 :: x10 :: x11 :: x12 :: some (.int (f a b)) :: σ) H1) = (fun y H1 => ipI f (.int a) y H1 fun z H2 => nx (x0 :: x1 :: x2 :: x3 :: x4 :: x5 :: x6 :: x7 :: x8 :: x9 :: x10 :: x11 :: x12 :: some z :: σ) H2) := by
    funext y H1
    exact propext ⟨fun ⟨b, e1, q⟩ => ⟨a, b, rfl, e1, q⟩, fun ⟨a', b, e0, e1, q⟩ => by cases e0; exact ⟨b, e1, q⟩⟩
  rw [e]
  exact propext ⟨fun ⟨x, e, q⟩ => by cases (show some (V.int a) = some _ from Option.some.inj e); exact q, fun q => ⟨_, rfl, q⟩⟩
theorem q_var14 {x0 x1 x2 x3 x4 x5 x6 x7 x8 x9 x10 x11 x12 x13 : Option V} {σ : L2.St} : tVar 14 (x0 :: x1 :: x2 :: x3 :: x4 :: x5 :: x6 :: x7 :: x8 :: x9 :: x10 :: x11 :: x12 :: x13 :: some v :: σ) H Q = Q v H := propext ⟨fun ⟨_, e, q⟩ => by cases (show some v = some _ from Option.some.inj e); exact q, fun q => ⟨v, rfl, q⟩⟩
theorem q_asg14 {x0 x1 x2 x3 x4 x5 x6 x7 x8 x9 x10 x11 x12 x13 : Option V} {o : Option V} {σ : L2.St} : tAsg te (gName 14) ⟨nx, rt, bk, ct⟩ (x0 :: x1 :: x2 :: x3 :: x4 :: x5 :: x6 :: x7 :: x8 :: x9 :: x10 :: x11 :: x12 :: x13 :: o :: σ) H = te (x0 :: x1 :: x2 :: x3 :: x4 :: x5 :: x6 :: x7 :: x8 :: x9 :: x10 :: x11 :: x12 :: x13 :: o :: σ) H fun x H1 => nx (x0 :: x1 :: x2 :: x3 :: x4 :: x5 :: x6 :: x7 :: x8 :: x9 :: x10 :: x11 :: x12 :: x13 :: some x :: σ) H1 := rfl
theorem q_gn14 {x0 x1 x2 x3 x4 x5 x6 x7 x8 x9 x10 x11 x12 x13 : Option V} {o : Option V} {σ : L2.St} {R : L2.St → Hp → Prop} : gName 14 v (x0 :: x1 :: x2 :: x3 :: x4 :: x5 :: x6 :: x7 :: x8 :: x9 :: x10 :: x11 :: x12 :: x13 :: o :: σ) H R = R (x0 :: x1 :: x2 :: x3 :: x4 :: x5 :: x6 :: x7 :: x8 :: x9 :: x10 :: x11 :: x12 :: x13 :: some v :: σ) H := rfl
theorem q_aug14 {x0 x1 x2 x3 x4 x5 x6 x7 x8 x9 x10 x11 x12 x13 : Option V} {f : Int → Int → Int} {a : Int} {σ : L2.St} : tAug 14 te (ipI f) ⟨nx, rt, bk, ct⟩ (x0 :: x1 :: x2 :: x3 :: x4 :: x5 :: x6 :: x7 :: x8 :: x9 :: x10 :: x11 :: x12 :: x13 :: some (.int a) :: σ) H = te (x0 :: x1 :: x2 :: x3 :: x4 :: x5 :: x6 :: x7 :: x8 :: x9 :: x10 :: x11 :: x12 :: x13 :: some (.int a) :: σ) H fun y H1 => ∃ b, y = .int b ∧ nx (x0 :: x1 :: x2 :: x3 :: x4 :: x5 :: x6 :: x7 :: x8 :: x9 :: x10 :: x11 :: x12 :: x13 :: some (.int (f a b)) :: σ) H1 := by
  have e : (fun y H1 => ∃ b, y = V.int b ∧ nx (x0 :: x1 :: x2 :: x3 :: x4 :: x5 :: x6 :: x7 :: x8 :: x9 :: x10 :: x11 :: x12 :: x13 :: some (.int (f a b)) :: σ) H1) = (fun y H1 => ipI f (.int a) y H1 fun z H2 => nx (x0 :: x1 :: x2 :: x3 :: x4 :: x5 :: x6 :: x7 :: x8 :: x9 :: x10 :: x11 :: x12 :: x13 :: some z :: σ) H2) := by
    funext y H1
    exact propext ⟨fun ⟨b, e1, q⟩ => ⟨a, b, rfl, e1, q⟩, fun ⟨a', b, e0, e1, q⟩ => by cases e0; exact ⟨b, e1, q⟩⟩
  rw [e]
  exact propext ⟨fun ⟨x, e, q⟩ => by cases (show some (V.int a) = some _ from Option.some.inj e); exact q, fun q => ⟨_, rfl, q⟩⟩
theorem q_var15 {x0 x1 x2 x3 x4 x5 x6 x7 x8 x9 x10 x11 x12 x13 x14 : Option V} {σ : L2.St} : tVar 15 (x0 :: x1 :: x2 :: x3 :: x4 :: x5 :: x6 :: x7 :: x8 :: x9 :: x10 :: x11 :: x12 :: x13 :: x14 :: some v :: σ) H Q = Q v H := propext ⟨fun ⟨_, e, q⟩ => by cases (show some v = some _ from Option.some.inj e); exact q, fun q => ⟨v, rfl, q⟩⟩
theorem q_asg15 {x0 x1 x2 x3 x4 x5 x6 x7 x8 x9 x10 x11 x12 x13 x14 : Option V} {o : Option V} {σ : L2.St} : tAsg te (gName 15) ⟨nx, rt, bk, ct⟩ (x0 :: x1 :: x2 :: x3 :: x4 :: x5 :: x6 :: x7 :: x8 :: x9 :: x10 :: x11 :: x12 :: x13 :: x14 :: o :: σ) H = te (x0 :: x1 :: x2 :: x3 :: x4 :: x5 :: x6 :: x7 :: x8 :: x9 :: x10 :: x11 :: x12 :: x13 :: x14 :: o :: σ) H fun x H1 => nx (x0 :: x1 :: x2 :: x3 :: x4 :: x5 :: x6 :: x7 :: x8 :: x9 :: x10 :: x11 :: x12 :: x13 :: x14 :: some x :: σ) H1 := rfl
theorem q_gn15 {x0 x1 x2 x3 x4 x5 x6 x7 x8 x9 x10 x11 x12 x13 x14 : Option V} {o : Option V} {σ : L2.St} {R : L2.St → Hp → Prop} : gName 15 v (x0 :: x1 :: x2 :: x3 :: x4 :: x5 :: x6 :: x7 :: x8 :: x9 :: x10 :: x11 :: x12 :: x13 :: x14 :: o :: σ) H R = R (x0 :: x1 :: x2 :: x3 :: x4 :: x5 :: x6 :: x7 :: x8 :: x9 :: x10 :: x11 :: x12 :: x13 :: x14 :: some v :: σ) H := rfl
theorem q_aug15 {x0 x1 x2 x3 x4 x5 x6 x7 x8 x9 x10 x11 x12 x13 x14 : Option V} {f : Int → Int → Int} {a : Int} {σ : L2.St} : tAug 15 te (ipI f) ⟨nx, rt, bk, ct⟩ (x0 :: x1 :: x2 :: x3 :: x4 :: x5 :: x6 :: x7 :: x8 :: x9 :: x10 :: x11 :: x12 :: x13 :: x14 :: some (.int a) :: σ) H = te (x0 :: x1 :: x2 :: x3 :: x4 :: x5 :: x6 :: x7 :: x8 :: x9 :: x10 :: x11 :: x12 :: x13 :: x14 :: some (.int a) :: σ) H fun y H1 => ∃ b, y = .int b ∧ nx (x0 :: x1 :: x2 :: x3 :: x4 :: x5 :: x6 :: x7 :: x8 :: x9 :: x10 :: x11 :: x12 :: x13 :: x14 :: some (.int (f a b)) :: σ) H1 := by
  have e : (fun y H1 => ∃ b, y = V.int b ∧ nx (x0 :: x1 :: x2 :: x3 :: x4 :: x5 :: x6 :: x7 :: x8 :: x9 :: x10 :: x11 :: x12 :: x13 :: x14 :: some (.int (f a b)) :: σ) H1) = (fun y H1 => ipI f (.int a) y H1 fun z H2 => nx (x0 :: x1 :: x2 :: x3 :: x4 :: x5 :: x6 :: x7 :: x8 :: x9 :: x10 :: x11 :: x12 :: x13 :: x14 :: some z :: σ) H2) := by
    funext y H1
    exact propext ⟨fun ⟨b, e1, q⟩ => ⟨a, b, rfl, e1, q⟩, fun ⟨a', b, e0, e1, q⟩ => by cases e0; exact ⟨b, e1, q⟩⟩
  rw [e]
  exact propext ⟨fun ⟨x, e, q⟩ => by cases (show some (V.int a) = some _ from Option.some.inj e); exact q, fun q => ⟨_, rfl, q⟩⟩
theorem q_var16 {x0 x1 x2 x3 x4 x5 x6 x7 x8 x9 x10 x11 x12 x13 x14 x15 : Option V} {σ : L2.St} : tVar 16 (x0 :: x1 :: x2 :: x3 :: x4 :: x5 :: x6 :: x7 :: x8 :: x9 :: x10 :: x11 :: x12 :: x13 :: x14 :: x15 :: some v :: σ) H Q = Q v H := propext ⟨fun ⟨_, e, q⟩ => by cases (show some v = some _ from Option.some.inj e); exact q, fun q => ⟨v, rfl, q⟩⟩
theorem q_asg16 {x0 x1 x2 x3 x4 x5 x6 x7 x8 x9 x10 x11 x12 x13 x14 x15 : Option V} {o : Option V} {σ : L2.St} : tAsg te (gName 16) ⟨nx, rt, bk, ct⟩ (x0 :: x1 :: x2 :: x3 :: x4 :: x5 :: x6 :: x7 :: x8 :: x9 :: x10 :: x11 :: x12 :: x13 :: x14 :: x15 :: o :: σ) H = te (x0 :: x1 :: x2 :: x3 :: x4 :: x5 :: x6 :: x7 :: x8 :: x9 :: x10 :: x11 :: x12 :: x13 :: x14 :: x15 :: o :: σ) H fun x H1 => nx (x0 :: x1 :: x2 :: x3 :: x4 :: x5 :: x6 :: x7 :: x8 :: x9 :: x10 :: x11 :: x12 :: x13 :: x14 :: x15 :: some x :: σ) H1 := rfl
theorem q_gn16 {x0 x1 x2 x3 x4 x5 x6 x7 x8 x9 x10 x11 x12 x13 x14 x15 : Option V} {o : Option V} {σ : L2.St} {R : L2.St → Hp → Prop} : gName 16 v (x0 :: x1 :: x2 :: x3 :: x4 :: x5 :: x6 :: x7 :: x8 :: x9 :: x10 :: x11 :: x12 :: x13 :: x14 :: x15 :: o :: σ) H R = R (x0 :: x1 :: x2 :: x3 :: x4 :: x5 :: x6 :: x7 :: x8 :: x9 :: x10 :: x11 :: x12 :: x13 :: x14 :: x15 :: some v :: σ) H := rfl
theorem q_aug16 {x0 x1 x2 x3 x4 x5 x6 x7 x8 x9 x10 x11 x12 x13 x14 x15 : Option V} {f : Int → Int → Int} {a : Int} {σ : L2.St} : tAug 16 te (ipI f) ⟨nx, rt, bk, ct⟩ (x0 :: x1 :: x2 :: x3 :: x4 :: x5 :: x6 :: x7 :: x8 :: x9 :: x10 :: x11 :: x12 :: x13 :: x14 :: x15 :: some (.int a) :: σ) H = te (x0 :: x1 :: x2 :: x3 :: x4 :: x5 :: x6 :: x7 :: x8 :: x9 :: x10 :: x11 :: x12 :: x13 :: x14 :: x15 :: some (.int a) :: σ) H fun y H1 => ∃ b, y = .int b ∧ nx (x0 :: x1 :: x2 :: x3 :: x4 :: x5 :: x6 :: x7 :: x8 :: x9 :: x10 :: x11 :: x12 :: x13 :: x14 :: x15 :: some (.int (f a b)) :: σ) H1 := by
  have e : (fun y H1 => ∃ b, y = V.int b ∧ nx (x0 :: x1 :: x2 :: x3 :: x4 :: x5 :: x6 :: x7 :: x8 :: x9 :: x10 :: x11 :: x12 :: x13 :: x14 :: x15 :: some (.int (f a b)) :: σ) H1) = (fun y H1 => ipI f (.int a) y H1 fun z H2 => nx (x0 :: x1 :: x2 :: x3 :: x4 :: x5 :: x6 :: x7 :: x8 :: x9 :: x10 :: x11 :: x12 :: x13 :: x14 :: x15 :: some z :: σ) H2) := by
    funext y H1
    exact propext ⟨fun ⟨b, e1, q⟩ => ⟨a, b, rfl, e1, q⟩, fun ⟨a', b, e0, e1, q⟩ => by cases e0; exact ⟨b, e1, q⟩⟩
  rw [e]
  exact propext ⟨fun ⟨x, e, q⟩ => by cases (show some (V.int a) = some _ from Option.some.inj e); exact q, fun q => ⟨_, rfl, q⟩⟩
theorem q_var17 {x0 x1 x2 x3 x4 x5 x6 x7 x8 x9 x10 x11 x12 x13 x14 x15 x16 : Option V} {σ : L2.St} : tVar 17 (x0 :: x1 :: x2 :: x3 :: x4 :: x5 :: x6 :: x7 :: x8 :: x9 :: x10 :: x11 :: x12 :: x13 :: x14 :: x15 :: x16 :: some v :: σ) H Q = Q v H := propext ⟨fun ⟨_, e, q⟩ => by cases (show some v = some _ from Option.some.inj e); exact q, fun q => ⟨v, rfl, q⟩⟩
theorem q_asg17 {x0 x1 x2 x3 x4 x5 x6 x7 x8 x9 x10 x11 x12 x13 x14 x15 x16 : Option V} {o : Option V} {σ : L2.St} : tAsg te (gName 17) ⟨nx, rt, bk, ct⟩ (x0 :: x1 :: x2 :: x3 :: x4 :: x5 :: x6 :: x7 :: x8 :: x9 :: x10 :: x11 :: x12 :: x13 :: x14 :: x15 :: x16 :: o :: σ) H = te (x0 :: x1 :: x2 :: x3 :: x4 :: x5 :: x6 :: x7 :: x8 :: x9 :: x10 :: x11 :: x12 :: x13 :: x14 :: x15 :: x16 :: o :: σ) H fun x H1 => nx (x0 :: x1 :: x2 :: x3 :: x4 :: x5 :: x6 :: x7 :: x8 :: x9 :: x10 :: x11 :: x12 :: x13 :: x14 :: x15 :: x16 :: some x :: σ) H1 := rfl
theorem q_gn17 {x0 x1 x2 x3 x4 x5 x6 x7 x8 x9 x10 x11 x12 x13 x14 x15 x16 : Option V} {o : Option V} {σ : L2.St} {R : L2.St → Hp → Prop} : gName 17 v (x0 :: x1 :: x2 :: x3 :: x4 :: x5 :: x6 :: x7 :: x8 :: x9 :: x10 :: x11 :: x12 :: x13 :: x14 :: x15 :: x16 :: o :: σ) H R = R (x0 :: x1 :: x2 :: x3 :: x4 :: x5 :: x6 :: x7 :: x8 :: x9 :: x10 :: x11 :: x12 :: x13 :: x14 :: x15 :: x16 :: some v :: σ) H := rfl
theorem q_aug17 {x0 x1 x2 x3 x4 x5 x6 x7 x8 x9 x10 x11 x12 x13 x14 x15 x16 : Option V} {f : Int → Int → Int} {a : Int} {σ : L2.St} : tAug 17 te (ipI f) ⟨nx, rt, bk, ct⟩ (x0 :: x1 :: x2 :: x3 :: x4 :: x5 :: x6 :: x7 :: x8 :: x9 :: x10 :: x11 :: x12 :: x13 :: x14 :: x15 :: x16 :: some (.int a) :: σ) H = te (x0 :: x1 :: x2 :: x3 :: x4 :: x5 :: x6 :: x7 :: x8 :: x9 :: x10 :: x11 :: x12 :: x13 :: x14 :: x15 :: x16 :: some (.int a) :: σ) H fun y H1 => ∃ b, y = .int b ∧ nx (x0 :: x1 :: x2 :: x3 :: x4 :: x5 :: x6 :: x7 :: x8 :: x9 :: x10 :: x11 :: x12 :: x13 :: x14 :: x15 :: x16 :: some (.int (f a b)) :: σ) H1 := by
  have e : (fun y H1 => ∃ b, y = V.int b ∧ nx (x0 :: x1 :: x2 :: x3 :: x4 :: x5 :: x6 :: x7 :: x8 :: x9 :: x10 :: x11 :: x12 :: x13 :: x14 :: x15 :: x16 :: some (.int (f a b)) :: σ) H1) = (fun y H1 => ipI f (.int a) y H1 fun z H2 => nx (x0 :: x1 :: x2 :: x3 :: x4 :: x5 :: x6 :: x7 :: x8 :: x9 :: x10 :: x11 :: x12 :: x13 :: x14 :: x15 :: x16 :: some z :: σ) H2) := by
    funext y H1
    exact propext ⟨fun ⟨b, e1, q⟩ => ⟨a, b, rfl, e1, q⟩, fun ⟨a', b, e0, e1, q⟩ => by cases e0; exact ⟨b, e1, q⟩⟩
  rw [e]
  exact propext ⟨fun ⟨x, e, q⟩ => by cases (show some (V.int a) = some _ from Option.some.inj e); exact q, fun q => ⟨_, rfl, q⟩⟩
theorem q_var18 {x0 x1 x2 x3 x4 x5 x6 x7 x8 x9 x10 x11 x12 x13 x14 x15 x16 x17 : Option V} {σ : L2.St} : tVar 18 (x0 :: x1 :: x2 :: x3 :: x4 :: x5 :: x6 :: x7 :: x8 :: x9 :: x10 :: x11 :: x12 :: x13 :: x14 :: x15 :: x16 :: x17 :: some v :: σ) H Q = Q v H := propext ⟨fun ⟨_, e, q⟩ => by cases (show some v = some _ from Option.some.inj e); exact q, fun q => ⟨v, rfl, q⟩⟩
theorem q_asg18 {x0 x1 x2 x3 x4 x5 x6 x7 x8 x9 x10 x11 x12 x13 x14 x15 x16 x17 : Option V} {o : Option V} {σ : L2.St} : tAsg te (gName 18) ⟨nx, rt, bk, ct⟩ (x0 :: x1 :: x2 :: x3 :: x4 :: x5 :: x6 :: x7 :: x8 :: x9 :: x10 :: x11 :: x12 :: x13 :: x14 :: x15 :: x16 :: x17 :: o :: σ) H = te (x0 :: x1 :: x2 :: x3 :: x4 :: x5 :: x6 :: x7 :: x8 :: x9 :: x10 :: x11 :: x12 :: x13 :: x14 :: x15 :: x16 :: x17 :: o :: σ) H fun x H1 => nx (x0 :: x1 :: x2 :: x3 :: x4 :: x5 :: x6 :: x7 :: x8 :: x9 :: x10 :: x11 :: x12 :: x13 :: x14 :: x15 :: x16 :: x17 :: some x :: σ) H1 := rfl
theorem q_gn18 {x0 x1 x2 x3 x4 x5 x6 x7 x8 x9 x10 x11 x12 x13 x14 x15 x16 x17 : Option V} {o : Option V} {σ : L2.St} {R : L2.St → Hp → Prop} : gName 18 v (x0 :: x1 :: x2 :: x3 :: x4 :: x5 :: x6 :: x7 :: x8 :: x9 :: x10 :: x11 :: x12 :: x13 :: x14 :: x15 :: x16 :: x17 :: o :: σ) H R = R (x0 :: x1 :: x2 :: x3 :: x4 :: x5 :: x6 :: x7 :: x8 :: x9 :: x10 :: x11 :: x12 :: x13 :: x14 :: x15 :: x16 :: x17 :: some v :: σ) H := rfl
theorem q_aug18 {x0 x1 x2 x3 x4 x5 x6 x7 x8 x9 x10 x11 x12 x13 x14 x15 x16 x17 : Option V} {f : Int → Int → Int} {a : Int} {σ : L2.St} : tAug 18 te (ipI f) ⟨nx, rt, bk, ct⟩ (x0 :: x1 :: x2 :: x3 :: x4 :: x5 :: x6 :: x7 :: x8 :: x9 :: x10 :: x11 :: x12 :: x13 :: x14 :: x15 :: x16 :: x17 :: some (.int a) :: σ) H = te (x0 :: x1 :: x2 :: x3 :: x4 :: x5 :: x6 :: x7 :: x8 :: x9 :: x10 :: x11 :: x12 :: x13 :: x14 :: x15 :: x16 :: x17 :: some (.int a) :: σ) H fun y H1 => ∃ b, y = .int b ∧ nx (x0 :: x1 :: x2 :: x3 :: x4 :: x5 :: x6 :: x7 :: x8 :: x9 :: x10 :: x11 :: x12 :: x13 :: x14 :: x15 :: x16 :: x17 :: some (.int (f a b)) :: σ) H1 := by
  have e : (fun y H1 => ∃ b, y = V.int b ∧ nx (x0 :: x1 :: x2 :: x3 :: x4 :: x5 :: x6 :: x7 :: x8 :: x9 :: x10 :: x11 :: x12 :: x13 :: x14 :: x15 :: x16 :: x17 :: some (.int (f a b)) :: σ) H1) = (fun y H1 => ipI f (.int a) y H1 fun z H2 => nx (x0 :: x1 :: x2 :: x3 :: x4 :: x5 :: x6 :: x7 :: x8 :: x9 :: x10 :: x11 :: x12 :: x13 :: x14 :: x15 :: x16 :: x17 :: some z :: σ) H2) := by
    funext y H1
    exact propext ⟨fun ⟨b, e1, q⟩ => ⟨a, b, rfl, e1, q⟩, fun ⟨a', b, e0, e1, q⟩ => by cases e0; exact ⟨b, e1, q⟩⟩
  rw [e]
  exact propext ⟨fun ⟨x, e, q⟩ => by cases (show some (V.int a) = some _ from Option.some.inj e); exact q, fun q => ⟨_, rfl, q⟩⟩
theorem q_var19 {x0 x1 x2 x3 x4 x5 x6 x7 x8 x9 x10 x11 x12 x13 x14 x15 x16 x17 x18 : Option V} {σ : L2.St} : tVar 19 (x0 :: x1 :: x2 :: x3 :: x4 :: x5 :: x6 :: x7 :: x8 :: x9 :: x10 :: x11 :: x12 :: x13 :: x14 :: x15 :: x16 :: x17 :: x18 :: some v :: σ) H Q = Q v H := propext ⟨fun ⟨_, e, q⟩ => by cases (show some v = some _ from Option.some.inj e); exact q, fun q => ⟨v, rfl, q⟩⟩
theorem q_asg19 {x0 x1 x2 x3 x4 x5 x6 x7 x8 x9 x10 x11 x12 x13 x14 x15 x16 x17 x18 : Option V} {o : Option V} {σ : L2.St} : tAsg te (gName 19) ⟨nx, rt, bk, ct⟩ (x0 :: x1 :: x2 :: x3 :: x4 :: x5 :: x6 :: x7 :: x8 :: x9 :: x10 :: x11 :: x12 :: x13 :: x14 :: x15 :: x16 :: x17 :: x18 :: o :: σ) H = te (x0 :: x1 :: x2 :: x3 :: x4 :: x5 :: x6 :: x7 :: x8 :: x9 :: x10 :: x11 :: x12 :: x13 :: x14 :: x15 :: x16 :: x17 :: x18 :: o :: σ) H fun x H1 => nx (x0 :: x1 :: x2 :: x3 :: x4 :: x5 :: x6 :: x7 :: x8 :: x9 :: x10 :: x11 :: x12 :: x13 :: x14 :: x15 :: x16 :: x17 :: x18 :: some x :: σ) H1 := rfl
theorem q_gn19 {x0 x1 x2 x3 x4 x5 x6 x7 x8 x9 x10 x11 x12 x13 x14 x15 x16 x17 x18 : Option V} {o : Option V} {σ : L2.St} {R : L2.St → Hp → Prop} : gName 19 v (x0 :: x1 :: x2 :: x3 :: x4 :: x5 :: x6 :: x7 :: x8 :: x9 :: x10 :: x11 :: x12 :: x13 :: x14 :: x15 :: x16 :: x17 :: x18 :: o :: σ) H R = R (x0 :: x1 :: x2 :: x3 :: x4 :: x5 :: x6 :: x7 :: x8 :: x9 :: x10 :: x11 :: x12 :: x13 :: x14 :: x15 :: x16 :: x17 :: x18 :: some v :: σ) H := rfl
theorem q_aug19 {x0 x1 x2 x3 x4 x5 x6 x7 x8 x9 x10 x11 x12 x13 x14 x15 x16 x17 x18 : Option V} {f : Int → Int → Int} {a : Int} {σ : L2.St} : tAug 19 te (ipI f) ⟨nx, rt, bk, ct⟩ (x0 :: x1 :: x2 :: x3 :: x4 :: x5 :: x6 :: x7 :: x8 :: x9 :: x10 :: x11 :: x12 :: x13 :: x14 :: x15 :: x16 :: x17 :: x18 :: some (.int a) :: σ) H = te (x0 :: x1 :: x2 :: x3 :: x4 :: x5 :: x6 :: x7 :: x8 :: x9 :: x10 :: x11 :: x12 :: x13 :: x14 :: x15 :: x16 :: x17 :: x18 :: some (.int a) :: σ) H fun y H1 => ∃ b, y = .int b ∧ nx (x0 :: x1 :: x2 :: x3 :: x4 :: x5 :: x6 :: x7 :: x8 :: x9 :: x10 :: x11 :: x12 :: x13 :: x14 :: x15 :: x16 :: x17 :: x18 :: some (.int (f a b)) :: σ) H1 := by
  have e : (fun y H1 => ∃ b, y = V.int b ∧ nx (x0 :: x1 :: x2 :: x3 :: x4 :: x5 :: x6 :: x7 :: x8 :: x9 :: x10 :: x11 :: x12 :: x13 :: x14 :: x15 :: x16 :: x17 :: x18 :: some (.int (f a b)) :: σ) H1) = (fun y H1 => ipI f (.int a) y H1 fun z H2 => nx (x0 :: x1 :: x2 :: x3 :: x4 :: x5 :: x6 :: x7 :: x8 :: x9 :: x10 :: x11 :: x12 :: x13 :: x14 :: x15 :: x16 :: x17 :: x18 :: some z :: σ) H2) := by
    funext y H1
    exact propext ⟨fun ⟨b, e1, q⟩ => ⟨a, b, rfl, e1, q⟩, fun ⟨a', b, e0, e1, q⟩ => by cases e0; exact ⟨b, e1, q⟩⟩
  rw [e]
  exact propext ⟨fun ⟨x, e, q⟩ => by cases (show some (V.int a) = some _ from Option.some.inj e); exact q, fun q => ⟨_, rfl, q⟩⟩
theorem q_var20 {x0 x1 x2 x3 x4 x5 x6 x7 x8 x9 x10 x11 x12 x13 x14 x15 x16 x17 x18 x19 : Option V} {σ : L2.St} : tVar 20 (x0 :: x1 :: x2 :: x3 :: x4 :: x5 :: x6 :: x7 :: x8 :: x9 :: x10 :: x11 :: x12 :: x13 :: x14 :: x15 :: x16 :: x17 :: x18 :: x19 :: some v :: σ) H Q = Q v H := propext ⟨fun ⟨_, e, q⟩ => by cases (show some v = some _ from Option.some.inj e); exact q, fun q => ⟨v, rfl, q⟩⟩
theorem q_asg20 {x0 x1 x2 x3 x4 x5 x6 x7 x8 x9 x10 x11 x12 x13 x14 x15 x16 x17 x18 x19 : Option V} {o : Option V} {σ : L2.St} : tAsg te (gName 20) ⟨nx, rt, bk, ct⟩ (x0 :: x1 :: x2 :: x3 :: x4 :: x5 :: x6 :: x7 :: x8 :: x9 :: x10 :: x11 :: x12 :: x13 :: x14 :: x15 :: x16 :: x17 :: x18 :: x19 :: o :: σ) H = te (x0 :: x1 :: x2 :: x3 :: x4 :: x5 :: x6 :: x7 :: x8 :: x9 :: x10 :: x11 :: x12 :: x13 :: x14 :: x15 :: x16 :: x17 :: x18 :: x19 :: o :: σ) H fun x H1 => nx (x0 :: x1 :: x2 :: x3 :: x4 :: x5 :: x6 :: x7 :: x8 :: x9 :: x10 :: x11 :: x12 :: x13 :: x14 :: x15 :: x16 :: x17 :: x18 :: x19 :: some x :: σ) H1 := rfl
theorem q_gn20 {x0 x1 x2 x3 x4 x5 x6 x7 x8 x9 x10 x11 x12 x13 x14 x15 x16 x17 x18 x19 : Option V} {o : Option V} {σ : L2.St} {R : L2.St → Hp → Prop} : gName 20 v (x0 :: x1 :: x2 :: x3 :: x4 :: x5 :: x6 :: x7 :: x8 :: x9 :: x10 :: x11 :: x12 :: x13 :: x14 :: x15 :: x16 :: x17 :: x18 :: x19 :: o :: σ) H R = R (x0 :: x1 :: x2 :: x3 :: x4 :: x5 :: x6 :: x7 :: x8 :: x9 :: x10 :: x11 :: x12 :: x13 :: x14 :: x15 :: x16 :: x17 :: x18 :: x19 :: some v :: σ) H := rfl
theorem q_aug20 {x0 x1 x2 x3 x4 x5 x6 x7 x8 x9 x10 x11 x12 x13 x14 x15 x16 x17 x18 x19 : Option V} {f : Int → Int → Int} {a : Int} {σ : L2.St} : tAug 20 te (ipI f) ⟨nx, rt, bk, ct⟩ (x0 :: x1 :: x2 :: x3 :: x4 :: x5 :: x6 :: x7 :: x8 :: x9 :: x10 :: x11 :: x12 :: x13 :: x14 :: x15 :: x16 :: x17 :: x18 :: x19 :: some (.int a) :: σ) H = te (x0 :: x1 :: x2 :: x3 :: x4 :: x5 :: x6 :: x7 :: x8 :: x9 :: x10 :: x11 :: x12 :: x13 :: x14 :: x15 :: x16 :: x17 :: x18 :: x19 :: some (.int a) :: σ) H fun y H1 => ∃ b, y = .int b ∧ nx (x0 :: x1 :: x2 :: x3 :: x4 :: x5 :: x6 :: x7 :: x8 :: x9 :: x10 :: x11 :: x12 :: x13 :: x14 :: x15 :: x16 :: x17 :: x18 :: x19 :: some (.int (f a b)) :: σ) H1 := by
  have e : (fun y H1 => ∃ b, y = V.int b ∧ nx (x0 :: x1 :: x2 :: x3 :: x4 :: x5 :: x6 :: x7 :: x8 :: x9 :: x10 :: x11 :: x12 :: x13 :: x14 :: x15 :: x16 :: x17 :: x18 :: x19 :: some (.int (f a b)) :: σ) H1) = (fun y H1 => ipI f (.int a) y H1 fun z H2 => nx (x0 :: x1 :: x2 :: x3 :: x4 :: x5 :: x6 :: x7 :: x8 :: x9 :: x10 :: x11 :: x12 :: x13 :: x14 :: x15 :: x16 :: x17 :: x18 :: x19 :: some z :: σ) H2) := by
    funext y H1
    exact propext ⟨fun ⟨b, e1, q⟩ => ⟨a, b, rfl, e1, q⟩, fun ⟨a', b, e0, e1, q⟩ => by cases e0; exact ⟨b, e1, q⟩⟩
  rw [e]
  exact propext ⟨fun ⟨x, e, q⟩ => by cases (show some (V.int a) = some _ from Option.some.inj e); exact q, fun q => ⟨_, rfl, q⟩⟩
theorem q_var21 {x0 x1 x2 x3 x4 x5 x6 x7 x8 x9 x10 x11 x12 x13 x14 x15 x16 x17 x18 x19 x20 : Option V} {σ : L2.St} : tVar 21 (x0 :: x1 :: x2 :: x3 :: x4 :: x5 :: x6 :: x7 :: x8 :: x9 :: x10 :: x11 :: x12 :: x13 :: x14 :: x15 :: x16 :: x17 :: x18 :: x19 :: x20 :: some v :: σ) H Q = Q v H := propext ⟨fun ⟨_, e, q⟩ => by cases (show some v = some _ from Option.some.inj e); exact q, fun q => ⟨v, rfl, q⟩⟩
theorem q_asg21 {x0 x1 x2 x3 x4 x5 x6 x7 x8 x9 x10 x11 x12 x13 x14 x15 x16 x17 x18 x19 x20 : Option V} {o : Option V} {σ : L2.St} : tAsg te (gName 21) ⟨nx, rt, bk, ct⟩ (x0 :: x1 :: x2 :: x3 :: x4 :: x5 :: x6 :: x7 :: x8 :: x9 :: x10 :: x11 :: x12 :: x13 :: x14 :: x15 :: x16 :: x17 :: x18 :: x19 :: x20 :: o :: σ) H = te (x0 :: x1 :: x2 :: x3 :: x4 :: x5 :: x6 :: x7 :: x8 :: x9 :: x10 :: x11 :: x12 :: x13 :: x14 :: x15 :: x16 :: x17 :: x18 :: x19 :: x20 :: o :: σ) H fun x H1 => nx (x0 :: x1 :: x2 :: x3 :: x4 :: x5 :: x6 :: x7 :: x8 :: x9 :: x10 :: x11 :: x12 :: x13 :: x14 :: x15 :: x16 :: x17 :: x18 :: x19 :: x20 :: some x :: σ) H1 := rfl
theorem q_gn21 {x0 x1 x2 x3 x4 x5 x6 x7 x8 x9 x10 x11 x12 x13 x14 x15 x16 x17 x18 x19 x20 : Option V} {o : Option V} {σ : L2.St} {R : L2.St → Hp → Prop} : gName 21 v (x0 :: x1 :: x2 :: x3 :: x4 :: x5 :: x6 :: x7 :: x8 :: x9 :: x10 :: x11 :: x12 :: x13 :: x14 :: x15 :: x16 :: x17 :: x18 :: x19 :: x20 :: o :: σ) H R = R (x0 :: x1 :: x2 :: x3 :: x4 :: x5 :: x6 :: x7 :: x8 :: x9 :: x10 :: x11 :: x12 :: x13 :: x14 :: x15 :: x16 :: x17 :: x18 :: x19 :: x20 :: some v :: σ) H := rfl
theorem q_aug21 {x0 x1 x2 x3 x4 x5 x6 x7 x8 x9 x10 x11 x12 x13 x14 x15 x16 x17 x18 x19 x20 : Option V} {f : Int → Int → Int} {a : Int} {σ : L2.St} : tAug 21 te (ipI f) ⟨nx, rt, bk, ct⟩ (x0 :: x1 :: x2 :: x3 :: x4 :: x5 :: x6 :: x7 :: x8 :: x9 :: x10 :: x11 :: x12 :: x13 :: x14 :: x15 :: x16 :: x17 :: x18 :: x19 :: x20 :: some (.int a) :: σ) H = te (x0 :: x1 :: x2 :: x3 :: x4 :: x5 :: x6 :: x7 :: x8 :: x9 :: x10 :: x11 :: x12 :: x13 :: x14 :: x15 :: x16 :: x17 :: x18 :: x19 :: x20 :: some (.int a) :: σ) H fun y H1 => ∃ b, y = .int b ∧ nx (x0 :: x1 :: x2 :: x3 :: x4 :: x5 :: x6 :: x7 :: x8 :: x9 :: x10 :: x11 :: x12 :: x13 :: x14 :: x15 :: x16 :: x17 :: x18 :: x19 :: x20 :: some (.int (f a b)) :: σ) H1 := by
  have e : (fun y H1 => ∃ b, y = V.int b ∧ nx (x0 :: x1 :: x2 :: x3 :: x4 :: x5 :: x6 :: x7 :: x8 :: x9 :: x10 :: x11 :: x12 :: x13 :: x14 :: x15 :: x16 :: x17 :: x18 :: x19 :: x20 :: some (.int (f a b)) :: σ) H1) = (fun y H1 => ipI f (.int a) y H1 fun z H2 => nx (x0 :: x1 :: x2 :: x3 :: x4 :: x5 :: x6 :: x7 :: x8 :: x9 :: x10 :: x11 :: x12 :: x13 :: x14 :: x15 :: x16 :: x17 :: x18 :: x19 :: x20 :: some z :: σ) H2) := by
    funext y H1
    exact propext ⟨fun ⟨b, e1, q⟩ => ⟨a, b, rfl, e1, q⟩, fun ⟨a', b, e0, e1, q⟩ => by cases e0; exact ⟨b, e1, q⟩⟩
  rw [e]
  exact propext ⟨fun ⟨x, e, q⟩ => by cases (show some (V.int a) = some _ from Option.some.inj e); exact q, fun q => ⟨_, rfl, q⟩⟩
theorem q_var22 {x0 x1 x2 x3 x4 x5 x6 x7 x8 x9 x10 x11 x12 x13 x14 x15 x16 x17 x18 x19 x20 x21 : Option V} {σ : L2.St} : tVar 22 (x0 :: x1 :: x2 :: x3 :: x4 :: x5 :: x6 :: x7 :: x8 :: x9 :: x10 :: x11 :: x12 :: x13 :: x14 :: x15 :: x16 :: x17 :: x18 :: x19 :: x20 :: x21 :: some v :: σ) H Q = Q v H := propext ⟨fun ⟨_, e, q⟩ => by cases (show some v = some _ from Option.some.inj e); exact q, fun q => ⟨v, rfl, q⟩⟩
theorem q_asg22 {x0 x1 x2 x3 x4 x5 x6 x7 x8 x9 x10 x11 x12 x13 x14 x15 x16 x17 x18 x19 x20 x21 : Option V} {o : Option V} {σ : L2.St} : tAsg te (gName 22) ⟨nx, rt, bk, ct⟩ (x0 :: x1 :: x2 :: x3 :: x4 :: x5 :: x6 :: x7 :: x8 :: x9 :: x10 :: x11 :: x12 :: x13 :: x14 :: x15 :: x16 :: x17 :: x18 :: x19 :: x20 :: x21 :: o :: σ) H = te (x0 :: x1 :: x2 :: x3 :: x4 :: x5 :: x6 :: x7 :: x8 :: x9 :: x10 :: x11 :: x12 :: x13 :: x14 :: x15 :: x16 :: x17 :: x18 :: x19 :: x20 :: x21 :: o :: σ) H fun x H1 => nx (x0 :: x1 :: x2 :: x3 :: x4 :: x5 :: x6 :: x7 :: x8 :: x9 :: x10 :: x11 :: x12 :: x13 :: x14 :: x15 :: x16 :: x17 :: x18 :: x19 :: x20 :: x21 :: some x :: σ) H1 := rfl
theorem q_gn22 {x0 x1 x2 x3 x4 x5 x6 x7 x8 x9 x10 x11 x12 x13 x14 x15 x16 x17 x18 x19 x20 x21 : Option V} {o : Option V} {σ : L2.St} {R : L2.St → Hp → Prop} : gName 22 v (x0 :: x1 :: x2 :: x3 :: x4 :: x5 :: x6 :: x7 :: x8 :: x9 :: x10 :: x11 :: x12 :: x13 :: x14 :: x15 :: x16 :: x17 :: x18 :: x19 :: x20 :: x21 :: o :: σ) H R = R (x0 :: x1 :: x2 :: x3 :: x4 :: x5 :: x6 :: x7 :: x8 :: x9 :: x10 :: x11 :: x12 :: x13 :: x14 :: x15 :: x16 :: x17 :: x18 :: x19 :: x20 :: x21 :: some v :: σ) H := rfl
theorem q_aug22 {x0 x1 x2 x3 x4 x5 x6 x7 x8 x9 x10 x11 x12 x13 x14 x15 x16 x17 x18 x19 x20 x21 : Option V} {f : Int → Int → Int} {a : Int} {σ : L2.St} : tAug 22 te (ipI f) ⟨nx, rt, bk, ct⟩ (x0 :: x1 :: x2 :: x3 :: x4 :: x5 :: x6 :: x7 :: x8 :: x9 :: x10 :: x11 :: x12 :: x13 :: x14 :: x15 :: x16 :: x17 :: x18 :: x19 :: x20 :: x21 :: some (.int a) :: σ) H = te (x0 :: x1 :: x2 :: x3 :: x4 :: x5 :: x6 :: x7 :: x8 :: x9 :: x10 :: x11 :: x12 :: x13 :: x14 :: x15 :: x16 :: x17 :: x18 :: x19 :: x20 :: x21 :: some (.int a) :: σ) H fun y H1 => ∃ b, y = .int b ∧ nx (x0 :: x1 :: x2 :: x3 :: x4 :: x5 :: x6 :: x7 :: x8 :: x9 :: x10 :: x11 :: x12 :: x13 :: x14 :: x15 :: x16 :: x17 :: x18 :: x19 :: x20 :: x21 :: some (.int (f a b)) :: σ) H1 := by
  have e : (fun y H1 => ∃ b, y = V.int b ∧ nx (x0 :: x1 :: x2 :: x3 :: x4 :: x5 :: x6 :: x7 :: x8 :: x9 :: x10 :: x11 :: x12 :: x13 :: x14 :: x15 :: x16 :: x17 :: x18 :: x19 :: x20 :: x21 :: some (.int (f a b)) :: σ) H1) = (fun y H1 => ipI f (.int a) y H1 fun z H2 => nx (x0 :: x1 :: x2 :: x3 :: x4 :: x5 :: x6 :: x7 :: x8 :: x9 :: x10 :: x11 :: x12 :: x13 :: x14 :: x15 :: x16 :: x17 :: x18 :: x19 :: x20 :: x21 :: some z :: σ) H2) := by
    funext y H1
    exact propext ⟨fun ⟨b, e1, q⟩ => ⟨a, b, rfl, e1, q⟩, fun ⟨a', b, e0, e1, q⟩ => by cases e0; exact ⟨b, e1, q⟩⟩
  rw [e]
  exact propext ⟨fun ⟨x, e, q⟩ => by cases (show some (V.int a) = some _ from Option.some.inj e); exact q, fun q => ⟨_, rfl, q⟩⟩
theorem q_var23 {x0 x1 x2 x3 x4 x5 x6 x7 x8 x9 x10 x11 x12 x13 x14 x15 x16 x17 x18 x19 x20 x21 x22 : Option V} {σ : L2.St} : tVar 23 (x0 :: x1 :: x2 :: x3 :: x4 :: x5 :: x6 :: x7 :: x8 :: x9 :: x10 :: x11 :: x12 :: x13 :: x14 :: x15 :: x16 :: x17 :: x18 :: x19 :: x20 :: x21 :: x22 :: some v :: σ) H Q = Q v H := propext ⟨fun ⟨_, e, q⟩ => by cases (show some v = some _ from Option.some.inj e); exact q, fun q => ⟨v, rfl, q⟩⟩
theorem q_asg23 {x0 x1 x2 x3 x4 x5 x6 x7 x8 x9 x10 x11 x12 x13 x14 x15 x16 x17 x18 x19 x20 x21 x22 : Option V} {o : Option V} {σ : L2.St} : tAsg te (gName 23) ⟨nx, rt, bk, ct⟩ (x0 :: x1 :: x2 :: x3 :: x4 :: x5 :: x6 :: x7 :: x8 :: x9 :: x10 :: x11 :: x12 :: x13 :: x14 :: x15 :: x16 :: x17 :: x18 :: x19 :: x20 :: x21 :: x22 :: o :: σ) H = te (x0 :: x1 :: x2 :: x3 :: x4 :: x5 :: x6 :: x7 :: x8 :: x9 :: x10 :: x11 :: x12 :: x13 :: x14 :: x15 :: x16 :: x17 :: x18 :: x19 :: x20 :: x21 :: x22 :: o :: σ) H fun x H1 => nx (x0 :: x1 :: x2 :: x3 :: x4 :: x5 :: x6 :: x7 :: x8 :: x9 :: x10 :: x11 :: x12 :: x13 :: x14 :: x15 :: x16 :: x17 :: x18 :: x19 :: x20 :: x21 :: x22 :: some x :: σ) H1 := rfl
theorem q_gn23 {x0 x1 x2 x3 x4 x5 x6 x7 x8 x9 x10 x11 x12 x13 x14 x15 x16 x17 x18 x19 x20 x21 x22 : Option V} {o : Option V} {σ : L2.St} {R : L2.St → Hp → Prop} : gName 23 v (x0 :: x1 :: x2 :: x3 :: x4 :: x5 :: x6 :: x7 :: x8 :: x9 :: x10 :: x11 :: x12 :: x13 :: x14 :: x15 :: x16 :: x17 :: x18 :: x19 :: x20 :: x21 :: x22 :: o :: σ) H R = R (x0 :: x1 :: x2 :: x3 :: x4 :: x5 :: x6 :: x7 :: x8 :: x9 :: x10 :: x11 :: x12 :: x13 :: x14 :: x15 :: x16 :: x17 :: x18 :: x19 :: x20 :: x21 :: x22 :: some v :: σ) H := rfl
theorem q_aug23 {x0 x1 x2 x3 x4 x5 x6 x7 x8 x9 x10 x11 x12 x13 x14 x15 x16 x17 x18 x19 x20 x21 x22 : Option V} {f : Int → Int → Int} {a : Int} {σ : L2.St} : tAug 23 te (ipI f) ⟨nx, rt, bk, ct⟩ (x0 :: x1 :: x2 :: x3 :: x4 :: x5 :: x6 :: x7 :: x8 :: x9 :: x10 :: x11 :: x12 :: x13 :: x14 :: x15 :: x16 :: x17 :: x18 :: x19 :: x20 :: x21 :: x22 :: some (.int a) :: σ) H = te (x0 :: x1 :: x2 :: x3 :: x4 :: x5 :: x6 :: x7 :: x8 :: x9 :: x10 :: x11 :: x12 :: x13 :: x14 :: x15 :: x16 :: x17 :: x18 :: x19 :: x20 :: x21 :: x22 :: some (.int a) :: σ) H fun y H1 => ∃ b, y = .int b ∧ nx (x0 :: x1 :: x2 :: x3 :: x4 :: x5 :: x6 :: x7 :: x8 :: x9 :: x10 :: x11 :: x12 :: x13 :: x14 :: x15 :: x16 :: x17 :: x18 :: x19 :: x20 :: x21 :: x22 :: some (.int (f a b)) :: σ) H1 := by
  have e : (fun y H1 => ∃ b, y = V.int b ∧ nx (x0 :: x1 :: x2 :: x3 :: x4 :: x5 :: x6 :: x7 :: x8 :: x9 :: x10 :: x11 :: x12 :: x13 :: x14 :: x15 :: x16 :: x17 :: x18 :: x19 :: x20 :: x21 :: x22 :: some (.int (f a b)) :: σ) H1) = (fun y H1 => ipI f (.int a) y H1 fun z H2 => nx (x0 :: x1 :: x2 :: x3 :: x4 :: x5 :: x6 :: x7 :: x8 :: x9 :: x10 :: x11 :: x12 :: x13 :: x14 :: x15 :: x16 :: x17 :: x18 :: x19 :: x20 :: x21 :: x22 :: some z :: σ) H2) := by
    funext y H1
    exact propext ⟨fun ⟨b, e1, q⟩ => ⟨a, b, rfl, e1, q⟩, fun ⟨a', b, e0, e1, q⟩ => by cases e0; exact ⟨b, e1, q⟩⟩
  rw [e]
  exact propext ⟨fun ⟨x, e, q⟩ => by cases (show some (V.int a) = some _ from Option.some.inj e); exact q, fun q => ⟨_, rfl, q⟩⟩
theorem q_seq : tSeq t u ⟨nx, rt, bk, ct⟩ σs H = t ⟨u ⟨nx, rt, bk, ct⟩, rt, bk, ct⟩ σs H := rfl
theorem q_next : tNext ⟨nx, rt, bk, ct⟩ σs H = nx σs H := rfl
theorem q_brk : tBreak ⟨nx, rt, bk, ct⟩ σs H = bk σs H := rfl
theorem q_cont : tCont ⟨nx, rt, bk, ct⟩ σs H = ct σs H := rfl
theorem q_ret : tRet te ⟨nx, rt, bk, ct⟩ σs H = te σs H rt := rfl
theorem q_retN : tRetN ⟨nx, rt, bk, ct⟩ σs H = rt .non H := rfl
theorem q_drop : tDrop te ⟨nx, rt, bk, ct⟩ σs H = te σs H fun _ H1 => nx σs H1 := rfl
theorem q_if : tIfS tt t u ⟨nx, rt, bk, ct⟩ σs H = tt σs H fun b H1 => if b = true then t ⟨nx, rt, bk, ct⟩ σs H1 else u ⟨nx, rt, bk, ct⟩ σs H1 := rfl
theorem q_c : tC v σs H Q = Q v H := rfl
theorem q_op {r : R2} : tOp r ta tc σs H Q = ta σs H fun x H1 => tc σs H1 fun y H2 => r x y H2 Q := rfl
theorem q_un {r : V → Hp → VK → Prop} : tUn r ta σs H Q = ta σs H fun x H1 => r x H1 Q := rfl
theorem q_cb {r : List V → Hp → VK → Prop} : tCB r tA σs H Q = tA σs H fun vs H1 => r vs H1 Q := rfl
theorem q_nil {R : List V → Hp → Prop} : tNil σs H R = R [] H := rfl
theorem q_cons {R : List V → Hp → Prop} : tCons ta tA σs H R = ta σs H fun x H1 => tA σs H1 fun xs H2 => R (x :: xs) H2 := rfl
theorem q_call {sp : Sp} {E : XK} : tCall sp [] E tA σs H Q = tA σs H fun vs H1 => sp vs H1 Q E := by
  have e : (fun vs H1 => sp (vs ++ []) H1 Q E) = (fun vs H1 => sp vs H1 Q E) := by funext vs H1; rw [List.append_nil]
  show (tA σs H fun vs H1 => sp (vs ++ []) H1 Q E) = _
  rw [e]
theorem q_test {R : Bool → Hp → Prop} : tTest te σs H R = te σs H fun x H1 => ∃ k, x = .bl k ∧ R k H1 := rfl
theorem q_tB {R : Bool → Hp → Prop} : tB te σs H R = te σs H fun x H1 => ∃ k, x = .bl k ∧ R k H1 := rfl
theorem q_bl {R : Bool → Prop} {b : Bool} : (∃ k, V.bl b = .bl k ∧ R k) = R b := propext ⟨fun ⟨k, e, q⟩ => by cases e; exact q, fun q => ⟨b, rfl, q⟩⟩
theorem q_int {R : Int → Prop} {b : Int} : (∃ k, V.int b = .int k ∧ R k) = R b := propext ⟨fun ⟨k, e, q⟩ => by cases e; exact q, fun q => ⟨b, rfl, q⟩⟩
theorem q_and {R : Bool → Hp → Prop} : tAnd tt tt' σs H R = tt σs H fun c H1 => if c = true then tt' σs H1 R else R false H1 := rfl
theorem q_or {R : Bool → Hp → Prop} : tOr tt tt' σs H R = tt σs H fun c H1 => if c = true then R true H1 else tt' σs H1 R := rfl
theorem q_not {R : Bool → Hp → Prop} : tNot tt σs H R = tt σs H fun c H1 => R (!c) H1 := rfl
theorem q_andV : tAndV ta tc σs H Q = ta σs H fun x H1 => ∃ c, x = .bl c ∧ if c = true then tc σs H1 Q else Q (.bl false) H1 := rfl
theorem q_orV : tOrV ta tc σs H Q = ta σs H fun x H1 => ∃ c, x = .bl c ∧ if c = true then Q (.bl true) H1 else tc σs H1 Q := rfl
theorem q_notV : tNotV ta σs H Q = ta σs H fun x H1 => ∃ c, x = .bl c ∧ Q (.bl (!c)) H1 := rfl
theorem q_ifE : tIf tt ta tc σs H Q = tt σs H fun c H1 => if c = true then ta σs H1 Q else tc σs H1 Q := rfl
theorem q_I0 {g : Int → Int → V} {i j : Int} : rI0 g (.int i) (.int j) H Q = Q (g i j) H := propext ⟨fun ⟨a, b, e1, e2, q⟩ => by cases e1; cases e2; exact q, fun q => ⟨i, j, rfl, rfl, q⟩⟩
theorem q_I {P : Int → Int → Prop} {g : Int → Int → V} {i j : Int} : rI P g (.int i) (.int j) H Q = (P i j ∧ Q (g i j) H) := propext ⟨fun ⟨a, b, e1, e2, q⟩ => by cases e1; cases e2; exact q, fun q => ⟨i, j, rfl, rfl, q⟩⟩
theorem q_U {g : Int → V} {i : Int} : rU g (.int i) H Q = Q (g i) H := propext ⟨fun ⟨a, e1, q⟩ => by cases e1; exact q, fun q => ⟨i, rfl, q⟩⟩
theorem q_eqI {i j : Int} : rEq (.int i) (.int j) H Q = Q (.bl (decide (i = j))) H := by
  have e : decide (V.int i = V.int j) = decide (i = j) := decide_eq_decide.mpr ⟨fun h => V.int.inj h, fun h => by rw [h]⟩
  refine propext ⟨fun ⟨_, q⟩ => ?_, fun q => ⟨rfl, ?_⟩⟩
  · rw [e] at q; exact q
  · rw [e]; exact q
theorem q_neI {i j : Int} : rNe (.int i) (.int j) H Q = Q (.bl (!decide (i = j))) H := by
  have e : decide (V.int i = V.int j) = decide (i = j) := decide_eq_decide.mpr ⟨fun h => V.int.inj h, fun h => by rw [h]⟩
  refine propext ⟨fun ⟨_, q⟩ => ?_, fun q => ⟨rfl, ?_⟩⟩
  · rw [e] at q; exact q
  · rw [e]; exact q
theorem q_eqS {i j : Str} : rEq (.str i) (.str j) H Q = Q (.bl (decide (i = j))) H := by
  have e : decide (V.str i = V.str j) = decide (i = j) := decide_eq_decide.mpr ⟨fun h => V.str.inj h, fun h => by rw [h]⟩
  refine propext ⟨fun ⟨_, q⟩ => ?_, fun q => ⟨rfl, ?_⟩⟩
  · rw [e] at q; exact q
  · rw [e]; exact q
theorem q_neS {i j : Str} : rNe (.str i) (.str j) H Q = Q (.bl (!decide (i = j))) H := by
  have e : decide (V.str i = V.str j) = decide (i = j) := decide_eq_decide.mpr ⟨fun h => V.str.inj h, fun h => by rw [h]⟩
  refine propext ⟨fun ⟨_, q⟩ => ?_, fun q => ⟨rfl, ?_⟩⟩
  · rw [e] at q; exact q
  · rw [e]; exact q
theorem q_eqB {i j : Bool} : rEq (.bl i) (.bl j) H Q = Q (.bl (decide (i = j))) H := by
  have e : decide (V.bl i = V.bl j) = decide (i = j) := decide_eq_decide.mpr ⟨fun h => V.bl.inj h, fun h => by rw [h]⟩
  refine propext ⟨fun ⟨_, q⟩ => ?_, fun q => ⟨rfl, ?_⟩⟩
  · rw [e] at q; exact q
  · rw [e]; exact q
theorem q_neB {i j : Bool} : rNe (.bl i) (.bl j) H Q = Q (.bl (!decide (i = j))) H := by
  have e : decide (V.bl i = V.bl j) = decide (i = j) := decide_eq_decide.mpr ⟨fun h => V.bl.inj h, fun h => by rw [h]⟩
  refine propext ⟨fun ⟨_, q⟩ => ?_, fun q => ⟨rfl, ?_⟩⟩
  · rw [e] at q; exact q
  · rw [e]; exact q
theorem q_abs {i : Int} : rAbs [.int i] H Q = Q (.int (i.natAbs : Nat)) H := propext ⟨fun ⟨a, e, q⟩ => by cases e; exact q, fun q => ⟨i, rfl, q⟩⟩
theorem q_toint {i : Int} : rInt [.int i] H Q = Q (.int i) H := propext ⟨fun ⟨a, e, q⟩ => by cases e; exact q, fun q => ⟨i, rfl, q⟩⟩
theorem q_tointB {b : Bool} : rIntB [.bl b] H Q = Q (.int (if b then 1 else 0)) H := propext ⟨fun ⟨a, e, q⟩ => by cases e; exact q, fun q => ⟨b, rfl, q⟩⟩
theorem q_lenS {l : List Nat} : rLenS [vS l] H Q = (l.length ≤ sizeLine ∧ Q (.int (l.length : Nat)) H) := propext ⟨fun ⟨m, e, q⟩ => by have e := S_inj.mp (V.str.inj (List.cons.inj e).1); subst e; exact q, fun q => ⟨l, rfl, q⟩⟩
theorem q_addS {l m : List Nat} : rAddS (vS l) (vS m) H Q = (l.length + m.length ≤ sizeLine ∧ Q (vS (l ++ m)) H) := propext ⟨fun ⟨a, b, e, e2, q⟩ => by have e := S_inj.mp (V.str.inj e); subst e; have e2 := S_inj.mp (V.str.inj e2); subst e2; exact q, fun q => ⟨l, m, rfl, rfl, q⟩⟩
theorem q_slS {l : List Nat} {lo hi : Option Int} : rSlSg (vS l) lo hi H Q = (l.length ≤ sizeLine ∧ Q (vS (cutN l lo hi)) H) := propext ⟨fun ⟨a, e, q⟩ => by have e := S_inj.mp (V.str.inj e); subst e; exact q, fun q => ⟨l, rfl, q⟩⟩
theorem q_sl {r : V → Option Int → Option Int → Hp → VK → Prop} {tl th : TO} : tSl r te tl th σs H Q = te σs H fun x H1 => tl σs H1 fun lo H2 => th σs H2 fun hi H3 => r x lo hi H3 Q := rfl
theorem q_noP {R : Option Int → Hp → Prop} : tNoPart σs H R = R none H := rfl
theorem q_part {R : Option Int → Hp → Prop} : tPart te σs H R = te σs H fun x H1 => ∃ i, x = .int i ∧ R (some i) H1 := rfl
theorem q_lst : tLst tA σs H Q = tA σs H fun xs H1 => NewL xs H1 Q := rfl
theorem q_tup : tTup tA σs H Q = tA σs H fun xs H1 => NewT xs H1 Q := rfl
theorem q_bm {T : String} {r : V → List V → Hp → VK → Prop} {to : TE} : tBM K T r to tA σs H Q = to σs H fun x H1 => tyV K T x H1 ∧ tA σs H1 fun vs H2 => r x vs H2 Q := rfl
theorem q_bm0 {T : String} {r : V → List V → Hp → VK → Prop} {to : TE} : tBM0 K T r to σs H Q = to σs H fun x H1 => tyV K T x H1 ∧ r x [] H1 Q := rfl
theorem q_for {wi : TI} : tFor wi g tb ⟨nx, rt, bk, ct⟩ σs H = wi σs H fun J H1 => LoopEnd J g tb ⟨nx, rt, bk, ct⟩ σs H1 := rfl
theorem q_iRng1 {R : It → Hp → Prop} : iRng1 tA σs H R = tA σs H fun vs H1 => Rg1 vs H1 R := rfl
theorem q_iRng2 {R : It → Hp → Prop} : iRng2 tA σs H R = tA σs H fun vs H1 => Rg2 vs H1 R := rfl
theorem q_iRng3 {R : It → Hp → Prop} : iRng3 tA σs H R = tA σs H fun vs H1 => Rg3 vs H1 R := rfl
theorem q_iList {R : It → Hp → Prop} : iList K te σs H R = te σs H fun x H1 => FoL K x H1 R := rfl
theorem q_iTup {R : It → Hp → Prop} : iTup K te σs H R = te σs H fun x H1 => FoT K x H1 R := rfl
theorem q_iStr {R : It → Hp → Prop} : iStr te σs H R = te σs H fun x H1 => FoS x H1 R := rfl
theorem q_iRev {R : It → Hp → Prop} : iRev K tA σs H R = tA σs H fun vs H1 => FoR K vs H1 R := rfl
theorem q_iEnum {R : It → Hp → Prop} : iEnum K tA σs H R = tA σs H fun vs H1 => FoE K vs H1 R := rfl
theorem q_yes {R : Bool → Hp → Prop} : tYes σs H R = R true H := rfl
theorem q_lc {wi : TI} {vs : List Nat} : tLc wi g tt te vs σs H Q = wi σs H fun J H1 => LcEnd J g tt te vs σs H1 Q := rfl
theorem q_iteT {A B : Prop} : (if true = true then A else B) = A := if_pos rfl
theorem q_iteF {A B : Prop} : (if false = true then A else B) = B := if_neg Bool.false_ne_true
theorem w_cdiv {i j : Int} (h1 : 0 < j) (h2 : j < 1073741824) : CDiv i j := ⟨h1, h2⟩
theorem w_cmul1 {i j : Int} (h1 : -(2 ^ 64) < i) (h2 : i < 2 ^ 64) : CMul i j := .inl ⟨h1, h2⟩
theorem w_cmul2 {i j : Int} (h1 : -(2 ^ 64) < j) (h2 : j < 2 ^ 64) : CMul i j := .inr ⟨h1, h2⟩
theorem w_size {n : Nat} (h : n ≤ 16777216) : n ≤ sizeLine := by rw [sizeLine_eq]; exact h
theorem w_sizel {n : Nat} (h : n < 16777216) : n < sizeLine := by rw [sizeLine_eq]; exact h
theorem w_conj {A B : Prop} (h2 : B) (h1 : A) : A ∧ B := ⟨h1, h2⟩
end
end Fw
namespace Fw
open PySem PySem.Spec PyProof.Rows L2
/-! ### isinstance of built-in kinds -/
section
variable {K : PySem.W.Frag} {H : Hp} {Q : VK} {x : V} {i : Int} {z : Str} {bb : Bool} {a : Addr} {xs : List V} {F0 H0 F : Hp} {L : List (Addr × HO)} {C : List Ck}
theorem w_isi {b : Bool} (t n : String) (b : Bool) (ty : TyX K H x (.type t)) (h : kitB t n = some b) (q : Q (.bl b) H) : rIsi K [x, .ty n] H Q := ⟨x, .ty n, _, _, b, rfl, .ty n, ty, kit_ty h, q⟩
theorem w_isiII (q : Q (.bl true) H) : rIsi K [.int i, .ty "int"] H Q := w_isi (b := true) "int" "int" true (.base (.int i)) (by decide +kernel) q
theorem w_isiIB (q : Q (.bl false) H) : rIsi K [.int i, .ty "bool"] H Q := w_isi (b := true) "int" "bool" false (.base (.int i)) (by decide +kernel) q
theorem w_isiBB (q : Q (.bl true) H) : rIsi K [.bl bb, .ty "bool"] H Q := w_isi (b := true) "bool" "bool" true (.base (.bl bb)) (by decide +kernel) q
theorem w_isiSS (q : Q (.bl true) H) : rIsi K [.str z, .ty "str"] H Q := w_isi (b := true) "str" "str" true (.base (.str z)) (by decide +kernel) q
theorem w_isiLL (q : Q (.bl true) H) (h : H a = some (.lst xs)) : rIsi K [.ref a, .ty "list"] H Q := w_isi (b := true) "list" "list" true (.base (.lst h)) (by decide +kernel) q
theorem w_isiTT (q : Q (.bl true) H) (h : H a = some (.tup xs)) : rIsi K [.ref a, .ty "tuple"] H Q := w_isi (b := true) "tuple" "tuple" true (.base (.tup h)) (by decide +kernel) q
end
end Fw
namespace Fw
open PySem PySem.Spec PyProof.Rows L2
theorem w_cut {t u : TS} {nx bk ct : L2.St → Hp → Prop} {rt : VK} {σ : L2.St} {H : Hp} (Mid : L2.St → Hp → Prop) (h1 : t ⟨Mid, rt, bk, ct⟩ σ H) (h2 : ∀ σ' H', Mid σ' H' → u ⟨nx, rt, bk, ct⟩ σ' H') : Evl.tCut t u ⟨nx, rt, bk, ct⟩ σ H := ⟨Mid, h1, h2⟩
end Fw
namespace Fw
open PySem PySem.Spec PyProof.Rows L2
/-! ### lists of tuples -/
def cTs (ts : List Addr) (f : Nat → List V) : Ck := ⟨fun F => ∀ (j : Nat) t, ts[j]? = some t → F t = some (.tup (f j)), fun s h j t e => s _ _ (h j t e)⟩
theorem cTs_nil {F : Hp} (f : Nat → List V) : (cTs [] f).p F := fun j t e => by simp at e
theorem cTs_add {F : Hp} {ts : List Addr} {f : Nat → List V} {t : Addr} (h : (cTs ts f).p F) (e : F t = some (.tup (f ts.length))) : (cTs (ts ++ [t]) f).p F := by
  intro j u hu
  by_cases hj : j < ts.length
  · rw [List.getElem?_append_left hj] at hu
    exact h j u hu
  · rw [List.getElem?_append_right (by omega)] at hu
    by_cases h0 : j - ts.length = 0
    · rw [h0] at hu
      have e1 : t = u := Option.some.inj hu
      have e2 : j = ts.length := by omega
      rw [← e1, e2]
      exact e
    · rw [List.getElem?_eq_none (by simp; omega)] at hu
      cases hu
theorem map_ref_add (ts : List Addr) (t : Addr) : ts.map V.ref ++ [V.ref t] = (ts ++ [t]).map V.ref := by rw [List.map_append]; rfl
theorem cutN_nat (l : List Nat) (a b : Nat) : cutN l (some (a : Int)) (some (b : Int)) = (l.drop a).take (b - a) := by
  unfold cutN
  rw [HT.sIx_nat, HT.sIx_nat]
  by_cases h : a ≤ l.length
  · rw [Nat.min_eq_left h]
    by_cases h2 : b ≤ l.length
    · rw [Nat.min_eq_left h2]
    · rw [Nat.min_eq_right (show l.length ≤ b by omega), List.take_of_length_le (by rw [List.length_drop]; exact Nat.le_refl _), List.take_of_length_le (by rw [List.length_drop]; omega)]
  · rw [Nat.min_eq_right (show l.length ≤ a by omega), List.drop_length, List.drop_eq_nil_of_le (show l.length ≤ a by omega)]
    simp
theorem cutN_to (l : List Nat) (b : Nat) : cutN l none (some (b : Int)) = l.take b := by
  unfold cutN
  rw [HT.sIx_nat, HT.sIx_none]
  show List.take (min b l.length - 0) (l.drop 0) = _
  rw [Nat.sub_zero, List.drop_zero]
  by_cases h : b ≤ l.length
  · rw [Nat.min_eq_left h]
  · rw [Nat.min_eq_right (show l.length ≤ b by omega), List.take_length, List.take_of_length_le (show l.length ≤ b by omega)]
theorem cutN_from (l : List Nat) (a : Nat) : cutN l (some (a : Int)) none = l.drop a := by
  unfold cutN
  rw [HT.sIx_nat, HT.sIx_none]
  by_cases h : a ≤ l.length
  · rw [Nat.min_eq_left h, List.take_of_length_le (by rw [List.length_drop]; exact Nat.le_refl _)]
  · rw [Nat.min_eq_right (show l.length ≤ a by omega), List.drop_length, List.drop_eq_nil_of_le (show l.length ≤ a by omega)]
    simp
end Fw
namespace Fw
open PySem PySem.Spec PyProof.Rows L2
section
variable {K : PySem.W.Frag} {H : Hp} {Q : VK} {a b : Addr} {ns ms : List Int}
theorem dpAll_ints : ∀ ns : List Int, DpAll K H (ns.map V.int) (ns.map PyData.int)
  | [] => .nil
  | n :: r => .cons (.int n) (dpAll_ints r)
theorem shaped_ints (ns : List Int) : SeqAt.shaped (.list (ns.map PyData.int)) = true := by
  unfold SeqAt.shaped
  refine Bool.and_eq_true_iff.mpr ⟨?_, decide_eq_true ?_⟩
  · show PyData.canLayAll0 (ns.map PyData.int) = true
    induction ns with
    | nil => rfl
    | cons n r ih => show (true && PyData.canLayAll0 (r.map PyData.int)) = true; rw [ih]; rfl
  · show PyData.depthAll (ns.map PyData.int) + 1 ≤ 64
    have h : PyData.depthAll (ns.map PyData.int) = 0 := by
      induction ns with
      | nil => rfl
      | cons n r ih => show max 0 (PyData.depthAll (r.map PyData.int)) = 0; rw [ih]; rfl
    omega
theorem w_eqDI (q : Q (.bl (decide (ns = ms))) H) (ha : SqL K H a (ns.map V.int)) (hb : SqL K H b (ms.map V.int)) : rEqD K (.ref a) (.ref b) H Q :=
  ⟨_, _, .lst ha (dpAll_ints ns), .lst hb (dpAll_ints ms), shaped_ints ns, shaped_ints ms, by
    show Q (.bl (PyData.eqvAll (ns.map PyData.int) (ms.map PyData.int))) H
    rw [PySem.W.ked_eqvAll]; exact q⟩
theorem w_neDI (q : Q (.bl (!decide (ns = ms))) H) (ha : SqL K H a (ns.map V.int)) (hb : SqL K H b (ms.map V.int)) : rNeD K (.ref a) (.ref b) H Q :=
  ⟨_, _, .lst ha (dpAll_ints ns), .lst hb (dpAll_ints ms), shaped_ints ns, shaped_ints ms, by
    show Q (.bl (!PyData.eqvAll (ns.map PyData.int) (ms.map PyData.int))) H
    rw [PySem.W.ked_eqvAll]; exact q⟩
variable {F0 H0 F : Hp} {L : List (Addr × HO)} {C : List Ck}
theorem w_sortRev (O : Own F0 H0 F H L C) (ha : SqL K H a (ns.map V.int)) (k : ∀ p H' (ms : List Int), ms.Perm ns → ms.Pairwise (· ≥ ·) → Own F0 H0 F H' ((p, .lst (ms.map V.int)) :: L) C → Q (.ref p) H') : rSortedKw K true [.bl true] [.ref a] [.bl true] H Q :=
  ⟨a, ns, rfl, rfl, ha, fun ms p pm od np => k p _ ms pm od (O.alloc np _)⟩
theorem w_max (h0 : 0 < ns.length) (ha : SqL K H a (ns.map V.int)) (k : ∀ m, m ∈ ns → (∀ y ∈ ns, y ≤ m) → Q (.int m) H) : rMax K [.ref a] H Q := ⟨a, ns, rfl, ha, h0, fun m h1 h2 => k m h1 h2⟩
theorem w_min (h0 : 0 < ns.length) (ha : SqL K H a (ns.map V.int)) (k : ∀ m, m ∈ ns → (∀ y ∈ ns, m ≤ y) → Q (.int m) H) : rMin K [.ref a] H Q := ⟨a, ns, rfl, ha, h0, fun m h1 h2 => k m h1 h2⟩
/-- two lists alike in order are one -/
theorem sorted_one : ∀ {ms ns : List Int}, ms.Perm ns → ms.Pairwise (· ≥ ·) → ns.Pairwise (· ≥ ·) → ms = ns := fun {ms ns} p h1 h2 =>
  List.Perm.eq_of_pairwise (le := (· ≥ ·)) (fun a b _ _ h1 h2 => by omega) h1 h2 p
theorem q_ckw {r : List V → List V → Hp → VK → Prop} {t tk : TA} {σ : L2.St} : tCKw r t tk σ H Q = t σ H fun vs H1 => tk σ H1 fun zs H2 => r vs zs H2 Q := rfl
theorem Own.tup (O : Own F0 H0 F H L C) (i : Nat) {ts : List Addr} {f : Nat → List V} {j : Nat} {t : Addr} (h : C[i]? = some (cTs ts f) := by rfl) (e : ts[j]? = some t) : H t = some (.tup (f j)) := O.fh _ _ (O.cs.get h j t e)
theorem w_ixT2 {xs : List V} {i : Int} {v : V} (q : Q v H) (hs : H a = some (.tup xs)) (hi : atI xs i = some v) : rIxT K (.ref a) (.int i) H Q := w_ixT q (.inl (.inl hs)) hi
end
end Fw
namespace Fw
theorem q_iteNT {A B : Prop} : (if (!true) = true then A else B) = B := if_neg Bool.false_ne_true
theorem q_iteNF {A B : Prop} : (if (!false) = true then A else B) = A := if_pos rfl
theorem sum_rep (n m : Nat) : (List.replicate n m).sum = n * m := by
  induction n with
  | zero => simp
  | succ n ih => rw [List.replicate_succ, List.sum_cons, ih, Nat.succ_mul, Nat.add_comm]
theorem flat_rep {α : Type} (n : Nat) (l : List α) : (List.replicate n l).flatten.length = n * l.length := by
  rw [List.length_flatten, List.map_replicate, sum_rep]
end Fw
namespace Fw
open PySem L2
theorem q_wipe1 {σ : L2.St} {s : Str} {n : Nat} : wipe σ (List.map (fun x => x.snd) [(s, n)]) = σ.set n none := rfl
theorem q_wipe2 {σ : L2.St} {s s' : Str} {n n' : Nat} : wipe σ (List.map (fun x => x.snd) [(s, n), (s', n')]) = (σ.set n' none).set n none := rfl
end Fw
namespace Fw
open PySem PySem.Spec PyProof.Rows L2
/-! ### further rules -/
section
variable {X : Cx} {K : PySem.W.Frag}
def rListQ (K : PySem.W.Frag) : List V → Hp → VK → Prop := fun vs H Q => ∃ p ys, vs = [.ref p] ∧ (SqL K H p ys ∨ SqT K H p ys) ∧ ys.length ≤ sizeLine ∧ NewL ys H Q
theorem listQ_ (e : X.K = K := by rfl) : CallR X (.type "list") (rListQ K) := by
  subst e
  exact fun pins s σ H vs us Q I r ⟨p, ys, e, h, _, n⟩ => call_list_of pins s σ H vs us Q I r ⟨p, ys, e, h, n.2⟩
/-- list(text) -/
def rListS : List V → Hp → VK → Prop := fun vs H Q => ∃ l : List Nat, vs = [vS l] ∧ l.length ≤ sizeLine ∧ NewL (l.map fun c => vS [c]) H Q
theorem vals_signs {x : Str} : ∀ {l : List Nat} {vs : List Value}, vs.length = l.length → (∀ (j : Nat) v, vs[j]? = some v → ∃ c u, l[j]? = some c ∧ v = .str ⟨#[c]⟩ u) → Vals (l.map fun c => vS [c]) vs
  | [], [], _, _ => .nil
  | [], _ :: _, h, _ => by cases h
  | _ :: _, [], h, _ => by cases h
  | c :: l, v :: vs, h, f => by
    obtain ⟨c', u, e1, e2⟩ := f 0 v rfl
    have e3 : c = c' := Option.some.inj e1
    subst e3
    exact .cons ⟨u, e2⟩ (vals_signs (x := x) (by simpa using h) fun j w hw => f (j + 1) w hw)
theorem listS_ (hc : X.calm = true) : CallR X (.type "list") rListS := by
  intro pins s σ H vs us Q I r h
  obtain ⟨l, rfl, hz, q⟩ := h
  obtain ⟨u, rfl, t, rfl⟩ := vals1 r
  refine call_list_str (I.ok.hd hc) (S l) t (fun h' tk acc' c' kp e it => ?_) (by show (S l).cps.size ≤ sizeLine; simpa [S] using hz)
  refine ⟨.ref s.heap.objs.size, _, I.laid (t' := tk) kp (Nat.le_refl _) (show ObjOk X.prog X.w _ h' _ (.lst (l.map fun c => vS [c])) from ⟨by rw [List.length_map]; exact hz, acc'.toList, c', ?_, e⟩), rfl, q.2 _ (I.hok.fresh (Nat.le_refl _))⟩
  refine vals_signs (x := S l) ?_ fun j v hv => ?_
  · rw [Array.length_toList, it.1]
    simp [S]
  · obtain ⟨c, u, e1, e2⟩ := it.2 j v (by simpa using hv)
    exact ⟨c, u, by simpa [S] using e1, e2⟩
/-- list[i] in an augmented assignment, 0 ≤ i -/
def rGetL (K : PySem.W.Frag) : V → V → Hp → VK → Prop := fun x y H Q => ∃ p xs i v, x = .ref p ∧ y = .int i ∧ SqL K H p xs ∧ 0 ≤ i ∧ xs[i.toNat]? = some v ∧ Q v H
theorem getL_ (e : X.K = K := by rfl) : PGet X (rGetL K) := by
  subst e
  intro pins s σ H o i ov iv Q I rx ry h
  obtain ⟨p, xs, i, v, rfl, rfl, hq, h0, he, q⟩ := h
  cases rx
  obtain ⟨t, rfl⟩ := ry
  obtain ⟨its, r, pl, hz⟩ := I.list hq
  obtain ⟨w, ew, rw'⟩ := r.get he
  have hl := r.length
  have hn := line63
  have hlt := (List.getElem?_eq_some_iff.mp he).1
  exact wpAny_getItem_list pl.isList h0 (by omega) (by simpa using ew) ⟨v, H, I, rw', q⟩
/-- sep.join(texts) -/
def joinN (sep : List Nat) : List (List Nat) → List Nat
  | [] => []
  | [x] => x
  | x :: r => x ++ (sep ++ joinN sep r)
theorem joinN_cons (sep x y : List Nat) (r : List (List Nat)) : joinN sep (x :: y :: r) = x ++ (sep ++ joinN sep (y :: r)) := rfl
theorem joinN_nil : ∀ ys : List (List Nat), joinN [] ys = ys.flatten
  | [] => rfl
  | [x] => by simp [joinN]
  | x :: y :: r => by rw [joinN_cons, joinN_nil (y :: r), List.nil_append]; rfl
theorem glue_fold (sep : List Nat) : ∀ (r : List (List Nat)) (acc : List Nat), (r.map S).foldl (fun (a : Array Nat) (p : Str) => a ++ (S sep).cps ++ p.cps) acc.toArray = (r.foldl (fun a p => a ++ (sep ++ p)) acc).toArray
  | [], acc => rfl
  | x :: r, acc => by
    rw [List.map_cons, List.foldl_cons, List.foldl_cons, ← glue_fold sep r (acc ++ (sep ++ x))]
    congr 1
    simp [S]
theorem glue_join (sep : List Nat) : ∀ (r : List (List Nat)) (x : List Nat), r.foldl (fun a p => a ++ (sep ++ p)) x = joinN sep (x :: r)
  | [], x => rfl
  | y :: r, x => by
    rw [List.foldl_cons, glue_join sep r, joinN_cons]
    cases r with
    | nil => rfl
    | cons z r => rw [joinN_cons, joinN_cons]; simp
theorem txt_join (sep : List Nat) (ys : List (List Nat)) : Txt.join (S sep) (ys.map S) = S (joinN sep ys) := by
  show (⟨((ys.map S).drop 1).foldl (fun (acc : Array Nat) (p : Str) => acc ++ (S sep).cps ++ p.cps) ((ys.map S).headD Str.empty).cps⟩ : Str) = _
  cases ys with
  | nil => rfl
  | cons x r =>
    show (⟨(r.map S).foldl (fun (acc : Array Nat) (p : Str) => acc ++ (S sep).cps ++ p.cps) (S x).cps⟩ : Str) = _
    have e := glue_fold sep r x
    rw [glue_join] at e
    show (⟨(r.map S).foldl (fun (acc : Array Nat) (p : Str) => acc ++ (S sep).cps ++ p.cps) x.toArray⟩ : Str) = _
    rw [e]
    rfl
def rJoin (K : PySem.W.Frag) : V → List V → Hp → VK → Prop := fun x xs H Q => ∃ (l : List Nat) (p : Addr) (ys : List (List Nat)), x = vS l ∧ xs = [.ref p] ∧ (SqL K H p (ys.map vS) ∨ SqT K H p (ys.map vS)) ∧ (ys.map List.length).sum + ys.length * l.length ≤ 16777216 ∧ Q (vS (joinN l ys)) H
theorem mt_joinN (e : X.K = K := by rfl) : MtR X "str.join" (rJoin K) := by
  subst e
  intro pins s σ H x xs v us Q I rx rs h
  obtain ⟨l, p, ys, e1, e2, hp, hz, q⟩ := h
  have em : ys.map vS = (ys.map S).map V.str := by rw [List.map_map]; rfl
  refine mt_join pins s σ H x xs v us Q I rx rs ⟨S l, p, ys.map S, e1, e2, by rw [← em]; exact hp, ?_, by rw [txt_join]; exact q⟩
  rw [List.map_map, List.length_map, S_len]
  have e3 : ((fun z : Str => z.length) ∘ S) = List.length := by funext z; exact S_len z
  rw [e3]
  exact hz
theorem pe_joinL {o e : Expr} {apos pos : Pos} {to te : TE} (ho : PE X o to) (he : PE X e te) (eK : X.K = K := by rfl) (hs : starEach [e] X.env = [(false, eval e X.env)] := by rfl) (hbase : attributeBase o "join" X.env (eval o X.env) = eval o X.env := by rfl) (hline : (apos.endLine == pos.line) = true := by rfl) :
    PE X (.Call (.Attribute o "join" apos) [e] [] pos) (tM1 (rJoin K) to te) := pe_m1 PySem.F.slot_str_join PySem.F.type_str_join (mt_joinN eK) ho he hs hbase hline
/-- text.index(sign), the sign stands in it -/
def rIdxS : V → List V → Hp → VK → Prop := fun x xs H Q => ∃ (l : List Nat) (c : Nat), x = vS l ∧ xs = [vS [c]] ∧ c ∈ l ∧ Q (.int (l.idxOf c : Nat)) H
theorem occ_idx {l : List Nat} {c : Nat} (h : c ∈ l) : ∃ r, Builtin.Str.occurrences (S l) (S [c]) 0 (S l).length 1 = l.idxOf c :: r := by
  rcases StrLaws.occ_head (S l) (S [c]) 1 (Nat.le_refl _) with ⟨_, hn⟩ | ⟨i, r, e, ha, hn⟩
  · obtain ⟨i, hi⟩ := List.mem_iff_getElem?.mp h
    exact absurd ((StrLaws.subAt_one (S l) c i).mpr (by rw [S_list]; exact hi)) (hn i)
  · refine ⟨r, ?_⟩
    rw [e]
    congr 1
    have h1 := (StrLaws.subAt_one (S l) c i).mp ha
    rw [S_list] at h1
    have h2 : ∀ k, k < i → l[k]? ≠ some c := fun k hk z => hn k hk ((StrLaws.subAt_one (S l) c k).mpr (by rw [S_list]; exact z))
    obtain ⟨hi, hv⟩ := List.getElem?_eq_some_iff.mp h1
    have hlt : l.idxOf c < l.length := List.idxOf_lt_length_of_mem h
    have hg : l[l.idxOf c]? = some c := by
      rw [List.getElem?_eq_getElem hlt, List.getElem_idxOf hlt]
    by_cases h3 : l.idxOf c < i
    · exact absurd hg (h2 _ h3)
    · by_cases h4 : i < l.idxOf c
      · exact absurd hv (by
          have := List.not_of_lt_findIdx (p := (· == c)) (xs := l) (i := i) h4
          simpa using this)
      · omega
theorem mt_idxS : MtR X "str.index" rIdxS := by
  intro pins s σ H x xs v us Q I rx rs h
  obtain ⟨l, c, e1, e2, hc, q⟩ := h
  obtain ⟨r, e⟩ := occ_idx hc
  exact mt_sindex pins s σ H x xs v us Q I rx rs ⟨S l, S [c], _, r, e1, e2, e, q⟩
theorem pe_indexL {o e : Expr} {apos pos : Pos} {to te : TE} (ho : PE X o to) (he : PE X e te) (hs : starEach [e] X.env = [(false, eval e X.env)] := by rfl) (hbase : attributeBase o "index" X.env (eval o X.env) = eval o X.env := by rfl) (hline : (apos.endLine == pos.line) = true := by rfl) :
    PE X (.Call (.Attribute o "index" apos) [e] [] pos) (tM1 rIdxS to te) := pe_m1 PySem.F.slot_str_index PySem.F.type_str_index mt_idxS ho he hs hbase hline
def rStarts : V → List V → Hp → VK → Prop := fun x xs H Q => ∃ l m : List Nat, x = vS l ∧ xs = [vS m] ∧ Q (.bl (m.isPrefixOf l)) H
theorem starts_pre (l m : List Nat) : Txt.startswith (S l) (S m) = m.isPrefixOf l := by
  unfold Txt.startswith
  rw [S_len, S_len, StrLaws.subAt_eq]
  rw [Bool.eq_iff_iff, Bool.and_eq_true, decide_eq_true_eq, List.isPrefixOf_iff_prefix]
  show (0 + m.length ≤ l.length ∧ (((S l).cps.toList.drop 0).take (S m).cps.toList.length == (S m).cps.toList) = true) ↔ _
  rw [S_list, S_list, List.drop_zero, beq_iff_eq]
  constructor
  · rintro ⟨_, h⟩
    rw [← h]
    exact List.take_prefix _ _
  · intro h
    exact ⟨by have := h.length_le; omega, (List.prefix_iff_eq_take.mp h).symm⟩
theorem mt_startsN : MtR X "str.startswith" rStarts := by
  intro pins s σ H x xs v us Q I rx rs h
  obtain ⟨l, m, e1, e2, q⟩ := h
  exact mt_startswith pins s σ H x xs v us Q I rx rs ⟨S l, S m, e1, e2, by rw [starts_pre]; exact q⟩
theorem pe_startsL {o e : Expr} {apos pos : Pos} {to te : TE} (ho : PE X o to) (he : PE X e te) (hs : starEach [e] X.env = [(false, eval e X.env)] := by rfl) (hbase : attributeBase o "startswith" X.env (eval o X.env) = eval o X.env := by rfl) (hline : (apos.endLine == pos.line) = true := by rfl) :
    PE X (.Call (.Attribute o "startswith" apos) [e] [] pos) (tM1 rStarts to te) := pe_m1 PySem.F.slot_str_startswith PySem.F.type_str_startswith mt_startsN ho he hs hbase hline
end
section
variable {nx bk ct : L2.St → Hp → Prop} {rt : VK} {t u tb : TS} {H F0 H0 F : Hp} {L : List (Addr × HO)} {C : List Ck} {te ta tc : TE} {Q : VK} {v x y : V} {g : TG} {tt : TT} {tA : TA} {K : PySem.W.Frag} {σ : L2.St} {a b : Addr} {xs ys : List V} {i : Int}
theorem w_listL (O : Own F0 H0 F H L C) (hs : SqL K H a xs) (k : ∀ p H', Own F0 H0 F H' ((p, .lst xs) :: L) C → Q (.ref p) H') (hz : xs.length ≤ sizeLine) : rListQ K [.ref a] H Q := ⟨a, xs, rfl, .inl hs, hz, w_newL O k hz⟩
theorem w_listS {l : List Nat} (O : Own F0 H0 F H L C) (k : ∀ p H', Own F0 H0 F H' ((p, .lst (l.map fun c => vS [c])) :: L) C → Q (.ref p) H') (hz : l.length ≤ sizeLine) : rListS [vS l] H Q := ⟨l, rfl, hz, w_newL O k (by rw [List.length_map]; exact hz)⟩
theorem q_gsub {to ti : TE} {ts : TSet} {R : L2.St → Hp → Prop} : gSub to ti ts v σ H R = to σ H fun o H1 => ti σ H1 fun i H2 => ts o i v H2 fun H3 => R σ H3 := rfl
theorem q_asgG {to ti : TE} {ts : TSet} : tAsg te (gSub to ti ts) ⟨nx, rt, bk, ct⟩ σ H = te σ H fun x H1 => gSub to ti ts x σ H1 nx := rfl
theorem q_asgT {n : Nat} {tg : TGs} : tAsg te (gTup K n tg) ⟨nx, rt, bk, ct⟩ σ H = te σ H fun x H1 => gTup K n tg x σ H1 nx := rfl
theorem q_gnil {R : L2.St → Hp → Prop} : gNil [] σ H R = R σ H := propext ⟨fun ⟨_, q⟩ => q, fun q => ⟨rfl, q⟩⟩
theorem q_gcons {tg : TG} {tgs : TGs} {R : L2.St → Hp → Prop} : gCons tg tgs (v :: xs) σ H R = tg v σ H fun σ' H' => tgs xs σ' H' R := propext ⟨fun ⟨_, _, e, q⟩ => by cases e; exact q, fun q => ⟨v, xs, rfl, q⟩⟩
theorem w_gtup {n : Nat} {tg : TGs} {R : L2.St → Hp → Prop} (h : tg xs σ H R) (hs : SqT K H a xs) (hn : xs.length = n := by rfl) : gTup K n tg (.ref a) σ H R := ⟨a, xs, rfl, hs, hn, h⟩
theorem q_par {j k : Nat} : tPar j k tA ⟨nx, rt, bk, ct⟩ σ H = tA σ H fun vs H1 => ∃ v w, vs = [v, w] ∧ nx ((σ.set j (some v)).set k (some w)) H1 := rfl
theorem q_two {w : V} {R : V → V → Prop} : (∃ x y, [v, w] = [x, y] ∧ R x y) = R v w := propext ⟨fun ⟨_, _, e, q⟩ => by cases e; exact q, fun q => ⟨_, _, rfl, q⟩⟩
theorem q_chain {r r' : R2} : tChain r r' te ta tc σ H Q = te σ H fun x H1 => ta σ H1 fun y H2 => r x y H2 fun z H3 => ∃ k, z = .bl k ∧ (if k = true then tc σ H3 fun w' H4 => r' y w' H4 Q else Q (.bl false) H3) := rfl
theorem q_m1 {r : V → List V → Hp → VK → Prop} {to : TE} : tM1 r to te σ H Q = to σ H fun x H1 => (∃ a, x = .str a) ∧ te σ H1 fun y H2 => r x [y] H2 Q := rfl
theorem q_isS {z : Str} {P : Prop} : ((∃ a, V.str z = .str a) ∧ P) = P := propext ⟨fun h => h.2, fun h => ⟨⟨z, rfl⟩, h⟩⟩
theorem q_augS {to ti : TE} {tget : V → V → Hp → VK → Prop} {tip : TIp} {ts : TSet} : tAugS to ti te tget tip ts ⟨nx, rt, bk, ct⟩ σ H = to σ H fun o H1 => ti σ H1 fun i H2 => tget o i H2 fun x H3 => te σ H3 fun y H4 => tip x y H4 fun z H5 => ts o i z H5 fun H6 => nx σ H6 := rfl
theorem q_ipI {f : Int → Int → Int} {i j : Int} : ipI f (.int i) (.int j) H Q = Q (.int (f i j)) H := propext ⟨fun ⟨_, _, e1, e2, q⟩ => by cases e1; cases e2; exact q, fun q => ⟨i, j, rfl, rfl, q⟩⟩
theorem ixN_pos {n : Nat} (h : 0 ≤ i ∧ i < n) : ixN n i = some i.toNat := by
  unfold ixN
  rw [if_pos h.1, if_pos (by omega)]
theorem w_set {j : Nat} {R : Hp → Prop} (O : Own F0 H0 F H L C) (hi : L[j]? = some (a, .lst xs)) (h : 0 ≤ i ∧ i < xs.length) (k : ∀ H', Own F0 H0 F H' (L.set j (a, .lst (xs.set i.toNat v))) C → R H') : rSetL (.ref a) (.int i) v H R :=
  ⟨a, xs, i, i.toNat, rfl, rfl, O.at_ j hi, ixN_pos h, k _ (O.set j hi _)⟩
theorem w_set0 {R : Hp → Prop} (O : Own F0 H0 F H ((a, .lst xs) :: L) C) (k : ∀ H', Own F0 H0 F H' ((a, .lst (xs.set i.toNat v)) :: L) C → R H') (h : 0 ≤ i ∧ i < xs.length) : rSetL (.ref a) (.int i) v H R := w_set (j := 0) O rfl h k
theorem w_set1 {q : Addr × HO} {R : Hp → Prop} (O : Own F0 H0 F H (q :: (a, .lst xs) :: L) C) (k : ∀ H', Own F0 H0 F H' (q :: (a, .lst (xs.set i.toNat v)) :: L) C → R H') (h : 0 ≤ i ∧ i < xs.length) : rSetL (.ref a) (.int i) v H R := w_set (j := 1) O rfl h k
theorem w_set2 {q q' : Addr × HO} {R : Hp → Prop} (O : Own F0 H0 F H (q :: q' :: (a, .lst xs) :: L) C) (k : ∀ H', Own F0 H0 F H' (q :: q' :: (a, .lst (xs.set i.toNat v)) :: L) C → R H') (h : 0 ≤ i ∧ i < xs.length) : rSetL (.ref a) (.int i) v H R := w_set (j := 2) O rfl h k
theorem w_getN {ns : List Int} (q : Q (.int (ns.getD i.toNat 0)) H) (hs : SqL K H a (ns.map V.int)) (h : 0 ≤ i ∧ i < ns.length) : rGetL K (.ref a) (.int i) H Q := by
  refine ⟨a, _, i, .int (ns.getD i.toNat 0), rfl, rfl, hs, h.1, ?_, q⟩
  rw [List.getElem?_map, List.getD_eq_getElem?_getD, List.getElem?_eq_getElem (by omega)]
  rfl
theorem w_rep (O : Own F0 H0 F H L C) (hs : H a = some (.lst xs)) (k : ∀ p H', Own F0 H0 F H' ((p, .lst (List.replicate i.toNat xs).flatten) :: L) C → Q (.ref p) H') (h : -(2 ^ 63) ≤ i ∧ i < 2 ^ 63) (hz : xs.length * i.toNat ≤ sizeLine) : rRep (.ref a) (.int i) H Q :=
  ⟨a, i, xs, rfl, rfl, hs, h.1, h.2, hz, fun p np => k p _ (O.alloc np _)⟩
theorem w_slL {lo hi : Option Int} (O : Own F0 H0 F H L C) (hs : SqL K H a xs) (k : ∀ p H', Own F0 H0 F H' ((p, .lst (cutV xs lo hi)) :: L) C → Q (.ref p) H') : rSlL K (.ref a) lo hi H Q := ⟨a, xs, rfl, hs, fun p np => k p _ (O.alloc np _)⟩
theorem w_cat (O : Own F0 H0 F H L C) (hs : H a = some (.lst xs)) (ht : H b = some (.lst ys)) (k : ∀ p H', Own F0 H0 F H' ((p, .lst (xs ++ ys)) :: L) C → Q (.ref p) H') (hz : xs.length + ys.length ≤ sizeLine) : rCat (.ref a) (.ref b) H Q := ⟨a, b, xs, ys, rfl, rfl, hs, ht, hz, fun p np => k p _ (O.alloc np _)⟩
theorem w_ext {j : Nat} (O : Own F0 H0 F H L C) (hi : L[j]? = some (a, .lst xs)) (hb : H b = some (.lst ys)) (k : ∀ H', Own F0 H0 F H' (L.set j (a, .lst (xs ++ ys))) C → Q .non H') (hz : xs.length + ys.length ≤ sizeLine) : rExtend (.ref a) [.ref b] H Q :=
  ⟨a, b, xs, ys, rfl, rfl, O.at_ j hi, hb, hz, k _ (O.set j hi _)⟩
theorem w_ext0 (O : Own F0 H0 F H ((a, .lst xs) :: L) C) (hb : H b = some (.lst ys)) (k : ∀ H', Own F0 H0 F H' ((a, .lst (xs ++ ys)) :: L) C → Q .non H') (hz : xs.length + ys.length ≤ sizeLine) : rExtend (.ref a) [.ref b] H Q := w_ext (j := 0) O rfl hb k hz
theorem w_ext1 {q : Addr × HO} (O : Own F0 H0 F H (q :: (a, .lst xs) :: L) C) (hb : H b = some (.lst ys)) (k : ∀ H', Own F0 H0 F H' (q :: (a, .lst (xs ++ ys)) :: L) C → Q .non H') (hz : xs.length + ys.length ≤ sizeLine) : rExtend (.ref a) [.ref b] H Q := w_ext (j := 1) O rfl hb k hz
theorem w_rev {j : Nat} (O : Own F0 H0 F H L C) (hi : L[j]? = some (a, .lst xs)) (k : ∀ H', Own F0 H0 F H' (L.set j (a, .lst xs.reverse)) C → Q .non H') : rReverse (.ref a) [] H Q := ⟨a, xs, rfl, rfl, O.at_ j hi, k _ (O.set j hi _)⟩
theorem w_rev0 (O : Own F0 H0 F H ((a, .lst xs) :: L) C) (k : ∀ H', Own F0 H0 F H' ((a, .lst xs.reverse) :: L) C → Q .non H') : rReverse (.ref a) [] H Q := w_rev (j := 0) O rfl k
theorem w_join {l : List Nat} {ls : List (List Nat)} (q : Q (vS (joinN l ls)) H) (hs : SqL K H a (ls.map vS)) (hz : (ls.map List.length).sum + ls.length * l.length ≤ 16777216) : rJoin K (vS l) [.ref a] H Q := ⟨l, a, ls, rfl, rfl, .inl hs, hz, q⟩
theorem q_starts {l m : List Nat} : rStarts (vS l) [vS m] H Q = Q (.bl (m.isPrefixOf l)) H := propext ⟨fun ⟨l', m', e1, e2, q⟩ => by
  have e1 := S_inj.mp (V.str.inj e1)
  subst e1
  have e2 := S_inj.mp (V.str.inj (List.cons.inj e2).1)
  subst e2
  exact q, fun q => ⟨l, m, rfl, rfl, q⟩⟩
theorem w_idxS {l : List Nat} {c : Nat} (q : Q (.int (l.idxOf c : Nat)) H) (h : c ∈ l) : rIdxS (vS l) [vS [c]] H Q := ⟨l, c, rfl, rfl, h, q⟩
/-! text == text by their signs -/
theorem decide_S {l m : List Nat} : decide (S l = S m) = decide (l = m) := decide_eq_decide.mpr S_inj
/-! a list of lists of integers, each frozen -/
def cNs (ts : List Addr) (nss : List (List Int)) : Ck := ⟨fun F => ts.length = nss.length ∧ ∀ (j : Nat) t ns, ts[j]? = some t → nss[j]? = some ns → F t = some (.lst (ns.map V.int)), fun s h => ⟨h.1, fun j t ns e1 e2 => s _ _ (h.2 j t ns e1 e2)⟩⟩
theorem cNs_nil {F : Hp} : (cNs [] []).p F := ⟨rfl, fun j t ns e => by simp at e⟩
theorem cNs_add {F : Hp} {ts : List Addr} {nss : List (List Int)} {t : Addr} {ns : List Int} (h : (cNs ts nss).p F) (e : F t = some (.lst (ns.map V.int))) : (cNs (ts ++ [t]) (nss ++ [ns])).p F := by
  refine ⟨by rw [List.length_append, List.length_append, h.1]; rfl, fun j u ms hu hm => ?_⟩
  by_cases hj : j < ts.length
  · rw [List.getElem?_append_left hj] at hu
    rw [List.getElem?_append_left (by have := h.1; omega)] at hm
    exact h.2 j u ms hu hm
  · rw [List.getElem?_append_right (by omega)] at hu
    rw [List.getElem?_append_right (by have := h.1; omega), ← h.1] at hm
    by_cases h0 : j - ts.length = 0
    · rw [h0] at hu hm
      have e1 : t = u := Option.some.inj hu
      have e2 : ns = ms := Option.some.inj hm
      rw [← e1, ← e2]
      exact e
    · rw [List.getElem?_eq_none (by simp; omega)] at hu
      cases hu
end
end Fw

namespace Fw
open PySem PySem.Spec PyProof.Rows L2
/-! ### promises whose arguments are told of the heap at the entry -/
def SpV (R : V → Prop) (H : Hp) (Q : VK) : Prop := ∀ v H', Same H H' → R v → Q v H'
def SpN (R : V → List (Addr × HO) → Hp → Prop) (H : Hp) (Q : VK) : Prop := Spec (fun _ => True) R H Q
section
variable {F0 H0 F H F' H' : Hp} {L : List (Addr × HO)} {C : List Ck} {R : V → Prop} {Rn : V → List (Addr × HO) → Hp → Prop} {Q : VK} {v : V} {K : PySem.W.Frag} {a : Addr} {xs : List V}
abbrev noF : Hp := fun _ => none
theorem Own.start0 : Own noF H noF H [] [] := ⟨Same.refl _, fun _ _ h => (nomatch h), Same.refl _, fun _ _ h => .inl h, fun _ h => (nomatch h), List.nodup_nil, trivial⟩
theorem Own.callS (O : Own F0 H0 F H L C) (k : ∀ v H', R v → Own F0 H0 F H' L C → Q v H') : SpV R H Q := fun _ _ s r => k _ _ r (O.more s)
theorem Own.retS (O : Own F0 H F' H' L C) (q : SpV R H Q) (r : R v) : Q v H' := q _ _ O.hh r
theorem Own.callN (O : Own F0 H0 F H L C) (k : ∀ v L' F' H', Rn v L' F' → Own F0 H0 F' H' (L' ++ L) C → Q v H') : SpN Rn H Q := O.call trivial k
theorem Own.ofH (O : Own F0 H0 F H L C) (h : SqL K H0 a xs) : SqL K H a xs := O.hh.seq h
theorem Own.ofHT (O : Own F0 H0 F H L C) (h : SqT K H0 a xs) : SqT K H a xs := Same.sqt O.hh h
theorem Own.ofHO {o : HO} (O : Own F0 H0 F H L C) (h : H0 a = some o) : H a = some o := O.hh _ _ h
end
end Fw

namespace Fw
open PySem PySem.Spec PyProof.Rows L2
/-! ### dicts of the module -/
theorem ixD_ {X : Cx} {K : PySem.W.Frag} {w : World} (e : X.K = K := by rfl) (e2 : X.w = w := by rfl) : IxR X (rIxD K w) := by
  subst e
  subst e2
  exact ix_kdict
theorem kd_of {K : PySem.W.Frag} {w : World} {a : Addr} {kvs : List (Str × He.Dv)} (D : ∃ es n, KDict K w a es n) (h : He.valsB K a kvs = true) : ∀ q ∈ kvs, KDct K w a q.1 (q.2.v K) := fun q hq => by
  obtain ⟨es, n, d⟩ := D
  obtain ⟨u, h1, h2⟩ := He.valsB_ok h hq
  exact ⟨es, n, u, d.at_, d.lit, h1, h2⟩
theorem w_kd {K : PySem.W.Frag} {w : World} {a : Addr} {z : Str} {v : V} {H : Hp} {Q : VK} (h : KDct K w a z v) (q : Q v H) : rIxD K w (.ref a) (.str z) H Q := ⟨a, z, v, rfl, rfl, h, q⟩
end Fw

namespace Fw
open PySem PySem.Spec PyProof.Rows L2
section
variable {H F0 H0 F : Hp} {L : List (Addr × HO)} {C : List Ck} {te : TE} {Q : VK} {g : TG} {K : PySem.W.Frag} {σ : L2.St} {a : Addr} {xs : List V}
/-- [te for x in reversed(xs)] -/
theorem w_lcRev {tt : TT} {vs : List Nat} (O : Own F0 H0 F H L C) (hx : SqL K H a xs) (hl : ∀ {F' H' acc D}, Own F0 H0 F' H' ((D, .lst acc) :: L) C → Same F F' → SqL K H' a xs) (Iv : Nat → List V → Hp → Prop) (h0 : Iv 0 [] F)
    (turn : ∀ (i : Nat) x acc D F' H', i < xs.length → xs[xs.length - 1 - i]? = some x → Iv i acc F' → Same F F' → Own F0 H0 F' H' ((D, .lst acc) :: L) C → g x (wipe σ vs) H' fun σ2 H2 => wipe σ2 vs = wipe σ vs ∧ tt σ2 H2 fun b H3 =>
      if b = true then te σ2 H3 (Put D (Btw F0 H0 F L C D (Iv (i + 1)))) else Btw F0 H0 F L C D (Iv (i + 1)) H3)
    (done : ∀ acc D F' H', Iv xs.length acc F' → Same F F' → Own F0 H0 F' H' ((D, .lst acc) :: L) C → Q (.ref D) H') :
    FoR K [.ref a] H fun J H1 => LcEnd J g tt te vs σ H1 Q := by
  refine ⟨a, xs, rfl, hx, lc_any xs.length (fun i x => xs[xs.length - 1 - i]? = some x) O Iv h0 (fun i H' F' acc D hi O' sF => ?_) (fun H' F' acc D O' sF => Nat.le_refl _) (fun i x H' H2 F' acc D hi O' sF hy => ⟨hy.1, hy.2 xs (hl O' sF)⟩) (fun i x acc D F' H' hi hY => turn i x acc D F' H' hi hY) done⟩
  exact ⟨hi, xs, _, hl O' sF, List.getElem?_eq_getElem (by omega)⟩
theorem q_dec1 {c d : Nat} : decide ([c] = [d]) = decide (c = d) := decide_eq_decide.mpr ⟨fun h => (List.cons.inj h).1, fun h => by rw [h]⟩
end
end Fw

namespace Fw
open PySem PySem.Spec PyProof.Rows L2
/-! ### guards of the tactic -/
theorem h_NewL {xs : List V} {H : Hp} {Q : VK} (h : NewL xs H Q) : NewL xs H Q := h
theorem h_NewT {xs : List V} {H : Hp} {Q : VK} (h : NewT xs H Q) : NewT xs H Q := h
theorem h_Ty {K : PySem.W.Frag} {T : String} {x : V} {H : Hp} {P : Prop} (h : tyV K T x H ∧ P) : tyV K T x H ∧ P := h
theorem h_App {x : V} {vs : List V} {H : Hp} {Q : VK} (h : rAppend x vs H Q) : rAppend x vs H Q := h
theorem h_Len {K : PySem.W.Frag} {vs : List V} {H : Hp} {Q : VK} (h : rLenQ K vs H Q) : rLenQ K vs H Q := h
theorem h_Ix {K : PySem.W.Frag} {x y : V} {H : Hp} {Q : VK} (h : rIxL K x y H Q) : rIxL K x y H Q := h
theorem h_IxS {x y : V} {H : Hp} {Q : VK} (h : rIxSg x y H Q) : rIxSg x y H Q := h
theorem h_MulS {x y : V} {H : Hp} {Q : VK} (h : rMulS x y H Q) : rMulS x y H Q := h
theorem h_Isi {K : PySem.W.Frag} {vs : List V} {H : Hp} {Q : VK} (h : rIsi K vs H Q) : rIsi K vs H Q := h
theorem h_Set {o i v : V} {H : Hp} {R : Hp → Prop} (h : rSetL o i v H R) : rSetL o i v H R := h
theorem h_Get {K : PySem.W.Frag} {x y : V} {H : Hp} {Q : VK} (h : rGetL K x y H Q) : rGetL K x y H Q := h
theorem h_ListQ {K : PySem.W.Frag} {vs : List V} {H : Hp} {Q : VK} (h : rListQ K vs H Q) : rListQ K vs H Q := h
theorem h_ListS {vs : List V} {H : Hp} {Q : VK} (h : rListS vs H Q) : rListS vs H Q := h
theorem h_Rep {x y : V} {H : Hp} {Q : VK} (h : rRep x y H Q) : rRep x y H Q := h
theorem h_SlL {K : PySem.W.Frag} {x : V} {lo hi : Option Int} {H : Hp} {Q : VK} (h : rSlL K x lo hi H Q) : rSlL K x lo hi H Q := h
theorem h_Cat {x y : V} {H : Hp} {Q : VK} (h : rCat x y H Q) : rCat x y H Q := h
theorem h_Ext {x : V} {vs : List V} {H : Hp} {Q : VK} (h : rExtend x vs H Q) : rExtend x vs H Q := h
theorem h_Rev {x : V} {vs : List V} {H : Hp} {Q : VK} (h : rReverse x vs H Q) : rReverse x vs H Q := h
theorem h_Idx {x : V} {vs : List V} {H : Hp} {Q : VK} (h : rIdxS x vs H Q) : rIdxS x vs H Q := h
theorem h_Gtup {K : PySem.W.Frag} {n : Nat} {tg : TGs} {v : V} {σ : L2.St} {H : Hp} {R : L2.St → Hp → Prop} (h : gTup K n tg v σ H R) : gTup K n tg v σ H R := h
theorem h_EqD {K : PySem.W.Frag} {x y : V} {H : Hp} {Q : VK} (h : rEqD K x y H Q) : rEqD K x y H Q := h
theorem h_NeD {K : PySem.W.Frag} {x y : V} {H : Hp} {Q : VK} (h : rNeD K x y H Q) : rNeD K x y H Q := h
section
variable {H F0 H0 F : Hp} {L : List (Addr × HO)} {C : List Ck} {Q : VK} {v : V} {a : Addr} {xs : List V} {i : Int} {q1 q2 q3 q4 : Addr × HO}
theorem w_app3 (O : Own F0 H0 F H (q1 :: q2 :: q3 :: (a, .lst xs) :: L) C) (k : ∀ H', Own F0 H0 F H' (q1 :: q2 :: q3 :: (a, .lst (xs ++ [v])) :: L) C → Q .non H') (hz : xs.length < sizeLine) : rAppend (.ref a) [v] H Q := w_app (j := 3) O rfl k hz
theorem w_app4 (O : Own F0 H0 F H (q1 :: q2 :: q3 :: q4 :: (a, .lst xs) :: L) C) (k : ∀ H', Own F0 H0 F H' (q1 :: q2 :: q3 :: q4 :: (a, .lst (xs ++ [v])) :: L) C → Q .non H') (hz : xs.length < sizeLine) : rAppend (.ref a) [v] H Q := w_app (j := 4) O rfl k hz
theorem w_set3 {R : Hp → Prop} (O : Own F0 H0 F H (q1 :: q2 :: q3 :: (a, .lst xs) :: L) C) (k : ∀ H', Own F0 H0 F H' (q1 :: q2 :: q3 :: (a, .lst (xs.set i.toNat v)) :: L) C → R H') (h : 0 ≤ i ∧ i < xs.length) : rSetL (.ref a) (.int i) v H R := w_set (j := 3) O rfl h k
end
end Fw

namespace Fw
open PySem PySem.Spec PyProof.Rows L2
/-! ### equal data; numbers as texts; split -/
section
variable {K : PySem.W.Frag} {H : Hp} {Q : VK} {x y : V} {d : PyData}
theorem w_eqD1 (ha : Dp K H x d) (hb : Dp K H y d) (hs : SeqAt.shaped d = true) (q : Q (.bl true) H) : rEqD K x y H Q :=
  ⟨d, d, ha, hb, hs, hs, by rw [SeqAt.eqv_refl d (SeqAt.canLay_of_shaped hs)]; exact q⟩
theorem w_neD1 (ha : Dp K H x d) (hb : Dp K H y d) (hs : SeqAt.shaped d = true) (q : Q (.bl false) H) : rNeD K x y H Q :=
  ⟨d, d, ha, hb, hs, hs, by rw [SeqAt.eqv_refl d (SeqAt.canLay_of_shaped hs)]; exact q⟩
/-- data of a small depth, its texts well made -/
structure Shp (n : Nat) (d : PyData) : Prop where
  lay : d.canLay0 = true
  dep : d.depth ≤ n
theorem Shp.shaped {n : Nat} (h : Shp n d) (hn : n ≤ 64) : SeqAt.shaped d = true := Bool.and_eq_true_iff.mpr ⟨h.lay, decide_eq_true (Nat.le_trans h.dep hn)⟩
theorem shp_int (i : Int) : Shp 0 (.int i) := ⟨rfl, Nat.le_refl _⟩
theorem shp_bool (b : Bool) : Shp 0 (.bool b) := ⟨rfl, Nat.le_refl _⟩
theorem shp_non : Shp 0 .none := ⟨rfl, Nat.le_refl _⟩
theorem shp_str {l : List Nat} (h : ∀ c ∈ l, c < 1114112) : Shp 0 (.str (S l)) := by
  refine ⟨?_, Nat.le_refl _⟩
  show PyData.strOk (S l) = true
  unfold PyData.strOk S
  rw [Array.all_eq_true_iff_forall_mem]
  intro c hc
  exact decide_eq_true (h c (by simpa using hc))
theorem shp_all {n : Nat} : ∀ {ds : List PyData}, (∀ d ∈ ds, Shp n d) → PyData.canLayAll0 ds = true ∧ PyData.depthAll ds ≤ n
  | [], _ => ⟨rfl, Nat.zero_le _⟩
  | d :: ds, h => by
    obtain ⟨h1, h2⟩ := shp_all (ds := ds) fun e he => h e (List.mem_cons_of_mem _ he)
    have h3 := h d List.mem_cons_self
    refine ⟨Bool.and_eq_true_iff.mpr ⟨h3.lay, h1⟩, ?_⟩
    show max (PyData.depth d) (PyData.depthAll ds) ≤ n
    have := h3.dep
    omega
theorem shp_list {n : Nat} {ds : List PyData} (h : ∀ d ∈ ds, Shp n d) : Shp (n + 1) (.list ds) := ⟨(shp_all h).1, Nat.succ_le_succ (shp_all h).2⟩
theorem shp_tuple {n : Nat} {ds : List PyData} (h : ∀ d ∈ ds, Shp n d) : Shp (n + 1) (.tuple ds) := ⟨(shp_all h).1, Nat.succ_le_succ (shp_all h).2⟩
theorem dpAll_strs : ∀ ls : List (List Nat), DpAll K H (ls.map vS) (ls.map fun l => PyData.str (S l))
  | [] => .nil
  | l :: r => .cons (.str (S l)) (dpAll_strs r)
theorem dpAll_map {α : Type} {f : α → V} {g : α → PyData} : ∀ {as : List α}, (∀ a ∈ as, Dp K H (f a) (g a)) → DpAll K H (as.map f) (as.map g)
  | [], _ => .nil
  | a :: as, h => .cons (h a List.mem_cons_self) (dpAll_map fun b hb => h b (List.mem_cons_of_mem _ hb))
end
section
variable {X : Cx}
/-- a part of a record: a number from 0 on, or a text -/
inductive Fld where
  | n (k : Nat)
  | s (l : List Nat)
def Fld.v : Fld → V
  | .n k => .int (k : Nat)
  | .s l => vS l
def Fld.t : Fld → List Nat
  | .n k => TL.numL k
  | .s l => l
def Fld.d : Fld → PyData
  | .n k => .int (k : Nat)
  | .s l => .str (S l)
theorem num_S (k : Nat) : Str.ofString (toString ((k : Nat) : Int)) = S (TL.numL k) := by
  rw [S_of (Str.ofString (toString ((k : Nat) : Int)))]
  rw [S_inj]
  exact TL.tl_num k
def rStr : List V → Hp → VK → Prop := fun vs H Q => ∃ f : Fld, vs = [f.v] ∧ (∀ k, f = .n k → k < 10 ^ 20) ∧ Q (vS f.t) H
theorem k_str : CallR X (.type "str") rStr := by
  intro pins s σ H vs us Q I r h
  obtain ⟨f, rfl, hs, q⟩ := h
  cases f with
  | n k =>
    refine call_str_int pins s σ H _ us Q I r ⟨(k : Int), rfl, ?_, ?_⟩
    · have h1 := hs k rfl
      have h2 : (k : Int).natAbs = k := rfl
      rw [h2]
      by_cases h0 : k = 0
      · subst h0
        decide
      · exact Nat.lt_of_lt_of_le ((Nat.log2_lt h0).mpr (Nat.lt_of_lt_of_le h1 (by decide : 10 ^ 20 ≤ 2 ^ 67))) (by decide)
    · show Q (.str (Str.ofString (toString ((k : Nat) : Int)))) H
      rw [num_S]
      exact q
  | s l => exact SkE.call_str_str pins s σ H _ us Q I r ⟨S l, rfl, q⟩
def rIntS : List V → Hp → VK → Prop := fun vs H Q => ∃ (l : List Nat) (n : Int), vs = [vS l] ∧ intText? (S l) = some n ∧ l.length ≤ 640 ∧ Q (.int n) H
theorem k_intS : CallR X (.type "int") rIntS := fun pins s σ H vs us Q I r ⟨l, n, e, h1, h2, q⟩ => call_int_str pins s σ H vs us Q I r ⟨S l, n, e, h1, by rw [S_len]; exact h2, q⟩
theorem int_numL {k : Nat} (h : k < 10 ^ 20) : intText? (S (TL.numL k)) = some (k : Int) ∧ (TL.numL k).length ≤ 640 := by
  have hl := TL.numL_len (k := 20) (by decide) h
  have e := TL.int_num (n := k) (by omega)
  rw [num_S] at e
  exact ⟨e, by omega⟩
/-- text.split(sign) -/
def rSplit : V → List V → Hp → VK → Prop := fun x xs H Q => ∃ (c : Nat) (ls : List (List Nat)), x = vS (joinN [c] ls) ∧ xs = [vS [c]] ∧ c < 256 ∧ ls ≠ [] ∧ (∀ p ∈ ls, c ∉ p) ∧ (joinN [c] ls).length + 2 ≤ sizeLine ∧ NewL (ls.map vS) H Q
theorem mt_splitN : MtR X "str.split" rSplit := by
  intro pins s σ H x xs v us Q I rx rs h
  obtain ⟨c, ls, e1, e2, hc, hne, hp, hz, n⟩ := h
  refine mt_split pins s σ H x xs v us Q I rx rs ⟨S (joinN [c] ls), S [c], e1, e2, rfl, by rw [S_len]; exact hz, ?_⟩
  have e3 : Txt.split (S (joinN [c] ls)) (S [c]) = ls.map S := by
    rw [← txt_join]
    refine TL.split_join (s := c) (S := []) rfl ?_ (fun e => hne (List.map_eq_nil_iff.mp e)) fun p h => ?_
    · show (#[c] : Array Nat).all (· < 256) = true
      simp [hc]
    · obtain ⟨z, hz, rfl⟩ := List.mem_map.mp h
      show c ∉ (S z).cps.toList
      rw [S_list]
      exact hp z hz
  rw [e3]
  intro p np
  rw [List.map_map]
  exact n.2 p np
theorem pe_splitL {o e : Expr} {apos pos : Pos} {to te : TE} (ho : PE X o to) (he : PE X e te) (hs : starEach [e] X.env = [(false, eval e X.env)] := by rfl) (hbase : attributeBase o "split" X.env (eval o X.env) = eval o X.env := by rfl) (hline : (apos.endLine == pos.line) = true := by rfl) :
    PE X (.Call (.Attribute o "split" apos) [e] [] pos) (tM1 rSplit to te) := pe_m1 PySem.F.slot_str_split PySem.F.type_str_split mt_splitN ho he hs hbase hline
end
section
variable {H F0 H0 F : Hp} {L : List (Addr × HO)} {C : List Ck} {Q : VK} {K : PySem.W.Frag} {a : Addr} {xs : List V}
theorem w_str {f : Fld} (q : Q (vS f.t) H) (hs : ∀ k, f = .n k → k < 10 ^ 20) : rStr [f.v] H Q := ⟨f, rfl, hs, q⟩
theorem w_strN {k : Nat} (q : Q (vS (TL.numL k)) H) (hs : k < 10 ^ 20) : rStr [.int (k : Nat)] H Q := ⟨.n k, rfl, fun _ e => by cases e; exact hs, q⟩
theorem w_intS {l : List Nat} {n : Int} (q : Q (.int n) H) (h : intText? (S l) = some n ∧ l.length ≤ 640) : rIntS [vS l] H Q := ⟨l, n, rfl, h.1, h.2, q⟩
theorem w_split {c : Nat} {ls : List (List Nat)} (O : Own F0 H0 F H L C) (hc : c < 256) (hne : ls ≠ []) (hp : ∀ p ∈ ls, c ∉ p) (hz : (joinN [c] ls).length + 2 ≤ sizeLine) (k : ∀ p H', Own F0 H0 F H' ((p, .lst (ls.map vS)) :: L) C → Q (.ref p) H') (hl : ls.length ≤ sizeLine) : rSplit (vS (joinN [c] ls)) [vS [c]] H Q :=
  ⟨c, ls, rfl, rfl, hc, hne, hp, hz, w_newL O k (by rw [List.length_map]; exact hl)⟩
theorem w_slT {lo hi : Option Int} (O : Own F0 H0 F H L C) (hs : SqT K H a xs) (h : ¬ (HT.sIx xs.length 0 lo = 0 ∧ HT.sIx xs.length xs.length hi = xs.length)) (k : ∀ p F' H', Own F0 H0 F' H' L (cO p (.tup (cutV xs lo hi)) :: C) → Q (.ref p) H') : rSlT K (.ref a) lo hi H Q := ⟨a, xs, rfl, hs, h, fun p np => k p _ _ (O.ice np _)⟩
theorem w_all {bs : List Bool} (hs : SqL K H a (bs.map V.bl)) (q : Q (.bl (bs.all id)) H) : rAll K [.ref a] H Q := ⟨a, bs, rfl, hs, q⟩
theorem w_any {bs : List Bool} (hs : SqL K H a (bs.map V.bl)) (q : Q (.bl (bs.any id)) H) : rAny K [.ref a] H Q := ⟨a, bs, rfl, hs, q⟩
theorem w_sum {ns : List Int} (hs : SqL K H a (ns.map V.int)) (q : Q (.int ns.sum) H) : rSum K [.ref a] H Q := ⟨a, ns, rfl, hs, q⟩
end
end Fw

namespace Fw
open PySem PySem.Spec PyProof.Rows L2
/-! ### signs in texts, least and greatest of two, tests of truth -/
section
variable {X : Cx} {K : PySem.W.Frag}
def rInSg : R2 := fun x y H Q => ∃ (c : Nat) (l : List Nat), x = vS [c] ∧ y = vS l ∧ Q (.bl (decide (c ∈ l))) H
def rNotInSg : R2 := fun x y H Q => ∃ (c : Nat) (l : List Nat), x = vS [c] ∧ y = vS l ∧ Q (.bl (!decide (c ∈ l))) H
theorem k_inS : OpR X (compareOp .In) rInSg := fun pins s σ H x y u v Q I rx ry ⟨c, l, e1, e2, q⟩ => op_in_sign pins s σ H x y u v Q I rx ry ⟨c, S l, e1, e2, by rw [S_list]; exact q⟩
theorem k_notInS : OpR X (compareOp .NotIn) rNotInSg := fun pins s σ H x y u v Q I rx ry ⟨c, l, e1, e2, q⟩ => op_notIn_sign pins s σ H x y u v Q I rx ry ⟨c, S l, e1, e2, by rw [S_list]; exact q⟩
def rMin2' : List V → Hp → VK → Prop := fun xs H Q => ∃ i j : Int, xs = [.int i, .int j] ∧ Q (.int (min i j)) H
def rMax2' : List V → Hp → VK → Prop := fun xs H Q => ∃ i j : Int, xs = [.int i, .int j] ∧ Q (.int (max i j)) H
theorem min2_ (hc : X.calm = true) : CallR X (.builtin "min") rMin2' := by
  intro pins s σ H vs us Q I r h
  obtain ⟨i, j, e, q⟩ := h
  refine call_min2 hc pins s σ H vs us Q I r ⟨i, j, e, ?_⟩
  have e2 : (if j < i then j else i) = min i j := by split <;> omega
  rw [e2]
  exact q
theorem max2_ (hc : X.calm = true) : CallR X (.builtin "max") rMax2' := by
  intro pins s σ H vs us Q I r h
  obtain ⟨i, j, e, q⟩ := h
  refine call_max2 hc pins s σ H vs us Q I r ⟨i, j, e, ?_⟩
  have e2 : (if j > i then j else i) = max i j := by split <;> omega
  rw [e2]
  exact q
end
section
variable {H F0 H0 F : Hp} {L : List (Addr × HO)} {C : List Ck} {Q : VK} {K : PySem.W.Frag} {a : Addr} {xs : List V}
theorem q_inSg {c : Nat} {l : List Nat} : rInSg (vS [c]) (vS l) H Q = Q (.bl (decide (c ∈ l))) H := propext ⟨fun ⟨c', l', e1, e2, q⟩ => by
  have e1 := List.cons.inj (S_inj.mp (V.str.inj e1))
  have e2 := S_inj.mp (V.str.inj e2)
  rw [e1.1, e2]
  exact q, fun q => ⟨c, l, rfl, rfl, q⟩⟩
theorem q_notInSg {c : Nat} {l : List Nat} : rNotInSg (vS [c]) (vS l) H Q = Q (.bl (!decide (c ∈ l))) H := propext ⟨fun ⟨c', l', e1, e2, q⟩ => by
  have e1 := List.cons.inj (S_inj.mp (V.str.inj e1))
  have e2 := S_inj.mp (V.str.inj e2)
  rw [e1.1, e2]
  exact q, fun q => ⟨c, l, rfl, rfl, q⟩⟩
theorem q_min2 {i j : Int} : rMin2' [.int i, .int j] H Q = Q (.int (min i j)) H := propext ⟨fun ⟨_, _, e, q⟩ => by cases e; exact q, fun q => ⟨i, j, rfl, q⟩⟩
theorem q_max2 {i j : Int} : rMax2' [.int i, .int j] H Q = Q (.int (max i j)) H := propext ⟨fun ⟨_, _, e, q⟩ => by cases e; exact q, fun q => ⟨i, j, rfl, q⟩⟩
theorem w_ixStrs {ls : List (List Nat)} {i : Int} (q : Q (vS (ls.getD i.toNat [])) H) (hs : SqL K H a (ls.map vS)) (h : 0 ≤ i ∧ i < ls.length) : rIxL K (.ref a) (.int i) H Q := by
  refine w_ixL q hs ?_
  rw [atI_get (xs := ls.map vS) (d := vS []) (i := i) (by rw [List.length_map]; exact h)]
  congr 1
  rw [List.getD_eq_getElem?_getD, List.getD_eq_getElem?_getD, List.getElem?_map]
  cases ls[i.toNat]? <;> rfl
theorem Own.perm {L' : List (Addr × HO)} (O : Own F0 H0 F H L C) (h : L'.Perm L) : Own F0 H0 F H L' C := ⟨O.f0, O.fh, O.hh, O.new, fun q hq => O.own q (h.subset hq), (h.map Prod.fst).nodup_iff.mpr O.nd, O.cs⟩
theorem Own.swap {q q' : Addr × HO} (O : Own F0 H0 F H (q :: q' :: L) C) : Own F0 H0 F H (q' :: q :: L) C := O.perm (List.Perm.swap _ _ _)
/-- while, its turn told as it stands -/
theorem w_wh {tb : TS} {nx bk ct : L2.St → Hp → Prop} {rt : VK} {σ : L2.St} (Pv : Nat → L2.St → Hp → Prop) (m0 : Nat) (h0 : Pv m0 σ H) {c : TT}
    (hs : ∀ m σ' H', Pv m σ' H' → c σ' H' fun b H1 => if b = true then ∃ N : L2.St → Hp → Prop, (∀ σ2 H2, N σ2 H2 → ∃ m', m' < m ∧ Pv m' σ2 H2) ∧ tb ⟨N, rt, nx, N⟩ σ' H1 else nx σ' H1) : tWhile c tb ⟨nx, rt, bk, ct⟩ σ H := ⟨Pv, ⟨m0, h0⟩, fun m σ' H' p => hs m σ' H' p⟩
/-- its body -/
theorem w_bd {tb : TS} {nx : L2.St → Hp → Prop} {rt : VK} {σ : L2.St} {Pn : L2.St → Hp → Prop} (h : tb ⟨Pn, rt, nx, Pn⟩ σ H) : ∃ N : L2.St → Hp → Prop, (∀ σ2 H2, N σ2 H2 → Pn σ2 H2) ∧ tb ⟨N, rt, nx, N⟩ σ H := ⟨Pn, fun _ _ z => z, h⟩
/-- the frozen part has grown from F -/
def cF (F : Hp) : Ck := ⟨fun F' => Same F F', fun s h => h.trans s⟩
/-- a list of texts, against itself -/
theorem dp_strs {ls : List (List Nat)} (h : SqL K H a (ls.map vS)) : Dp K H (.ref a) (.list (ls.map fun l => PyData.str (S l))) := .lst h (dpAll_strs ls)
theorem q_wipe3 {σ : L2.St} {s s' s'' : Str} {n n' n'' : Nat} : wipe σ (List.map (fun x => x.snd) [(s, n), (s', n'), (s'', n'')]) = ((σ.set n'' none).set n' none).set n none := rfl
theorem q_wipe4 {σ : L2.St} {s s' s'' s3 : Str} {n n' n'' n3 : Nat} : wipe σ (List.map (fun x => x.snd) [(s, n), (s', n'), (s'', n''), (s3, n3)]) = (((σ.set n3 none).set n'' none).set n' none).set n none := rfl
theorem w_lcR3 {g : TG} {te : TE} {σ : L2.St} {tt : TT} {vs : List Nat} {b e c : Int} {n : Nat} (O : Own F0 H0 F H L C) (hn : RgC b e c n) (Iv : Nat → List V → Hp → Prop) (h0 : Iv 0 [] F)
    (turn : ∀ (i : Nat) acc D F' H', i < n → Iv i acc F' → Same F F' → Own F0 H0 F' H' ((D, .lst acc) :: L) C → g (.int (b + (i : Nat) * c)) (wipe σ vs) H' fun σ2 H2 => wipe σ2 vs = wipe σ vs ∧ tt σ2 H2 fun b H3 =>
      if b = true then te σ2 H3 (Put D (Btw F0 H0 F L C D (Iv (i + 1)))) else Btw F0 H0 F L C D (Iv (i + 1)) H3)
    (done : ∀ acc D F' H', Iv n acc F' → Same F F' → Own F0 H0 F' H' ((D, .lst acc) :: L) C → Q (.ref D) H') :
    Rg3 [.int b, .int e, .int c] H fun J H1 => LcEnd J g tt te vs σ H1 Q := by
  refine ⟨b, e, c, n, rfl, hn, lc_any n (fun i x => x = .int (b + (i : Nat) * c)) O Iv h0 (fun i H' F' acc D hi O' sF => hi) (fun H' F' acc D O' sF => Nat.le_refl _) (fun i x H' H2 F' acc D hi O' sF hy => hy) (fun i x acc D F' H' hi hY => ?_) done⟩
  intro h1 h2 h3
  rw [show x = .int (b + (i : Nat) * c) from hY]
  exact turn i acc D F' H' hi h1 h2 h3
theorem rgc_pos {n c : Nat} (hc : 0 < c ∧ c < 1073741824) (hn : n < 2 ^ 61) : RgC 0 (n : Int) (c : Int) ((n + c - 1) / c) := by
  have hs : Builtin.Range.rangeSize 0 (n : Int) (c : Int) = (((n + c - 1) / c : Nat) : Int) := by
    unfold Builtin.Range.rangeSize
    rw [if_pos (by omega)]
    by_cases h : n = 0
    · subst h
      rw [if_neg (by omega), Nat.div_eq_of_lt (by omega)]
      rfl
    · rw [if_pos (by omega), show n + c - 1 = (n - 1) + c by omega, Nat.add_div_right _ hc.1]
      have e : (n : Int) - 0 - 1 = ((n - 1 : Nat) : Int) := by omega
      rw [e]
      rfl
  refine ⟨by omega, by omega, ?_, hs⟩
  have hle : (n + c - 1) / c ≤ n := by
    rw [Nat.div_le_iff_le_mul hc.1]
    have : n ≤ n * c := Nat.le_mul_of_pos_right _ hc.1
    omega
  have hle2 : (n + c - 1) / c * c ≤ n + c - 1 := Nat.div_mul_le_self _ _
  have hle3 : (((n + c - 1) / c : Nat) : Int) * (c : Int) ≤ (n : Int) + c - 1 := by
    rw [← Int.natCast_mul]
    omega
  unfold Builtin.Range.small
  rw [hs]
  simp only [Builtin.Range.rangeFitsLong, Bool.and_eq_true, Bool.or_eq_true, decide_eq_true_eq, beq_iff_eq]
  generalize (n + c - 1) / c = d at hle ⊢
  refine ⟨⟨⟨⟨⟨by omega, by omega⟩, by omega, by omega⟩, by omega, by omega⟩, by omega, by omega⟩, .inr ?_⟩
  rw [if_pos (by omega), Bool.and_eq_true, decide_eq_true_eq, decide_eq_true_eq]
  omega
theorem sum_ones : ∀ {ls : List (List Nat)}, (∀ l ∈ ls, l.length = 1) → (ls.map List.length).sum = ls.length
  | [], _ => rfl
  | l :: ls, h => by
    rw [List.map_cons, List.sum_cons, h l List.mem_cons_self, sum_ones fun x hx => h x (List.mem_cons_of_mem _ hx), List.length_cons]
    omega
theorem joinN_ones : ∀ l : List Nat, joinN [] (l.map fun c => [c]) = l
  | [] => rfl
  | [c] => rfl
  | c :: d :: l => by
    show [c] ++ [] ++ joinN [] ((d :: l).map fun c => [c]) = _
    rw [joinN_ones (d :: l)]
    rfl
end
end Fw

namespace Fw
open PySem PySem.Spec PyProof.Rows L2
/-! ### comprehensions that make objects of their own -/
section
variable {F0 H0 F H : Hp} {L : List (Addr × HO)} {C : List Ck} {Q : VK} {K : PySem.W.Frag} {g : TG} {te : TE} {σ : L2.St} {tt : TT} {vs : List Nat} {y : V}
/-- what holds between two turns: M are the objects made so far -/
def BtwG (F0 H0 F : Hp) (L : List (Addr × HO)) (C : List Ck) (D : Addr) (Iv : List V → List (Addr × HO) → Hp → Prop) (H' : Hp) : Prop := ∃ F' acc M, Own F0 H0 F' H' ((D, .lst acc) :: (M ++ L)) C ∧ Same F F' ∧ Iv acc M F'
theorem w_putG {Iv : List V → List (Addr × HO) → Hp → Prop} {D : Addr} {acc : List V} {M : List (Addr × HO)} {F1 : Hp} (O : Own F0 H0 F1 H ((D, .lst acc) :: (M ++ L)) C) (sF : Same F F1) (hI : Iv (acc ++ [y]) M F1) (hz : acc.length < sizeLine) : Put D (BtwG F0 H0 F L C D Iv) y H :=
  ⟨acc, O.at_ 0, hz, F1, _, M, O.set 0 rfl _, sF, hI⟩
theorem lc_anyG {J : It} (n : Nat) (Y : Nat → V → Prop) (O : Own F0 H0 F H L C) (Iv : Nat → List V → List (Addr × HO) → Hp → Prop) (h0 : Iv 0 [] [] F)
    (go : ∀ i H' F' acc M D, i < n → Own F0 H0 F' H' ((D, .lst acc) :: (M ++ L)) C → Same F F' → J.go i H') (stop : ∀ H' F' acc M D, Own F0 H0 F' H' ((D, .lst acc) :: (M ++ L)) C → Same F F' → J.stop n H')
    (yld : ∀ i x H' H2 F' acc M D, i < n → Own F0 H0 F' H' ((D, .lst acc) :: (M ++ L)) C → Same F F' → J.yld i H' x H2 → H2 = H' ∧ Y i x)
    (turn : ∀ (i : Nat) x acc M D F' H', i < n → Y i x → Iv i acc M F' → Same F F' → Own F0 H0 F' H' ((D, .lst acc) :: (M ++ L)) C → g x (wipe σ vs) H' fun σ2 H2 => wipe σ2 vs = wipe σ vs ∧ tt σ2 H2 fun b H3 =>
      if b = true then te σ2 H3 (Put D (BtwG F0 H0 F L C D (Iv (i + 1)))) else BtwG F0 H0 F L C D (Iv (i + 1)) H3)
    (done : ∀ acc M D F' H', Iv n acc M F' → Same F F' → Own F0 H0 F' H' ((D, .lst acc) :: (M ++ L)) C → Q (.ref D) H') :
    LcEnd J g tt te vs σ H Q := by
  intro D hD
  refine ⟨fun i k H' => k = n - i ∧ i ≤ n ∧ BtwG F0 H0 F L C D (Iv i) H', ⟨n, by omega, Nat.zero_le _, F, [], [], O.alloc hD _, Same.refl _, h0⟩, ?_⟩
  rintro i k H' ⟨rfl, hi, F', acc, M, O', sF, hI⟩
  by_cases hlt : i < n
  · refine .inr ⟨go i H' F' acc M D hlt O' sF, BtwG F0 H0 F L C D (Iv (i + 1)), fun H2 p' => ⟨n - (i + 1), by omega, rfl, hlt, p'⟩, fun x H2 hy => ?_⟩
    obtain ⟨rfl, hY⟩ := yld i x H' H2 F' acc M D hlt O' sF hy
    exact turn i x acc M D F' _ hlt hY hI sF O'
  · have e : i = n := by omega
    subst e
    exact .inl ⟨stop H' F' acc M D O' sF, done acc M D F' H' hI sF O'⟩
theorem w_lcR1G {n : Int} (O : Own F0 H0 F H L C) (hn : -(2 ^ 62) ≤ n ∧ n < 2 ^ 62) (Iv : Nat → List V → List (Addr × HO) → Hp → Prop) (h0 : Iv 0 [] [] F)
    (turn : ∀ (i : Nat) acc M D F' H', (i : Int) < n → Iv i acc M F' → Same F F' → Own F0 H0 F' H' ((D, .lst acc) :: (M ++ L)) C → g (.int (i : Nat)) (wipe σ vs) H' fun σ2 H2 => wipe σ2 vs = wipe σ vs ∧ tt σ2 H2 fun b H3 =>
      if b = true then te σ2 H3 (Put D (BtwG F0 H0 F L C D (Iv (i + 1)))) else BtwG F0 H0 F L C D (Iv (i + 1)) H3)
    (done : ∀ acc M D F' H', Iv n.toNat acc M F' → Same F F' → Own F0 H0 F' H' ((D, .lst acc) :: (M ++ L)) C → Q (.ref D) H') :
    Rg1 [.int n] H fun J H1 => LcEnd J g tt te vs σ H1 Q := by
  refine ⟨n, rfl, hn.1, hn.2, lc_anyG n.toNat (fun i x => x = .int (i : Nat)) O Iv h0 (fun i H' F' acc M D hi O' sF => hi) (fun H' F' acc M D O' sF => Nat.le_refl _) (fun i x H' H2 F' acc M D hi O' sF hy => ⟨hy.1, by rw [hy.2, Int.zero_add]⟩) (fun i x acc M D F' H' hi hY => ?_) done⟩
  intro h1 h2 h3
  rw [show x = .int (i : Nat) from hY]
  exact turn i acc M D F' H' (by omega) h1 h2 h3
theorem w_lcLG {a : Addr} {xs : List V} (O : Own F0 H0 F H L C) (hx : SqL K H a xs) (hl : ∀ {F' H' acc M D}, Own F0 H0 F' H' ((D, .lst acc) :: (M ++ L)) C → Same F F' → SqL K H' a xs) (Iv : Nat → List V → List (Addr × HO) → Hp → Prop) (h0 : Iv 0 [] [] F)
    (turn : ∀ (i : Nat) x acc M D F' H', xs[i]? = some x → Iv i acc M F' → Same F F' → Own F0 H0 F' H' ((D, .lst acc) :: (M ++ L)) C → g x (wipe σ vs) H' fun σ2 H2 => wipe σ2 vs = wipe σ vs ∧ tt σ2 H2 fun b H3 =>
      if b = true then te σ2 H3 (Put D (BtwG F0 H0 F L C D (Iv (i + 1)))) else BtwG F0 H0 F L C D (Iv (i + 1)) H3)
    (done : ∀ acc M D F' H', Iv xs.length acc M F' → Same F F' → Own F0 H0 F' H' ((D, .lst acc) :: (M ++ L)) C → Q (.ref D) H') :
    FoL K (.ref a) H fun J H1 => LcEnd J g tt te vs σ H1 Q := by
  refine ⟨a, rfl, ⟨xs, hx⟩, lc_anyG xs.length (fun i x => xs[i]? = some x) O Iv h0 (fun i H' F' acc M D hi O' sF => ?_) (fun H' F' acc M D O' sF => ⟨xs, hl O' sF, Nat.le_refl _⟩) (fun i x H' H2 F' acc M D hi O' sF hy => ⟨hy.1, hy.2 xs (hl O' sF)⟩) (fun i x acc M D F' H' _ hY => turn i x acc M D F' H' hY) done⟩
  exact ⟨xs, _, hl O' sF, List.getElem?_eq_getElem hi⟩
/-! ### least of three -/
def rMin3' : List V → Hp → VK → Prop := fun xs H Q => ∃ i j k : Int, xs = [.int i, .int j, .int k] ∧ Q (.int (min (min i j) k)) H
theorem min3_ {X : Cx} (hc : X.calm = true) : CallR X (.builtin "min") rMin3' := by
  intro pins s σ H vs us Q I r h
  obtain ⟨i, j, k, e, q⟩ := h
  refine call_min3Nu hc pins s σ H vs us Q I r ⟨.int i, .int j, .int k, .int (min (min i j) k), e, ?_, q⟩
  have h2 : ∀ a b : Int, nuMin2 (.int a) (.int b) = some (.int (min a b)) := fun a b => by
    show some (if decide (b < a) = true then V.int b else V.int a) = _
    by_cases h : b < a
    · rw [decide_eq_true h, if_pos rfl, show min a b = b by omega]
    · rw [decide_eq_false h, if_neg Bool.false_ne_true, show min a b = a by omega]
  show (nuMin2 (.int i) (.int j)).bind (fun m => nuMin2 m (.int k)) = _
  rw [h2]
  exact h2 _ _
theorem q_min3 {i j k : Int} {Q : VK} {H : Hp} : rMin3' [.int i, .int j, .int k] H Q = Q (.int (min (min i j) k)) H := propext ⟨fun ⟨_, _, _, e, q⟩ => by cases e; exact q, fun q => ⟨i, j, k, rfl, q⟩⟩
/-! ### grids: rows of their own, addresses A, cells M -/
def row (M : Nat → Nat → Int) (e i : Nat) : List V := (List.range e).map fun j => .int (M i j)
def fam (A : Nat → Addr) (M : Nat → Nat → Int) (n e : Nat) : List (Addr × HO) := (List.range n).map fun i => (A i, .lst (row M e i))
def upd2 (M : Nat → Nat → Int) (i j : Nat) (v : Int) : Nat → Nat → Int := fun i' j' => if i' = i ∧ j' = j then v else M i' j'
theorem upd2_same (M : Nat → Nat → Int) (i j : Nat) (v : Int) : upd2 M i j v i j = v := if_pos ⟨rfl, rfl⟩
theorem upd2_ne {M : Nat → Nat → Int} {i j i' j' : Nat} {v : Int} (h : ¬ (i' = i ∧ j' = j)) : upd2 M i j v i' j' = M i' j' := if_neg h
theorem row_len (M : Nat → Nat → Int) (e i : Nat) : (row M e i).length = e := by rw [row, List.length_map, List.length_range]
theorem row_get {M : Nat → Nat → Int} {e i j : Nat} (h : j < e) : (row M e i)[j]? = some (.int (M i j)) := by
  rw [row, List.getElem?_map, List.getElem?_range h]
  rfl
theorem row_at {M : Nat → Nat → Int} {e i j : Nat} (h : j < e) : atI (row M e i) (j : Nat) = some (.int (M i j)) := by
  rw [atI_get (d := V.non) ⟨by omega, by rw [row_len]; omega⟩, Int.toNat_natCast, List.getD_eq_getElem?_getD, row_get h]
  rfl
theorem fam_len (A : Nat → Addr) (M : Nat → Nat → Int) (n e : Nat) : (fam A M n e).length = n := by rw [fam, List.length_map, List.length_range]
theorem fam_get {A : Nat → Addr} {M : Nat → Nat → Int} {n e i : Nat} (h : i < n) : (fam A M n e)[i]? = some (A i, .lst (row M e i)) := by
  rw [fam, List.getElem?_map, List.getElem?_range h]
  rfl
theorem fam_mem {A : Nat → Addr} {M : Nat → Nat → Int} {n e i : Nat} (h : i < n) : (A i, HO.lst (row M e i)) ∈ fam A M n e := List.mem_of_getElem? (fam_get h)
theorem row_set {M : Nat → Nat → Int} {e i j : Nat} {v : Int} : (row M e i).set j (.int v) = row (upd2 M i j v) e i := by
  refine List.ext_getElem? fun k => ?_
  by_cases hk : k < e
  · by_cases e2 : j = k
    · subst e2
      rw [List.getElem?_set_self (by rw [row_len]; exact hk), row_get hk, upd2_same]
    · rw [List.getElem?_set_ne e2, row_get hk, row_get hk, upd2_ne (by omega)]
  · rw [List.getElem?_eq_none (by rw [List.length_set, row_len]; omega), List.getElem?_eq_none (by rw [row_len]; omega)]
theorem row_ne {M : Nat → Nat → Int} {e i j i' : Nat} {v : Int} (h : i' ≠ i) : row (upd2 M i j v) e i' = row M e i' := by
  refine List.map_congr_left fun k _ => ?_
  rw [upd2_ne (by omega)]
theorem fam_set {A : Nat → Addr} {M : Nat → Nat → Int} {n e i j : Nat} {v : Int} (h : i < n) : (fam A M n e).set i (A i, .lst ((row M e i).set j (.int v))) = fam A (upd2 M i j v) n e := by
  rw [row_set]
  refine List.ext_getElem? fun k => ?_
  by_cases hk : k < n
  · by_cases e2 : i = k
    · subst e2
      rw [List.getElem?_set_self (by rw [fam_len]; exact hk), fam_get hk]
    · rw [List.getElem?_set_ne e2, fam_get hk, fam_get hk, row_ne (by omega)]
  · rw [List.getElem?_eq_none (by rw [List.length_set, fam_len]; omega), List.getElem?_eq_none (by rw [fam_len]; omega)]
/-- a cell is set -/
theorem Own.cell {A : Nat → Addr} {M : Nat → Nat → Int} {n e i j : Nat} {v : Int} {L1 L2 : List (Addr × HO)} (O : Own F0 H0 F H (L1 ++ (fam A M n e ++ L2)) C) (h : i < n) :
    Own F0 H0 F (upd H (A i) (.lst ((row M e i).set j (.int v)))) (L1 ++ (fam A (upd2 M i j v) n e ++ L2)) C := by
  have g : (L1 ++ (fam A M n e ++ L2))[L1.length + i]? = some (A i, .lst (row M e i)) := by
    rw [List.getElem?_append_right (by omega), show L1.length + i - L1.length = i by omega, List.getElem?_append_left (by rw [fam_len]; exact h), fam_get h]
  have O2 := O.set _ g (.lst ((row M e i).set j (.int v)))
  rw [List.set_append_right _ _ (by omega), show L1.length + i - L1.length = i by omega, List.set_append_left _ _ (by rw [fam_len]; exact h), fam_set h] at O2
  exact O2
end
end Fw

namespace Mi
open PySem PySem.Spec PyProof.Rows L2 Fw
/-! ### mirrors: Python by value -/
/-- how a value stands for data -/
structure Rp (α : Type) where
  r : Hp → V → α → Prop
  m : ∀ {F F' : Hp} {v : V} {x : α}, Same F F' → r F v x → r F' v x
theorem Paired.mono {α β : Type} {A B : α → β → Prop} (h : ∀ a b, A a b → B a b) : ∀ {xs : List α} {ys : List β}, Paired A xs ys → Paired B xs ys
  | _, _, .nil => .nil
  | _, _, .cons r t => .cons (h _ _ r) (Paired.mono h t)
theorem Paired.at {α β : Type} {A : α → β → Prop} : ∀ {xs : List α} {ys : List β} {i : Nat} {y : β}, Paired A xs ys → ys[i]? = some y → ∃ x, xs[i]? = some x ∧ A x y
  | _, _, _, _, .nil, e => by simp at e
  | _, _, 0, _, .cons r _, e => by
    have e2 := Option.some.inj e
    rw [← e2]
    exact ⟨_, rfl, r⟩
  | _, _, i + 1, _, .cons _ t, e => Paired.at (i := i) t e
theorem Paired.app {α β : Type} {A : α → β → Prop} : ∀ {xs : List α} {ys : List β} {xs' : List α} {ys' : List β}, Paired A xs ys → Paired A xs' ys' → Paired A (xs ++ xs') (ys ++ ys')
  | _, _, _, _, .nil, h => h
  | _, _, _, _, .cons r t, h => .cons r (Paired.app t h)
theorem Paired.upd {α β : Type} {A : α → β → Prop} {x : α} {y : β} (h : A x y) : ∀ {xs : List α} {ys : List β} (i : Nat), Paired A xs ys → Paired A (xs.set i x) (ys.set i y)
  | _, _, _, .nil => .nil
  | _, _, 0, .cons _ t => .cons h t
  | _, _, i + 1, .cons r t => .cons r (Paired.upd h i t)
theorem Paired.tk {α β : Type} {A : α → β → Prop} : ∀ {xs : List α} {ys : List β} (n : Nat), Paired A xs ys → Paired A (xs.take n) (ys.take n)
  | _, _, 0, _ => .nil
  | _, _, _ + 1, .nil => .nil
  | _, _, n + 1, .cons r t => .cons r (Paired.tk n t)
theorem Paired.dp {α β : Type} {A : α → β → Prop} : ∀ {xs : List α} {ys : List β} (n : Nat), Paired A xs ys → Paired A (xs.drop n) (ys.drop n)
  | _, _, 0, h => h
  | _, _, _ + 1, .nil => .nil
  | _, _, n + 1, .cons _ t => Paired.dp n t
theorem Paired.rev {α β : Type} {A : α → β → Prop} : ∀ {xs : List α} {ys : List β}, Paired A xs ys → Paired A xs.reverse ys.reverse
  | _, _, .nil => .nil
  | _, _, .cons r t => by
    rw [List.reverse_cons, List.reverse_cons]
    exact Paired.app (Paired.rev t) (.cons r .nil)
theorem Paired.ofMap {α β : Type} {A : α → β → Prop} {f : β → α} (h : ∀ a b, A a b → a = f b) : ∀ {xs : List α} {ys : List β}, Paired A xs ys → xs = ys.map f
  | _, _, .nil => rfl
  | _, _, .cons r t => by rw [List.map_cons, ← h _ _ r, ← Paired.ofMap h t]
theorem Paired.mk {α β : Type} {A : α → β → Prop} {f : β → α} (h : ∀ b, A (f b) b) : ∀ (ys : List β), Paired A (ys.map f) ys
  | [] => .nil
  | y :: ys => .cons (h y) (Paired.mk h ys)
theorem Paired.len {α β : Type} {A : α → β → Prop} {xs : List α} {ys : List β} (h : Paired A xs ys) : xs.length = ys.length := Paired.length h
def jI : Rp Int := ⟨fun _ v x => v = .int x, fun _ h => h⟩
def jB : Rp Bool := ⟨fun _ v x => v = .bl x, fun _ h => h⟩
/-- signs of a text -/
def okS (x : List Nat) : Prop := ∀ c ∈ x, c < 1114112
instance (x : List Nat) : Decidable (okS x) := inferInstanceAs (Decidable (∀ c ∈ x, c < 1114112))
theorem okS_app {x y : List Nat} (h : okS x) (k : okS y) : okS (x ++ y) := fun c hc => (List.mem_append.mp hc).elim (h c) (k c)
theorem okS_nil : okS [] := fun _ h => nomatch h
theorem okS_sub {x y : List Nat} (h : okS x) (k : ∀ c ∈ y, c ∈ x) : okS y := fun c hc => h c (k c hc)
theorem okS_flat {xs : List (List Nat)} (h : ∀ x ∈ xs, okS x) : okS xs.flatten := fun c hc => by
  obtain ⟨x, hx, hcx⟩ := List.mem_flatten.mp hc
  exact h x hx c hcx
def jS : Rp (List Nat) := ⟨fun _ v x => v = vS x ∧ okS x, fun _ h => h⟩
def jN : Rp Unit := ⟨fun _ v _ => v = .non, fun _ h => h⟩
/-- a thing known by its value -/
def jV (u : V) : Rp Unit := ⟨fun _ v _ => v = u, fun _ h => h⟩
def jO {α : Type} (R : Rp α) : Rp (Option α) := ⟨fun F v x => match x with | none => v = .non | some y => R.r F v y, fun {_ _ _ x} s h => by
  cases x with
  | none => exact h
  | some y => exact R.m s h⟩
def jL {α : Type} (R : Rp α) : Rp (List α) := ⟨fun F v xs => ∃ a vs, v = .ref a ∧ F a = some (.lst vs) ∧ Paired (R.r F) vs xs,
  fun s ⟨a, vs, e, h, p⟩ => ⟨a, vs, e, s _ _ h, Paired.mono (fun _ _ q => R.m s q) p⟩⟩
/-- a list that is read, of whatever kind -/
def jQ {α : Type} (K : PySem.W.Frag) (R : Rp α) : Rp (List α) := ⟨fun F v xs => ∃ a vs, v = .ref a ∧ SqL K F a vs ∧ Paired (R.r F) vs xs,
  fun s ⟨a, vs, e, h, p⟩ => ⟨a, vs, e, s.seq h, Paired.mono (fun _ _ q => R.m s q) p⟩⟩
/-- a tuple's parts -/
structure Tp (ρ : Type) where
  r : Hp → List V → ρ → Prop
  m : ∀ {F F' : Hp} {v : List V} {x : ρ}, Same F F' → r F v x → r F' v x
def y1 {α : Type} (R : Rp α) : Tp α := ⟨fun F vs x => ∃ v, vs = [v] ∧ R.r F v x, fun s ⟨v, e, h⟩ => ⟨v, e, R.m s h⟩⟩
def yC {α ρ : Type} (R : Rp α) (T : Tp ρ) : Tp (α × ρ) := ⟨fun F vs x => ∃ v r, vs = v :: r ∧ R.r F v x.1 ∧ T.r F r x.2, fun s ⟨v, r, e, h, t⟩ => ⟨v, r, e, R.m s h, T.m s t⟩⟩
def jT {ρ : Type} (T : Tp ρ) : Rp ρ := ⟨fun F v x => ∃ a vs, v = .ref a ∧ F a = some (.tup vs) ∧ T.r F vs x, fun s ⟨a, vs, e, h, t⟩ => ⟨a, vs, e, s _ _ h, T.m s t⟩⟩
/-- how a value and its own objects stand for data -/
structure Sl (α : Type) where
  r : V → Hp → List (Addr × HO) → α → Prop
  m : ∀ {F F' : Hp} {v : V} {L : List (Addr × HO)} {x : α}, Same F F' → r v F L x → r v F' L x
def sF {α : Type} (R : Rp α) : Sl α := ⟨fun v F L x => L = [] ∧ R.r F v x, fun s ⟨e, h⟩ => ⟨e, R.m s h⟩⟩
def sO {α : Type} (R : Rp α) : Sl (List α) := ⟨fun v F L xs => ∃ p vs, v = .ref p ∧ L = [(p, .lst vs)] ∧ Paired (R.r F) vs xs,
  fun s ⟨p, vs, e, h, q⟩ => ⟨p, vs, e, h, Paired.mono (fun _ _ q => R.m s q) q⟩⟩
/-- the names -/
structure En (ρ : Type) where
  r : L2.St → Hp → List (Addr × HO) → ρ → Prop
  m : ∀ {σ : L2.St} {F F' : Hp} {L : List (Addr × HO)} {x : ρ}, Same F F' → r σ F L x → r σ F' L x
def eN : En Unit := ⟨fun σ _ L _ => σ = [] ∧ L = [], fun _ h => h⟩
def eU {ρ : Type} (E : En ρ) : En ρ := ⟨fun σ F L γ => ∃ o σ', σ = o :: σ' ∧ E.r σ' F L γ, fun s ⟨o, σ', e, h⟩ => ⟨o, σ', e, E.m s h⟩⟩
def eC {α ρ : Type} (s : Sl α) (E : En ρ) : En (α × ρ) := ⟨fun σ F L γ => ∃ v σ' L1 L2, σ = some v :: σ' ∧ L = L1 ++ L2 ∧ s.r v F L1 γ.1 ∧ E.r σ' F L2 γ.2,
  fun z ⟨v, σ', L1, L2, e1, e2, h, t⟩ => ⟨v, σ', L1, L2, e1, e2, s.m z h, E.m z t⟩⟩
/-! own objects, fewer -/
def Sb (A B : List (Addr × HO)) : Prop := ∃ R, (A ++ R).Perm B
theorem Sb.refl (A : List (Addr × HO)) : Sb A A := ⟨[], by rw [List.append_nil]⟩
theorem Sb.trans {A B C : List (Addr × HO)} (h : Sb A B) (k : Sb B C) : Sb A C := by
  obtain ⟨R, h⟩ := h
  obtain ⟨S, k⟩ := k
  exact ⟨R ++ S, by rw [← List.append_assoc]; exact (h.append_right S).trans k⟩
theorem Sb.left {A B : List (Addr × HO)} (C : List (Addr × HO)) (h : Sb A B) : Sb (C ++ A) (C ++ B) := by
  obtain ⟨R, h⟩ := h
  exact ⟨R, by rw [List.append_assoc]; exact h.append_left C⟩
theorem Sb.right {A B : List (Addr × HO)} (C : List (Addr × HO)) (h : Sb A B) : Sb (A ++ C) (B ++ C) := by
  obtain ⟨R, h⟩ := h
  refine ⟨R, ?_⟩
  have e : ((A ++ C) ++ R).Perm ((A ++ R) ++ C) := by
    rw [List.append_assoc, List.append_assoc]
    exact List.perm_append_comm.append_left A
  exact e.trans (h.append_right C)
theorem Sb.perm {A B : List (Addr × HO)} (h : A.Perm B) : Sb A B := ⟨[], by rw [List.append_nil]; exact h⟩
theorem Sb.dropL (A B : List (Addr × HO)) : Sb B (A ++ B) := ⟨A, List.perm_append_comm⟩
theorem Sb.dropR (A B : List (Addr × HO)) : Sb A (A ++ B) := ⟨B, List.Perm.refl _⟩
theorem Sb.nil (A : List (Addr × HO)) : Sb [] A := ⟨A, List.Perm.refl _⟩
theorem Sb.mem {A B : List (Addr × HO)} (h : Sb A B) {q : Addr × HO} (hq : q ∈ A) : q ∈ B := by
  obtain ⟨R, h⟩ := h
  exact h.subset (List.mem_append_left R hq)
theorem OwnSb {F0 H0 F H : Hp} {L L' : List (Addr × HO)} {C : List Ck} (O : Own F0 H0 F H L C) (h : Sb L' L) : Own F0 H0 F H L' C := by
  obtain ⟨R, h⟩ := h
  exact (O.perm h).sub (List.sublist_append_left L' R)
abbrev Held (H : Hp) (L : List (Addr × HO)) : Prop := ∀ q ∈ L, H q.1 = some q.2
theorem Held.of {F0 H0 F H : Hp} {L : List (Addr × HO)} {C : List Ck} (O : Own F0 H0 F H L C) : Held H L := fun q hq => (O.own q hq).2.2
theorem Held.mono {H H' : Hp} {L : List (Addr × HO)} (h : Held H L) (s : Same H H') : Held H' L := fun q hq => s _ _ (h q hq)
abbrev Step (F H F' H' : Hp) (L : List (Addr × HO)) : Prop := Own F H F' H' L []
theorem Step.nil {F H : Hp} (s : Same F H) : Step F H F H [] := Own.start s trivial
theorem Own.on {F0 H0 F H F' H' : Hp} {L L1 : List (Addr × HO)} {C : List Ck} (O : Own F0 H0 F H L C) (s : Step F H F' H' L1) : Own F0 H0 F' H' (L1 ++ L) C := O.grow s.ext s.news
/-! ### the judgements -/
section
variable {ρ ρ' α β δ : Type}
structure SE (t : TE) (E : En ρ) (s : Sl α) (f : ρ → Option α) : Prop where
  run : ∀ {σ : L2.St} {F H : Hp} {L : List (Addr × HO)} {γ : ρ} {x : α} {Q : VK}, Same F H → Held H L → E.r σ F L γ → f γ = some x →
  (∀ v F' H' L1, Step F H F' H' L1 → s.r v F' L1 x → Q v H') → t σ H Q
instance {t : TE} {E : En ρ} {s : Sl α} {f : ρ → Option α} : CoeFun (SE t E s f) (fun _ => ∀ {σ : L2.St} {F H : Hp} {L : List (Addr × HO)} {γ : ρ} {x : α} {Q : VK}, Same F H → Held H L → E.r σ F L γ → f γ = some x →
  (∀ v F' H' L1, Step F H F' H' L1 → s.r v F' L1 x → Q v H') → t σ H Q) := ⟨fun h => h.run⟩
structure RE (X : Cx) (e : Expr) (t : TE) (E : En ρ) (s : Sl α) (f : ρ → Option α) : Prop where
  pe : PE X e t
  se : SE t E s f
structure SB (t : TE) (E : En ρ) (R : Rp α) (f : ρ → Option (List α)) : Prop where
  run : ∀ {σ : L2.St} {F H : Hp} {L : List (Addr × HO)} {γ : ρ} {x : List α} {Q : VK}, Same F H → Held H L → E.r σ F L γ → f γ = some x →
  (∀ a vs F' H', Step F H F' H' [] → H' a = some (.lst vs) → Paired (R.r F') vs x → Q (.ref a) H') → t σ H Q
instance {t : TE} {E : En ρ} {R : Rp α} {f : ρ → Option (List α)} : CoeFun (SB t E R f) (fun _ => ∀ {σ : L2.St} {F H : Hp} {L : List (Addr × HO)} {γ : ρ} {x : List α} {Q : VK}, Same F H → Held H L → E.r σ F L γ → f γ = some x →
  (∀ a vs F' H', Step F H F' H' [] → H' a = some (.lst vs) → Paired (R.r F') vs x → Q (.ref a) H') → t σ H Q) := ⟨fun h => h.run⟩
/-- a list read as it stands -/
structure RB (X : Cx) (e : Expr) (t : TE) (E : En ρ) (R : Rp α) (f : ρ → Option (List α)) : Prop where
  pe : PE X e t
  se : SB t E R f
structure ST (t : TT) (E : En ρ) (f : ρ → Option Bool) : Prop where
  run : ∀ {σ : L2.St} {F H : Hp} {L : List (Addr × HO)} {γ : ρ} {x : Bool} {Q : Bool → Hp → Prop}, Same F H → Held H L → E.r σ F L γ → f γ = some x →
  (∀ F' H', Step F H F' H' [] → Q x H') → t σ H Q
instance {t : TT} {E : En ρ} {f : ρ → Option Bool} : CoeFun (ST t E f) (fun _ => ∀ {σ : L2.St} {F H : Hp} {L : List (Addr × HO)} {γ : ρ} {x : Bool} {Q : Bool → Hp → Prop}, Same F H → Held H L → E.r σ F L γ → f γ = some x →
  (∀ F' H', Step F H F' H' [] → Q x H') → t σ H Q) := ⟨fun h => h.run⟩
structure RTt (X : Cx) (e : Expr) (t : TT) (E : En ρ) (f : ρ → Option Bool) : Prop where
  pt : PT X e t
  st : ST t E f
structure RW (X : Cx) (e : Expr) (t : TT) (E : En ρ) (f : ρ → Option Bool) : Prop where
  pw : PW X e t
  st : ST t E f
/-- arguments -/
structure Ar (ρ : Type) where
  r : Hp → List V → ρ → Prop
  m : ∀ {F F' : Hp} {v : List V} {x : ρ}, Same F F' → r F v x → r F' v x
def aN : Ar Unit := ⟨fun _ vs _ => vs = [], fun _ h => h⟩
def aC (R : Rp α) (T : Ar ρ) : Ar (α × ρ) := ⟨fun F vs x => ∃ v r, vs = v :: r ∧ R.r F v x.1 ∧ T.r F r x.2, fun s ⟨v, r, e, h, t⟩ => ⟨v, r, e, R.m s h, T.m s t⟩⟩
structure SA (t : TA) (E : En ρ) (A : Ar α) (f : ρ → Option α) : Prop where
  run : ∀ {σ : L2.St} {F H : Hp} {L : List (Addr × HO)} {γ : ρ} {x : α} {Q : List V → Hp → Prop}, Same F H → Held H L → E.r σ F L γ → f γ = some x →
  (∀ vs F' H', Step F H F' H' [] → A.r F' vs x → Q vs H') → t σ H Q
instance {t : TA} {E : En ρ} {A : Ar α} {f : ρ → Option α} : CoeFun (SA t E A f) (fun _ => ∀ {σ : L2.St} {F H : Hp} {L : List (Addr × HO)} {γ : ρ} {x : α} {Q : List V → Hp → Prop}, Same F H → Held H L → E.r σ F L γ → f γ = some x →
  (∀ vs F' H', Step F H F' H' [] → A.r F' vs x → Q vs H') → t σ H Q) := ⟨fun h => h.run⟩
structure RA (X : Cx) (es : List Expr) (t : TA) (E : En ρ) (A : Ar α) (f : ρ → Option α) : Prop where
  pa : PA X es t
  sa : SA t E A f
end
/-! ### names -/
section
variable {ρ ρ' α β δ : Type} {E : En ρ} {E' : En ρ'} {s : Sl α} {s' : Sl β}
structure Gt (E : En ρ) (i : Nat) (s : Sl α) (g : ρ → α) : Prop where
  run : ∀ {σ : L2.St} {F : Hp} {L : List (Addr × HO)} {γ : ρ}, E.r σ F L γ → ∃ v L1, σ[i]? = some (some v) ∧ (∀ q ∈ L1, q ∈ L) ∧ s.r v F L1 (g γ)
instance {E : En ρ} {i : Nat} {s : Sl α} {g : ρ → α} : CoeFun (Gt E i s g) (fun _ => ∀ {σ : L2.St} {F : Hp} {L : List (Addr × HO)} {γ : ρ}, E.r σ F L γ → ∃ v L1, σ[i]? = some (some v) ∧ (∀ q ∈ L1, q ∈ L) ∧ s.r v F L1 (g γ)) := ⟨fun h => h.run⟩
theorem g0 : Gt (eC s E) 0 s (fun γ => γ.1) := ⟨fun ⟨v, σ', L1, L2, e1, e2, h, _⟩ => ⟨v, L1, by rw [e1]; rfl, fun q hq => by rw [e2]; exact List.mem_append_left _ hq, h⟩⟩
theorem gU {i : Nat} {g : ρ → α} (h : Gt E i s g) : Gt (eU E) (i + 1) s g := ⟨fun ⟨o, σ', e, t⟩ => by
  obtain ⟨v, L1, h1, h2, h3⟩ := h t
  exact ⟨v, L1, by rw [e]; exact h1, h2, h3⟩⟩
theorem gS {i : Nat} {g : ρ → α} (h : Gt E i s g) : Gt (eC s' E) (i + 1) s (fun γ => g γ.2) := ⟨fun ⟨v', σ', L1', L2, e1, e2, _, t⟩ => by
  obtain ⟨v, L1, h1, h2, h3⟩ := h t
  exact ⟨v, L1, by rw [e1]; exact h1, fun q hq => by rw [e2]; exact List.mem_append_right _ (h2 q hq), h3⟩⟩
/-- a name gets a value -/
structure Pt (E : En ρ) (i : Nat) (s : Sl α) (E' : En ρ') (u : α → ρ → ρ') : Prop where
  run : ∀ {σ : L2.St} {F : Hp} {L : List (Addr × HO)} {γ : ρ} {v : V} {L1 : List (Addr × HO)} {x : α}, E.r σ F L γ → s.r v F L1 x →
  ∃ L', E'.r (σ.set i (some v)) F L' (u x γ) ∧ Sb L' (L1 ++ L)
instance {E : En ρ} {i : Nat} {s : Sl α} {E' : En ρ'} {u : α → ρ → ρ'} : CoeFun (Pt E i s E' u) (fun _ => ∀ {σ : L2.St} {F : Hp} {L : List (Addr × HO)} {γ : ρ} {v : V} {L1 : List (Addr × HO)} {x : α}, E.r σ F L γ → s.r v F L1 x →
  ∃ L', E'.r (σ.set i (some v)) F L' (u x γ) ∧ Sb L' (L1 ++ L)) := ⟨fun h => h.run⟩
theorem p0 : Pt (eC s' E) 0 s (eC s E) (fun x γ => (x, γ.2)) := ⟨fun {_ _ _ _ v L1 _} ⟨v', σ', La, L2, e1, e2, _, t⟩ h => by
  subst e1 e2
  exact ⟨L1 ++ L2, ⟨v, σ', L1, L2, rfl, rfl, h, t⟩, (Sb.dropL La L2).left L1⟩⟩
theorem p0U : Pt (eU E) 0 s (eC s E) (fun x γ => (x, γ)) := ⟨fun {_ _ L _ v L1 _} ⟨o, σ', e, t⟩ h => by
  subst e
  exact ⟨L1 ++ L, ⟨v, σ', L1, L, rfl, rfl, h, t⟩, Sb.refl _⟩⟩
theorem pU {i : Nat} {u : α → ρ → ρ'} (h : Pt E i s E' u) : Pt (eU E) (i + 1) s (eU E') u := ⟨fun ⟨o, σ', e, t⟩ k => by
  subst e
  obtain ⟨L', h1, h2⟩ := h t k
  exact ⟨L', ⟨o, _, rfl, h1⟩, h2⟩⟩
theorem pS {i : Nat} {u : α → ρ → ρ'} (h : Pt E i s E' u) : Pt (eC s' E) (i + 1) s (eC s' E') (fun x γ => (γ.1, u x γ.2)) := ⟨fun {_ _ _ _ _ L1 _} ⟨v', σ', La, L2, e1, e2, q, t⟩ k => by
  subst e1 e2
  obtain ⟨L', h1, h2⟩ := h t k
  refine ⟨La ++ L', ⟨v', _, La, L', rfl, rfl, q, h1⟩, (h2.left La).trans (Sb.perm ?_)⟩
  rw [← List.append_assoc, ← List.append_assoc]
  exact List.perm_append_comm.append_right L2⟩
/-- an own list is changed -/
structure Up (E : En ρ) (i : Nat) (R : Rp α) (g : ρ → List α) (u : List α → ρ → ρ) : Prop where
  run : ∀ {σ : L2.St} {F : Hp} {L : List (Addr × HO)} {γ : ρ}, E.r σ F L γ →
  ∃ p vs j, σ[i]? = some (some (.ref p)) ∧ L[j]? = some (p, .lst vs) ∧ Paired (R.r F) vs (g γ) ∧ ∀ F' vs' xs', Same F F' → Paired (R.r F') vs' xs' → E.r σ F' (L.set j (p, .lst vs')) (u xs' γ)
instance {E : En ρ} {i : Nat} {R : Rp α} {g : ρ → List α} {u : List α → ρ → ρ} : CoeFun (Up E i R g u) (fun _ => ∀ {σ : L2.St} {F : Hp} {L : List (Addr × HO)} {γ : ρ}, E.r σ F L γ →
  ∃ p vs j, σ[i]? = some (some (.ref p)) ∧ L[j]? = some (p, .lst vs) ∧ Paired (R.r F) vs (g γ) ∧ ∀ F' vs' xs', Same F F' → Paired (R.r F') vs' xs' → E.r σ F' (L.set j (p, .lst vs')) (u xs' γ)) := ⟨fun h => h.run⟩
theorem u0 {R : Rp α} : Up (eC (sO R) E) 0 R (fun γ => γ.1) (fun xs γ => (xs, γ.2)) := ⟨fun ⟨v', σ', La, L2, e1, e2, ⟨p, vs, e3, e4, q⟩, t⟩ => by
  subst e1 e2 e3 e4
  exact ⟨p, vs, 0, rfl, rfl, q, fun F' vs' xs' sF q' => ⟨_, σ', [(p, .lst vs')], L2, rfl, rfl, ⟨p, vs', rfl, rfl, q'⟩, E.m sF t⟩⟩⟩
theorem uU {i : Nat} {R : Rp α} {g : ρ → List α} {u : List α → ρ → ρ} (h : Up E i R g u) : Up (eU E) (i + 1) R g u := ⟨fun ⟨o, σ', e, t⟩ => by
  subst e
  obtain ⟨p, vs, j, h1, h2, h3, h4⟩ := h t
  exact ⟨p, vs, j, h1, h2, h3, fun F' vs' xs' sF q' => ⟨o, σ', rfl, h4 F' vs' xs' sF q'⟩⟩⟩
theorem uS {i : Nat} {R : Rp α} {g : ρ → List α} {u : List α → ρ → ρ} (h : Up E i R g u) : Up (eC s' E) (i + 1) R (fun γ => g γ.2) (fun xs γ => (γ.1, u xs γ.2)) := ⟨fun ⟨v', σ', La, L2, e1, e2, q, t⟩ => by
  subst e1 e2
  obtain ⟨p, vs, j, h1, h2, h3, h4⟩ := h t
  refine ⟨p, vs, La.length + j, h1, by rw [List.getElem?_append_right (by omega), show La.length + j - La.length = j by omega]; exact h2, h3, fun F' vs' xs' sF q' => ⟨v', σ', La, L2.set j (p, .lst vs'), rfl, ?_, s'.m sF q, h4 F' vs' xs' sF q'⟩⟩
  rw [List.set_append_right _ _ (by omega), show La.length + j - La.length = j by omega]⟩
/-- names are forgotten, own lists frozen -/
structure Co (E : En ρ) (E' : En ρ') (c : ρ → ρ') : Prop where
  run : ∀ {σ : L2.St} {F0 H0 F H : Hp} {L Z : List (Addr × HO)} {γ : ρ}, Own F0 H0 F H (L ++ Z) [] → E.r σ F L γ → ∃ F' L', Own F0 H0 F' H (L' ++ Z) [] ∧ Same F F' ∧ E'.r σ F' L' (c γ)
instance {E : En ρ} {E' : En ρ'} {c : ρ → ρ'} : CoeFun (Co E E' c) (fun _ => ∀ {σ : L2.St} {F0 H0 F H : Hp} {L Z : List (Addr × HO)} {γ : ρ}, Own F0 H0 F H (L ++ Z) [] → E.r σ F L γ → ∃ F' L', Own F0 H0 F' H (L' ++ Z) [] ∧ Same F F' ∧ E'.r σ F' L' (c γ)) := ⟨fun h => h.run⟩
theorem cN : Co eN eN (fun γ => γ) := ⟨fun {_ _ _ F _ L _ _} O h => ⟨F, L, O, Same.refl _, h⟩⟩
theorem cId : Co E E (fun γ => γ) := ⟨fun {_ _ _ F _ L _ _} O h => ⟨F, L, O, Same.refl _, h⟩⟩
theorem cU {c : ρ → ρ'} (h : Co E E' c) : Co (eU E) (eU E') c := ⟨fun O ⟨o, σ', e, t⟩ => by
  obtain ⟨F', L', O', sF, t'⟩ := h O t
  exact ⟨F', L', O', sF, o, σ', e, t'⟩⟩
theorem cK {c : ρ → ρ'} (h : Co E E' c) : Co (eC s E) (eC s E') (fun γ => (γ.1, c γ.2)) := ⟨fun {_ _ _ _ _ _ Z _} O ⟨v, σ', L1, L2, e1, e2, q, t⟩ => by
  subst e1 e2
  have O1 := O.perm (L' := L2 ++ (L1 ++ Z)) (by rw [← List.append_assoc]; exact List.perm_append_comm.append_right Z)
  obtain ⟨F', L', O', sF, t'⟩ := h O1 t
  refine ⟨F', L1 ++ L', O'.perm ?_, sF, v, σ', L1, L', rfl, rfl, s.m sF q, t'⟩
  rw [← List.append_assoc]
  exact List.perm_append_comm.append_right Z⟩
theorem cF {c : ρ → ρ'} (h : Co E E' c) : Co (eC s E) (eU E') (fun γ => c γ.2) := ⟨fun {_ _ _ _ _ _ Z _} O ⟨v, σ', L1, L2, e1, e2, q, t⟩ => by
  subst e1 e2
  have O1 := OwnSb (L' := L2 ++ Z) O (by rw [List.append_assoc]; exact Sb.dropL _ _)
  obtain ⟨F', L', O', sF, t'⟩ := h O1 t
  exact ⟨F', L', O', sF, _, σ', rfl, t'⟩⟩
theorem cI {c : ρ → ρ'} {R : Rp α} (h : Co E E' c) : Co (eC (sO R) E) (eC (sF (jL R)) E') (fun γ => (γ.1, c γ.2)) := ⟨fun {_ _ _ F _ _ Z _} O ⟨v, σ', L1, L2, e1, e2, ⟨p, vs, e3, e4, q⟩, t⟩ => by
  subst e1 e2 e3 e4
  have O1 := (show Own _ _ _ _ ((p, HO.lst vs) :: (L2 ++ Z)) [] from O).freeze
  have s1 : Same F (upd F p (.lst vs)) := fun b u e => by rw [upd_ne (ne_of_none e ((O.own (p, .lst vs) List.mem_cons_self)).1)]; exact e
  obtain ⟨F', L', O', sF, t'⟩ := h (O1.chunks trivial) (E.m s1 t)
  exact ⟨F', L', O', s1.trans sF, _, σ', [], L', rfl, rfl, ⟨rfl, p, vs, rfl, sF _ _ upd_same, Paired.mono (fun _ _ q => R.m (s1.trans sF) q) q⟩, t'⟩⟩
end
end Mi

namespace Mi
open PySem PySem.Spec PyProof.Rows L2 Fw
theorem Step.tr {F H F1 H1 F2 H2 : Hp} {L : List (Addr × HO)} (a : Step F H F1 H1 []) (b : Step F1 H1 F2 H2 L) : Step F H F2 H2 L := by
  have := Own.on a b
  rwa [List.append_nil] at this
abbrev ob {α β : Type} (x : Option α) (f : α → Option β) : Option β := x.bind f
theorem ob_some {α β : Type} {x : Option α} {f : α → Option β} {z : β} (e : ob x f = some z) : ∃ y, x = some y ∧ f y = some z := Option.bind_eq_some_iff.mp e
/-! ### expressions -/
section
variable {ρ ρ' α β δ ε : Type} {E : En ρ} {E' : En ρ'} {ta tb tc te : TE} {A : Rp α} {B : Rp β} {D : Rp δ} {fa : ρ → Option α} {fb : ρ → Option β} {fc : ρ → Option δ} {K : PySem.W.Frag}
theorem se_var {i : Nat} {R : Rp α} {g : ρ → α} (hg : Gt E i (sF R) g) : SE (tVar i) E (sF R) (fun γ => some (g γ)) := ⟨fun {_ _ _ _ _ _ _} sF' _ he e k => by
  obtain ⟨v, L1, h1, _, h2, h3⟩ := hg he
  cases e
  exact ⟨v, h1, k v _ _ [] (Step.nil sF') ⟨rfl, h3⟩⟩⟩
theorem se_c {v : V} {R : Rp α} (x : α) (h : ∀ F, R.r F v x) : SE (tC v) E (sF R) (fun _ => some x) := ⟨fun sF' _ _ e k => by
  cases e
  exact k v _ _ [] (Step.nil sF') ⟨rfl, h _⟩⟩
theorem se_int {i : Int} : SE (tC (.int i)) E (sF jI) (fun _ => some i) := se_c i fun _ => rfl
theorem se_bl {i : Bool} : SE (tC (.bl i)) E (sF jB) (fun _ => some i) := se_c i fun _ => rfl
theorem se_str {l : List Nat} (h : okS l := by decide) : SE (tC (vS l)) E (sF jS) (fun _ => some l) := se_c l fun _ => ⟨rfl, h⟩
theorem se_non : SE (tC .non) E (sF jN) (fun _ => some ()) := se_c () fun _ => rfl
theorem se_v {v : V} : SE (tC v) E (sF (jV v)) (fun _ => some ()) := se_c () fun _ => rfl
/-- a fresh list is frozen -/
theorem se_fz {R : Rp α} {fa : ρ → Option (List α)} (h : SE ta E (sO R) fa) : SE ta E (sF (jL R)) fa := ⟨fun {_ _ _ _ _ _ _} s1 hL he e k => h s1 hL he e fun v F' H' L1 s2 ⟨p, vs, e1, e2, q⟩ => by
  subst e1 e2
  have sP : Same F' (upd F' p (.lst vs)) := fun b u e => by rw [upd_ne (ne_of_none e ((s2.own (p, .lst vs) List.mem_cons_self)).1)]; exact e
  exact k _ _ _ [] (s2.freeze.chunks trivial) ⟨rfl, p, vs, rfl, upd_same, Paired.mono (fun _ _ q => R.m sP q) q⟩⟩
/-- another reading of the value -/
theorem se_cv {s : Sl α} {s' : Sl β} {c : α → Option β} (h : SE ta E s fa) (hc : ∀ {v F L x y}, s.r v F L x → c x = some y → s'.r v F L y) : SE ta E s' (fun γ => ob (fa γ) c) := ⟨fun s1 hL he e k => by
  obtain ⟨x, e1, e2⟩ := ob_some e
  exact h s1 hL he e1 fun v F' H' L1 s2 r => k v F' H' L1 s2 (hc r e2)⟩
/-- a value that is there -/
theorem se_some {R : Rp α} {fa : ρ → Option (Option α)} (h : SE ta E (sF (jO R)) fa) : SE ta E (sF R) (fun γ => ob (fa γ) fun x => x) := se_cv h fun {v F L x y} ⟨e, r⟩ e2 => by
  subst e2
  exact ⟨e, r⟩
theorem se_toOp {R : Rp α} (h : SE ta E (sF R) fa) : SE ta E (sF (jO R)) (fun γ => ob (fa γ) fun x => some (some x)) := se_cv h fun {v F L x y} ⟨e, r⟩ e2 => by
  cases e2
  exact ⟨e, r⟩
theorem se_nonOp {R : Rp α} : SE (tC .non) E (sF (jO R)) (fun _ => some none) := se_c none fun _ => rfl
theorem se_toQ {R : Rp α} {fa : ρ → Option (List α)} (h : SE ta E (sF (jL R)) fa) : SE ta E (sF (jQ K R)) fa := ⟨fun s1 hL he e k => h s1 hL he e fun v F' H' L1 s2 ⟨e1, a, vs, e2, r, p⟩ => k v F' H' L1 s2 ⟨e1, a, vs, e2, .inl (.inl r), p⟩⟩
/-- two operands -/
structure S2 (r : R2) (A : Rp α) (B : Rp β) (s : Sl δ) (g : α → β → Option δ) : Prop where
  run : ∀ {F H : Hp} {x y : V} {a : α} {b : β} {c : δ} {Q : VK}, Same F H → A.r F x a → B.r F y b → g a b = some c →
  (∀ z F' H' L, Step F H F' H' L → s.r z F' L c → Q z H') → r x y H Q
instance {r : R2} {A : Rp α} {B : Rp β} {s : Sl δ} {g : α → β → Option δ} : CoeFun (S2 r A B s g) (fun _ => ∀ {F H : Hp} {x y : V} {a : α} {b : β} {c : δ} {Q : VK}, Same F H → A.r F x a → B.r F y b → g a b = some c →
  (∀ z F' H' L, Step F H F' H' L → s.r z F' L c → Q z H') → r x y H Q) := ⟨fun h => h.run⟩
theorem se_op {r : R2} {s : Sl δ} {g : α → β → Option δ} (ha : SE ta E (sF A) fa) (hb : SE tb E (sF B) fb) (hs : S2 r A B s g) : SE (tOp r ta tb) E s (fun γ => ob (fa γ) fun x => ob (fb γ) fun y => g x y) := ⟨fun s0 hL he e k => by
  obtain ⟨x, e1, e⟩ := ob_some e
  obtain ⟨y, e2, e⟩ := ob_some e
  refine ha s0 hL he e1 fun v F1 H1 L1 s1 ⟨z1, r1⟩ => ?_
  subst z1
  refine hb s1.fh (hL.mono s1.hh) (E.m s1.f0 he) e2 fun u F2 H2 L2 s2 ⟨z2, r2⟩ => ?_
  subst z2
  exact hs s2.fh (A.m s2.f0 r1) r2 e fun z F3 H3 L3 s3 r3 => k z F3 H3 L3 (s1.tr (s2.tr s3)) r3⟩
structure S1 (r : V → Hp → VK → Prop) (A : Rp α) (s : Sl δ) (g : α → Option δ) : Prop where
  run : ∀ {F H : Hp} {x : V} {a : α} {c : δ} {Q : VK}, Same F H → A.r F x a → g a = some c →
  (∀ z F' H' L, Step F H F' H' L → s.r z F' L c → Q z H') → r x H Q
instance {r : V → Hp → VK → Prop} {A : Rp α} {s : Sl δ} {g : α → Option δ} : CoeFun (S1 r A s g) (fun _ => ∀ {F H : Hp} {x : V} {a : α} {c : δ} {Q : VK}, Same F H → A.r F x a → g a = some c →
  (∀ z F' H' L, Step F H F' H' L → s.r z F' L c → Q z H') → r x H Q) := ⟨fun h => h.run⟩
theorem se_un {r : V → Hp → VK → Prop} {s : Sl δ} {g : α → Option δ} (ha : SE ta E (sF A) fa) (hs : S1 r A s g) : SE (tUn r ta) E s (fun γ => ob (fa γ) fun x => g x) := ⟨fun s0 hL he e k => by
  obtain ⟨x, e1, e⟩ := ob_some e
  refine ha s0 hL he e1 fun v F1 H1 L1 s1 ⟨z1, r1⟩ => ?_
  subst z1
  exact hs s1.fh r1 e fun z F3 H3 L3 s3 r3 => k z F3 H3 L3 (s1.tr s3) r3⟩
theorem s2_I0 {f : Int → Int → Int} : S2 (rI0 fun i j => .int (f i j)) jI jI (sF jI) (fun x y => some (f x y)) := ⟨fun s0 r1 r2 e k => by
  cases e
  exact ⟨_, _, r1, r2, k _ _ _ [] (Step.nil s0) ⟨rfl, rfl⟩⟩⟩
theorem s2_C0 {f : Int → Int → Bool} : S2 (rI0 fun i j => .bl (f i j)) jI jI (sF jB) (fun x y => some (f x y)) := ⟨fun s0 r1 r2 e k => by
  cases e
  exact ⟨_, _, r1, r2, k _ _ _ [] (Step.nil s0) ⟨rfl, rfl⟩⟩⟩
def pck (P : Prop) [Decidable P] (x : α) : Option α := if P then some x else none
theorem pck_some {P : Prop} [Decidable P] {x y : α} (h : pck P x = some y) : P ∧ x = y := by
  unfold pck at h
  split at h
  · next p => cases h; exact ⟨p, rfl⟩
  · cases h
theorem pck_of {P : Prop} [Decidable P] {x : α} (h : P) : pck P x = some x := if_pos h
theorem s2_I {C : Int → Int → Prop} {P : Int → Int → Prop} [∀ i j, Decidable (P i j)] {f : Int → Int → Int} (h : ∀ i j, P i j → C i j) : S2 (rI C fun i j => .int (f i j)) jI jI (sF jI) (fun x y => pck (P x y) (f x y)) := ⟨fun s0 r1 r2 e k => by
  obtain ⟨p, rfl⟩ := pck_some e
  exact ⟨_, _, r1, r2, h _ _ p, k _ _ _ [] (Step.nil s0) ⟨rfl, rfl⟩⟩⟩
abbrev PMul (i j : Int) : Prop := (-18446744073709551616 < i ∧ i < 18446744073709551616) ∨ (-18446744073709551616 < j ∧ j < 18446744073709551616)
abbrev PDiv (_ j : Int) : Prop := 0 < j ∧ j < 1073741824
abbrev PMod (_ j : Int) : Prop := 0 < j
abbrev PSh (_ j : Int) : Prop := 0 ≤ j
theorem s2_mul : S2 (rI CMul fun i j => .int (i * j)) jI jI (sF jI) (fun x y => pck (PMul x y) (x * y)) := s2_I fun _ _ h => h
theorem s2_div : S2 (rI CDiv fun i j => .int (i / j)) jI jI (sF jI) (fun x y => pck (PDiv x y) (x / y)) := s2_I fun _ _ h => h
theorem s2_mod : S2 (rI (fun _ j => 0 < j) fun i j => .int (i % j)) jI jI (sF jI) (fun x y => pck (PMod x y) (x % y)) := s2_I fun _ _ h => h
theorem s2_shr : S2 (rI (fun _ j => 0 ≤ j) fun i j => .int (i / 2 ^ j.toNat)) jI jI (sF jI) (fun x y => pck (PSh x y) (x / 2 ^ y.toNat)) := s2_I (P := PSh) (f := fun i j => i / 2 ^ j.toNat) fun _ _ h => h
theorem s1_U {f : Int → Int} : S1 (rU fun i => .int (f i)) jI (sF jI) (fun x => some (f x)) := ⟨fun s0 r1 e k => by
  cases e
  exact ⟨_, r1, k _ _ _ [] (Step.nil s0) ⟨rfl, rfl⟩⟩⟩
theorem s2_eqI : S2 rEq jI jI (sF jB) (fun x y => some (decide (x = y))) := ⟨fun {_ H _ _ a b _ Q} s0 r1 r2 e k => by
  cases e
  rw [show _ = V.int a from r1, show _ = V.int b from r2, q_eqI]
  exact k _ _ _ [] (Step.nil s0) ⟨rfl, rfl⟩⟩
theorem s2_neI : S2 rNe jI jI (sF jB) (fun x y => some (!decide (x = y))) := ⟨fun {_ H _ _ a b _ Q} s0 r1 r2 e k => by
  cases e
  rw [show _ = V.int a from r1, show _ = V.int b from r2, q_neI]
  exact k _ _ _ [] (Step.nil s0) ⟨rfl, rfl⟩⟩
theorem s2_eqS : S2 rEq jS jS (sF jB) (fun x y => some (decide (x = y))) := ⟨fun {_ H _ _ a b _ Q} s0 r1 r2 e k => by
  cases e
  rw [show _ = V.str (S a) from r1.1, show _ = V.str (S b) from r2.1, q_eqS, show decide (S a = S b) = decide (a = b) from decide_eq_decide.mpr S_inj]
  exact k _ _ _ [] (Step.nil s0) ⟨rfl, rfl⟩⟩
theorem s2_neS : S2 rNe jS jS (sF jB) (fun x y => some (!decide (x = y))) := ⟨fun {_ H _ _ a b _ Q} s0 r1 r2 e k => by
  cases e
  rw [show _ = V.str (S a) from r1.1, show _ = V.str (S b) from r2.1, q_neS, show decide (S a = S b) = decide (a = b) from decide_eq_decide.mpr S_inj]
  exact k _ _ _ [] (Step.nil s0) ⟨rfl, rfl⟩⟩
theorem s2_eqB : S2 rEq jB jB (sF jB) (fun x y => some (decide (x = y))) := ⟨fun {_ H _ _ a b _ Q} s0 r1 r2 e k => by
  cases e
  rw [show _ = V.bl a from r1, show _ = V.bl b from r2, q_eqB]
  exact k _ _ _ [] (Step.nil s0) ⟨rfl, rfl⟩⟩
theorem s2_neB : S2 rNe jB jB (sF jB) (fun x y => some (!decide (x = y))) := ⟨fun {_ H _ _ a b _ Q} s0 r1 r2 e k => by
  cases e
  rw [show _ = V.bl a from r1, show _ = V.bl b from r2, q_neB]
  exact k _ _ _ [] (Step.nil s0) ⟨rfl, rfl⟩⟩
abbrev sz : Nat := 16777216
theorem sz_le {n : Nat} (h : n ≤ sz) : n ≤ sizeLine := by rw [sizeLine_eq]; exact h
theorem sz_lt {n : Nat} (h : n < sz) : n < sizeLine := by rw [sizeLine_eq]; exact h
theorem s2_addS : S2 Fw.rAddS jS jS (sF jS) (fun x y => pck (x.length + y.length ≤ sz) (x ++ y)) := ⟨fun s0 r1 r2 e k => by
  obtain ⟨p, rfl⟩ := pck_some e
  exact ⟨_, _, r1.1, r2.1, sz_le p, k _ _ _ [] (Step.nil s0) ⟨rfl, rfl, okS_app r1.2 r2.2⟩⟩⟩
theorem s2_mulS : S2 rMulS jS jI (sF jS) (fun x y => pck ((0 ≤ y ∧ y < 1073741824) ∧ x.length * y.toNat ≤ sz) (List.replicate y.toNat x).flatten) := ⟨fun s0 r1 r2 e k => by
  obtain ⟨p, rfl⟩ := pck_some e
  exact ⟨_, _, r1.1, r2, p.1.1, p.1.2, sz_le p.2, k _ _ _ [] (Step.nil s0) ⟨rfl, rfl, okS_flat fun x hx => by rw [(List.mem_replicate.mp hx).2]; exact r1.2⟩⟩⟩
/-- x[i], from either end -/
def pat {τ : Type} (xs : List τ) (i : Int) : Option τ := atI xs i
theorem pat_mem {τ : Type} {xs : List τ} {i : Int} {x : τ} (h : pat xs i = some x) : x ∈ xs := by
  unfold pat atI at h
  cases hj : ixN xs.length i with
  | none => rw [hj] at h; cases h
  | some j => rw [hj] at h; exact List.mem_of_getElem? h
def pixS (x : List Nat) (y : Int) : Option (List Nat) := ob (pck (x.length ≤ sz) ()) fun _ => (pat x y).map fun c => [c]
theorem s2_ixS : S2 rIxSg jS jI (sF jS) (fun x y => pixS x y) := ⟨fun s0 r1 r2 e k => by
  unfold pixS at e
  obtain ⟨_, e1, e⟩ := ob_some e
  obtain ⟨p, _⟩ := pck_some e1
  cases h : pat _ _ with
  | none => rw [h] at e; cases e
  | some c =>
    rw [h] at e
    cases e
    exact ⟨_, _, c, r1.1, r2, sz_le p, h, k _ _ _ [] (Step.nil s0) ⟨rfl, rfl, okS_sub r1.2 fun d hd => by rw [List.mem_singleton.mp hd]; exact pat_mem h⟩⟩⟩
theorem paired_len {R : Rp α} {F : Hp} {vs : List V} {xs : List α} (h : Paired (R.r F) vs xs) : vs.length = xs.length := Paired.len h
theorem pat_paired {R : α → β → Prop} {vs : List α} {xs : List β} {i : Int} {x : β} (h : Paired R vs xs) (e : pat xs i = some x) : ∃ v, atI vs i = some v ∧ R v x := by
  unfold pat atI at e
  unfold atI
  rw [Paired.len h]
  cases hj : ixN xs.length i with
  | none => rw [hj] at e; cases e
  | some j =>
    rw [hj] at e
    exact Paired.at h e
theorem s2_ixL : S2 (rIxL K) (jL A) jI (sF A) (fun x y => pat x y) := ⟨fun s0 ⟨a, vs, r1, r2, p⟩ r3 e k => by
  obtain ⟨v, h1, h2⟩ := pat_paired p e
  exact ⟨a, vs, _, v, r1, r3, .inl (.inl (s0 _ _ r2)), h1, k _ _ _ [] (Step.nil s0) ⟨rfl, h2⟩⟩⟩
theorem s2_ixQ : S2 (rIxL K) (jQ K A) jI (sF A) (fun x y => pat x y) := ⟨fun s0 ⟨a, vs, r1, r2, p⟩ r3 e k => by
  obtain ⟨v, h1, h2⟩ := pat_paired p e
  exact ⟨a, vs, _, v, r1, r3, s0.seq r2, h1, k _ _ _ [] (Step.nil s0) ⟨rfl, h2⟩⟩⟩
/-- a tuple's part -/
structure Tat (T : Tp ρ') (n : Nat) (i : Nat) (R : Rp α) (g : ρ' → α) : Prop where
  run : ∀ {F : Hp} {vs : List V} {x : ρ'}, T.r F vs x → vs.length = n ∧ ∃ v, vs[i]? = some v ∧ R.r F v (g x)
instance {T : Tp ρ'} {n : Nat} {i : Nat} {R : Rp α} {g : ρ' → α} : CoeFun (Tat T n i R g) (fun _ => ∀ {F : Hp} {vs : List V} {x : ρ'}, T.r F vs x → vs.length = n ∧ ∃ v, vs[i]? = some v ∧ R.r F v (g x)) := ⟨fun h => h.run⟩
theorem tz1 : Tat (y1 A) 1 0 A (fun x => x) := ⟨fun ⟨v, e, h⟩ => by subst e; exact ⟨rfl, v, rfl, h⟩⟩
theorem tz {T : Tp ρ'} {n j : Nat} {R : Rp β} {g : ρ' → β} (h : Tat T n j R g) : Tat (yC A T) (n + 1) 0 A (fun x => x.1) := ⟨fun ⟨v, r, e, h1, h2⟩ => by
  subst e
  exact ⟨by rw [List.length_cons, (h h2).1], v, rfl, h1⟩⟩
theorem ts {T : Tp ρ'} {n j : Nat} {R : Rp β} {g : ρ' → β} (h : Tat T n j R g) : Tat (yC A T) (n + 1) (j + 1) R (fun x => g x.2) := ⟨fun ⟨v, r, e, h1, h2⟩ => by
  subst e
  obtain ⟨e1, u, e2, e3⟩ := h h2
  exact ⟨by rw [List.length_cons, e1], u, e2, e3⟩⟩
theorem se_ixT {T : Tp ρ'} {n j : Nat} {i : Int} {R : Rp β} {g : ρ' → β} {fa : ρ → Option ρ'} (ha : SE ta E (sF (jT T)) fa) (h : Tat T n j R g) (hi : ixN n i = some j := by rfl) : SE (tOp (rIxT K) ta (tC (.int i))) E (sF R) (fun γ => ob (fa γ) fun x => some (g x)) := ⟨fun s0 hL he e k => by
  obtain ⟨x, e1, e⟩ := ob_some e
  cases e
  refine ha s0 hL he e1 fun v F1 H1 L1 s1 ⟨z1, a, vs, r1, r2, p⟩ => ?_
  subst z1
  obtain ⟨h1, u, h2, h3⟩ := h p
  refine ⟨a, vs, i, u, r1, rfl, .inl (.inl (s1.fh _ _ r2)), ?_, k _ _ _ [] s1 ⟨rfl, h3⟩⟩
  unfold atI
  rw [h1, hi]
  exact h2⟩
/-! tests and choices -/
theorem se_ifE {t : TT} {s : Sl α} {fq : ρ → Option Bool} {fa fb : ρ → Option α} (hc : ST t E fq) (ha : SE ta E s fa) (hb : SE tb E s fb) : SE (tIf t ta tb) E s (fun γ => ob (fq γ) fun b => if b = true then fa γ else fb γ) := ⟨fun s0 hL he e k => by
  obtain ⟨b, e1, e⟩ := ob_some e
  refine hc s0 hL he e1 fun F1 H1 s1 => ?_
  cases b with
  | true =>
    show if true = true then _ else _
    rw [if_pos rfl]
    rw [if_pos rfl] at e
    exact ha s1.fh (hL.mono s1.hh) (E.m s1.f0 he) e fun z F3 H3 L3 s3 r3 => k z F3 H3 L3 (s1.tr s3) r3
  | false =>
    show if false = true then _ else _
    rw [if_neg Bool.false_ne_true]
    rw [if_neg Bool.false_ne_true] at e
    exact hb s1.fh (hL.mono s1.hh) (E.m s1.f0 he) e fun z F3 H3 L3 s3 r3 => k z F3 H3 L3 (s1.tr s3) r3⟩
theorem se_andV {fa fb : ρ → Option Bool} (ha : SE ta E (sF jB) fa) (hb : SE tb E (sF jB) fb) : SE (tAndV ta tb) E (sF jB) (fun γ => ob (fa γ) fun b => if b = true then fb γ else some false) := ⟨fun s0 hL he e k => by
  obtain ⟨b, e1, e⟩ := ob_some e
  refine ha s0 hL he e1 fun v F1 H1 L1 s1 ⟨z1, r1⟩ => ?_
  subst z1
  refine ⟨b, r1, ?_⟩
  cases b with
  | true =>
    rw [if_pos rfl] at e ⊢
    exact hb s1.fh (hL.mono s1.hh) (E.m s1.f0 he) e fun z F3 H3 L3 s3 r3 => k z F3 H3 L3 (s1.tr s3) r3
  | false =>
    rw [if_neg Bool.false_ne_true] at e ⊢
    cases e
    exact k _ _ _ [] s1 ⟨rfl, rfl⟩⟩
theorem se_orV {fa fb : ρ → Option Bool} (ha : SE ta E (sF jB) fa) (hb : SE tb E (sF jB) fb) : SE (tOrV ta tb) E (sF jB) (fun γ => ob (fa γ) fun b => if b = true then some true else fb γ) := ⟨fun s0 hL he e k => by
  obtain ⟨b, e1, e⟩ := ob_some e
  refine ha s0 hL he e1 fun v F1 H1 L1 s1 ⟨z1, r1⟩ => ?_
  subst z1
  refine ⟨b, r1, ?_⟩
  cases b with
  | true =>
    rw [if_pos rfl] at e ⊢
    cases e
    exact k _ _ _ [] s1 ⟨rfl, rfl⟩
  | false =>
    rw [if_neg Bool.false_ne_true] at e ⊢
    exact hb s1.fh (hL.mono s1.hh) (E.m s1.f0 he) e fun z F3 H3 L3 s3 r3 => k z F3 H3 L3 (s1.tr s3) r3⟩
theorem se_notV {fa : ρ → Option Bool} (ha : SE ta E (sF jB) fa) : SE (tNotV ta) E (sF jB) (fun γ => ob (fa γ) fun b => some (!b)) := ⟨fun s0 hL he e k => by
  obtain ⟨b, e1, e⟩ := ob_some e
  cases e
  refine ha s0 hL he e1 fun v F1 H1 L1 s1 ⟨z1, r1⟩ => ?_
  subst z1
  exact ⟨b, r1, k _ _ _ [] s1 ⟨rfl, rfl⟩⟩⟩
theorem se_chain {r r' : R2} {g : α → β → Option Bool} {g' : β → δ → Option Bool} (ha : SE ta E (sF A) fa) (hb : SE tb E (sF B) fb) (hc : SE tc E (sF D) fc) (h1 : S2 r A B (sF jB) g) (h2 : S2 r' B D (sF jB) g') :
    SE (tChain r r' ta tb tc) E (sF jB) (fun γ => ob (fa γ) fun x => ob (fb γ) fun y => ob (g x y) fun b => if b = true then ob (fc γ) fun z => g' y z else some false) := ⟨fun s0 hL he e k => by
  obtain ⟨x, e1, e⟩ := ob_some e
  obtain ⟨y, e2, e⟩ := ob_some e
  obtain ⟨b, e3, e⟩ := ob_some e
  refine ha s0 hL he e1 fun v F1 H1 L1 s1 ⟨z1, r1⟩ => ?_
  subst z1
  refine hb s1.fh (hL.mono s1.hh) (E.m s1.f0 he) e2 fun u F2 H2 L2 s2 ⟨z2, r2⟩ => ?_
  subst z2
  have s12 := s1.tr s2
  refine h1 s2.fh (A.m s2.f0 r1) r2 e3 fun z F3 H3 L3 s3 ⟨z3, r3⟩ => ?_
  subst z3
  have s13 := s12.tr s3
  refine ⟨b, r3, ?_⟩
  cases b with
  | true =>
    rw [if_pos rfl] at e ⊢
    obtain ⟨z', e4, e⟩ := ob_some e
    refine hc s3.fh (hL.mono s13.hh) (E.m s13.f0 he) e4 fun u4 F4 H4 L4 s4 ⟨z4, r4⟩ => ?_
    subst z4
    exact h2 s4.fh (B.m s4.f0 (B.m s3.f0 r2)) r4 e fun z F5 H5 L5 s5 r5 => k z F5 H5 L5 (s13.tr (s4.tr s5)) r5
  | false =>
    rw [if_neg Bool.false_ne_true] at e ⊢
    cases e
    exact k _ _ _ [] s13 ⟨rfl, rfl⟩⟩
theorem st_test {fa : ρ → Option Bool} (ha : SE ta E (sF jB) fa) : ST (tTest ta) E fa := ⟨fun s0 hL he e k => ha s0 hL he e fun v F1 H1 L1 s1 ⟨z1, r1⟩ => by
  subst z1
  exact ⟨_, r1, k _ _ s1⟩⟩
theorem st_B {fa : ρ → Option Bool} (ha : SE ta E (sF jB) fa) : ST (tB ta) E fa := st_test ha
variable {t u : TT} {ft fu : ρ → Option Bool}
theorem st_and (ha : ST t E ft) (hb : ST u E fu) : ST (tAnd t u) E (fun γ => ob (ft γ) fun b => if b = true then fu γ else some false) := ⟨fun s0 hL he e k => by
  obtain ⟨b, e1, e⟩ := ob_some e
  refine ha s0 hL he e1 fun F1 H1 s1 => ?_
  cases b with
  | true =>
    show if true = true then _ else _
    rw [if_pos rfl]
    rw [if_pos rfl] at e
    exact hb s1.fh (hL.mono s1.hh) (E.m s1.f0 he) e fun F3 H3 s3 => k F3 H3 (s1.tr s3)
  | false =>
    show if false = true then _ else _
    rw [if_neg Bool.false_ne_true] at e ⊢
    cases e
    exact k _ _ s1⟩
theorem st_or (ha : ST t E ft) (hb : ST u E fu) : ST (tOr t u) E (fun γ => ob (ft γ) fun b => if b = true then some true else fu γ) := ⟨fun s0 hL he e k => by
  obtain ⟨b, e1, e⟩ := ob_some e
  refine ha s0 hL he e1 fun F1 H1 s1 => ?_
  cases b with
  | true =>
    show if true = true then _ else _
    rw [if_pos rfl] at e ⊢
    cases e
    exact k _ _ s1
  | false =>
    show if false = true then _ else _
    rw [if_neg Bool.false_ne_true] at e ⊢
    exact hb s1.fh (hL.mono s1.hh) (E.m s1.f0 he) e fun F3 H3 s3 => k F3 H3 (s1.tr s3)⟩
theorem st_not (ha : ST t E ft) : ST (tNot t) E (fun γ => ob (ft γ) fun b => some (!b)) := ⟨fun s0 hL he e k => by
  obtain ⟨b, e1, e⟩ := ob_some e
  cases e
  exact ha s0 hL he e1 fun F1 H1 s1 => k _ _ s1⟩
theorem st_yes : ST tYes E (fun _ => some true) := ⟨fun s0 _ _ e k => by
  cases e
  exact k _ _ (Step.nil s0)⟩
/-! argument lists -/
theorem sa_nil : SA tNil E aN (fun _ => some ()) := ⟨fun s0 _ _ e k => k _ _ _ (Step.nil s0) rfl⟩
theorem sa_cons {tr : TA} {T : Ar β} {fr : ρ → Option β} (ha : SE ta E (sF A) fa) (hr : SA tr E T fr) : SA (tCons ta tr) E (aC A T) (fun γ => ob (fa γ) fun x => ob (fr γ) fun y => some (x, y)) := ⟨fun s0 hL he e k => by
  obtain ⟨x, e1, e⟩ := ob_some e
  obtain ⟨y, e2, e⟩ := ob_some e
  cases e
  refine ha s0 hL he e1 fun v F1 H1 L1 s1 ⟨z1, r1⟩ => ?_
  subst z1
  exact hr s1.fh (hL.mono s1.hh) (E.m s1.f0 he) e2 fun vs F2 H2 s2 r2 => k _ _ _ (s1.tr s2) ⟨v, vs, rfl, A.m s2.f0 r1, r2⟩⟩
/-- items of one kind -/
def aL (R : Rp α) : Ar (List α) := ⟨fun F vs xs => Paired (R.r F) vs xs, fun s h => Paired.mono (fun _ _ q => R.m s q) h⟩
theorem sl_nil : SA tNil E (aL A) (fun _ => some []) := ⟨fun s0 _ _ e k => by
  cases e
  exact k _ _ _ (Step.nil s0) .nil⟩
theorem sl_cons {tr : TA} {fr : ρ → Option (List α)} (ha : SE ta E (sF A) fa) (hr : SA tr E (aL A) fr) : SA (tCons ta tr) E (aL A) (fun γ => ob (fa γ) fun x => ob (fr γ) fun y => some (x :: y)) := ⟨fun s0 hL he e k => by
  obtain ⟨x, e1, e⟩ := ob_some e
  obtain ⟨y, e2, e⟩ := ob_some e
  cases e
  refine ha s0 hL he e1 fun v F1 H1 L1 s1 ⟨z1, r1⟩ => ?_
  subst z1
  exact hr s1.fh (hL.mono s1.hh) (E.m s1.f0 he) e2 fun vs F2 H2 s2 r2 => k _ _ _ (s1.tr s2) (.cons (A.m s2.f0 r1) r2)⟩
/-- a tuple's parts -/
def aT (T : Tp α) : Ar α := ⟨T.r, T.m⟩
theorem st1 (ha : SE ta E (sF A) fa) : SA (tCons ta tNil) E (aT (y1 A)) fa := ⟨fun s0 hL he e k => by
  refine ha s0 hL he e fun v F1 H1 L1 s1 ⟨z1, r1⟩ => ?_
  subst z1
  exact k _ _ _ s1 ⟨v, rfl, r1⟩⟩
theorem stC {tr : TA} {T : Tp β} {fr : ρ → Option β} (ha : SE ta E (sF A) fa) (hr : SA tr E (aT T) fr) : SA (tCons ta tr) E (aT (yC A T)) (fun γ => ob (fa γ) fun x => ob (fr γ) fun y => some (x, y)) := ⟨fun s0 hL he e k => by
  obtain ⟨x, e1, e⟩ := ob_some e
  obtain ⟨y, e2, e⟩ := ob_some e
  cases e
  refine ha s0 hL he e1 fun v F1 H1 L1 s1 ⟨z1, r1⟩ => ?_
  subst z1
  exact hr s1.fh (hL.mono s1.hh) (E.m s1.f0 he) e2 fun vs F2 H2 s2 r2 => k _ _ _ (s1.tr s2) ⟨v, vs, rfl, A.m s2.f0 r1, r2⟩⟩
theorem Tp.lenOf {T : Tp ρ'} {n j : Nat} {R : Rp β} {g : ρ' → β} (h : Tat T n j R g) {F : Hp} {vs : List V} {x : ρ'} (r : T.r F vs x) : vs.length = n := (h r).1
theorem se_tup {tA : TA} {T : Tp α} {f : ρ → Option α} {n j : Nat} {R : Rp β} {g : α → β} (h : SA tA E (aT T) f) (hn : Tat T n j R g) (hz : n ≤ sz := by decide) : SE (tTup tA) E (sF (jT T)) f := ⟨fun s0 hL he e k => by
  refine h s0 hL he e fun vs F1 H1 s1 r1 => ?_
  refine ⟨sz_le (by rw [show vs.length = n from (hn r1).1]; exact hz), fun p np => ?_⟩
  have s2 := (Step.nil s1.fh).ice np (.tup vs)
  exact k _ _ _ [] (s1.tr (s2.chunks trivial)) ⟨rfl, p, vs, rfl, upd_same, T.m s2.f0 r1⟩⟩
theorem newL {F H : Hp} {R : Rp α} {vs : List V} {xs : List α} {Q : VK} (s0 : Same F H) (h : Paired (R.r F) vs xs) (k : ∀ z F' H' L, Step F H F' H' L → (sO R).r z F' L xs → Q z H') (p : Addr) (np : H p = none) : Q (.ref p) (upd H p (.lst vs)) :=
  k _ _ _ _ ((Step.nil s0).alloc np (.lst vs)) ⟨p, vs, rfl, rfl, h⟩
theorem se_lst {tA : TA} {f : ρ → Option (List α)} (h : SA tA E (aL A) f) : SE (tLst tA) E (sO A) (fun γ => ob (f γ) fun xs => pck (xs.length ≤ sz) xs) := ⟨fun s0 hL he e k => by
  obtain ⟨xs, e1, e⟩ := ob_some e
  obtain ⟨p, rfl⟩ := pck_some e
  refine h s0 hL he e1 fun vs F1 H1 s1 r1 => ?_
  exact ⟨sz_le (by rw [Paired.len r1]; exact p), fun p np => newL s1.fh r1 (fun z F' H' L s2 r => k z F' H' L (s1.tr s2) r) p np⟩⟩
end
end Mi

namespace Mi
open PySem PySem.Spec PyProof.Rows L2 Fw
section
variable {ρ ρ' ρ'' α β δ ε : Type} {E : En ρ} {E' : En ρ'} {ta tb tc te : TE} {tA : TA} {A : Rp α} {B : Rp β} {D : Rp δ} {fa : ρ → Option α} {fb : ρ → Option β} {fc : ρ → Option δ} {K : PySem.W.Frag}
/-! slices -/
structure SP (t : TO) (E : En ρ) (f : ρ → Option (Option Int)) : Prop where
  run : ∀ {σ : L2.St} {F H : Hp} {L : List (Addr × HO)} {γ : ρ} {x : Option Int} {Q : Option Int → Hp → Prop}, Same F H → Held H L → E.r σ F L γ → f γ = some x →
  (∀ F' H', Step F H F' H' [] → Q x H') → t σ H Q
instance {t : TO} {E : En ρ} {f : ρ → Option (Option Int)} : CoeFun (SP t E f) (fun _ => ∀ {σ : L2.St} {F H : Hp} {L : List (Addr × HO)} {γ : ρ} {x : Option Int} {Q : Option Int → Hp → Prop}, Same F H → Held H L → E.r σ F L γ → f γ = some x →
  (∀ F' H', Step F H F' H' [] → Q x H') → t σ H Q) := ⟨fun h => h.run⟩
theorem sp_no : SP tNoPart E (fun _ => some none) := ⟨fun s0 _ _ e k => by
  cases e
  exact k _ _ (Step.nil s0)⟩
theorem sp_so {fa : ρ → Option Int} (ha : SE ta E (sF jI) fa) : SP (tPart ta) E (fun γ => ob (fa γ) fun x => some (some x)) := ⟨fun s0 hL he e k => by
  obtain ⟨x, e1, e⟩ := ob_some e
  cases e
  refine ha s0 hL he e1 fun v F1 H1 L1 s1 ⟨z1, r1⟩ => ?_
  subst z1
  exact ⟨x, r1, k _ _ s1⟩⟩
/-- xs[lo:hi] -/
def pcut {τ : Type} (xs : List τ) (lo hi : Option Int) : List τ := (xs.drop (HT.sIx xs.length 0 lo)).take (HT.sIx xs.length xs.length hi - HT.sIx xs.length 0 lo)
structure SS3 (r : V → Option Int → Option Int → Hp → VK → Prop) (A : Rp α) (s : Sl β) (g : α → Option Int → Option Int → Option β) : Prop where
  run : ∀ {F H : Hp} {x : V} {a : α} {lo hi : Option Int} {c : β} {Q : VK}, Same F H → A.r F x a → g a lo hi = some c →
  (∀ z F' H' L, Step F H F' H' L → s.r z F' L c → Q z H') → r x lo hi H Q
instance {r : V → Option Int → Option Int → Hp → VK → Prop} {A : Rp α} {s : Sl β} {g : α → Option Int → Option Int → Option β} : CoeFun (SS3 r A s g) (fun _ => ∀ {F H : Hp} {x : V} {a : α} {lo hi : Option Int} {c : β} {Q : VK}, Same F H → A.r F x a → g a lo hi = some c →
  (∀ z F' H' L, Step F H F' H' L → s.r z F' L c → Q z H') → r x lo hi H Q) := ⟨fun h => h.run⟩
theorem se_sl {r : V → Option Int → Option Int → Hp → VK → Prop} {tl th : TO} {fl fh : ρ → Option (Option Int)} {s : Sl β} {g : α → Option Int → Option Int → Option β} (ha : SE ta E (sF A) fa) (hl : SP tl E fl) (hh : SP th E fh) (hs : SS3 r A s g) :
    SE (tSl r ta tl th) E s (fun γ => ob (fa γ) fun x => ob (fl γ) fun lo => ob (fh γ) fun hi => g x lo hi) := ⟨fun s0 hL he e k => by
  obtain ⟨x, e1, e⟩ := ob_some e
  obtain ⟨lo, e2, e⟩ := ob_some e
  obtain ⟨hi, e3, e⟩ := ob_some e
  refine ha s0 hL he e1 fun v F1 H1 L1 s1 ⟨z1, r1⟩ => ?_
  subst z1
  refine hl s1.fh (hL.mono s1.hh) (E.m s1.f0 he) e2 fun F2 H2 s2 => ?_
  have s12 := s1.tr s2
  refine hh s2.fh (hL.mono s12.hh) (E.m s12.f0 he) e3 fun F3 H3 s3 => ?_
  exact hs s3.fh (A.m s3.f0 (A.m s2.f0 r1)) e fun z F5 H5 L5 s5 r5 => k z F5 H5 L5 (s12.tr (s3.tr s5)) r5⟩
theorem s3_S : SS3 rSlSg jS (sF jS) (fun x lo hi => pck (x.length ≤ sz) (pcut x lo hi)) := ⟨fun s0 r1 e k => by
  obtain ⟨p, rfl⟩ := pck_some e
  exact ⟨_, r1.1, sz_le p, k _ _ _ [] (Step.nil s0) ⟨rfl, rfl, okS_sub r1.2 fun c hc => List.mem_of_mem_drop (List.mem_of_mem_take hc)⟩⟩⟩
theorem pcut_paired {R : α → β → Prop} {vs : List α} {xs : List β} {lo hi : Option Int} (h : Paired R vs xs) : Paired R (pcut vs lo hi) (pcut xs lo hi) := by
  unfold pcut
  rw [Paired.len h]
  exact Paired.tk _ (Paired.dp _ h)
theorem s3_L : SS3 (rSlL K) (jL A) (sO A) (fun x lo hi => some (pcut x lo hi)) := ⟨fun s0 ⟨a, vs, r1, r2, p⟩ e k => by
  cases e
  exact ⟨a, vs, r1, .inl (.inl (s0 _ _ r2)), newL s0 (pcut_paired p) k⟩⟩
/-! calls of built-in things -/
structure SC (r : List V → Hp → VK → Prop) (A : Ar α) (s : Sl δ) (g : α → Option δ) : Prop where
  run : ∀ {F H : Hp} {vs : List V} {a : α} {c : δ} {Q : VK}, Same F H → A.r F vs a → g a = some c →
  (∀ z F' H' L, Step F H F' H' L → s.r z F' L c → Q z H') → r vs H Q
theorem se_cb {r : List V → Hp → VK → Prop} {Ar : Ar α} {s : Sl δ} {g : α → Option δ} {f : ρ → Option α} (h : SA tA E Ar f) (hs : SC r Ar s g) : SE (tCB r tA) E s (fun γ => ob (f γ) g) := ⟨fun s0 hL he e k => by
  obtain ⟨x, e1, e⟩ := ob_some e
  refine h s0 hL he e1 fun vs F1 H1 s1 r1 => ?_
  exact hs.run s1.fh r1 e fun z F5 H5 L5 s5 r5 => k z F5 H5 L5 (s1.tr s5) r5⟩
theorem sc_val {r : List V → Hp → VK → Prop} {Ar : Ar α} {g : α → δ} (h : ∀ {F H : Hp} {vs : List V} {a : α} {Q : VK}, Same F H → Ar.r F vs a → (∀ z, D.r F z (g a) → Q z H) → r vs H Q) : SC r Ar (sF D) (fun x => some (g x)) := ⟨fun s0 r1 e k => by
  cases e
  exact h s0 r1 fun z rz => k z _ _ [] (Step.nil s0) ⟨rfl, rz⟩⟩
theorem sc_lenS : SC rLenS (aC jS aN) (sF jI) (fun x => pck (x.1.length ≤ sz) (x.1.length : Int)) := ⟨fun {_ _ _ a _ _} s0 ⟨v, r, e1, r1, e2⟩ e k => by
  obtain ⟨p, rfl⟩ := pck_some e
  subst e1 e2
  refine ⟨a.1, ?_, sz_le p, k _ _ _ [] (Step.nil s0) ⟨rfl, rfl⟩⟩
  rw [show v = vS a.1 from r1.1]⟩
theorem sc_lenL : SC (rLenQ K) (aC (jL A) aN) (sF jI) (fun x => some (x.1.length : Int)) := sc_val fun s0 ⟨v, r, e1, ⟨a, vs, e3, h, p⟩, e2⟩ k => by
  subst e1 e2 e3
  exact ⟨a, vs, rfl, .inl (.inl (.inl (s0 _ _ h))), by rw [Paired.len p]; exact k _ rfl⟩
theorem sc_lenQ : SC (rLenQ K) (aC (jQ K A) aN) (sF jI) (fun x => some (x.1.length : Int)) := sc_val fun s0 ⟨v, r, e1, ⟨a, vs, e3, h, p⟩, e2⟩ k => by
  subst e1 e2 e3
  exact ⟨a, vs, rfl, .inl (s0.seq h), by rw [Paired.len p]; exact k _ rfl⟩
theorem sc_lenT {T : Tp α} {n j : Nat} {R : Rp β} {g : α → β} (ht : Tat T n j R g) : SC (rLenQ K) (aC (jT T) aN) (sF jI) (fun _ => some (n : Int)) := sc_val fun s0 ⟨v, r, e1, ⟨a, vs, e3, h, p⟩, e2⟩ k => by
  subst e1 e2 e3
  exact ⟨a, vs, rfl, .inr (.inl (.inl (s0 _ _ h))), by rw [(ht p).1]; exact k _ rfl⟩
theorem sc_abs : SC rAbs (aC jI aN) (sF jI) (fun x => some (x.1.natAbs : Int)) := sc_val fun {_ _ _ a _} s0 ⟨v, r, e1, r1, e2⟩ k => by
  subst e1 e2
  exact ⟨a.1, by rw [show v = .int a.1 from r1], k _ rfl⟩
theorem sc_int : SC rInt (aC jI aN) (sF jI) (fun x => some x.1) := sc_val fun {_ _ _ a _} s0 ⟨v, r, e1, r1, e2⟩ k => by
  subst e1 e2
  exact ⟨a.1, by rw [show v = .int a.1 from r1], k _ rfl⟩
theorem sc_intB : SC rIntB (aC jB aN) (sF jI) (fun x => some (if x.1 = true then 1 else 0)) := sc_val fun {_ _ _ a _} s0 ⟨v, r, e1, r1, e2⟩ k => by
  subst e1 e2
  exact ⟨a.1, by rw [show v = .bl a.1 from r1], k _ rfl⟩
theorem sc_min2 : SC rMin2' (aC jI (aC jI aN)) (sF jI) (fun x => some (min x.1 x.2.1)) := sc_val fun {_ _ _ a _} s0 ⟨v, r, e1, r1, v2, r', e2, r2, e3⟩ k => by
  subst e1 e2 e3
  exact ⟨a.1, a.2.1, by rw [show v = .int a.1 from r1, show v2 = .int a.2.1 from r2], k _ rfl⟩
theorem sc_max2 : SC rMax2' (aC jI (aC jI aN)) (sF jI) (fun x => some (max x.1 x.2.1)) := sc_val fun {_ _ _ a _} s0 ⟨v, r, e1, r1, v2, r', e2, r2, e3⟩ k => by
  subst e1 e2 e3
  exact ⟨a.1, a.2.1, by rw [show v = .int a.1 from r1, show v2 = .int a.2.1 from r2], k _ rfl⟩
theorem sc_min3 : SC rMin3' (aC jI (aC jI (aC jI aN))) (sF jI) (fun x => some (min (min x.1 x.2.1) x.2.2.1)) := sc_val fun {_ _ _ a _} s0 ⟨v, r, e1, r1, v2, r', e2, r2, v3, r'', e3, r3, e4⟩ k => by
  subst e1 e2 e3 e4
  exact ⟨a.1, a.2.1, a.2.2.1, by rw [show v = .int a.1 from r1, show v2 = .int a.2.1 from r2, show v3 = .int a.2.2.1 from r3], k _ rfl⟩
theorem ints_of {F : Hp} {vs : List V} {ns : List Int} (h : Paired (jI.r F) vs ns) : vs = ns.map V.int := Paired.ofMap (fun _ _ r => r) h
theorem strs_of {F : Hp} {vs : List V} {ns : List (List Nat)} (h : Paired (jS.r F) vs ns) : vs = ns.map vS := Paired.ofMap (fun _ _ r => r.1) h
theorem bls_of {F : Hp} {vs : List V} {ns : List Bool} (h : Paired (jB.r F) vs ns) : vs = ns.map V.bl := Paired.ofMap (fun _ _ r => r) h
theorem sc_sum : SC (rSum K) (aC (jL jI) aN) (sF jI) (fun x => some x.1.sum) := sc_val fun s0 ⟨v, r, e1, ⟨a, vs, e3, h, p⟩, e2⟩ k => by
  subst e1 e2 e3
  exact ⟨a, _, rfl, .inl (.inl (by rw [← ints_of p]; exact s0 _ _ h)), k _ rfl⟩
theorem sc_all : SC (rAll K) (aC (jL jB) aN) (sF jB) (fun x => some (x.1.all id)) := sc_val fun s0 ⟨v, r, e1, ⟨a, vs, e3, h, p⟩, e2⟩ k => by
  subst e1 e2 e3
  exact ⟨a, _, rfl, .inl (.inl (by rw [← bls_of p]; exact s0 _ _ h)), k _ rfl⟩
theorem sc_any : SC (rAny K) (aC (jL jB) aN) (sF jB) (fun x => some (x.1.any id)) := sc_val fun s0 ⟨v, r, e1, ⟨a, vs, e3, h, p⟩, e2⟩ k => by
  subst e1 e2 e3
  exact ⟨a, _, rfl, .inl (.inl (by rw [← bls_of p]; exact s0 _ _ h)), k _ rfl⟩
/-- least, greatest -/
def pmin : List Int → Option Int
  | [] => none
  | x :: xs => some (xs.foldl min x)
def pmax : List Int → Option Int
  | [] => none
  | x :: xs => some (xs.foldl max x)
theorem foldl_min : ∀ (xs : List Int) (x : Int), xs.foldl min x ≤ x ∧ (∀ y ∈ xs, xs.foldl min x ≤ y) ∧ (xs.foldl min x = x ∨ xs.foldl min x ∈ xs)
  | [], x => ⟨Int.le_refl _, fun _ h => (nomatch h), .inl rfl⟩
  | y :: ys, x => by
    obtain ⟨h1, h2, h3⟩ := foldl_min ys (min x y)
    rw [List.foldl_cons]
    refine ⟨by omega, fun z hz => ?_, ?_⟩
    · rcases List.mem_cons.mp hz with e | hz
      · subst e; omega
      · exact h2 z hz
    · rcases h3 with h3 | h3
      · rw [h3]
        by_cases hxy : x ≤ y
        · exact .inl (by omega)
        · exact .inr (by rw [show min x y = y by omega]; exact List.mem_cons_self)
      · exact .inr (List.mem_cons_of_mem _ h3)
theorem foldl_max : ∀ (xs : List Int) (x : Int), x ≤ xs.foldl max x ∧ (∀ y ∈ xs, y ≤ xs.foldl max x) ∧ (xs.foldl max x = x ∨ xs.foldl max x ∈ xs)
  | [], x => ⟨Int.le_refl _, fun _ h => (nomatch h), .inl rfl⟩
  | y :: ys, x => by
    obtain ⟨h1, h2, h3⟩ := foldl_max ys (max x y)
    rw [List.foldl_cons]
    refine ⟨by omega, fun z hz => ?_, ?_⟩
    · rcases List.mem_cons.mp hz with e | hz
      · subst e; omega
      · exact h2 z hz
    · rcases h3 with h3 | h3
      · rw [h3]
        by_cases hxy : y ≤ x
        · exact .inl (by omega)
        · exact .inr (by rw [show max x y = y by omega]; exact List.mem_cons_self)
      · exact .inr (List.mem_cons_of_mem _ h3)
theorem pmin_spec {ns : List Int} {m : Int} (h : pmin ns = some m) : m ∈ ns ∧ ∀ y ∈ ns, m ≤ y := by
  cases ns with
  | nil => cases h
  | cons x xs =>
    cases h
    obtain ⟨h1, h2, h3⟩ := foldl_min xs x
    refine ⟨?_, fun y hy => ?_⟩
    · rcases h3 with h3 | h3
      · rw [h3]; exact List.mem_cons_self
      · exact List.mem_cons_of_mem _ h3
    · rcases List.mem_cons.mp hy with e | hy
      · subst e; exact h1
      · exact h2 y hy
theorem pmax_spec {ns : List Int} {m : Int} (h : pmax ns = some m) : m ∈ ns ∧ ∀ y ∈ ns, y ≤ m := by
  cases ns with
  | nil => cases h
  | cons x xs =>
    cases h
    obtain ⟨h1, h2, h3⟩ := foldl_max xs x
    refine ⟨?_, fun y hy => ?_⟩
    · rcases h3 with h3 | h3
      · rw [h3]; exact List.mem_cons_self
      · exact List.mem_cons_of_mem _ h3
    · rcases List.mem_cons.mp hy with e | hy
      · subst e; exact h1
      · exact h2 y hy
theorem pmin_is {ns : List Int} {m : Int} (h1 : m ∈ ns) (h2 : ∀ y ∈ ns, m ≤ y) : pmin ns = some m := by
  cases h : pmin ns with
  | none => cases ns with
    | nil => cases h1
    | cons x xs => cases h
  | some k =>
    obtain ⟨k1, k2⟩ := pmin_spec h
    have a := k2 m h1
    have b := h2 k k1
    rw [show k = m by omega]
theorem pmax_is {ns : List Int} {m : Int} (h1 : m ∈ ns) (h2 : ∀ y ∈ ns, y ≤ m) : pmax ns = some m := by
  cases h : pmax ns with
  | none => cases ns with
    | nil => cases h1
    | cons x xs => cases h
  | some k =>
    obtain ⟨k1, k2⟩ := pmax_spec h
    have a := k2 m h1
    have b := h2 k k1
    rw [show k = m by omega]
theorem sc_min : SC (rMin K) (aC (jL jI) aN) (sF jI) (fun x => pmin x.1) := ⟨fun {_ _ _ a c _} s0 ⟨v, r, e1, ⟨p, vs, e3, h, q⟩, e2⟩ e k => by
  subst e1 e2 e3
  obtain ⟨h1, h2⟩ := pmin_spec e
  refine ⟨p, _, rfl, .inl (.inl (by rw [← ints_of q]; exact s0 _ _ h)), List.length_pos_of_mem h1, fun m m1 m2 => ?_⟩
  have a := h2 m m1
  have b := m2 c h1
  rw [show m = c by omega]
  exact k _ _ _ [] (Step.nil s0) ⟨rfl, rfl⟩⟩
theorem sc_max : SC (rMax K) (aC (jL jI) aN) (sF jI) (fun x => pmax x.1) := ⟨fun {_ _ _ a c _} s0 ⟨v, r, e1, ⟨p, vs, e3, h, q⟩, e2⟩ e k => by
  subst e1 e2 e3
  obtain ⟨h1, h2⟩ := pmax_spec e
  refine ⟨p, _, rfl, .inl (.inl (by rw [← ints_of q]; exact s0 _ _ h)), List.length_pos_of_mem h1, fun m m1 m2 => ?_⟩
  have a := h2 m m1
  have b := m2 c h1
  rw [show m = c by omega]
  exact k _ _ _ [] (Step.nil s0) ⟨rfl, rfl⟩⟩
theorem sc_listL : SC (rListQ K) (aC (jL A) aN) (sO A) (fun x => pck (x.1.length ≤ sz) x.1) := ⟨fun s0 ⟨v, r, e1, ⟨a, vs, e3, h, q⟩, e2⟩ e k => by
  obtain ⟨p, rfl⟩ := pck_some e
  subst e1 e2 e3
  have hz := sz_le (by rw [← Paired.len q] at p; exact p)
  exact ⟨a, vs, rfl, .inl (.inl (.inl (s0 _ _ h))), hz, hz, fun p np => newL s0 q k p np⟩⟩
theorem sc_listS : SC rListS (aC jS aN) (sO jS) (fun x => pck (x.1.length ≤ sz) (x.1.map fun c => [c])) := ⟨fun {H _ _ a _ _} s0 ⟨v, r, e1, r1, e2⟩ e k => by
  obtain ⟨p, rfl⟩ := pck_some e
  subst e1 e2
  refine ⟨a.1, by rw [show v = vS a.1 from r1.1], sz_le p, sz_le (by rw [List.length_map]; exact p), fun p np => newL s0 ?_ k p np⟩
  have h2 := r1.2
  clear np p r1
  generalize a.1 = l at h2
  induction l with
  | nil => exact .nil
  | cons c l ih => exact .cons ⟨rfl, fun d hd => by rw [List.mem_singleton.mp hd]; exact h2 c List.mem_cons_self⟩ (ih fun d hd => h2 d (List.mem_cons_of_mem _ hd))⟩
/-- the sorted list of numbers -/
def psort (ns : List Int) : List Int := ns.mergeSort (fun a b => decide (a ≤ b))
theorem psort_perm (ns : List Int) : (psort ns).Perm ns := List.mergeSort_perm _ _
theorem psort_sorted (ns : List Int) : (psort ns).Pairwise (· ≤ ·) := by
  have := List.pairwise_mergeSort (le := fun a b : Int => decide (a ≤ b)) (fun a b c h1 h2 => by simp at *; omega) (fun a b => by simp; omega) ns
  exact this.imp fun h => by simpa using h
theorem sorted_up : ∀ {ms ns : List Int}, ms.Perm ns → ms.Pairwise (· ≤ ·) → ns.Pairwise (· ≤ ·) → ms = ns := fun {ms ns} p h1 h2 =>
  List.Perm.eq_of_pairwise (le := (· ≤ ·)) (fun a b _ _ h1 h2 => by omega) h1 h2 p
theorem sc_sortI : SC (rSortedI K) (aC (jL jI) aN) (sO jI) (fun x => some (psort x.1)) := ⟨fun s0 ⟨v, r, e1, ⟨a, vs, e3, h, q⟩, e2⟩ e k => by
  cases e
  subst e1 e2 e3
  refine ⟨a, _, rfl, .inl (.inl (by rw [← ints_of q]; exact s0 _ _ h)), fun ms p pm od np => ?_⟩
  have em := sorted_up (pm.trans (psort_perm _).symm) od (psort_sorted _)
  subst em
  exact newL s0 (Paired.mk (A := jI.r _) (fun _ => rfl) _) k p np⟩
/-! isinstance -/
theorem sc_isi {r : Rp α} {n : String} {b : Bool} (h : ∀ {F H : Hp} {v : V} {x : α} {Q : VK}, Same F H → r.r F v x → Q (.bl b) H → L2.rIsi K [v, .ty n] H Q) : SC (L2.rIsi K) (aC r (aC (jV (.ty n)) aN)) (sF jB) (fun _ => some b) := sc_val fun s0 ⟨v, r1, e1, r2, v2, r', e2, r3, e3⟩ k => by
  subst e1 e2 e3
  rw [show v2 = .ty n from r3]
  exact h s0 r2 (k _ rfl)
theorem is_II : SC (L2.rIsi K) (aC jI (aC (jV (.ty "int")) aN)) (sF jB) (fun _ => some true) := sc_isi fun s0 r q => by rw [show _ = V.int _ from r]; exact w_isiII q
theorem is_IB : SC (L2.rIsi K) (aC jI (aC (jV (.ty "bool")) aN)) (sF jB) (fun _ => some false) := sc_isi fun s0 r q => by rw [show _ = V.int _ from r]; exact w_isiIB q
theorem is_SS : SC (L2.rIsi K) (aC jS (aC (jV (.ty "str")) aN)) (sF jB) (fun _ => some true) := sc_isi fun s0 r q => by rw [show _ = V.str _ from r.1]; exact w_isiSS q
theorem is_LL : SC (L2.rIsi K) (aC (jL A) (aC (jV (.ty "list")) aN)) (sF jB) (fun _ => some true) := sc_isi fun s0 ⟨a, vs, e, h, _⟩ q => by rw [e]; exact w_isiLL q (s0 _ _ h)
theorem is_TT {T : Tp α} : SC (L2.rIsi K) (aC (jT T) (aC (jV (.ty "tuple")) aN)) (sF jB) (fun _ => some true) := sc_isi fun s0 ⟨a, vs, e, h, _⟩ q => by rw [e]; exact w_isiTT q (s0 _ _ h)
theorem is_NT {n : String} (h : kitB "NoneType" n = some false := by decide +kernel) : SC (L2.rIsi K) (aC jN (aC (jV (.ty n)) aN)) (sF jB) (fun _ => some false) := sc_isi fun s0 r q => by
  rw [show _ = V.non from r]
  exact w_isi (b := true) "NoneType" n false (.base .non) h q
/-! lists -/
theorem s2_cat : S2 rCat (jL A) (jL A) (sO A) (fun x y => pck (x.length + y.length ≤ sz) (x ++ y)) := ⟨fun s0 ⟨a, vs, e1, h1, q1⟩ ⟨b, us, e2, h2, q2⟩ e k => by
  obtain ⟨p, rfl⟩ := pck_some e
  subst e1 e2
  exact ⟨a, b, vs, us, rfl, rfl, s0 _ _ h1, s0 _ _ h2, sz_le (by rw [Paired.len q1, Paired.len q2]; exact p), fun p np => newL s0 (Paired.app q1 q2) k p np⟩⟩
theorem Paired.rep {R : α → β → Prop} {vs : List α} {xs : List β} (h : Paired R vs xs) : ∀ n : Nat, Paired R (List.replicate n vs).flatten (List.replicate n xs).flatten
  | 0 => .nil
  | n + 1 => by
    rw [List.replicate_succ, List.replicate_succ, List.flatten_cons, List.flatten_cons]
    exact Paired.app h (Paired.rep h n)
/-- xs * k -/
def prep {τ : Type} (xs : List τ) (k : Int) : List τ := (List.replicate k.toNat xs).flatten
theorem s2_rep : S2 rRep (jL A) jI (sO A) (fun x k => pck ((-9223372036854775808 ≤ k ∧ k < 9223372036854775808) ∧ x.length * k.toNat ≤ sz) (prep x k)) := ⟨fun s0 ⟨a, vs, e1, h1, q1⟩ r2 e k => by
  obtain ⟨p, rfl⟩ := pck_some e
  subst e1
  exact ⟨a, _, vs, rfl, r2, s0 _ _ h1, p.1.1, p.1.2, sz_le (by rw [Paired.len q1]; exact p.2), fun p np => newL s0 (Paired.rep q1 _) k p np⟩⟩
/-! texts -/
def pinS (x y : List Nat) : Option Bool := match x with | [c] => some (decide (c ∈ y)) | _ => none
def pninS (x y : List Nat) : Option Bool := match x with | [c] => some (!decide (c ∈ y)) | _ => none
theorem s2_inS : S2 rInSg jS jS (sF jB) (fun x y => pinS x y) := ⟨fun {_ _ _ _ x y _ _} s0 r1 r2 e k => by
  match x, r1, e with
  | [c], r1, e =>
    cases e
    exact ⟨c, y, r1.1, r2.1, k _ _ _ [] (Step.nil s0) ⟨rfl, rfl⟩⟩⟩
theorem s2_notInS : S2 rNotInSg jS jS (sF jB) (fun x y => pninS x y) := ⟨fun {_ _ _ _ x y _ _} s0 r1 r2 e k => by
  match x, r1, e with
  | [c], r1, e =>
    cases e
    exact ⟨c, y, r1.1, r2.1, k _ _ _ [] (Step.nil s0) ⟨rfl, rfl⟩⟩⟩
theorem eqV_str (x y : List Nat) : eqV (vS y) (vS x) = decide (x = y) := by
  show decide (S y = S x) = _
  rw [show decide (S y = S x) = decide (x = y) from decide_eq_decide.mpr ⟨fun h => (S_inj.mp h).symm, fun h => by rw [h]⟩]
theorem inV_str (x : List Nat) : ∀ ys : List (List Nat), inV (vS x) (ys.map vS) = decide (x ∈ ys)
  | [] => rfl
  | y :: ys => by
    have := inV_str x ys
    show (eqV (vS y) (vS x) || inV (vS x) (ys.map vS)) = _
    rw [this, eqV_str]
    by_cases h : x = y
    · rw [decide_eq_true h, decide_eq_true (show x ∈ y :: ys from by rw [h]; exact List.mem_cons_self)]; rfl
    · rw [decide_eq_false h, Bool.false_or, decide_eq_decide, List.mem_cons]
      exact ⟨.inr, fun q => q.elim (fun z => absurd z h) id⟩
theorem flat_strs (ys : List (List Nat)) : (ys.map vS).all flatV = true := by
  induction ys with
  | nil => rfl
  | cons y ys ih => exact ih
theorem s2_inLS : S2 (rIn K false) jS (jL jS) (sF jB) (fun x ys => some (decide (x ∈ ys))) := ⟨fun s0 r1 ⟨a, vs, e1, h1, q1⟩ e k => by
  cases e
  have ev := strs_of q1
  subst e1 ev
  rw [show _ = vS _ from r1.1]
  exact ⟨a, _, rfl, .inl (.inl (.inl (s0 _ _ h1))), rfl, flat_strs _, by rw [if_neg Bool.false_ne_true, inV_str]; exact k _ _ _ [] (Step.nil s0) ⟨rfl, rfl⟩⟩⟩
theorem s2_notInLS : S2 (rIn K true) jS (jL jS) (sF jB) (fun x ys => some (!decide (x ∈ ys))) := ⟨fun s0 r1 ⟨a, vs, e1, h1, q1⟩ e k => by
  cases e
  have ev := strs_of q1
  subst e1 ev
  rw [show _ = vS _ from r1.1]
  exact ⟨a, _, rfl, .inl (.inl (.inl (s0 _ _ h1))), rfl, flat_strs _, by rw [if_pos rfl, inV_str]; exact k _ _ _ [] (Step.nil s0) ⟨rfl, rfl⟩⟩⟩
/-- a text's method with one argument -/
abbrev SM (r : V → List V → Hp → VK → Prop) (A : Rp α) (B : Rp β) (s : Sl δ) (g : α → β → Option δ) : Prop := S2 (fun x y => r x [y]) A B s g
theorem se_m1 {r : V → List V → Hp → VK → Prop} {s : Sl δ} {fa : ρ → Option (List Nat)} {g : List Nat → β → Option δ} (ha : SE ta E (sF jS) fa) (hb : SE tb E (sF B) fb) (hs : SM r jS B s g) : SE (tM1 r ta tb) E s (fun γ => ob (fa γ) fun x => ob (fb γ) fun y => g x y) := ⟨fun s0 hL he e k => by
  obtain ⟨x, e1, e⟩ := ob_some e
  obtain ⟨y, e2, e⟩ := ob_some e
  refine ha s0 hL he e1 fun v F1 H1 L1 s1 ⟨z1, r1⟩ => ?_
  subst z1
  refine ⟨⟨S x, r1.1⟩, ?_⟩
  refine hb s1.fh (hL.mono s1.hh) (E.m s1.f0 he) e2 fun u F2 H2 L2 s2 ⟨z2, r2⟩ => ?_
  subst z2
  exact hs s2.fh (jS.m s2.f0 r1) r2 e fun z F3 H3 L3 s3 r3 => k z F3 H3 L3 (s1.tr (s2.tr s3)) r3⟩
theorem oks_of {F : Hp} : ∀ {vs : List V} {ys : List (List Nat)}, Paired (jS.r F) vs ys → ∀ y ∈ ys, okS y
  | _, _, .nil, _, h => nomatch h
  | _, _, .cons r t, y, h => by
    rcases List.mem_cons.mp h with e | h
    · rw [e]; exact r.2
    · exact oks_of t y h
theorem okS_join {x : List Nat} (hx : okS x) : ∀ {ys : List (List Nat)}, (∀ y ∈ ys, okS y) → okS (joinN x ys)
  | [], _ => okS_nil
  | [y], h => h y List.mem_cons_self
  | y :: z :: r, h => by
    rw [joinN_cons]
    exact okS_app (h y List.mem_cons_self) (okS_app hx (okS_join hx fun w hw => h w (List.mem_cons_of_mem _ hw)))
theorem sm_join : SM (rJoin K) jS (jL jS) (sF jS) (fun x ys => pck ((ys.map List.length).sum + ys.length * x.length ≤ sz) (joinN x ys)) := ⟨fun s0 r1 ⟨a, vs, e1, h1, q1⟩ e k => by
  obtain ⟨p, rfl⟩ := pck_some e
  have ev := strs_of q1
  subst e1 ev
  exact ⟨_, a, _, r1.1, rfl, .inl (.inl (.inl (s0 _ _ h1))), p, k _ _ _ [] (Step.nil s0) ⟨rfl, rfl, okS_join r1.2 (oks_of q1)⟩⟩⟩
def pidx (x y : List Nat) : Option Int := match y with | [c] => pck (c ∈ x) (x.idxOf c : Int) | _ => none
theorem sm_idx : SM rIdxS jS jS (sF jI) (fun x y => pidx x y) := ⟨fun {_ _ _ _ x y _ _} s0 r1 r2 e k => by
  match y, r2, e with
  | [c], r2, e =>
    obtain ⟨p, rfl⟩ := pck_some e
    exact ⟨x, c, r1.1, by rw [show _ = vS [c] from r2.1], p, k _ _ _ [] (Step.nil s0) ⟨rfl, rfl⟩⟩⟩
theorem sm_starts : SM rStarts jS jS (sF jB) (fun x y => some (y.isPrefixOf x)) := ⟨fun {_ _ _ _ x y _ _} s0 r1 r2 e k => by
  cases e
  exact ⟨x, y, r1.1, by rw [show _ = vS y from r2.1], k _ _ _ [] (Step.nil s0) ⟨rfl, rfl⟩⟩⟩
end
end Mi

namespace Mi
open PySem PySem.Spec PyProof.Rows L2 Fw
section
variable {ρ ρ' ρ'' α β δ ε κ : Type} {E : En ρ} {E' : En ρ'} {ta tb tc te : TE} {tA : TA} {A : Rp α} {B : Rp β} {D : Rp δ} {fa : ρ → Option α} {fb : ρ → Option β} {fc : ρ → Option δ} {K : PySem.W.Frag}
theorem Step.at {F H H3 : Hp} (e : H3 = H) (s : Same F H) : Step F H F H3 [] := by
  subst e
  exact Step.nil s
/-! ### what a loop walks -/
structure ItOk (J : It) (F' : Hp) (R : Rp α) (xs : List α) : Prop where
  one : ∀ {i : Nat} {F2 H2 : Hp} {x : α}, Same F' F2 → Same F2 H2 → xs[i]? = some x → J.go i H2 ∧ ∀ v H3, J.yld i H2 v H3 → ∃ F3, Step F2 H2 F3 H3 [] ∧ R.r F3 v x
  stop : ∀ {F2 H2 : Hp}, Same F' F2 → Same F2 H2 → J.stop xs.length H2
structure SI (wi : TI) (E : En ρ) (R : Rp α) (f : ρ → Option (List α)) : Prop where
  run : ∀ {σ : L2.St} {F H : Hp} {L : List (Addr × HO)} {γ : ρ} {xs : List α} {Q : It → Hp → Prop}, Same F H → Held H L → E.r σ F L γ → f γ = some xs → (∀ J F' H', Step F H F' H' [] → ItOk J F' R xs → Q J H') → wi σ H Q
def prange (n : Int) : List Int := (List.range n.toNat).map fun i : Nat => (i : Int)
def prange2 (a b : Int) : List Int := (List.range (b - a).toNat).map fun i : Nat => a + (i : Int)
theorem itr_ok {lo : Int} {n : Nat} {F : Hp} : ItOk (Itr lo n) F jI ((List.range n).map fun i : Nat => lo + (i : Int)) where
  one {i _ _ x} _ s2 e := by
    rw [List.getElem?_map] at e
    by_cases h : i < n
    · rw [List.getElem?_range h] at e
      cases e
      exact ⟨h, fun v H3 hy => ⟨_, Step.at hy.1 s2, hy.2⟩⟩
    · rw [List.getElem?_eq_none (by rw [List.length_range]; omega)] at e
      cases e
  stop _ _ := by
    show n ≤ _
    rw [List.length_map, List.length_range]
    exact Nat.le_refl _
theorem si_r1 {f : ρ → Option (Int × Unit)} (h : SA tA E (aC jI aN) f) : SI (iRng1 tA) E jI (fun γ => ob (f γ) fun x => pck (-4611686018427387904 ≤ x.1 ∧ x.1 < 4611686018427387904) (prange x.1)) where
  run s0 hL he e k := by
    obtain ⟨x, e1, e⟩ := ob_some e
    obtain ⟨p, rfl⟩ := pck_some e
    refine h s0 hL he e1 fun vs F1 H1 s1 ⟨v, r, z1, r1, z2⟩ => ?_
    subst z1 z2
    refine ⟨x.1, by rw [show v = .int x.1 from r1], p.1, p.2, k _ _ _ s1 ?_⟩
    have := itr_ok (lo := 0) (n := x.1.toNat) (F := F1)
    simp only [Int.zero_add] at this
    exact this
theorem si_r2 {f : ρ → Option (Int × Int × Unit)} (h : SA tA E (aC jI (aC jI aN)) f) : SI (iRng2 tA) E jI (fun γ => ob (f γ) fun x => pck (-4611686018427387904 ≤ x.1 ∧ x.1 < 4611686018427387904 ∧ -4611686018427387904 ≤ x.2.1 ∧ x.2.1 < 4611686018427387904) (prange2 x.1 x.2.1)) where
  run s0 hL he e k := by
    obtain ⟨x, e1, e⟩ := ob_some e
    obtain ⟨p, rfl⟩ := pck_some e
    refine h s0 hL he e1 fun vs F1 H1 s1 ⟨v, r, z1, r1, v2, r', z2, r2, z3⟩ => ?_
    subst z1 z2 z3
    exact ⟨x.1, x.2.1, by rw [show v = .int x.1 from r1, show v2 = .int x.2.1 from r2], p, k _ _ _ s1 itr_ok⟩
def prangeC (a c : Int) (n : Nat) : List Int := (List.range n).map fun i : Nat => a + (i : Int) * c
theorem itc_ok {lo c : Int} {n : Nat} {F : Hp} : ItOk (Itc lo c n) F jI (prangeC lo c n) where
  one {i _ _ x} _ s2 e := by
    unfold prangeC at e
    rw [List.getElem?_map] at e
    by_cases h : i < n
    · rw [List.getElem?_range h] at e
      cases e
      exact ⟨h, fun v H3 hy => ⟨_, Step.at hy.1 s2, hy.2⟩⟩
    · rw [List.getElem?_eq_none (by rw [List.length_range]; omega)] at e
      cases e
  stop _ _ := by
    show n ≤ _
    unfold prangeC
    rw [List.length_map, List.length_range]
    exact Nat.le_refl _
/-- range(a, b, -1) -/
theorem si_rm {f : ρ → Option (Int × Int × Int × Unit)} (h : SA tA E (aC jI (aC jI (aC jI aN))) f) : SI (iRng3 tA) E jI (fun γ => ob (f γ) fun x => pck (x.2.2.1 = -1 ∧ -4611686018427387904 ≤ x.1 ∧ x.1 < 4611686018427387904 ∧ -4611686018427387904 ≤ x.2.1 ∧ x.2.1 < 4611686018427387904) (prangeC x.1 (-1) (x.1 - x.2.1).toNat)) where
  run s0 hL he e k := by
    obtain ⟨x, e1, e⟩ := ob_some e
    obtain ⟨p, rfl⟩ := pck_some e
    refine h s0 hL he e1 fun vs F1 H1 s1 ⟨v, r, z1, r1, v2, r', z2, r2, v3, r'', z3, r3, z4⟩ => ?_
    subst z1 z2 z3 z4
    refine ⟨x.1, x.2.1, -1, _, by rw [show v = .int x.1 from r1, show v2 = .int x.2.1 from r2, show v3 = .int x.2.2.1 from r3, p.1], RgC.neg p.2.1 p.2.2.1 p.2.2.2.1 p.2.2.2.2, k _ _ _ s1 itc_ok⟩
/-- range(0, n, c) -/
theorem si_rc {f : ρ → Option (Int × Int × Int × Unit)} (h : SA tA E (aC jI (aC jI (aC jI aN))) f) : SI (iRng3 tA) E jI (fun γ => ob (f γ) fun x => pck (x.1 = 0 ∧ 0 ≤ x.2.1 ∧ x.2.1 < 2305843009213693952 ∧ 0 < x.2.2.1 ∧ x.2.2.1 < 1073741824) (prangeC 0 x.2.2.1 ((x.2.1.toNat + x.2.2.1.toNat - 1) / x.2.2.1.toNat))) where
  run s0 hL he e k := by
    obtain ⟨x, e1, e⟩ := ob_some e
    obtain ⟨p, rfl⟩ := pck_some e
    refine h s0 hL he e1 fun vs F1 H1 s1 ⟨v, r, z1, r1, v2, r', z2, r2, v3, r'', z3, r3, z4⟩ => ?_
    subst z1 z2 z3 z4
    have g := rgc_pos (n := x.2.1.toNat) (c := x.2.2.1.toNat) (by omega) (by omega)
    rw [Int.toNat_of_nonneg p.2.1, Int.toNat_of_nonneg (by omega : 0 ≤ x.2.2.1)] at g
    exact ⟨0, x.2.1, x.2.2.1, _, by rw [show v = .int x.1 from r1, show v2 = .int x.2.1 from r2, show v3 = .int x.2.2.1 from r3, p.1], g, k _ _ _ s1 itc_ok⟩
theorem itl_ok {a : Addr} {vs : List V} {xs : List α} {F : Hp} (h : SqL K F a vs) (p : Paired (A.r F) vs xs) : ItOk (Itl K a) F A xs where
  one s1 s2 e := by
    have hs := s2.seq (s1.seq h)
    obtain ⟨v, h1, h2⟩ := Paired.at p e
    exact ⟨⟨vs, v, hs, h1⟩, fun u H3 hy => ⟨_, Step.at hy.1 s2, by
      have e2 := (hy.2 vs hs).symm.trans h1
      cases e2
      exact A.m s1 h2⟩⟩
  stop s1 s2 := ⟨vs, s2.seq (s1.seq h), by rw [Paired.len p]; exact Nat.le_refl _⟩
theorem si_list {fa : ρ → Option (List α)} (ha : SE ta E (sF (jL A)) fa) : SI (iList K ta) E A fa where
  run s0 hL he e k := by
    refine ha s0 hL he e fun v F1 H1 L1 s1 ⟨z1, a, vs, r1, r2, p⟩ => ?_
    subst z1
    exact ⟨a, r1, ⟨vs, s1.fh.seq (.inl (.inl r2))⟩, k _ _ _ s1 (itl_ok (.inl (.inl r2)) p)⟩
theorem si_listQ {fa : ρ → Option (List α)} (ha : SE ta E (sF (jQ K A)) fa) : SI (iList K ta) E A fa where
  run s0 hL he e k := by
    refine ha s0 hL he e fun v F1 H1 L1 s1 ⟨z1, a, vs, r1, r2, p⟩ => ?_
    subst z1
    exact ⟨a, r1, ⟨vs, s1.fh.seq r2⟩, k _ _ _ s1 (itl_ok r2 p)⟩
/-- a tuple of things of one kind, walked -/
structure Tls (T : Tp ρ') (R : Rp α) (g : ρ' → List α) : Prop where
  run : ∀ {F : Hp} {vs : List V} {x : ρ'}, T.r F vs x → Paired (R.r F) vs (g x)
instance {T : Tp ρ'} {R : Rp α} {g : ρ' → List α} : CoeFun (Tls T R g) (fun _ => ∀ {F : Hp} {vs : List V} {x : ρ'}, T.r F vs x → Paired (R.r F) vs (g x)) := ⟨fun h => h.run⟩
theorem tl1 : Tls (y1 A) A (fun x => [x]) := ⟨fun ⟨v, e, h⟩ => by
  subst e
  exact .cons h .nil⟩
theorem tlC {T : Tp ρ'} {g : ρ' → List α} (h : Tls T A g) : Tls (yC A T) A (fun x => x.1 :: g x.2) := ⟨fun ⟨v, r, e, h1, h2⟩ => by
  subst e
  exact .cons h1 (h h2)⟩
theorem si_tup {T : Tp ρ'} {g : ρ' → List α} {fa : ρ → Option ρ'} (ha : SE ta E (sF (jT T)) fa) (hg : Tls T A g) : SI (iTup K ta) E A (fun γ => ob (fa γ) fun x => some (g x)) where
  run s0 hL he e k := by
    obtain ⟨x, e1, e⟩ := ob_some e
    cases e
    refine ha s0 hL he e1 fun v F1 H1 L1 s1 ⟨z1, a, vs, r1, r2, p⟩ => ?_
    subst z1
    have h : SqT K F1 a vs := .inl (.inl r2)
    have q := hg p
    refine ⟨a, r1, ⟨vs, Same.sqt s1.fh h⟩, k _ _ _ s1 ⟨fun s1 s2 e => ?_, fun s1 s2 => ⟨vs, Same.sqt s2 (Same.sqt s1 h), by rw [Paired.len q]; exact Nat.le_refl _⟩⟩⟩
    have hs := Same.sqt s2 (Same.sqt s1 h)
    obtain ⟨v, h1, h2⟩ := Paired.at q e
    exact ⟨⟨vs, v, hs, h1⟩, fun u H3 hy => ⟨_, Step.at hy.1 s2, by
      have e2 := (hy.2 vs hs).symm.trans h1
      cases e2
      exact A.m s1 h2⟩⟩
theorem its_ok {l : List Nat} {F : Hp} (hl : okS l) : ItOk (Its (S l)) F jS (l.map fun c => [c]) where
  one {i _ _ x} _ s2 e := by
    rw [List.getElem?_map] at e
    have hsz : (S l).cps.size = l.length := by simp [S]
    cases h : l[i]? with
    | none => rw [h] at e; cases e
    | some c =>
      rw [h] at e
      cases e
      refine ⟨by show i < (S l).cps.size; rw [hsz]; exact (List.getElem?_eq_some_iff.mp h).1, fun v H3 hy => ?_⟩
      obtain ⟨e1, c', e2, e3⟩ := hy
      refine ⟨_, Step.at e1 s2, ?_⟩
      have e4 : l[i]? = some c' := by simpa [S] using e2
      rw [h] at e4
      cases e4
      exact ⟨e3, fun d hd => by rw [List.mem_singleton.mp hd]; exact hl c (List.mem_of_getElem? h)⟩
  stop _ _ := by
    show (S l).cps.size ≤ _
    rw [List.length_map]
    simp [S]
theorem si_str {fa : ρ → Option (List Nat)} (ha : SE ta E (sF jS) fa) : SI (iStr ta) E jS (fun γ => ob (fa γ) fun x => some (x.map fun c => [c])) where
  run s0 hL he e k := by
    obtain ⟨x, e1, e⟩ := ob_some e
    cases e
    refine ha s0 hL he e1 fun v F1 H1 L1 s1 ⟨z1, r1⟩ => ?_
    subst z1
    exact ⟨S x, r1.1, k _ _ _ s1 (its_ok r1.2)⟩
theorem si_rev {fa : ρ → Option (List α × Unit)} (h : SA tA E (aC (jL A) aN) fa) : SI (iRev K tA) E A (fun γ => ob (fa γ) fun x => some x.1.reverse) where
  run s0 hL he e k := by
    obtain ⟨x, e1, e⟩ := ob_some e
    cases e
    refine h s0 hL he e1 fun vs F1 H1 s1 ⟨v, r, z1, ⟨a, us, r1, r2, p⟩, z2⟩ => ?_
    subst z1 z2 r1
    have hq : SqL K F1 a us := .inl (.inl r2)
    have pr := Paired.rev p
    refine ⟨a, us, rfl, s1.fh.seq hq, k _ _ _ s1 ⟨fun {i F2 H2 x} s1 s2 e => ?_, fun s1 s2 => by show us.length ≤ _; rw [List.length_reverse, Paired.len p]; exact Nat.le_refl _⟩⟩
    have hs := s2.seq (s1.seq hq)
    obtain ⟨v, h1, h2⟩ := Paired.at pr e
    have hlt : i < us.length := by
      have := (List.getElem?_eq_some_iff.mp h1).1
      rwa [List.length_reverse] at this
    rw [List.getElem?_reverse hlt] at h1
    exact ⟨⟨hlt, us, v, hs, h1⟩, fun u H3 hy => ⟨_, Step.at hy.1 s2, by
      have e2 := (hy.2 us hs).symm.trans h1
      cases e2
      exact A.m s1 h2⟩⟩
/-- numbered -/
def penum {τ : Type} (xs : List τ) : List (Int × τ) := (List.range xs.length).zip xs |>.map fun p => ((p.1 : Int), p.2)
theorem penum_get {τ : Type} {xs : List τ} {i : Nat} {q : Int × τ} (h : (penum xs)[i]? = some q) : q.1 = (i : Int) ∧ xs[i]? = some q.2 := by
  unfold penum at h
  rw [List.getElem?_map] at h
  cases hz : ((List.range xs.length).zip xs)[i]? with
  | none => rw [hz] at h; cases h
  | some p =>
    rw [hz] at h
    cases h
    obtain ⟨h1, h2⟩ := List.getElem?_zip_eq_some.mp hz
    have h3 := (List.getElem?_eq_some_iff.mp h2).1
    rw [List.getElem?_range h3] at h1
    cases h1
    exact ⟨rfl, h2⟩
theorem penum_len {τ : Type} (xs : List τ) : (penum xs).length = xs.length := by
  unfold penum
  rw [List.length_map, List.length_zip, List.length_range, Nat.min_self]
theorem yieldT {F2 H2 : Hp} {T : Tp α} {t : Addr} {vs : List V} {x : α} (s2 : Same F2 H2) (nt : H2 t = none) (h : T.r F2 vs x) : ∃ F3, Step F2 H2 F3 (upd H2 t (.tup vs)) [] ∧ (jT T).r F3 (.ref t) x := by
  have s3 := (Step.nil s2).ice nt (.tup vs)
  exact ⟨_, s3.chunks trivial, t, vs, rfl, upd_same, T.m s3.f0 h⟩
theorem si_enum {fa : ρ → Option (List α × Unit)} (h : SA tA E (aC (jL A) aN) fa) : SI (iEnum K tA) E (jT (yC jI (y1 A))) (fun γ => ob (fa γ) fun x => some (penum x.1)) where
  run s0 hL he e k := by
    obtain ⟨x, e1, e⟩ := ob_some e
    cases e
    refine h s0 hL he e1 fun vs F1 H1 s1 ⟨v, r, z1, ⟨a, us, r1, r2, p⟩, z2⟩ => ?_
    subst z1 z2 r1
    have hq : SqL K F1 a us := .inl (.inl r2)
    refine ⟨a, us, rfl, s1.fh.seq hq, k _ _ _ s1 ⟨fun {i F2 H2 x} s1 s2 e => ?_, fun s1 s2 => ⟨us, s2.seq (s1.seq hq), by rw [penum_len, Paired.len p]; exact Nat.le_refl _⟩⟩⟩
    have hs := s2.seq (s1.seq hq)
    obtain ⟨g1, g2⟩ := penum_get e
    obtain ⟨v, h1, h2⟩ := Paired.at p g2
    refine ⟨⟨us, v, hs, h1⟩, fun u H3 hy => ?_⟩
    obtain ⟨t, v', rfl, nt, rfl, hv⟩ := hy
    have e2 := (hv us hs).symm.trans h1
    cases e2
    exact yieldT s2 nt ⟨_, _, rfl, by show V.int _ = V.int _; rw [g1], _, rfl, A.m s1 h2⟩
theorem si_zip {fa : ρ → Option (List α × List β × Unit)} (h : SA tA E (aC (jL A) (aC (jL B) aN)) fa) : SI (iZip K tA) E (jT (yC A (y1 B))) (fun γ => ob (fa γ) fun x => some (x.1.zip x.2.1)) where
  run s0 hL he e k := by
    obtain ⟨x, e1, e⟩ := ob_some e
    cases e
    refine h s0 hL he e1 fun vs F1 H1 s1 ⟨v, r, z1, ⟨a, us, r1, r2, p⟩, v', r', z2, ⟨b, ws, r3, r4, q⟩, z3⟩ => ?_
    subst z1 z2 z3 r1 r3
    have hq : SqL K F1 a us := .inl (.inl r2)
    have hq2 : SqL K F1 b ws := .inl (.inl r4)
    refine ⟨a, b, us, ws, rfl, s1.fh.seq hq, s1.fh.seq hq2, k _ _ _ s1 ⟨fun {i F2 H2 x} s1 s2 e => ?_, fun s1 s2 => ⟨us, ws, s2.seq (s1.seq hq), s2.seq (s1.seq hq2), by rw [Paired.len p, Paired.len q, List.length_zip]; omega⟩⟩⟩
    have hs := s2.seq (s1.seq hq)
    have hs2 := s2.seq (s1.seq hq2)
    obtain ⟨g1, g2⟩ := List.getElem?_zip_eq_some.mp e
    obtain ⟨v, h1, h2⟩ := Paired.at p g1
    obtain ⟨w, h3, h4⟩ := Paired.at q g2
    refine ⟨⟨us, ws, v, w, hs, hs2, h1, h3⟩, fun u H3 hy => ?_⟩
    obtain ⟨t, v', w', rfl, nt, rfl, hv, hw⟩ := hy
    have e2 := (hv us hs).symm.trans h1
    cases e2
    have e3 := (hw ws hs2).symm.trans h3
    cases e3
    exact yieldT s2 nt ⟨_, _, rfl, A.m s1 h2, _, rfl, B.m s1 h4⟩
/-! ### targets -/
/-- is: the names that the target sets -/
structure SG (g : TG) (is : List Nat) (E : En ρ) (R : Rp α) (E' : En ρ') (u : α → ρ → ρ') : Prop where
  run : ∀ {σ : L2.St} {F H : Hp} {L : List (Addr × HO)} {γ : ρ} {v : V} {x : α} {Q : L2.St → Hp → Prop}, Same F H → E.r σ F L γ → R.r F v x →
  (∀ σ' L', Sb L' L → E'.r σ' F L' (u x γ) → (∀ ws : List Nat, (∀ i ∈ is, i ∈ ws) → wipe σ' ws = wipe σ ws) → Q σ' H) → g v σ H Q
instance {g : TG} {is : List Nat} {E : En ρ} {R : Rp α} {E' : En ρ'} {u : α → ρ → ρ'} : CoeFun (SG g is E R E' u) (fun _ => ∀ {σ : L2.St} {F H : Hp} {L : List (Addr × HO)} {γ : ρ} {v : V} {x : α} {Q : L2.St → Hp → Prop}, Same F H → E.r σ F L γ → R.r F v x →
  (∀ σ' L', Sb L' L → E'.r σ' F L' (u x γ) → (∀ ws : List Nat, (∀ i ∈ is, i ∈ ws) → wipe σ' ws = wipe σ ws) → Q σ' H) → g v σ H Q) := ⟨fun h => h.run⟩
theorem wipe_comm (σ : L2.St) (i : Nat) (o : Option V) : ∀ ws : List Nat, i ∈ ws → wipe (σ.set i o) ws = wipe σ ws
  | [], h => nomatch h
  | w :: ws, h => by
    show (wipe (σ.set i o) ws).set w none = (wipe σ ws).set w none
    by_cases hw : i ∈ ws
    · rw [wipe_comm σ i o ws hw]
    · have e : i = w := by
        rcases List.mem_cons.mp h with e | e
        · exact e
        · exact absurd e hw
      subst e
      have : ∀ ws : List Nat, i ∉ ws → wipe (σ.set i o) ws = (wipe σ ws).set i o := by
        intro ws
        induction ws with
        | nil => intro _; rfl
        | cons v vs ih =>
          intro hn
          show (wipe (σ.set i o) vs).set v none = ((wipe σ vs).set v none).set i o
          rw [ih (fun z => hn (List.mem_cons_of_mem _ z)), List.set_comm]
          exact fun z => hn (by rw [z]; exact List.mem_cons_self)
      rw [this ws hw, List.set_set]
theorem sg_name {i : Nat} {u : α → ρ → ρ'} (h : Pt E i (sF A) E' u) : SG (gName i) [i] E A E' u := ⟨fun s0 he r k => by
  obtain ⟨L', h1, h2⟩ := h he ⟨rfl, r⟩
  exact k _ L' h2 h1 fun ws hw => wipe_comm _ _ _ ws (hw i List.mem_cons_self)⟩
/-- a name that is not read -/
structure Un (E : En ρ) (i : Nat) : Prop where
  run : ∀ {σ : L2.St} {F : Hp} {L : List (Addr × HO)} {γ : ρ} {o : Option V}, E.r σ F L γ → E.r (σ.set i o) F L γ
instance {E : En ρ} {i : Nat} : CoeFun (Un E i) (fun _ => ∀ {σ : L2.St} {F : Hp} {L : List (Addr × HO)} {γ : ρ} {o : Option V}, E.r σ F L γ → E.r (σ.set i o) F L γ) := ⟨fun h => h.run⟩
theorem n0 : Un (eU E) 0 := ⟨fun ⟨o, σ', e, t⟩ => by
  subst e
  exact ⟨_, σ', rfl, t⟩⟩
theorem nU {i : Nat} (h : Un E i) : Un (eU E) (i + 1) := ⟨fun ⟨o, σ', e, t⟩ => by
  subst e
  exact ⟨o, _, rfl, h t⟩⟩
theorem nS {s : Sl α} {i : Nat} (h : Un E i) : Un (eC s E) (i + 1) := ⟨fun ⟨v, σ', L1, L2, e1, e2, q, t⟩ => by
  subst e1
  exact ⟨v, _, L1, L2, rfl, e2, q, h t⟩⟩
theorem sg_skip {i : Nat} (h : Un E i) : SG (gName i) [i] E A E (fun _ γ => γ) := ⟨fun s0 he r k => k _ _ (Sb.refl _) (h he) fun ws hw => wipe_comm _ _ _ ws (hw i List.mem_cons_self)⟩
/-- the parts of a tuple, each to its name -/
structure SGs (g : TGs) (is : List Nat) (E : En ρ) (T : Tp α) (E' : En ρ') (u : α → ρ → ρ') : Prop where
  run : ∀ {σ : L2.St} {F H : Hp} {L : List (Addr × HO)} {γ : ρ} {vs : List V} {x : α} {Q : L2.St → Hp → Prop}, Same F H → E.r σ F L γ → T.r F vs x →
  (∀ σ' L', Sb L' L → E'.r σ' F L' (u x γ) → (∀ ws : List Nat, (∀ i ∈ is, i ∈ ws) → wipe σ' ws = wipe σ ws) → Q σ' H) → g vs σ H Q
instance {g : TGs} {is : List Nat} {E : En ρ} {T : Tp α} {E' : En ρ'} {u : α → ρ → ρ'} : CoeFun (SGs g is E T E' u) (fun _ => ∀ {σ : L2.St} {F H : Hp} {L : List (Addr × HO)} {γ : ρ} {vs : List V} {x : α} {Q : L2.St → Hp → Prop}, Same F H → E.r σ F L γ → T.r F vs x →
  (∀ σ' L', Sb L' L → E'.r σ' F L' (u x γ) → (∀ ws : List Nat, (∀ i ∈ is, i ∈ ws) → wipe σ' ws = wipe σ ws) → Q σ' H) → g vs σ H Q) := ⟨fun h => h.run⟩
theorem sgs_1 {g : TG} {is : List Nat} {u : α → ρ → ρ'} (h : SG g is E A E' u) : SGs (gCons g gNil) is E (y1 A) E' u := ⟨fun s0 he ⟨v, e, r⟩ k => by
  subst e
  exact ⟨v, [], rfl, h s0 he r fun σ' L' hb he' hw => ⟨rfl, k σ' L' hb he' hw⟩⟩⟩
theorem sgs_C {E'' : En ρ''} {g : TG} {gs : TGs} {is js : List Nat} {T : Tp β} {u : α → ρ → ρ'} {u' : β → ρ' → ρ''} (h : SG g is E A E' u) (h' : SGs gs js E' T E'' u') : SGs (gCons g gs) (is ++ js) E (yC A T) E'' (fun x γ => u' x.2 (u x.1 γ)) := ⟨fun s0 he ⟨v, r, e, r1, r2⟩ k => by
  subst e
  refine ⟨v, r, rfl, h s0 he r1 fun σ' L' hb he' hw => h' s0 he' r2 fun σ2 L2 hb2 he2 hw2 => k σ2 L2 (hb2.trans hb) he2 fun ws hws => ?_⟩
  rw [hw2 ws (fun i hi => hws i (List.mem_append_right _ hi)), hw ws (fun i hi => hws i (List.mem_append_left _ hi))]⟩
theorem sg_tup {gs : TGs} {is : List Nat} {T : Tp α} {n j : Nat} {R : Rp β} {g : α → β} {u : α → ρ → ρ'} (h : SGs gs is E T E' u) (hn : Tat T n j R g) : SG (gTup K n gs) is E (jT T) E' u := ⟨fun s0 he ⟨a, vs, e, r, t⟩ k =>
  ⟨a, vs, e, .inl (.inl (s0 _ _ r)), (hn t).1, h s0 he t k⟩⟩
/-! ### comprehensions -/
def lcM {α β : Type} (f : α → Option β) : List α → Option (List β)
  | [] => some []
  | x :: xs => ob (f x) fun y => ob (lcM f xs) fun r => some (y :: r)
def lcF {α β : Type} (p : α → Option Bool) (f : α → Option β) : List α → Option (List β)
  | [] => some []
  | x :: xs => ob (p x) fun b => if b = true then ob (f x) fun y => ob (lcF p f xs) fun r => some (y :: r) else lcF p f xs
theorem lcM_lcF {α β : Type} (f : α → Option β) : ∀ xs : List α, lcF (fun _ => some true) f xs = lcM f xs
  | [] => rfl
  | x :: xs => by
    show (ob (f x) fun y => ob (lcF (fun _ => some true) f xs) fun r => some (y :: r)) = _
    rw [lcM_lcF f xs]
    rfl
structure Wp (E : En ρ) (vs : List Nat) : Prop where
  run : ∀ {σ : L2.St} {F : Hp} {L : List (Addr × HO)} {γ : ρ}, E.r σ F L γ → E.r (wipe σ vs) F L γ
instance {E : En ρ} {vs : List Nat} : CoeFun (Wp E vs) (fun _ => ∀ {σ : L2.St} {F : Hp} {L : List (Addr × HO)} {γ : ρ}, E.r σ F L γ → E.r (wipe σ vs) F L γ) := ⟨fun h => h.run⟩
theorem wp_nil : Wp E [] := ⟨fun h => h⟩
theorem wp_cons {i : Nat} {vs : List Nat} (h : Un E i) (t : Wp E vs) : Wp E (i :: vs) := ⟨fun q => h (t q)⟩
theorem lc_core {wi : TI} {g : TG} {tt : TT} {is vs : List Nat} {fi : ρ → Option (List α)} {ft : ρ' → Option Bool} {fe : ρ' → Option β} {u : α → ρ → ρ'} (hi : SI wi E A fi) (hw : Wp E vs) (hg : SG g is E A E' u) (hv : ∀ i ∈ is, i ∈ vs) (ht : ST tt E' ft) (he : SE te E' (sF B) fe) :
    SE (tLc wi g tt te vs) E (sO B) (fun γ => ob (fi γ) fun xs => ob (lcF (fun x => ft (u x γ)) (fun x => fe (u x γ)) xs) fun r => pck (r.length ≤ sz) r) := ⟨fun {σ _ _ L γ res Q} s0 hL hE e k => by
  obtain ⟨xs, e1, e⟩ := ob_some e
  obtain ⟨rs, e2, e⟩ := ob_some e
  obtain ⟨p, e3⟩ := pck_some e
  subst e3
  refine hi.run s0 hL hE e1 fun J F1 H1 s1 it => ?_
  have hE1 := E.m s1.f0 hE
  have hL1 := hL.mono s1.hh
  intro D hD
  refine ⟨fun i m H' => m = xs.length - i ∧ i ≤ xs.length ∧ ∃ F' acc ys zs, Step F1 H1 F' H' [(D, .lst acc)] ∧ Paired (B.r F') acc ys ∧ lcF (fun x => ft (u x γ)) (fun x => fe (u x γ)) (xs.drop i) = some zs ∧ rs = ys ++ zs,
    ⟨xs.length, by omega, Nat.zero_le _, F1, [], [], rs, (Step.nil s1.fh).alloc hD _, .nil, e2, rfl⟩, ?_⟩
  rintro i m H' ⟨rfl, hi, F', acc, ys, zs, s2, pa, e4, e5⟩
  by_cases hlt : i < xs.length
  · obtain ⟨x, hx⟩ : ∃ x, xs[i]? = some x := ⟨_, List.getElem?_eq_getElem hlt⟩
    obtain ⟨go, yl⟩ := it.one s2.f0 s2.fh hx
    have ed : xs.drop i = x :: xs.drop (i + 1) := by
      rw [List.drop_eq_getElem_cons hlt]
      congr 1
      rw [List.getElem?_eq_getElem hlt] at hx
      exact Option.some.inj hx
    rw [ed] at e4
    obtain ⟨b, e6, e7⟩ := ob_some e4
    have hacc : acc.length < sz ∨ b = false := by
      cases b with
      | false => exact .inr rfl
      | true =>
        rw [if_pos rfl] at e7
        obtain ⟨y, e8, e9⟩ := ob_some e7
        obtain ⟨r, e10, e11⟩ := ob_some e9
        cases e11
        rw [Paired.len pa]
        rw [e5, List.length_append, List.length_cons] at p
        exact .inl (by omega)
    refine .inr ⟨go, fun H'' => ∃ F' acc ys zs, Step F1 H1 F' H'' [(D, .lst acc)] ∧ Paired (B.r F') acc ys ∧ lcF (fun x => ft (u x γ)) (fun x => fe (u x γ)) (xs.drop (i + 1)) = some zs ∧ rs = ys ++ zs, fun H'' h => ⟨xs.length - (i + 1), by omega, rfl, hlt, h⟩, fun v H3 hy => ?_⟩
    obtain ⟨F3, s3, r3⟩ := yl v H3 hy
    have s13 := Own.on s2 s3
    rw [List.nil_append] at s13
    refine hg s3.fh (hw (E.m s13.f0 hE1)) r3 fun σ4 L4 hb4 hE4 hw4 => ⟨?_, ?_⟩
    · rw [hw4 vs hv]
      have : ∀ (σ : L2.St) (vs : List Nat), wipe (wipe σ vs) vs = wipe σ vs := by
        intro σ vs
        have gen : ∀ (ws : List Nat), (∀ i ∈ ws, i ∈ vs) → wipe (wipe σ ws) vs = wipe σ vs := by
          intro ws
          induction ws with
          | nil => intro _; rfl
          | cons a as ih => intro h; show wipe ((wipe σ as).set a none) vs = _; rw [wipe_comm _ _ _ vs (h a List.mem_cons_self), ih fun i hi => h i (List.mem_cons_of_mem _ hi)]
        exact gen vs fun _ h => h
      exact this _ _
    have hL4 : Held H3 L4 := fun q hq => (hL1.mono s13.hh) q (hb4.mem hq)
    refine ht s3.fh hL4 hE4 e6 fun F5 H5 s5 => ?_
    have s15 := Own.on s13 s5
    rw [List.nil_append] at s15
    cases b with
    | false =>
      rw [if_neg Bool.false_ne_true] at e7 ⊢
      exact ⟨F5, acc, ys, zs, s15, Paired.mono (fun _ _ q => B.m (s3.f0.trans s5.f0) q) pa, e7, e5⟩
    | true =>
      rw [if_pos rfl] at e7 ⊢
      obtain ⟨y, e8, e9⟩ := ob_some e7
      obtain ⟨r, e10, e11⟩ := ob_some e9
      cases e11
      refine he s5.fh (hL4.mono s5.hh) (E'.m s5.f0 hE4) e8 fun w F6 H6 L6 s6 ⟨z6, r6⟩ => ?_
      subst z6
      have s16 := Own.on s15 s6
      rw [List.nil_append] at s16
      refine ⟨acc, s16.at_ 0, sz_lt (hacc.resolve_right (by decide)), F6, _, ys ++ [y], r, s16.set 0 rfl _, Paired.app (Paired.mono (fun _ _ q => B.m ((s3.f0.trans s5.f0).trans s6.f0) q) pa) (.cons r6 .nil), e10, ?_⟩
      rw [e5, List.append_assoc]
      rfl
  · have hi2 : i = xs.length := by omega
    subst hi2
    rw [List.drop_length] at e4
    cases e4
    rw [List.append_nil] at e5
    subst e5
    exact .inl ⟨it.stop s2.f0 s2.fh, k _ _ _ _ (by have := Own.on s1 s2; rwa [List.append_nil] at this) ⟨D, acc, rfl, rfl, pa⟩⟩⟩
theorem se_lcF {wi : TI} {g : TG} {tt : TT} {is vs : List Nat} {fi : ρ → Option (List α)} {ft : ρ' → Option Bool} {fe : ρ' → Option β} {u : α → ρ → ρ'} (hi : SI wi E A fi) (hw : Wp E vs) (hg : SG g is E A E' u) (ht : ST tt E' ft) (he : SE te E' (sF B) fe) (hv : ∀ i ∈ is, i ∈ vs := by decide) :
    SE (tLc wi g tt te vs) E (sO B) (fun γ => ob (fi γ) fun xs => ob (lcF (fun x => ft (u x γ)) (fun x => fe (u x γ)) xs) fun r => pck (r.length ≤ sz) r) := lc_core hi hw hg hv ht he
theorem se_lc {wi : TI} {g : TG} {is vs : List Nat} {fi : ρ → Option (List α)} {fe : ρ' → Option β} {u : α → ρ → ρ'} (hi : SI wi E A fi) (hw : Wp E vs) (hg : SG g is E A E' u) (he : SE te E' (sF B) fe) (hv : ∀ i ∈ is, i ∈ vs := by decide) :
    SE (tLc wi g tYes te vs) E (sO B) (fun γ => ob (fi γ) fun xs => ob (lcM (fun x => fe (u x γ)) xs) fun r => pck (r.length ≤ sz) r) := by
  have h : (fun γ => ob (fi γ) fun xs => ob (lcM (fun x => fe (u x γ)) xs) fun r => pck (r.length ≤ sz) r) = (fun γ => ob (fi γ) fun xs => ob (lcF (fun x => some true) (fun x => fe (u x γ)) xs) fun r => pck (r.length ≤ sz) r) := by
    funext γ
    simp only [lcM_lcF]
  rw [h]
  exact lc_core hi hw hg hv (ft := fun _ => some true) st_yes he
end
end Mi

namespace Mi
open PySem PySem.Spec PyProof.Rows L2 Fw
/-! ### statements -/
inductive Res (ρ κ β : Type) where
  | nxt (γ : ρ) | ret (b : β) | cnt (γ : κ) | brk (γ : κ)
/-- what a return wishes -/
structure RRt (β : Type) where
  fin : Hp → Hp → Hp → VK → β → Prop
  mo : ∀ {F0 H0 F F1 : Hp} {Q : VK} {b : β}, fin F0 H0 F Q b → Same F F1 → fin F0 H0 F1 Q b
def rS {β : Type} (s : Sl β) : RRt β := ⟨fun F0 H0 Fs Q b => ∀ v F H L, Same Fs F → Own F0 H0 F H L [] → s.r v F L b → Q v H, fun h sF v F H L s2 => h v F H L (sF.trans s2)⟩
section
variable {ρ ρ' ρ'' α β δ ε κ : Type} {E : En ρ} {E' : En ρ'} {E1 : En ρ''} {Ec : En κ} {ta tb tc te : TE} {tA : TA} {A : Rp α} {B : Rp β} {D : Rp δ} {s : RRt β} {sl : Sl β} {K : PySem.W.Frag} {t u : TS}
def Fin (E' : En ρ') (Ec : En κ) (s : RRt β) (F0 H0 Fs : Hp) (D : Ends) : Res ρ' κ β → Prop
  | .nxt γ => ∀ σ F H L, Same Fs F → Own F0 H0 F H L [] → E'.r σ F L γ → D.nx σ H
  | .ret b => s.fin F0 H0 Fs D.rt b
  | .cnt γ => ∀ σ F H L, Same Fs F → Own F0 H0 F H L [] → Ec.r σ F L γ → D.ct σ H
  | .brk γ => ∀ σ F H L, Same Fs F → Own F0 H0 F H L [] → Ec.r σ F L γ → D.bk σ H
theorem Fin.mo {F0 H0 F F1 : Hp} {D : Ends} {r : Res ρ' κ β} (h : Fin E' Ec s F0 H0 F D r) (sF : Same F F1) : Fin E' Ec s F0 H0 F1 D r := by
  cases r with
  | nxt γ => exact fun σ F2 H L s2 => h σ F2 H L (sF.trans s2)
  | ret b => exact s.mo (show s.fin F0 H0 F D.rt b from h) sF
  | cnt γ => exact fun σ F2 H L s2 => h σ F2 H L (sF.trans s2)
  | brk γ => exact fun σ F2 H L s2 => h σ F2 H L (sF.trans s2)
structure SS (t : TS) (E : En ρ) (E' : En ρ') (Ec : En κ) (s : RRt β) (m : ρ → Option (Res ρ' κ β)) : Prop where
  run : ∀ {σ : L2.St} {F0 H0 F H : Hp} {L : List (Addr × HO)} {γ : ρ} {r : Res ρ' κ β} {D : Ends}, Own F0 H0 F H L [] → E.r σ F L γ → m γ = some r → Fin E' Ec s F0 H0 F D r → t D σ H
theorem ss_conv {m m' : ρ → Option (Res ρ' κ β)} (h : SS t E E' Ec s m) (e : m = m') : SS t E E' Ec s m' := e ▸ h
/-- what follows -/
def rb (x : Option (Res ρ κ β)) (f : ρ → Option (Res ρ' κ β)) : Option (Res ρ' κ β) := ob x fun r => match r with
  | .nxt γ => f γ
  | .ret b => some (.ret b)
  | .cnt γ => some (.cnt γ)
  | .brk γ => some (.brk γ)
theorem ss_seq {m1 : ρ → Option (Res ρ'' κ β)} {m2 : ρ'' → Option (Res ρ' κ β)} (ht : SS t E E1 Ec s m1) (hu : SS u E1 E' Ec s m2) : SS (tSeq t u) E E' Ec s (fun γ => rb (m1 γ) m2) := ⟨fun {_ _ _ _ _ _ _ r D} O he e fin => by
  obtain ⟨r1, e1, e⟩ := ob_some e
  show t { D with nx := u D } _ _
  refine ht.run O he e1 ?_
  cases r1 with
  | nxt γ1 => exact fun σ F H L sF O' he' => hu.run O' he' e (fin.mo sF)
  | ret b => cases e; exact fin
  | cnt γ1 => cases e; exact fin
  | brk γ1 => cases e; exact fin⟩
theorem ss_nil : SS tNext E E Ec s (fun γ => some (.nxt γ)) := ⟨fun O he e fin => by
  cases e
  exact fin _ _ _ _ (Same.refl _) O he⟩
theorem ss_co {c : ρ → ρ'} (h : Co E E' c) : SS tNext E E' Ec s (fun γ => some (.nxt (c γ))) := ⟨fun O he e fin => by
  cases e
  obtain ⟨F', L', O', sF, he'⟩ := h (by rw [List.append_nil]; exact O) he
  rw [List.append_nil] at O'
  exact fin _ _ _ _ sF O' he'⟩
theorem ss_pre {c : ρ → ρ''} {m : ρ'' → Option (Res ρ' κ β)} (h : Co E E1 c) (hu : SS u E1 E' Ec s m) : SS u E E' Ec s (fun γ => m (c γ)) := ⟨fun O he e fin => by
  obtain ⟨F', L', O', sF, he'⟩ := h (by rw [List.append_nil]; exact O) he
  rw [List.append_nil] at O'
  exact hu.run O' he' e (fin.mo sF)⟩
variable {m : ρ'' → Option (Res ρ' κ β)}
theorem ss_asg {i : Nat} {s1 : Sl α} {fe : ρ → Option α} {p : α → ρ → ρ''} (he : SE te E s1 fe) (hp : Pt E i s1 E1 p) (hu : SS u E1 E' Ec s m) : SS (tSeq (tAsg te (gName i)) u) E E' Ec s (fun γ => ob (fe γ) fun x => m (p x γ)) := ⟨fun O hE e fin => by
  obtain ⟨x, e1, e⟩ := ob_some e
  refine he O.fh (Held.of O) hE e1 fun v F1 H1 L1 s1 r1 => ?_
  obtain ⟨L', h1, h2⟩ := hp (E.m s1.f0 hE) r1
  exact hu.run (OwnSb (Own.on O s1) h2) h1 e (fin.mo s1.f0)⟩
theorem ss_asgG {g : TG} {is : List Nat} {fe : ρ → Option α} {p : α → ρ → ρ''} (he : SE te E (sF A) fe) (hp : SG g is E A E1 p) (hu : SS u E1 E' Ec s m) : SS (tSeq (tAsg te g) u) E E' Ec s (fun γ => ob (fe γ) fun x => m (p x γ)) := ⟨fun O hE e fin => by
  obtain ⟨x, e1, e⟩ := ob_some e
  refine he O.fh (Held.of O) hE e1 fun v F1 H1 L1 s1 ⟨z1, r1⟩ => ?_
  subst z1
  have O1 := Own.on O s1
  rw [List.nil_append] at O1
  exact hp O1.fh (E.m s1.f0 hE) r1 fun σ' L' hb he' _ => hu.run (OwnSb O1 hb) he' e (fin.mo s1.f0)⟩
theorem ss_aug {i : Nat} {f : Int → Int → Int} {g : ρ → Int} {fe : ρ → Option Int} {p : Int → ρ → ρ''} (hg : Gt E i (sF jI) g) (he : SE te E (sF jI) fe) (hp : Pt E i (sF jI) E1 p) (hu : SS u E1 E' Ec s m) :
    SS (tSeq (tAug i te (ipI f)) u) E E' Ec s (fun γ => ob (fe γ) fun y => m (p (f (g γ) y) γ)) := ⟨fun O hE e fin => by
  obtain ⟨x, e1, e⟩ := ob_some e
  obtain ⟨v, L1, h1, _, _, h3⟩ := hg hE
  refine ⟨v, h1, he O.fh (Held.of O) hE e1 fun w F1 H1 L1 s1 ⟨z1, r1⟩ => ?_⟩
  subst z1
  have O1 := Own.on O s1
  rw [List.nil_append] at O1
  refine ⟨_, _, h3, r1, ?_⟩
  obtain ⟨L', h1, h2⟩ := hp.run (v := .int (f _ x)) (L1 := []) (x := f _ x) (E.m s1.f0 hE) ⟨rfl, rfl⟩
  exact hu.run (OwnSb O1 h2) h1 e (fin.mo s1.f0)⟩
theorem ss_par {i j : Nat} {C : Rp δ} {E2 : En ε} {fa : ρ → Option α} {fb : ρ → Option δ} {p : α → ρ → ρ''} {p' : δ → ρ'' → ε} {m : ε → Option (Res ρ' κ β)} (ha : SE ta E (sF A) fa) (hb : SE tb E (sF C) fb) (hp : Pt E i (sF A) E1 p) (hp' : Pt E1 j (sF C) E2 p') (hu : SS u E2 E' Ec s m) :
    SS (tSeq (tPar i j (tCons ta (tCons tb tNil))) u) E E' Ec s (fun γ => ob (fa γ) fun x => ob (fb γ) fun y => m (p' y (p x γ))) := ⟨fun O hE e fin => by
  obtain ⟨x, e1, e⟩ := ob_some e
  obtain ⟨y, e2, e⟩ := ob_some e
  refine ha O.fh (Held.of O) hE e1 fun v F1 H1 L1 s1 ⟨z1, r1⟩ => ?_
  subst z1
  have O1 := Own.on O s1
  rw [List.nil_append] at O1
  refine hb O1.fh (Held.of O1) (E.m s1.f0 hE) e2 fun w F2 H2 L2 s2 ⟨z2, r2⟩ => ?_
  subst z2
  have O2 := Own.on O1 s2
  rw [List.nil_append] at O2
  refine ⟨v, w, rfl, ?_⟩
  obtain ⟨L', h1, h2⟩ := hp.run (L1 := []) (E.m (s1.f0.trans s2.f0) hE) ⟨rfl, A.m s2.f0 r1⟩
  obtain ⟨L'', h3, h4⟩ := hp'.run (L1 := []) h1 ⟨rfl, r2⟩
  exact hu.run (OwnSb (OwnSb O2 h2) h4) h3 e (fin.mo (s1.f0.trans s2.f0))⟩
theorem ss_expr {s1 : Sl α} {fe : ρ → Option α} {m : ρ → Option (Res ρ' κ β)} (he : SE te E s1 fe) (hu : SS u E E' Ec s m) : SS (tSeq (tDrop te) u) E E' Ec s (fun γ => ob (fe γ) fun _ => m γ) := ⟨fun O hE e fin => by
  obtain ⟨x, e1, e⟩ := ob_some e
  refine he O.fh (Held.of O) hE e1 fun v F1 H1 L1 s1 r1 => ?_
  exact hu.run (OwnSb (Own.on O s1) (Sb.dropL _ _)) (E.m s1.f0 hE) e (fin.mo s1.f0)⟩
/-! own lists -/
theorem tyL {P : Prop} {p : Addr} {vs : List V} {H : Hp} (e : H p = some (.lst vs)) (h : P) : tyV K "list" (.ref p) H ∧ P := w_tyL h (.inl (.inl e))
theorem ss_app {i : Nat} {R : Rp α} {g : ρ → List α} {up : List α → ρ → ρ} {fe : ρ → Option α} {m : ρ → Option (Res ρ' κ β)} (hu' : Up E i R g up) (he : SE te E (sF R) fe) (hu : SS u E E' Ec s m) :
    SS (tSeq (tDrop (tBM K "list" rAppend (tVar i) (tCons te tNil))) u) E E' Ec s (fun γ => ob (fe γ) fun y => ob (pck ((g γ).length < sz) (g γ ++ [y])) fun ys => m (up ys γ)) := ⟨fun O hE e fin => by
  obtain ⟨x, e1, e⟩ := ob_some e
  obtain ⟨ys, e2, e⟩ := ob_some e
  obtain ⟨pz, rfl⟩ := pck_some e2
  obtain ⟨p, vs, j, h1, h2, h3, h4⟩ := hu' hE
  refine ⟨.ref p, h1, tyL (O.at_ j h2) ?_⟩
  refine he O.fh (Held.of O) hE e1 fun v F1 H1 L1 s1 ⟨z1, r1⟩ => ?_
  subst z1
  have O1 := Own.on O s1
  rw [List.nil_append] at O1
  exact w_app (Q := fun _ H' => u _ _ H') O1 h2 (fun H' O2 => hu.run O2 (h4 F1 _ _ s1.f0 (Paired.app (Paired.mono (fun _ _ q => R.m s1.f0 q) h3) (.cons r1 .nil))) e (fin.mo s1.f0)) (sz_lt (by rw [Paired.len h3]; exact pz))⟩
theorem ss_ext {i : Nat} {R : Rp α} {g : ρ → List α} {up : List α → ρ → ρ} {fe : ρ → Option (List α)} {m : ρ → Option (Res ρ' κ β)} (hu' : Up E i R g up) (he : SE te E (sF (jL R)) fe) (hu : SS u E E' Ec s m) :
    SS (tSeq (tDrop (tBM K "list" rExtend (tVar i) (tCons te tNil))) u) E E' Ec s (fun γ => ob (fe γ) fun y => ob (pck ((g γ).length + y.length ≤ sz) (g γ ++ y)) fun ys => m (up ys γ)) := ⟨fun O hE e fin => by
  obtain ⟨x, e1, e⟩ := ob_some e
  obtain ⟨ys, e2, e⟩ := ob_some e
  obtain ⟨pz, rfl⟩ := pck_some e2
  obtain ⟨p, vs, j, h1, h2, h3, h4⟩ := hu' hE
  refine ⟨.ref p, h1, tyL (O.at_ j h2) ?_⟩
  refine he O.fh (Held.of O) hE e1 fun v F1 H1 L1 s1 ⟨z1, a, us, z2, r1, q1⟩ => ?_
  subst z1 z2
  have O1 := Own.on O s1
  rw [List.nil_append] at O1
  exact w_ext (Q := fun _ H' => u _ _ H') O1 h2 (O1.fh _ _ r1) (fun H' O2 => hu.run O2 (h4 F1 _ _ s1.f0 (Paired.app (Paired.mono (fun _ _ q => R.m s1.f0 q) h3) q1)) e (fin.mo s1.f0)) (sz_le (by rw [Paired.len h3, Paired.len q1]; exact pz))⟩
theorem ss_rev {i : Nat} {R : Rp α} {g : ρ → List α} {up : List α → ρ → ρ} {m : ρ → Option (Res ρ' κ β)} (hu' : Up E i R g up) (hu : SS u E E' Ec s m) :
    SS (tSeq (tDrop (tBM0 K "list" rReverse (tVar i))) u) E E' Ec s (fun γ => m (up (g γ).reverse γ)) := ⟨fun O hE e fin => by
  obtain ⟨p, vs, j, h1, h2, h3, h4⟩ := hu' hE
  refine ⟨.ref p, h1, tyL (O.at_ j h2) ⟨p, vs, rfl, rfl, O.at_ j h2, ?_⟩⟩
  exact hu.run (O.set j h2 _) (h4 _ _ _ (Same.refl _) (Paired.rev h3)) e fin⟩
theorem ss_pop {i : Nat} {R : Rp α} {g : ρ → List α} {up : List α → ρ → ρ} {m : ρ → Option (Res ρ' κ β)} (hu' : Up E i R g up) (hu : SS u E E' Ec s m) :
    SS (tSeq (tDrop (tBM0 K "list" rPop (tVar i))) u) E E' Ec s (fun γ => ob (pck (0 < (g γ).length) (g γ).dropLast) fun ys => m (up ys γ)) := ⟨fun O hE e fin => by
  obtain ⟨ys, e2, e⟩ := ob_some e
  obtain ⟨pz, rfl⟩ := pck_some e2
  obtain ⟨p, vs, j, h1, h2, h3, h4⟩ := hu' hE
  have hl := Paired.len h3
  refine ⟨.ref p, h1, tyL (O.at_ j h2) ⟨p, vs, _, rfl, rfl, O.at_ j h2, List.getElem?_eq_getElem (by omega), ?_⟩⟩
  refine hu.run (O.set j h2 _) (h4 _ _ _ (Same.refl _) ?_) e fin
  rw [List.dropLast_eq_take, List.dropLast_eq_take, hl]
  exact Paired.tk _ h3⟩
/-- xs with the item at i set -/
def pset {τ : Type} (xs : List τ) (i : Int) (x : τ) : Option (List τ) := (ixN xs.length i).map fun j => xs.set j x
theorem ss_setI {i : Nat} {R : Rp α} {g : ρ → List α} {up : List α → ρ → ρ} {fe : ρ → Option α} {fi : ρ → Option Int} {m : ρ → Option (Res ρ' κ β)} (hu' : Up E i R g up) (he : SE te E (sF R) fe) (hi : SE ta E (sF jI) fi) (hu : SS u E E' Ec s m) :
    SS (tSeq (tAsg te (gSub (tVar i) ta rSetL)) u) E E' Ec s (fun γ => ob (fe γ) fun y => ob (fi γ) fun j => ob (pset (g γ) j y) fun ys => m (up ys γ)) := ⟨fun O hE e fin => by
  obtain ⟨x, e1, e⟩ := ob_some e
  obtain ⟨k, e2, e⟩ := ob_some e
  obtain ⟨ys, e3, e⟩ := ob_some e
  refine he O.fh (Held.of O) hE e1 fun v F1 H1 L1 s1 ⟨z1, r1⟩ => ?_
  subst z1
  have O1 := Own.on O s1
  rw [List.nil_append] at O1
  obtain ⟨p, vs, j, h1, h2, h3, h4⟩ := hu' (E.m s1.f0 hE)
  refine ⟨.ref p, h1, ?_⟩
  refine hi O1.fh (Held.of O1) (E.m s1.f0 hE) e2 fun w F2 H2 L2 s2 ⟨z2, r2⟩ => ?_
  subst z2
  have O2 := Own.on O1 s2
  rw [List.nil_append] at O2
  unfold pset at e3
  rw [← Paired.len h3] at e3
  cases hj : ixN vs.length k with
  | none => rw [hj] at e3; cases e3
  | some n =>
    rw [hj] at e3
    cases e3
    refine ⟨p, vs, k, n, rfl, r2, O2.at_ j h2, hj, ?_⟩
    exact hu.run (O2.set j h2 _) (h4 F2 _ _ s2.f0 (Paired.upd (R.m s2.f0 r1) n (Paired.mono (fun _ _ q => R.m s2.f0 q) h3))) e (fin.mo (s1.f0.trans s2.f0))⟩
/-- xs[i] op= e, 0 ≤ i -/
def pget {τ : Type} (xs : List τ) (i : Int) : Option τ := if 0 ≤ i then xs[i.toNat]? else none
theorem ss_augI {i : Nat} {f : Int → Int → Int} {g : ρ → List Int} {up : List Int → ρ → ρ} {fe fi : ρ → Option Int} {m : ρ → Option (Res ρ' κ β)} (hu' : Up E i jI g up) (hi : SE ta E (sF jI) fi) (he : SE te E (sF jI) fe) (hu : SS u E E' Ec s m) :
    SS (tSeq (tAugS (tVar i) ta te (rGetL K) (ipI f) rSetL) u) E E' Ec s (fun γ => ob (fi γ) fun j => ob (pget (g γ) j) fun a => ob (fe γ) fun y => m (up ((g γ).set j.toNat (f a y)) γ)) := ⟨fun O hE e fin => by
  obtain ⟨k, e1, e⟩ := ob_some e
  obtain ⟨a, e2, e⟩ := ob_some e
  obtain ⟨y, e3, e⟩ := ob_some e
  obtain ⟨p, vs, j, h1, h2, h3, h4⟩ := hu' hE
  refine ⟨.ref p, h1, ?_⟩
  refine hi O.fh (Held.of O) hE e1 fun v F1 H1 L1 s1 ⟨z1, r1⟩ => ?_
  subst z1
  have O1 := Own.on O s1
  rw [List.nil_append] at O1
  unfold pget at e2
  split at e2
  · next h0 =>
    obtain ⟨w, w1, w2⟩ := Paired.at h3 e2
    refine ⟨p, vs, k, w, rfl, r1, .inl (.inl (O1.at_ j h2)), h0, w1, ?_⟩
    refine he O1.fh (Held.of O1) (E.m s1.f0 hE) e3 fun z F2 H2 L2 s2 ⟨z2, r2⟩ => ?_
    subst z2
    have O2 := Own.on O1 s2
    rw [List.nil_append] at O2
    refine ⟨a, y, w2, r2, ?_⟩
    have hlt := (List.getElem?_eq_some_iff.mp w1).1
    refine ⟨p, vs, k, k.toNat, rfl, r1, O2.at_ j h2, ixN_pos ⟨h0, by omega⟩, ?_⟩
    exact hu.run (O2.set j h2 _) (h4 F2 _ _ (s1.f0.trans s2.f0) (Paired.upd (A := jI.r F2) rfl _ (Paired.mono (A := jI.r _) (fun _ _ q => q) h3))) e (fin.mo (s1.f0.trans s2.f0))
  · cases e2⟩
/-! ways -/
theorem ss_if {t1 t2 : TS} {c : TT} {fc : ρ → Option Bool} {ma mb : ρ → Option (Res ρ' κ β)} (hc : ST c E fc) (ha : SS t1 E E' Ec s ma) (hb : SS t2 E E' Ec s mb) : SS (tIfS c t1 t2) E E' Ec s (fun γ => ob (fc γ) fun b => if b = true then ma γ else mb γ) := ⟨fun O hE e fin => by
  obtain ⟨b, e1, e⟩ := ob_some e
  refine hc O.fh (Held.of O) hE e1 fun F1 H1 s1 => ?_
  have O1 := Own.on O s1
  rw [List.nil_append] at O1
  cases b with
  | true =>
    show if true = true then _ else _
    rw [if_pos rfl] at e ⊢
    exact ha.run O1 (E.m s1.f0 hE) e (fin.mo s1.f0)
  | false =>
    show if false = true then _ else _
    rw [if_neg Bool.false_ne_true] at e ⊢
    exact hb.run O1 (E.m s1.f0 hE) e (fin.mo s1.f0)⟩
theorem ss_ret {fe : ρ → Option β} (he : SE te E sl fe) : SS (tRet te) E E' Ec (rS sl) (fun γ => ob (fe γ) fun x => some (.ret x)) := ⟨fun O hE e fin => by
  obtain ⟨x, e1, e⟩ := ob_some e
  cases e
  refine he O.fh (Held.of O) hE e1 fun v F1 H1 L1 s1 r1 => ?_
  exact fin v F1 H1 L1 s1.f0 (OwnSb (Own.on O s1) (Sb.dropR _ _)) r1⟩
theorem ss_retO {i : Nat} {R : Rp α} {g : ρ → List α} (hg : Gt E i (sO R) g) : SS (tRet (tVar i)) E E' Ec (rS (sO R)) (fun γ => some (.ret (g γ))) := ⟨fun {_ _ _ F H L _ _ _} O hE e fin => by
  cases e
  obtain ⟨v, L1, h1, h2, p, vs, h3, h4, h5⟩ := hg hE
  subst h3 h4
  obtain ⟨a, b, hab⟩ := List.append_of_mem (h2 _ List.mem_cons_self)
  refine ⟨_, h1, fin _ F H [(p, .lst vs)] (Same.refl _) (OwnSb O ?_) ⟨p, vs, rfl, rfl, h5⟩⟩
  rw [hab]
  exact ⟨a ++ b, (List.perm_middle (l₁ := a) (l₂ := b)).symm⟩⟩
theorem ss_retN : SS tRetN E E' Ec (rS (sF jN)) (fun _ => some (.ret ())) := ⟨fun O _ e fin => by
  cases e
  exact fin _ _ _ [] (Same.refl _) (OwnSb O (Sb.nil _)) ⟨rfl, rfl⟩⟩
theorem ss_never : SS tNever E E' Ec s (fun _ => none) := ⟨fun _ _ e _ => nomatch e⟩
theorem ss_cont : SS tCont E E' E s (fun γ => some (.cnt γ)) := ⟨fun O hE e fin => by
  cases e
  exact fin _ _ _ _ (Same.refl _) O hE⟩
theorem ss_contC {c : ρ → κ} (h : Co E Ec c) : SS tCont E E' Ec s (fun γ => some (.cnt (c γ))) := ⟨fun O hE e fin => by
  cases e
  obtain ⟨F', L', O', sF, he'⟩ := h (by rw [List.append_nil]; exact O) hE
  rw [List.append_nil] at O'
  exact fin _ _ _ _ sF O' he'⟩
/-! loops -/
def forR {κ : Type} (step : α → ρ → Option (Res ρ ρ β)) : List α → ρ → Option (Res ρ κ β)
  | [], γ => some (.nxt γ)
  | x :: xs, γ => ob (step x γ) fun r => match r with
    | .nxt γ' => forR step xs γ'
    | .cnt γ' => forR step xs γ'
    | .brk γ' => some (.nxt γ')
    | .ret b => some (.ret b)
theorem ss_for {wi : TI} {g : TG} {is : List Nat} {tb : TS} {fi : ρ → Option (List α)} {p : α → ρ → ρ''} {mb : ρ'' → Option (Res ρ ρ β)} (hi : SI wi E A fi) (hg : SG g is E A E1 p) (hb : SS tb E1 E E s mb) :
    SS (tFor wi g tb) E E Ec s (fun γ => ob (fi γ) fun xs => forR (fun x γ => mb (p x γ)) xs γ) := ⟨fun {σ F0 H0 F H L γ r D} O hE e fin => by
  obtain ⟨xs, e1, e⟩ := ob_some e
  refine hi.run O.fh (Held.of O) hE e1 fun J F1 H1 s1 it => ?_
  have O1 := Own.on O s1
  rw [List.nil_append] at O1
  refine ⟨fun i m σ' H' => m = xs.length - i ∧ i ≤ xs.length ∧ ∃ F' L' γ', Same F1 F' ∧ Own F0 H0 F' H' L' [] ∧ E.r σ' F' L' γ' ∧ forR (fun x γ => mb (p x γ)) (xs.drop i) γ' = some r,
    ⟨xs.length, by omega, Nat.zero_le _, F1, L, γ, Same.refl _, O1, E.m s1.f0 hE, e⟩, ?_⟩
  rintro i m σ' H' ⟨rfl, hi, F', L', γ', sF', O', hE', e'⟩
  by_cases hlt : i < xs.length
  · obtain ⟨x, hx⟩ : ∃ x, xs[i]? = some x := ⟨_, List.getElem?_eq_getElem hlt⟩
    obtain ⟨go, yl⟩ := it.one sF' O'.fh hx
    have ed : xs.drop i = x :: xs.drop (i + 1) := by
      rw [List.drop_eq_getElem_cons hlt]
      congr 1
      rw [List.getElem?_eq_getElem hlt] at hx
      exact Option.some.inj hx
    rw [ed] at e'
    obtain ⟨r1, e2, e3⟩ := ob_some e'
    refine .inr ⟨go, fun σ2 H2 => ∃ F' L' γ', Same F1 F' ∧ Own F0 H0 F' H2 L' [] ∧ E.r σ2 F' L' γ' ∧ forR (fun x γ => mb (p x γ)) (xs.drop (i + 1)) γ' = some r, fun σ2 H2 h => ⟨xs.length - (i + 1), by omega, rfl, hlt, h⟩, fun v H3 hy => ?_⟩
    obtain ⟨F3, s3, r3⟩ := yl v H3 hy
    have O3 := Own.on O' s3
    rw [List.nil_append] at O3
    refine hg O3.fh (E.m s3.f0 hE') r3 fun σ4 L4 hb4 hE4 _ => ?_
    have O4 := OwnSb O3 hb4
    refine hb.run O4 hE4 e2 ?_
    have sF3 := sF'.trans s3.f0
    cases r1 with
    | nxt γ2 => exact fun σ5 F5 H5 L5 s5 O5 hE5 => ⟨F5, L5, γ2, sF3.trans s5, O5, hE5, e3⟩
    | cnt γ2 => exact fun σ5 F5 H5 L5 s5 O5 hE5 => ⟨F5, L5, γ2, sF3.trans s5, O5, hE5, e3⟩
    | brk γ2 =>
      cases e3
      exact fun σ5 F5 H5 L5 s5 O5 hE5 => fin σ5 F5 H5 L5 (s1.f0.trans (sF3.trans s5)) O5 hE5
    | ret b =>
      cases e3
      exact s.mo fin (s1.f0.trans sF3)
  · have hi2 : i = xs.length := by omega
    subst hi2
    rw [List.drop_length] at e'
    cases e'
    exact .inl ⟨it.stop sF' O'.fh, fin _ _ _ _ (s1.f0.trans sF') O' hE'⟩⟩
def whileN {κ : Type} (c : ρ → Option Bool) (step : ρ → Option (Res ρ ρ β)) : Nat → ρ → Option (Res ρ κ β)
  | 0, _ => none
  | n + 1, γ => ob (c γ) fun b => if b = true then ob (step γ) fun r => match r with
    | .nxt γ' => whileN c step n γ'
    | .cnt γ' => whileN c step n γ'
    | .brk γ' => some (.nxt γ')
    | .ret b => some (.ret b) else some (.nxt γ)
theorem whileN_more {κ : Type} {c : ρ → Option Bool} {step : ρ → Option (Res ρ ρ β)} : ∀ {n : Nat} {γ : ρ} {r : Res ρ κ β}, whileN c step n γ = some r → whileN c step (n + 1) γ = some r
  | 0, _, _, h => nomatch h
  | n + 1, γ, r, h => by
    obtain ⟨b, e1, e⟩ := ob_some h
    rw [whileN, e1]
    show (if b = true then _ else _) = _
    cases b with
    | false => rw [if_neg Bool.false_ne_true] at e ⊢; exact e
    | true =>
      rw [if_pos rfl] at e ⊢
      obtain ⟨q, e2, e⟩ := ob_some e
      rw [e2]
      show (match q with | .nxt γ' => _ | .cnt γ' => _ | .brk γ' => _ | .ret b => _) = _
      cases q with
      | nxt γ' => exact whileN_more e
      | cnt γ' => exact whileN_more e
      | brk γ' => exact e
      | ret b => exact e
theorem whileN_le {κ : Type} {c : ρ → Option Bool} {step : ρ → Option (Res ρ ρ β)} {n m : Nat} {γ : ρ} {r : Res ρ κ β} (h : whileN c step n γ = some r) (l : n ≤ m) : whileN c step m γ = some r := by
  obtain ⟨k, rfl⟩ : ∃ k, m = n + k := ⟨m - n, by omega⟩
  induction k with
  | zero => exact h
  | succ k ih => exact whileN_more (ih (by omega))
open Classical in
noncomputable def whileR {κ : Type} (c : ρ → Option Bool) (step : ρ → Option (Res ρ ρ β)) (γ : ρ) : Option (Res ρ κ β) := if h : ∃ n r, whileN (κ := κ) c step n γ = some r then some h.choose_spec.choose else none
theorem whileR_some {κ : Type} {c : ρ → Option Bool} {step : ρ → Option (Res ρ ρ β)} {γ : ρ} {r : Res ρ κ β} (h : whileR c step γ = some r) : ∃ n, whileN c step n γ = some r := by
  unfold whileR at h
  split at h
  · next q =>
    cases h
    exact ⟨_, q.choose_spec.choose_spec⟩
  · cases h
theorem whileR_of {κ : Type} {c : ρ → Option Bool} {step : ρ → Option (Res ρ ρ β)} {γ : ρ} {r : Res ρ κ β} {n : Nat} (h : whileN c step n γ = some r) : whileR c step γ = some r := by
  unfold whileR
  have q : ∃ n r, whileN (κ := κ) c step n γ = some r := ⟨n, r, h⟩
  rw [dif_pos q]
  have h2 := q.choose_spec.choose_spec
  rcases Nat.le_total n q.choose with l | l
  · exact h2.symm.trans (whileN_le h l)
  · rw [whileN_le h2 l] at h
    exact h
theorem ss_while {c : TT} {tb : TS} {fc : ρ → Option Bool} {mb : ρ → Option (Res ρ ρ β)} (hc : ST c E fc) (hb : SS tb E E E s mb) : SS (tWhile c tb) E E Ec s (fun γ => whileR fc mb γ) := ⟨fun {σ F0 H0 F H L γ r D} O hE e fin => by
  obtain ⟨n, e⟩ := whileR_some e
  refine ⟨fun m σ' H' => ∃ F' L' γ', Same F F' ∧ Own F0 H0 F' H' L' [] ∧ E.r σ' F' L' γ' ∧ whileN fc mb m γ' = some r, ⟨n, F, L, γ, Same.refl _, O, hE, e⟩, ?_⟩
  rintro m σ' H' ⟨F', L', γ', sF', O', hE', e'⟩
  cases m with
  | zero => cases e'
  | succ m =>
    obtain ⟨b, e1, e2⟩ := ob_some e'
    refine hc O'.fh (Held.of O') hE' e1 fun F1 H1 s1 => ?_
    have O1 := Own.on O' s1
    rw [List.nil_append] at O1
    have sF1 := sF'.trans s1.f0
    cases b with
    | false =>
      rw [if_neg Bool.false_ne_true] at e2 ⊢
      cases e2
      exact fin _ _ _ _ sF1 O1 (E.m s1.f0 hE')
    | true =>
      rw [if_pos rfl] at e2 ⊢
      obtain ⟨r1, e3, e4⟩ := ob_some e2
      refine ⟨fun σ2 H2 => ∃ F' L' γ', Same F F' ∧ Own F0 H0 F' H2 L' [] ∧ E.r σ2 F' L' γ' ∧ whileN fc mb m γ' = some r, fun σ2 H2 h => ⟨m, by omega, h⟩, ?_⟩
      refine hb.run O1 (E.m s1.f0 hE') e3 ?_
      cases r1 with
      | nxt γ2 => exact fun σ5 F5 H5 L5 s5 O5 hE5 => ⟨F5, L5, γ2, sF1.trans s5, O5, hE5, e4⟩
      | cnt γ2 => exact fun σ5 F5 H5 L5 s5 O5 hE5 => ⟨F5, L5, γ2, sF1.trans s5, O5, hE5, e4⟩
      | brk γ2 =>
        cases e4
        exact fun σ5 F5 H5 L5 s5 O5 hE5 => fin σ5 F5 H5 L5 (sF1.trans s5) O5 hE5
      | ret b =>
        cases e4
        exact s.mo fin sF1⟩
/-! ### defs -/
variable {s : Sl β}
/-- called with such arguments, it hands back what the mirror tells -/
def spM (A : Ar ρ) (s : Sl β) (m : ρ → Option β) : Sp := fun vs H Q _ => ∃ F γ b, Same F H ∧ A.r F vs γ ∧ m γ = some b ∧ ∀ v F' H' L, Step F H F' H' L → s.r v F' L b → Q v H'
theorem se_call {a : Ar α} {f : ρ → Option α} {m : α → Option β} {Ex : XK} (h : SA tA E a f) : SE (tCall (spM a s m) [] Ex tA) E s (fun γ => ob (f γ) m) := ⟨fun s0 hL he e k => by
  obtain ⟨x, e1, e⟩ := ob_some e
  rw [q_call]
  exact h s0 hL he e1 fun vs F1 H1 s1 r1 => ⟨F1, x, _, s1.fh, r1, e, fun v F' H' L s2 r2 => k v F' H' L (s1.tr s2) r2⟩⟩
/-- arguments and the names of a def at its start -/
structure AE (a : Ar ρ) (E : En ρ) (n : Nat) : Prop where
  run : ∀ {F : Hp} {vs : List V} {γ : ρ}, a.r F vs γ → E.r (vs.map some ++ List.replicate n none) F [] γ
theorem ae_0 : AE aN eN 0 := ⟨fun e => by
  have e : _ = [] := e
  subst e
  exact ⟨rfl, rfl⟩⟩
theorem ae_U {a : Ar Unit} {E : En Unit} {n : Nat} (ha : a = aN) (h : AE a E n) : AE a (eU E) (n + 1) := ⟨fun {F vs γ} e => by
  have h2 := h.run e
  subst ha
  have e2 : vs = [] := e
  subst e2
  exact ⟨none, List.replicate n none, rfl, h2⟩⟩
theorem ae_C {a : Ar ρ} {n : Nat} (h : AE a E n) : AE (aC A a) (eC (sF A) E) n := ⟨fun ⟨v, r, e, r1, r2⟩ => by
  subst e
  exact ⟨v, _, [], [], rfl, rfl, ⟨rfl, r1⟩, h.run r2⟩⟩
structure AN (a : Ar ρ) (n : Nat) : Prop where
  run : ∀ {F : Hp} {vs : List V} {γ : ρ}, a.r F vs γ → vs.length = n
theorem an_0 : AN aN 0 := ⟨fun e => by rw [show _ = [] from e]; rfl⟩
theorem an_C {a : Ar ρ} {n : Nat} (h : AN a n) : AN (aC A a) (n + 1) := ⟨fun ⟨v, r, e, r1, r2⟩ => by rw [e, List.length_cons, h.run r2]⟩
/-- what a def hands back -/
def fin (x : Option (Res ρ κ β)) : Option β := ob x fun r => match r with | .ret b => some b | _ => none
def finN (x : Option (Res ρ κ Unit)) : Option Unit := ob x fun r => match r with | .ret b => some b | .nxt _ => some () | _ => none
theorem fin_run {a : Ar ρ} {n k : Nat} {N : List Str} {m : ρ → Option (Res ρ' Unit β)} {mm : ρ → Option β} (hA : AE a E n) (hn : AN a k) (hN : N.length = k + n) (h : SS t E E' eN (rS s) m) (hm : mm = fun γ => fin (m γ)) {vs : List V} {H : Hp} {Q : VK} {Ex : XK} (q : spM a s mm vs H Q Ex) {D : Ends} (hD : D.rt = Q) : t D (L2.start N vs) H := by
  obtain ⟨F, γ, b, s0, r, e, k⟩ := q
  subst hm
  obtain ⟨r1, e1, e2⟩ := ob_some e
  have hl := hn.run r
  have hs : L2.start N vs = vs.map some ++ List.replicate n none := by
    unfold L2.start
    rw [show N.length - vs.length = n by omega]
  rw [hs]
  refine h.run (Own.start s0 trivial) (hA.run r) e1 ?_
  cases r1 with
  | ret b => cases e2; rw [← hD] at k; exact fun v F' H' L _ O r' => k v F' H' L O r'
  | nxt _ => cases e2
  | cnt _ => cases e2
  | brk _ => cases e2
theorem finN_run {a : Ar ρ} {n k : Nat} {N : List Str} {m : ρ → Option (Res ρ' Unit Unit)} {mm : ρ → Option Unit} (hA : AE a E n) (hn : AN a k) (hN : N.length = k + n) (h : SS t E E' eN (rS (sF jN)) m) (hm : mm = fun γ => finN (m γ)) {vs : List V} {H : Hp} {Q : VK} {Ex : XK} (q : spM a (sF jN) mm vs H Q Ex) {D : Ends} (hD : D.rt = Q) (hD2 : D.nx = fun _ H' => Q .non H') : t D (L2.start N vs) H := by
  obtain ⟨F, γ, b, s0, r, e, k⟩ := q
  subst hm
  obtain ⟨r1, e1, e2⟩ := ob_some e
  have hl := hn.run r
  have hs : L2.start N vs = vs.map some ++ List.replicate n none := by
    unfold L2.start
    rw [show N.length - vs.length = n by omega]
  rw [hs]
  refine h.run (Own.start s0 trivial) (hA.run r) e1 ?_
  cases r1 with
  | ret b => cases e2; rw [← hD] at k; exact fun v F' H' L _ O r' => k v F' H' L O r'
  | nxt _ => exact fun σ F' H' L _ O r' => by rw [hD2]; exact k .non F' H' [] (OwnSb O (Sb.nil _)) ⟨rfl, rfl⟩
  | cnt _ => cases e2
  | brk _ => cases e2
theorem spM_len {a : Ar ρ} {m : ρ → Option β} {n : Nat} (h : AN a n) : ∀ vs H Q E, spM a s m vs H Q E → vs.length = n := fun _ _ _ _ ⟨_, _, _, _, r, _⟩ => h.run r
end
end Mi

namespace Mi
open PySem PySem.Spec PyProof.Rows L2 Fw
section
variable {ρ ρ' ρ'' α β δ ε κ : Type} {E : En ρ} {E' : En ρ'} {E1 : En ρ''} {Ec : En κ} {ta tb tc te : TE} {tA : TA} {A : Rp α} {B : Rp β} {D : Rp δ} {fa : ρ → Option α} {fb : ρ → Option β} {fc : ρ → Option δ} {K : PySem.W.Frag} {s : Sl β} {t u : TS}
/-! ### things read as they stand -/
structure SR (t : TE) (E : En ρ) (R : Rp α) (f : ρ → Option α) : Prop where
  run : ∀ {σ : L2.St} {F H : Hp} {L : List (Addr × HO)} {γ : ρ} {x : α} {Q : VK}, Same F H → Held H L → E.r σ F L γ → f γ = some x → (∀ v F' H', Step F H F' H' [] → R.r H' v x → Q v H') → t σ H Q
theorem sr_var {i : Nat} {R : Rp α} {g : ρ → List α} (hg : Gt E i (sO R) g) : SR (tVar i) E (jL R) (fun γ => some (g γ)) := ⟨fun s0 hL hE e k => by
  cases e
  obtain ⟨v, L1, h1, h2, p, vs, h3, h4, h5⟩ := hg hE
  subst h3 h4
  exact ⟨_, h1, k _ _ _ (Step.nil s0) ⟨p, vs, rfl, hL _ (h2 _ List.mem_cons_self), Paired.mono (fun _ _ q => R.m s0 q) h5⟩⟩⟩
theorem sr_of (h : SE ta E (sF A) fa) : SR ta E A fa := ⟨fun s0 hL hE e k => h s0 hL hE e fun v F' H' L1 s1 ⟨z, r⟩ => by
  subst z
  exact k _ _ _ s1 (A.m s1.fh r)⟩
theorem sb_var {i : Nat} {R : Rp α} {g : ρ → List α} (hg : Gt E i (sO R) g) : SB (tVar i) E R (fun γ => some (g γ)) := ⟨fun s0 hL hE e k => by
  cases e
  obtain ⟨v, L1, h1, h2, p, vs, h3, h4, h5⟩ := hg hE
  subst h3 h4
  exact ⟨_, h1, k _ _ _ _ (Step.nil s0) (hL _ (h2 _ List.mem_cons_self)) h5⟩⟩
/-- no heap in it -/
structure Scal (R : Rp α) : Prop where
  run : ∀ {F F' : Hp} {v : V} {x : α}, R.r F v x → R.r F' v x
theorem scI : Scal jI := ⟨fun h => h⟩
theorem scB : Scal jB := ⟨fun h => h⟩
theorem scS : Scal jS := ⟨fun h => h⟩
theorem scN : Scal jN := ⟨fun h => h⟩
theorem scO {R : Rp α} (h : Scal R) : Scal (jO R) := ⟨fun {_ _ _ x} q => by
  cases x with
  | none => exact q
  | some y => exact h.run q⟩
theorem Step.of {F H F' H' : Hp} (s0 : Same F H) (s : Step H H F' H' []) : Step F H F H' [] := (Step.nil s0).more s.hh
theorem Step.scal {F H F' H' : Hp} {L : List (Addr × HO)} (s0 : Same F H) (s : Step H H F' H' L) : Step F H F H' [] := (Step.nil s0).more s.hh
theorem se_opR {r : R2} {g : α → β → Option δ} (ha : SR ta E A fa) (hb : SR tb E B fb) (hs : S2 r A B (sF D) g) (hd : Scal D) : SE (tOp r ta tb) E (sF D) (fun γ => ob (fa γ) fun x => ob (fb γ) fun y => g x y) := ⟨fun s0 hL hE e k => by
  obtain ⟨x, e1, e⟩ := ob_some e
  obtain ⟨y, e2, e⟩ := ob_some e
  refine ha.run s0 hL hE e1 fun v F1 H1 s1 r1 => ?_
  refine hb.run s1.fh (hL.mono s1.hh) (E.m s1.f0 hE) e2 fun u F2 H2 s2 r2 => ?_
  exact hs (Same.refl H2) (A.m s2.hh r1) r2 e fun z F3 H3 L3 s3 ⟨_, r3⟩ => k z F2 H3 [] ((s1.tr s2).tr (Step.scal s2.fh s3)) ⟨rfl, hd.run r3⟩⟩
structure SRA (t : TA) (E : En ρ) (A : Ar α) (f : ρ → Option α) : Prop where
  run : ∀ {σ : L2.St} {F H : Hp} {L : List (Addr × HO)} {γ : ρ} {x : α} {Q : List V → Hp → Prop}, Same F H → Held H L → E.r σ F L γ → f γ = some x → (∀ vs F' H', Step F H F' H' [] → A.r H' vs x → Q vs H') → t σ H Q
theorem sra_nil : SRA tNil E aN (fun _ => some ()) := ⟨fun s0 _ _ e k => k _ _ _ (Step.nil s0) rfl⟩
theorem sra_cons {tr : TA} {T : Ar β} {fr : ρ → Option β} (ha : SR ta E A fa) (hr : SRA tr E T fr) : SRA (tCons ta tr) E (aC A T) (fun γ => ob (fa γ) fun x => ob (fr γ) fun y => some (x, y)) := ⟨fun s0 hL hE e k => by
  obtain ⟨x, e1, e⟩ := ob_some e
  obtain ⟨y, e2, e⟩ := ob_some e
  cases e
  refine ha.run s0 hL hE e1 fun v F1 H1 s1 r1 => ?_
  exact hr.run s1.fh (hL.mono s1.hh) (E.m s1.f0 hE) e2 fun vs F2 H2 s2 r2 => k _ _ _ (s1.tr s2) ⟨v, vs, rfl, A.m s2.hh r1, r2⟩⟩
theorem se_cbR {r : List V → Hp → VK → Prop} {a : Ar α} {g : α → Option δ} {f : ρ → Option α} (h : SRA tA E a f) (hs : SC r a (sF D) g) (hd : Scal D) : SE (tCB r tA) E (sF D) (fun γ => ob (f γ) g) := ⟨fun s0 hL he e k => by
  obtain ⟨x, e1, e⟩ := ob_some e
  refine h.run s0 hL he e1 fun vs F1 H1 s1 r1 => ?_
  exact hs.run (Same.refl H1) r1 e fun z F5 H5 L5 s5 ⟨_, r5⟩ => k z F1 H5 [] (s1.tr (Step.scal s1.fh s5)) ⟨rfl, hd.run r5⟩⟩
theorem se_callR {a : Ar α} {f : ρ → Option α} {m : α → Option δ} {Ex : XK} (h : SRA tA E a f) (hd : Scal D) : SE (tCall (spM a (sF D) m) [] Ex tA) E (sF D) (fun γ => ob (f γ) m) := ⟨fun s0 hL he e k => by
  obtain ⟨x, e1, e⟩ := ob_some e
  rw [q_call]
  exact h.run s0 hL he e1 fun vs F1 H1 s1 r1 => ⟨H1, x, _, Same.refl _, r1, e, fun v F' H' L s2 ⟨_, r2⟩ => k v F1 H' [] (s1.tr (Step.scal s1.fh s2)) ⟨rfl, hd.run r2⟩⟩⟩
/-- an own list's item -/
theorem se_ixB {fa : ρ → Option (List α)} {fi : ρ → Option Int} (ha : SB ta E A fa) (hb : SE tb E (sF jI) fi) : SE (tOp (rIxL K) ta tb) E (sF A) (fun γ => ob (fa γ) fun x => ob (fi γ) fun y => pat x y) := ⟨fun s0 hL hE e k => by
  obtain ⟨x, e1, e⟩ := ob_some e
  obtain ⟨y, e2, e⟩ := ob_some e
  refine ha s0 hL hE e1 fun a vs F1 H1 s1 h1 p => ?_
  refine hb s1.fh (hL.mono s1.hh) (E.m s1.f0 hE) e2 fun u F2 H2 L2 s2 ⟨z2, r2⟩ => ?_
  subst z2
  obtain ⟨v, h2, h3⟩ := pat_paired p e
  exact ⟨a, vs, y, v, rfl, r2, .inl (.inl (s2.hh _ _ h1)), h2, k _ _ _ [] (s1.tr s2) ⟨rfl, A.m s2.f0 h3⟩⟩⟩
/-! truth of a list -/
theorem st_truR {fa : ρ → Option (List α)} (ha : SR ta E (jL A) fa) : ST (fun σ H Q => ta σ H fun x H' => ∃ k, TruV K x H' k ∧ Q k H') E (fun γ => ob (fa γ) fun x => some (!x.isEmpty)) := ⟨fun s0 hL hE e k => by
  obtain ⟨x, e1, e⟩ := ob_some e
  cases e
  refine ha.run s0 hL hE e1 fun v F1 H1 s1 ⟨a, vs, r1, r2, p⟩ => ?_
  subst r1
  refine ⟨_, .inl ⟨vs, .inl (.inl r2), rfl⟩, ?_⟩
  have : vs.isEmpty = x.isEmpty := by
    have := Paired.len p
    cases vs <;> cases x <;> first | rfl | cases this
  rw [this]
  exact k _ _ s1⟩
/-! ### equality of data -/
structure Eqr (R : Rp α) (n : Nat) (dt : α → PyData) [DecidableEq α] : Prop where
  dp : ∀ {K : PySem.W.Frag} {F : Hp} {v : V} {x : α}, R.r F v x → Dp K F v (dt x)
  sh : ∀ {F : Hp} {v : V} {x : α}, R.r F v x → PyData.canLay0 (dt x) = true
  dep : ∀ x, (dt x).depth ≤ n
  eq : ∀ x y, PyData.eqv (dt x) (dt y) = decide (x = y)
theorem qI : Eqr jI 0 PyData.int := ⟨fun {_ _ v x} h => by rw [show v = .int x from h]; exact .int x, fun _ => rfl, fun _ => Nat.le_refl _, fun x y => by
  show (x == y) = _
  rw [Bool.eq_iff_iff, beq_iff_eq, decide_eq_true_iff]⟩
theorem qB : Eqr jB 0 PyData.bool := ⟨fun {_ _ v x} h => by rw [show v = .bl x from h]; exact .bl x, fun _ => rfl, fun _ => Nat.le_refl _, fun x y => by
  show (x == y) = _
  rw [Bool.eq_iff_iff, beq_iff_eq, decide_eq_true_iff]⟩
theorem qS : Eqr jS 0 (fun l => PyData.str (S l)) := ⟨fun {_ _ v x} h => by rw [show v = vS x from h.1]; exact .str _, fun {_ _ x} h => by
  show PyData.strOk (S x) = true
  unfold PyData.strOk
  rw [Array.all_eq_true']
  intro c hc
  exact decide_eq_true (h.2 c (by simpa [S] using hc)), fun _ => Nat.le_refl _, fun x y => by
  show (S x == S y) = _
  rw [Bool.eq_iff_iff, beq_iff_eq, decide_eq_true_iff]
  exact S_inj⟩
theorem qN : Eqr jN 0 (fun _ => PyData.none) := ⟨fun {_ _ v x} h => by rw [show v = .non from h]; exact .non, fun _ => rfl, fun _ => Nat.le_refl _, fun x y => by
  show true = _
  rw [Bool.eq_iff_iff, decide_eq_true_iff]
  exact ⟨fun _ => rfl, fun _ => rfl⟩⟩
section
variable [DecidableEq α] [DecidableEq ρ'] {n m : Nat} {dt : α → PyData} {R : Rp α}
theorem q_all (h : Eqr R n dt) : ∀ xs ys : List α, PyData.eqvAll (xs.map dt) (ys.map dt) = decide (xs = ys)
  | [], [] => rfl
  | [], y :: ys => rfl
  | x :: xs, [] => rfl
  | x :: xs, y :: ys => by
    show (PyData.eqv (dt x) (dt y) && PyData.eqvAll (xs.map dt) (ys.map dt)) = _
    rw [h.eq, q_all h xs ys]
    rw [Bool.eq_iff_iff, Bool.and_eq_true, decide_eq_true_iff, decide_eq_true_iff, decide_eq_true_iff, List.cons.injEq]
theorem q_can (h : Eqr R n dt) {F : Hp} : ∀ {vs : List V} {xs : List α}, Paired (R.r F) vs xs → PyData.canLayAll0 (xs.map dt) = true
  | _, _, .nil => rfl
  | _, x :: xs, .cons r t => by
    show (PyData.canLay0 (dt x) && PyData.canLayAll0 (xs.map dt)) = true
    rw [h.sh r, q_can h t]
    rfl
theorem q_dep (h : Eqr R n dt) : ∀ xs : List α, PyData.depthAll (xs.map dt) ≤ n
  | [] => Nat.zero_le _
  | x :: xs => by
    show max (dt x).depth (PyData.depthAll (xs.map dt)) ≤ n
    have := h.dep x
    have := q_dep h xs
    omega
theorem q_dps (h : Eqr R n dt) {K : PySem.W.Frag} {F : Hp} : ∀ {vs : List V} {xs : List α}, Paired (R.r F) vs xs → DpAll K F vs (xs.map dt)
  | _, _, .nil => .nil
  | _, _, .cons r t => .cons (h.dp r) (q_dps h t)
theorem qL (h : Eqr R n dt) : Eqr (jL R) (n + 1) (fun xs => PyData.list (xs.map dt)) := ⟨fun ⟨a, vs, e, h1, p⟩ => by
  rw [e]
  exact .lst (.inl (.inl h1)) (q_dps h p), fun ⟨_, _, _, _, p⟩ => q_can h p, fun xs => by
    show PyData.depthAll (xs.map dt) + 1 ≤ n + 1
    have := q_dep h xs
    omega, q_all h⟩
structure EqT (T : Tp ρ') (n : Nat) (dt : ρ' → List PyData) : Prop where
  dp : ∀ {K : PySem.W.Frag} {F : Hp} {vs : List V} {x : ρ'}, T.r F vs x → DpAll K F vs (dt x)
  sh : ∀ {F : Hp} {vs : List V} {x : ρ'}, T.r F vs x → PyData.canLayAll0 (dt x) = true
  dep : ∀ x, PyData.depthAll (dt x) ≤ n
  eq : ∀ x y, PyData.eqvAll (dt x) (dt y) = decide (x = y)
theorem q1 (h : Eqr R n dt) : EqT (y1 R) n (fun x => [dt x]) := ⟨fun ⟨v, e, r⟩ => by rw [e]; exact .cons (h.dp r) .nil, fun {_ _ x} ⟨v, e, r⟩ => by
  show (PyData.canLay0 (dt x) && true) = true
  rw [h.sh r]; rfl, fun x => by
  show max (dt x).depth 0 ≤ n
  have := h.dep x
  omega, fun x y => by
  show (PyData.eqv (dt x) (dt y) && true) = _
  rw [h.eq, Bool.and_true]⟩
theorem qC {T : Tp ρ'} {dts : ρ' → List PyData} (h : Eqr R n dt) (ht : EqT T m dts) : EqT (yC R T) (max n m) (fun x => dt x.1 :: dts x.2) := ⟨fun ⟨v, r, e, r1, r2⟩ => by rw [e]; exact .cons (h.dp r1) (ht.dp r2), fun {_ _ x} ⟨v, r, e, r1, r2⟩ => by
  show (PyData.canLay0 (dt x.1) && PyData.canLayAll0 (dts x.2)) = true
  rw [h.sh r1, ht.sh r2]; rfl, fun x => by
  show max (dt x.1).depth (PyData.depthAll (dts x.2)) ≤ max n m
  have := h.dep x.1
  have := ht.dep x.2
  omega, fun x y => by
  show (PyData.eqv (dt x.1) (dt y.1) && PyData.eqvAll (dts x.2) (dts y.2)) = _
  rw [h.eq, ht.eq, Bool.eq_iff_iff, Bool.and_eq_true, decide_eq_true_iff, decide_eq_true_iff, decide_eq_true_iff]
  exact ⟨fun ⟨a, b⟩ => Prod.ext a b, fun a => by rw [a]; exact ⟨rfl, rfl⟩⟩⟩
theorem qT {T : Tp ρ'} {dts : ρ' → List PyData} (ht : EqT T m dts) : Eqr (jT T) (m + 1) (fun x => PyData.tuple (dts x)) := ⟨fun ⟨a, vs, e, h1, p⟩ => by
  rw [e]
  exact .tup (.inl (.inl h1)) (ht.dp p), fun ⟨_, _, _, _, p⟩ => ht.sh p, fun x => by
    show PyData.depthAll (dts x) + 1 ≤ m + 1
    have := ht.dep x
    omega, ht.eq⟩
/-- none against data that is no none -/
structure NoN (R : Rp α) (n : Nat) (dt : α → PyData) [DecidableEq α] : Prop extends Eqr R n dt where
  nn : ∀ x, PyData.eqv PyData.none (dt x) = false ∧ PyData.eqv (dt x) PyData.none = false
theorem qO (h : NoN R n dt) : Eqr (jO R) n (fun x => match x with | none => PyData.none | some y => dt y) := ⟨fun {_ _ _ x} r => by
  cases x with
  | none => rw [show _ = V.non from r]; exact .non
  | some y => exact h.dp r, fun {_ _ x} r => by
    cases x with
    | none => rfl
    | some y => exact h.sh r, fun x => by
    cases x with
    | none => exact Nat.zero_le _
    | some y => exact h.dep y, fun x y => by
    cases x with
    | none => cases y with
      | none => rfl
      | some y => rw [show decide (none = some y) = false from rfl]; exact (h.nn y).1
    | some x => cases y with
      | none => rw [show decide (some x = none) = false from rfl]; exact (h.nn x).2
      | some y =>
        show PyData.eqv (dt x) (dt y) = _
        rw [h.eq, Bool.eq_iff_iff, decide_eq_true_iff, decide_eq_true_iff, Option.some.injEq]⟩
theorem nnI : NoN jI 0 PyData.int := ⟨qI, fun _ => ⟨rfl, rfl⟩⟩
theorem nnT {T : Tp ρ'} {dts : ρ' → List PyData} (ht : EqT T m dts) : NoN (jT T) (m + 1) (fun x => PyData.tuple (dts x)) := ⟨qT ht, fun _ => ⟨rfl, rfl⟩⟩
theorem shp (h : Eqr R n dt) (hn : n ≤ 64) {F : Hp} {v : V} {x : α} (r : R.r F v x) : SeqAt.shaped (dt x) = true := by
  unfold SeqAt.shaped
  refine Bool.and_eq_true_iff.mpr ⟨h.sh r, decide_eq_true ?_⟩
  have := h.dep x
  omega
theorem s2_eqD (h : Eqr R n dt) (hn : n ≤ 64 := by decide) : S2 (rEqD K) R R (sF jB) (fun x y => some (decide (x = y))) := ⟨fun s0 r1 r2 e k => by
  cases e
  exact ⟨_, _, Dp.mono s0 _ _ (h.dp r1), Dp.mono s0 _ _ (h.dp r2), shp h hn r1, shp h hn r2, by rw [h.eq]; exact k _ _ _ [] (Step.nil s0) ⟨rfl, rfl⟩⟩⟩
theorem s2_neD (h : Eqr R n dt) (hn : n ≤ 64 := by decide) : S2 (rNeD K) R R (sF jB) (fun x y => some (!decide (x = y))) := ⟨fun s0 r1 r2 e k => by
  cases e
  exact ⟨_, _, Dp.mono s0 _ _ (h.dp r1), Dp.mono s0 _ _ (h.dp r2), shp h hn r1, shp h hn r2, by rw [h.eq]; exact k _ _ _ [] (Step.nil s0) ⟨rfl, rfl⟩⟩⟩
theorem any_dec (h : Eqr R n dt) (x : α) : ∀ ys : List α, ((ys.map dt).any fun z => PyData.eqv z (dt x)) = decide (x ∈ ys)
  | [] => rfl
  | y :: ys => by
    rw [List.map_cons, List.any_cons, any_dec h x ys, h.eq, Bool.eq_iff_iff, Bool.or_eq_true, decide_eq_true_iff, decide_eq_true_iff, decide_eq_true_iff, List.mem_cons]
    exact ⟨fun q => q.elim (fun a => .inl a.symm) .inr, fun q => q.elim (fun a => .inl a.symm) .inr⟩
theorem s2_inD (h : Eqr R n dt) (hn : n ≤ 63 := by decide) : S2 (rInD K) R (jL R) (sF jB) (fun x ys => some (decide (x ∈ ys))) := ⟨fun s0 r1 r2 e k => by
  cases e
  exact ⟨_, _, Dp.mono s0 _ _ (h.dp r1), Dp.mono s0 _ _ ((qL h).dp r2), shp h (by omega) r1, shp (qL h) (by omega) r2, by rw [any_dec h]; exact k _ _ _ [] (Step.nil s0) ⟨rfl, rfl⟩⟩⟩
theorem s2_notInD (h : Eqr R n dt) (hn : n ≤ 63 := by decide) : S2 (rNotInD K) R (jL R) (sF jB) (fun x ys => some (!decide (x ∈ ys))) := ⟨fun s0 r1 r2 e k => by
  cases e
  exact ⟨_, _, Dp.mono s0 _ _ (h.dp r1), Dp.mono s0 _ _ ((qL h).dp r2), shp h (by omega) r1, shp (qL h) (by omega) r2, by rw [any_dec h]; exact k _ _ _ [] (Step.nil s0) ⟨rfl, rfl⟩⟩⟩
end
/-! none -/
/-- never none -/
structure NN (R : Rp α) : Prop where
  run : ∀ {F : Hp} {v : V} {x : α}, R.r F v x → v ≠ .non
theorem oI : NN jI := ⟨fun h e => by rw [show _ = V.int _ from h] at e; cases e⟩
theorem oS : NN jS := ⟨fun h e => by rw [show _ = V.str _ from h.1] at e; cases e⟩
theorem oT {T : Tp α} : NN (jT T) := ⟨fun ⟨_, _, h, _⟩ e => by rw [h] at e; cases e⟩
theorem oL : NN (jL A) := ⟨fun ⟨_, _, h, _⟩ e => by rw [h] at e; cases e⟩
theorem s2_isN (h : NN A) : S2 rIsN (jO A) jN (sF jB) (fun x _ => some x.isNone) := ⟨fun {_ _ v _ x _ _ _} s0 r1 r2 e k => by
  cases e
  refine ⟨r2, ?_⟩
  have : decide (v = V.non) = x.isNone := by
    cases x with
    | none => exact decide_eq_true r1
    | some y => exact decide_eq_false (h.run r1)
  rw [this]
  exact k _ _ _ [] (Step.nil s0) ⟨rfl, rfl⟩⟩
theorem s2_notN (h : NN A) : S2 rNotN (jO A) jN (sF jB) (fun x _ => some x.isSome) := ⟨fun {_ _ v _ x _ _ _} s0 r1 r2 e k => by
  cases e
  refine ⟨r2, ?_⟩
  have : (!decide (v = V.non)) = x.isSome := by
    cases x with
    | none => rw [show v = V.non from r1]; rfl
    | some y => rw [decide_eq_false (h.run r1)]; rfl
  rw [this]
  exact k _ _ _ [] (Step.nil s0) ⟨rfl, rfl⟩⟩
/-! numbers -/
abbrev PShl (i j : Int) : Prop := 0 ≤ j ∧ (Builtin.Int.intBits i : Int) + j ≤ 134217728
theorem s2_shl : S2 (rI CShl fun i j => .int (i * 2 ^ j.toNat)) jI jI (sF jI) (fun x y => pck (PShl x y) (x * 2 ^ y.toNat)) := s2_I (P := PShl) (f := fun i j => i * 2 ^ j.toNat) fun _ _ h => h
/-- the text of a number -/
def pstr (i : Int) : Option (List Nat) := pck (0 ≤ i ∧ i < 100000000000000000000) (TL.numL i.toNat)
theorem sc_strN : SC rStr (aC jI aN) (sF jS) (fun x => pstr x.1) := ⟨fun {_ _ _ a _ _} s0 ⟨v, r, e1, r1, e2⟩ e k => by
  subst e1 e2
  unfold pstr at e
  obtain ⟨p, rfl⟩ := pck_some e
  have : v = V.int ((a.1.toNat : Nat) : Int) := by rw [show v = .int a.1 from r1, Int.toNat_of_nonneg p.1]
  subst this
  exact w_strN (k _ _ _ [] (Step.nil s0) ⟨rfl, rfl, fun c hc => by have := TL.numL_digits _ c hc; omega⟩) (by omega)⟩
/-- xs.index(y), numbers -/
def plidx (xs : List Int) (y : Int) : Option Int := pck (y ∈ xs) (xs.idxOf y : Int)
theorem flat_ints (ys : List Int) : (ys.map V.int).all flatV = true := by
  induction ys with
  | nil => rfl
  | cons y ys ih => exact ih
theorem s2_lidx : S2 (fun x y => rIndex K x [y]) (jL jI) jI (sF jI) (fun x y => plidx x y) := ⟨fun {_ _ _ _ xs y _ _} s0 ⟨a, vs, e1, h, p⟩ r2 e k => by
  unfold plidx at e
  obtain ⟨hm, rfl⟩ := pck_some e
  have ev := ints_of p
  subst e1 ev
  have hlt : xs.idxOf y < xs.length := List.idxOf_lt_length_of_mem hm
  refine ⟨a, xs.map V.int, .int y, xs.idxOf y, .int y, rfl, by rw [show _ = V.int y from r2], .inl (.inl (s0 _ _ h)), rfl, flat_ints _, ?_, ?_, fun m z' hm' hz => ?_, k _ _ _ [] (Step.nil s0) ⟨rfl, rfl⟩⟩
  · rw [List.getElem?_map, List.getElem?_eq_getElem hlt, List.getElem_idxOf hlt]
    rfl
  · show (decide (y = y)) = true
    exact decide_eq_true rfl
  · rw [List.getElem?_map] at hz
    cases hx : xs[m]? with
    | none => rw [hx] at hz; cases hz
    | some w =>
      rw [hx] at hz
      cases hz
      show decide (w = y) = false
      have := List.not_of_lt_findIdx (p := (· == y)) (xs := xs) (i := m) hm'
      obtain ⟨hl, hg⟩ := List.getElem?_eq_some_iff.mp hx
      simp only [hg] at this
      exact decide_eq_false fun z => by rw [z, beq_self_eq_true] at this; cases this⟩
/-- a list's method with one argument, by value -/
theorem se_bm {T : String} {r : V → List V → Hp → VK → Prop} {g : α → β → Option δ} {s : Sl δ} (ha : SE ta E (sF A) fa) (hb : SE tb E (sF B) fb) (hs : S2 (fun x y => r x [y]) A B s g) (ht : ∀ {F H v x}, Same F H → A.r F v x → tyV K T v H) : SE (tBM K T r ta (tCons tb tNil)) E s (fun γ => ob (fa γ) fun x => ob (fb γ) fun y => g x y) := ⟨fun s0 hL he e k => by
  obtain ⟨x, e1, e⟩ := ob_some e
  obtain ⟨y, e2, e⟩ := ob_some e
  refine ha s0 hL he e1 fun v F1 H1 L1 s1 ⟨z1, r1⟩ => ?_
  subst z1
  refine ⟨ht s1.fh r1, ?_⟩
  refine hb s1.fh (hL.mono s1.hh) (E.m s1.f0 he) e2 fun u F2 H2 L2 s2 ⟨z2, r2⟩ => ?_
  subst z2
  exact hs s2.fh (A.m s2.f0 r1) r2 e fun z F3 H3 L3 s3 r3 => k z F3 H3 L3 (s1.tr (s2.tr s3)) r3⟩
theorem tyV_L {F H : Hp} {v : V} {x : List α} (s0 : Same F H) (h : (jL A).r F v x) : tyV K "list" v H := by
  obtain ⟨a, vs, e, h, _⟩ := h
  rw [e]
  exact .inl ⟨rfl, vs, .inl (.inl (s0 _ _ h))⟩
theorem se_lidx {fa : ρ → Option (List Int)} {fb : ρ → Option Int} (ha : SE ta E (sF (jL jI)) fa) (hb : SE tb E (sF jI) fb) : SE (tBM K "list" (rIndex K) ta (tCons tb tNil)) E (sF jI) (fun γ => ob (fa γ) fun x => ob (fb γ) fun y => plidx x y) := se_bm ha hb s2_lidx tyV_L
theorem s2_lcount : S2 (fun x y => rCntI K x [y]) (jL jI) jI (sF jI) (fun x y => some ((x.count y : Nat) : Int)) := ⟨fun {_ _ _ _ xs y _ _} s0 ⟨a, vs, e1, h, p⟩ r2 e k => by
  cases e
  have ev := ints_of p
  subst e1 ev
  exact ⟨a, xs, y, rfl, by rw [show _ = V.int y from r2], .inl (.inl (s0 _ _ h)), k _ _ _ [] (Step.nil s0) ⟨rfl, rfl⟩⟩⟩
theorem se_lcount {fa : ρ → Option (List Int)} {fb : ρ → Option Int} (ha : SE ta E (sF (jL jI)) fa) (hb : SE tb E (sF jI) fb) : SE (tBM K "list" (rCntI K) ta (tCons tb tNil)) E (sF jI) (fun γ => ob (fa γ) fun x => ob (fb γ) fun y => some ((x.count y : Nat) : Int)) := se_bm ha hb s2_lcount tyV_L
end
end Mi

namespace Mi
open PySem PySem.Spec PyProof.Rows L2 Fw
/-! ### own rows behind a list that stays -/
def rowsL : List Addr → List (List V) → List (Addr × HO)
  | p :: ps, r :: rs => (p, .lst r) :: rowsL ps rs
  | _, _ => []
theorem rowsL_len : ∀ {ps : List Addr} {rs : List (List V)}, ps.length = rs.length → (rowsL ps rs).length = rs.length
  | [], [], _ => rfl
  | p :: ps, r :: rs, h => by
    show (rowsL ps rs).length + 1 = rs.length + 1
    rw [rowsL_len (Nat.succ.inj h)]
  | [], _ :: _, h => nomatch h
  | _ :: _, [], h => nomatch h
theorem rowsL_get : ∀ {ps : List Addr} {rs : List (List V)} {k : Nat} {p : Addr} {r : List V}, ps[k]? = some p → rs[k]? = some r → (rowsL ps rs)[k]? = some (p, .lst r)
  | p :: ps, r :: rs, 0, _, _, h1, h2 => by
    have e1 := Option.some.inj h1
    have e2 := Option.some.inj h2
    rw [← e1, ← e2]
    rfl
  | p :: ps, r :: rs, k + 1, _, _, h1, h2 => rowsL_get (k := k) h1 h2
  | [], _, _, _, _, h1, _ => by simp at h1
  | _ :: _, [], _, _, _, _, h2 => by simp at h2
theorem rowsL_set : ∀ {ps : List Addr} {rs : List (List V)} {k : Nat} {p : Addr} {r : List V}, ps[k]? = some p → (rowsL ps rs).set k (p, .lst r) = rowsL ps (rs.set k r)
  | p :: ps, r :: rs, 0, _, _, h1 => by
    have e1 := Option.some.inj h1
    rw [← e1]
    rfl
  | p :: ps, r :: rs, k + 1, _, r', h1 => by
    show _ :: (rowsL ps rs).set k _ = _ :: rowsL ps (rs.set k r')
    rw [rowsL_set (k := k) h1]
  | [], _, _, _, _, h1 => by simp at h1
  | _ :: _, [], _, _, _, _ => rfl
def sG {α : Type} (R : Rp α) : Sl (List (List α)) := ⟨fun v F L xss => ∃ (p : Addr) (ps : List Addr) (rows : List (List V)), v = .ref p ∧ F p = some (.lst (ps.map V.ref)) ∧ ps.length = rows.length ∧ L = rowsL ps rows ∧ Paired (Paired (R.r F)) rows xss,
  fun s ⟨p, ps, rows, h1, h2, h3, h4, h5⟩ => ⟨p, ps, rows, h1, s _ _ h2, h3, h4, Paired.mono (fun _ _ q => Paired.mono (fun _ _ q => R.m s q) q) h5⟩⟩
section
variable {ρ ρ' ρ'' α β δ ε κ : Type} {E : En ρ} {E' : En ρ'} {E1 : En ρ''} {Ec : En κ} {ta tb tc te ti tj : TE} {tA : TA} {R : Rp α} {B : Rp β} {D : Rp δ} {K : PySem.W.Frag} {s : RRt β} {s' : Sl δ} {t u : TS}
/-- xss[i][j] -/
def pcell {τ : Type} (xss : List (List τ)) (i j : Int) : Option τ := ob (pat xss i) fun xs => pat xs j
/-- xss with the cell set -/
def pcset {τ : Type} (xss : List (List τ)) (i j : Int) (x : τ) : Option (List (List τ)) := ob (pat xss i) fun xs => ob (pset xs j x) fun ys => pset xss i ys
theorem pat_ix {τ : Type} {xs : List τ} {i : Int} {x : τ} (h : pat xs i = some x) : ∃ k, ixN xs.length i = some k ∧ xs[k]? = some x := by
  unfold pat atI at h
  cases hj : ixN xs.length i with
  | none => rw [hj] at h; cases h
  | some j => rw [hj] at h; exact ⟨j, rfl, h⟩
theorem paired_left {A : α → β → Prop} : ∀ {xs : List α} {ys : List β} {i : Nat} {x : α}, Paired A xs ys → xs[i]? = some x → ∃ y, ys[i]? = some y ∧ A x y
  | _, _, _, _, .nil, e => by simp at e
  | _, _, 0, _, .cons r _, e => by
    have e2 := Option.some.inj e
    rw [← e2]
    exact ⟨_, rfl, r⟩
  | _, _, i + 1, _, .cons _ t, e => paired_left (i := i) t e
theorem row_at {F H : Hp} {ps : List Addr} {rows : List (List V)} {xss : List (List α)} {i : Int} {xs : List α} (hl : ps.length = rows.length) (hp : Paired (Paired (R.r F)) rows xss) (h : pat xss i = some xs) :
    ∃ k q row, ixN xss.length i = some k ∧ ps[k]? = some q ∧ rows[k]? = some row ∧ atI (ps.map V.ref) i = some (.ref q) ∧ Paired (R.r F) row xs := by
  obtain ⟨k, h1, h2⟩ := pat_ix h
  obtain ⟨row, h3, h4⟩ := Paired.at hp h2
  have hk : k < ps.length := by
    have := (List.getElem?_eq_some_iff.mp h3).1
    omega
  refine ⟨k, ps[k], row, h1, List.getElem?_eq_getElem hk, h3, ?_, h4⟩
  unfold atI
  rw [List.length_map, hl, Paired.len hp, h1]
  show (ps.map V.ref)[k]? = _
  rw [List.getElem?_map, List.getElem?_eq_getElem hk]
  rfl
theorem se_cell {i : Nat} {g : ρ → List (List α)} {fi fj : ρ → Option Int} (hg : Gt E i (sG R) g) (hi : SE ti E (sF jI) fi) (hj : SE tj E (sF jI) fj) : SE (tOp (rIxL K) (tOp (rIxL K) (tVar i) ti) tj) E (sF R) (fun γ => ob (fi γ) fun x => ob (fj γ) fun y => pcell (g γ) x y) := ⟨fun s0 hL hE e k => by
  obtain ⟨x, e1, e⟩ := ob_some e
  obtain ⟨y, e2, e⟩ := ob_some e
  obtain ⟨xs, e3, e4⟩ := ob_some e
  obtain ⟨v, L1, h1, h2, p, ps, rows, h3, h4, h5, h6, h7⟩ := hg hE
  subst h3 h6
  obtain ⟨kk, q, row, z1, z2, z3, z4, z5⟩ := row_at (H := (fun _ => none)) h5 h7 e3
  refine ⟨_, h1, ?_⟩
  refine hi s0 hL hE e1 fun w F1 H1 L1 s1 ⟨y1, r1⟩ => ?_
  subst y1
  refine ⟨p, ps.map V.ref, x, .ref q, rfl, r1, .inl (.inl (s1.fh _ _ (s1.f0 _ _ h4))), z4, ?_⟩
  refine hj s1.fh (hL.mono s1.hh) (E.m s1.f0 hE) e2 fun w2 F2 H2 L2 s2 ⟨y2, r2⟩ => ?_
  subst y2
  obtain ⟨c, c1, c2⟩ := pat_paired z5 e4
  have hq := hL _ (h2 _ (List.mem_of_getElem? (rowsL_get z2 z3)))
  exact ⟨q, row, y, c, rfl, r2, .inl (.inl (s2.hh _ _ (s1.hh _ _ hq))), c1, k _ _ _ [] (s1.tr s2) ⟨rfl, R.m (s1.f0.trans s2.f0) c2⟩⟩⟩
/-- own rows are changed -/
structure UpG (E : En ρ) (i : Nat) (R : Rp α) (g : ρ → List (List α)) (up : List (List α) → ρ → ρ) : Prop where
  run : ∀ {σ : L2.St} {F : Hp} {L : List (Addr × HO)} {γ : ρ}, E.r σ F L γ → ∃ (p : Addr) (ps : List Addr) (rows : List (List V)) (off : Nat), σ[i]? = some (some (.ref p)) ∧ F p = some (.lst (ps.map V.ref)) ∧ ps.length = rows.length ∧ Paired (Paired (R.r F)) rows (g γ) ∧
    (∀ (k : Nat) (q : Addr) (row : List V), ps[k]? = some q → rows[k]? = some row → L[off + k]? = some (q, .lst row)) ∧
    ∀ (F' : Hp) (k : Nat) (q : Addr) (row' : List V) (xs' : List α), Same F F' → ps[k]? = some q → Paired (R.r F') row' xs' → E.r σ F' (L.set (off + k) (q, .lst row')) (up ((g γ).set k xs') γ)
theorem v0 : UpG (eC (sG R) E) 0 R (fun γ => γ.1) (fun xs γ => (xs, γ.2)) := ⟨fun ⟨v', σ', La, L2, e1, e2, ⟨p, ps, rows, h1, h2, h3, h4, h5⟩, t⟩ => by
  subst e1 e2 h1 h4
  refine ⟨p, ps, rows, 0, rfl, h2, h3, h5, fun k q row a b => ?_, fun F' k q row' xs' sF a b => ?_⟩
  · rw [Nat.zero_add, List.getElem?_append_left (by rw [rowsL_len h3]; exact (List.getElem?_eq_some_iff.mp b).1)]
    exact rowsL_get a b
  · have hk : k < (rowsL ps rows).length := by rw [rowsL_len h3, ← h3]; exact (List.getElem?_eq_some_iff.mp a).1
    rw [Nat.zero_add, List.set_append_left _ _ hk, rowsL_set a]
    exact ⟨.ref p, σ', _, L2, rfl, rfl, ⟨p, ps, rows.set k row', rfl, sF _ _ h2, by rw [List.length_set, h3], rfl, Paired.upd b k (Paired.mono (fun _ _ q => Paired.mono (fun _ _ q => R.m sF q) q) h5)⟩, E.m sF t⟩⟩
theorem vU {i : Nat} {g : ρ → List (List α)} {up : List (List α) → ρ → ρ} (h : UpG E i R g up) : UpG (eU E) (i + 1) R g up := ⟨fun ⟨o, σ', e, t⟩ => by
  subst e
  obtain ⟨p, ps, rows, off, h1, h2, h3, h4, h5, h6⟩ := h.run t
  exact ⟨p, ps, rows, off, h1, h2, h3, h4, h5, fun F' k q row' xs' sF a b => ⟨o, σ', rfl, h6 F' k q row' xs' sF a b⟩⟩⟩
theorem vS {i : Nat} {g : ρ → List (List α)} {up : List (List α) → ρ → ρ} (h : UpG E i R g up) : UpG (eC s' E) (i + 1) R (fun γ => g γ.2) (fun xs γ => (γ.1, up xs γ.2)) := ⟨fun ⟨v', σ', La, L2, e1, e2, q0, t⟩ => by
  subst e1 e2
  obtain ⟨p, ps, rows, off, h1, h2, h3, h4, h5, h6⟩ := h.run t
  refine ⟨p, ps, rows, La.length + off, h1, h2, h3, h4, fun k q row a b => ?_, fun F' k q row' xs' sF a b => ?_⟩
  · rw [List.getElem?_append_right (by omega), show La.length + off + k - La.length = off + k by omega]
    exact h5 k q row a b
  · rw [List.set_append_right _ _ (by omega), show La.length + off + k - La.length = off + k by omega]
    exact ⟨v', σ', La, _, rfl, rfl, s'.m sF q0, h6 F' k q row' xs' sF a b⟩⟩
theorem ss_cell {i : Nat} {g : ρ → List (List α)} {up : List (List α) → ρ → ρ} {fe : ρ → Option α} {fi fj : ρ → Option Int} {m : ρ → Option (Res ρ' κ β)} (hu' : UpG E i R g up) (he : SE te E (sF R) fe) (hi : SE ti E (sF jI) fi) (hj : SE tj E (sF jI) fj) (hu : SS u E E' Ec s m) :
    SS (tSeq (tAsg te (gSub (tOp (rIxL K) (tVar i) ti) tj rSetL)) u) E E' Ec s (fun γ => ob (fe γ) fun y => ob (fi γ) fun a => ob (fj γ) fun b => ob (pcset (g γ) a b y) fun ys => m (up ys γ)) := ⟨fun O hE e fin => by
  obtain ⟨x, e1, e⟩ := ob_some e
  obtain ⟨a, e2, e⟩ := ob_some e
  obtain ⟨b, e3, e⟩ := ob_some e
  obtain ⟨yss, e4, e⟩ := ob_some e
  obtain ⟨xs, e5, e6⟩ := ob_some e4
  obtain ⟨ys, e7, e8⟩ := ob_some e6
  refine he O.fh (Held.of O) hE e1 fun v F1 H1 L1 s1 ⟨z1, r1⟩ => ?_
  subst z1
  have O1 := Own.on O s1
  rw [List.nil_append] at O1
  obtain ⟨p, ps, rows, off, h1, h2, h3, h4, h5, h6⟩ := hu'.run (E.m s1.f0 hE)
  obtain ⟨kk, q, row, y1, y2, y3, y4, y5⟩ := row_at (H := fun _ => none) h3 h4 e5
  refine ⟨_, h1, ?_⟩
  refine hi O1.fh (Held.of O1) (E.m s1.f0 hE) e2 fun w F2 H2 L2 s2 ⟨z2, r2⟩ => ?_
  subst z2
  have O2 := Own.on O1 s2
  rw [List.nil_append] at O2
  refine ⟨p, ps.map V.ref, a, .ref q, rfl, r2, .inl (.inl (O2.fh _ _ (s2.f0 _ _ h2))), y4, ?_⟩
  refine hj O2.fh (Held.of O2) (E.m (s1.f0.trans s2.f0) hE) e3 fun w2 F3 H3 L3 s3 ⟨z3, r3⟩ => ?_
  subst z3
  have O3 := Own.on O2 s3
  rw [List.nil_append] at O3
  unfold pset at e7 e8
  rw [y1] at e8
  cases e8
  cases hj : ixN xs.length b with
  | none => rw [hj] at e7; cases e7
  | some n =>
    rw [hj] at e7
    cases e7
    have s23 := s2.f0.trans s3.f0
    have g5 := h5 kk q row y2 y3
    refine ⟨q, row, b, n, rfl, r3, O3.at_ _ g5, by rw [Paired.len y5]; exact hj, ?_⟩
    exact hu.run (O3.set _ g5 _) (h6 F3 kk q _ _ s23 y2 (Paired.upd (R.m s23 r1) n (Paired.mono (fun _ _ q => R.m s23 q) y5))) e (fin.mo (s1.f0.trans s23))⟩
/-- the rows are frozen -/
theorem ice_rows {F0 H0 H : Hp} {Z : List (Addr × HO)} : ∀ {ps : List Addr} {rows : List (List V)} {F : Hp}, ps.length = rows.length → Own F0 H0 F H (rowsL ps rows ++ Z) [] → ∃ F', Same F F' ∧ Own F0 H0 F' H Z [] ∧ Paired (fun v r => ∃ q, v = V.ref q ∧ F' q = some (.lst r)) (ps.map V.ref) rows
  | [], [], F, _, O => ⟨F, Same.refl _, O, .nil⟩
  | p :: ps, r :: rs, F, h, O => by
    have O1 := (show Own F0 H0 F H ((p, HO.lst r) :: (rowsL ps rs ++ Z)) [] from O)
    have sF : Same F (upd F p (.lst r)) := fun b u e => by rw [upd_ne (ne_of_none e ((O1.own (p, .lst r) List.mem_cons_self)).1)]; exact e
    obtain ⟨F', s1, O2, h2⟩ := ice_rows (Nat.succ.inj h) (O1.freeze.chunks (C' := []) trivial)
    exact ⟨F', sF.trans s1, O2, .cons ⟨p, rfl, s1 _ _ upd_same⟩ h2⟩
  | [], _ :: _, _, h, _ => nomatch h
  | _ :: _, [], _, h, _ => nomatch h
theorem Paired.trans2 {A : α → β → Prop} {C : β → δ → Prop} {G : α → δ → Prop} (h : ∀ a b c, A a b → C b c → G a c) : ∀ {xs : List α} {ys : List β} {zs : List δ}, Paired A xs ys → Paired C ys zs → Paired G xs zs
  | _, _, _, .nil, .nil => .nil
  | _, _, _, .cons r t, .cons r' t' => .cons (h _ _ _ r r') (Paired.trans2 h t t')
theorem cG {c : ρ → ρ'} (h : Co E E' c) : Co (eC (sG R) E) (eC (sF (jL (jL R))) E') (fun γ => (γ.1, c γ.2)) := ⟨fun {_ _ _ F _ _ Z _} O ⟨v, σ', L1, L2, e1, e2, ⟨p, ps, rows, h1, h2, h3, h4, h5⟩, t⟩ => by
  subst e1 e2 h1 h4
  rw [List.append_assoc] at O
  obtain ⟨F1, s1, O1, q1⟩ := ice_rows h3 O
  obtain ⟨F', L', O', sF, t'⟩ := h O1 (E.m s1 t)
  have s2 := s1.trans sF
  refine ⟨F', L', O', s2, _, σ', [], L', rfl, rfl, ⟨rfl, p, ps.map V.ref, rfl, s2 _ _ h2, ?_⟩, t'⟩
  exact Paired.trans2 (fun a b c ⟨q, e, f⟩ g => ⟨q, b, e, sF _ _ f, Paired.mono (fun _ _ z => R.m s2 z) g⟩) q1 h5⟩
end
end Mi

namespace Mi
open PySem PyProof.Rows L2 Fw
/-! ### what a mirror tells -/
section
variable {α β δ ρ ρ' κ κ' : Type}
def W (x : Option α) (Q : α → Prop) : Prop := ∃ y, x = some y ∧ Q y
theorem W_some {y : α} {Q : α → Prop} : W (some y) Q = Q y := propext ⟨fun ⟨_, e, q⟩ => by cases e; exact q, fun q => ⟨y, rfl, q⟩⟩
theorem W_none {Q : α → Prop} : W none Q = False := propext ⟨fun ⟨_, e, _⟩ => (nomatch e), False.elim⟩
theorem W_ob {x : Option α} {f : α → Option β} {Q : β → Prop} : W (ob x f) Q = W x fun y => W (f y) Q := propext ⟨fun ⟨z, e, q⟩ => by
  obtain ⟨y, e1, e2⟩ := ob_some e
  exact ⟨y, e1, z, e2, q⟩, fun ⟨y, e1, z, e2, q⟩ => ⟨z, by rw [e1]; exact e2, q⟩⟩
theorem W_bind {x : Option α} {f : α → Option β} {Q : β → Prop} : W (Option.bind x f) Q = W x fun y => W (f y) Q := W_ob
theorem W_pck {P : Prop} [Decidable P] {y : α} {Q : α → Prop} : W (pck P y) Q = (P ∧ Q y) := propext ⟨fun ⟨_, e, q⟩ => by
  obtain ⟨p, rfl⟩ := pck_some e
  exact ⟨p, q⟩, fun ⟨p, q⟩ => ⟨y, pck_of p, q⟩⟩
/-- of a way's end -/
def Rw (Q : Res ρ κ β → Prop) (f : ρ' → Option (Res ρ κ β)) : Res ρ' κ β → Prop
  | .nxt γ => W (f γ) Q
  | .ret b => Q (.ret b)
  | .cnt γ => Q (.cnt γ)
  | .brk γ => Q (.brk γ)
theorem Rw_nxt {Q : Res ρ κ β → Prop} {f : ρ' → Option (Res ρ κ β)} {γ : ρ'} : Rw Q f (.nxt γ) = W (f γ) Q := rfl
theorem Rw_ret {Q : Res ρ κ β → Prop} {f : ρ' → Option (Res ρ κ β)} {b : β} : Rw Q f (.ret b) = Q (.ret b) := rfl
theorem Rw_cnt {Q : Res ρ κ β → Prop} {f : ρ' → Option (Res ρ κ β)} {b : κ} : Rw Q f (.cnt b) = Q (.cnt b) := rfl
theorem W_rb {x : Option (Res ρ' κ β)} {f : ρ' → Option (Res ρ κ β)} {Q : Res ρ κ β → Prop} : W (rb x f) Q = W x (Rw Q f) := by
  unfold rb
  rw [W_ob]
  congr 1
  funext r
  cases r with
  | nxt γ => rfl
  | ret b => exact W_some
  | cnt γ => exact W_some
  | brk γ => exact W_some
def Rf (Q : β → Prop) : Res ρ κ β → Prop
  | .ret b => Q b
  | _ => False
theorem Rf_ret {Q : β → Prop} {b : β} : Rf (ρ := ρ) (κ := κ) Q (.ret b) = Q b := rfl
theorem Rf_nxt {Q : β → Prop} {γ : ρ} : Rf (κ := κ) Q (.nxt γ) = False := rfl
theorem W_fin {x : Option (Res ρ κ β)} {Q : β → Prop} : W (Mi.fin x) Q = W x (Rf Q) := by
  unfold Mi.fin
  rw [W_ob]
  congr 1
  funext r
  cases r with
  | ret b => exact W_some
  | nxt γ => exact W_none
  | cnt γ => exact W_none
  | brk γ => exact W_none
def RfN (Q : Unit → Prop) : Res ρ κ Unit → Prop
  | .ret b => Q b
  | .nxt _ => Q ()
  | _ => False
theorem RfN_ret {Q : Unit → Prop} {b : Unit} : RfN (ρ := ρ) (κ := κ) Q (.ret b) = Q b := rfl
theorem RfN_nxt {Q : Unit → Prop} {γ : ρ} : RfN (κ := κ) Q (.nxt γ) = Q () := rfl
theorem W_finN {x : Option (Res ρ κ Unit)} {Q : Unit → Prop} : W (Mi.finN x) Q = W x (RfN Q) := by
  unfold Mi.finN
  rw [W_ob]
  congr 1
  funext r
  cases r with
  | ret b => exact W_some
  | nxt γ => exact W_some
  | cnt γ => exact W_none
  | brk γ => exact W_none
theorem W_T {x y : Option α} {Q : α → Prop} : W (if true = true then x else y) Q = W x Q := by rw [if_pos rfl]
theorem W_F {x y : Option α} {Q : α → Prop} : W (if false = true then x else y) Q = W y Q := by rw [if_neg Bool.false_ne_true]
theorem W_ifD {c : Prop} [Decidable c] {x y : Option α} {Q : α → Prop} (h1 : c → W x Q) (h2 : ¬ c → W y Q) : W (if decide c = true then x else y) Q := by
  by_cases h : c
  · rw [if_pos (decide_eq_true h)]; exact h1 h
  · rw [if_neg (by rw [decide_eq_false h]; decide)]; exact h2 h
theorem W_ifN {c : Prop} [Decidable c] {x y : Option α} {Q : α → Prop} (h1 : ¬ c → W x Q) (h2 : c → W y Q) : W (if (!decide c) = true then x else y) Q := by
  by_cases h : c
  · rw [if_neg (by rw [decide_eq_true h]; decide)]; exact h2 h
  · rw [if_pos (by rw [decide_eq_false h]; rfl)]; exact h1 h
theorem W_ifB {c : Bool} {x y : Option α} {Q : α → Prop} (h1 : c = true → W x Q) (h2 : c = false → W y Q) : W (if c = true then x else y) Q := by
  cases c with
  | true => rw [if_pos rfl]; exact h1 rfl
  | false => rw [if_neg Bool.false_ne_true]; exact h2 rfl
theorem W.mono {x : Option α} {Q Q' : α → Prop} (h : W x Q) (k : ∀ y, Q y → Q' y) : W x Q' := let ⟨y, e, q⟩ := h; ⟨y, e, k y q⟩
theorem W.and {x : Option α} {Q Q' : α → Prop} (h : W x Q) (k : W x Q') : W x fun y => Q y ∧ Q' y := by
  obtain ⟨y, e, q⟩ := h
  obtain ⟨y', e', q'⟩ := k
  rw [e] at e'
  cases e'
  exact ⟨y, e, q, q'⟩
theorem W.eq {x : Option α} {y : α} (h : W x fun z => z = y) : x = some y := let ⟨_, e, q⟩ := h; q ▸ e
theorem W_of {x : Option α} {y : α} {Q : α → Prop} (e : x = some y) (q : Q y) : W x Q := ⟨y, e, q⟩
theorem W_ret {x : Option β} {Q : Res ρ κ β → Prop} : W (ob x fun r => some (.ret r)) Q = W x fun r => Q (.ret r) := by
  rw [W_ob]
  simp only [W_some]
/-! loops -/
theorem W_for {step : α → ρ → Option (Res ρ ρ β)} {xs : List α} {γ : ρ} {Q : Res ρ κ β → Prop} (I : Nat → ρ → Prop) (h0 : I 0 γ)
    (hs : ∀ i x γ, xs[i]? = some x → I i γ → W (step x γ) fun r => match r with | .nxt γ' => I (i + 1) γ' | .cnt γ' => I (i + 1) γ' | .brk γ' => Q (.nxt γ') | .ret b => Q (.ret b))
    (hd : ∀ γ, I xs.length γ → Q (.nxt γ)) : W (forR step xs γ) Q := by
  have key : ∀ k i γ, xs.length - i = k → i ≤ xs.length → I i γ → W (forR (κ := κ) step (xs.drop i) γ) Q := by
    intro k
    induction k with
    | zero =>
      intro i γ hk hi h
      have : i = xs.length := by omega
      subst this
      rw [List.drop_length]
      exact ⟨_, rfl, hd γ h⟩
    | succ k ih =>
      intro i γ hk hi h
      have hlt : i < xs.length := by omega
      rw [List.drop_eq_getElem_cons hlt]
      obtain ⟨r, e, q⟩ := hs i _ γ (List.getElem?_eq_getElem hlt) h
      show W (ob (step xs[i] γ) _) Q
      rw [e]
      cases r with
      | nxt γ' => exact ih (i + 1) γ' (by omega) hlt q
      | cnt γ' => exact ih (i + 1) γ' (by omega) hlt q
      | brk γ' => exact ⟨_, rfl, q⟩
      | ret b => exact ⟨_, rfl, q⟩
  have := key xs.length 0 γ (by omega) (Nat.zero_le _) h0
  rwa [List.drop_zero] at this
theorem W_while {c : ρ → Option Bool} {step : ρ → Option (Res ρ ρ β)} {γ : ρ} {Q : Res ρ κ β → Prop} (I : Nat → ρ → Prop) (m : Nat) (h0 : I m γ)
    (hs : ∀ m γ, I m γ → W (c γ) fun b => if b = true then W (step γ) fun r => match r with | .nxt γ' => ∃ m', m' < m ∧ I m' γ' | .cnt γ' => ∃ m', m' < m ∧ I m' γ' | .brk γ' => Q (.nxt γ') | .ret b => Q (.ret b) else Q (.nxt γ)) : W (whileR c step γ) Q := by
  have key : ∀ m γ, I m γ → ∃ n r, whileN (κ := κ) c step n γ = some r ∧ Q r := by
    intro m
    induction m using Nat.strongRecOn with
    | ind m ih =>
      intro γ h
      obtain ⟨b, e, q⟩ := hs m γ h
      cases b with
      | false =>
        rw [if_neg Bool.false_ne_true] at q
        refine ⟨1, .nxt γ, ?_, q⟩
        rw [whileN, e]
        rfl
      | true =>
        rw [if_pos rfl] at q
        obtain ⟨r, e2, q2⟩ := q
        cases r with
        | nxt γ' =>
          obtain ⟨m', hm, h'⟩ := q2
          obtain ⟨n, r, e3, q3⟩ := ih m' hm γ' h'
          refine ⟨n + 1, r, ?_, q3⟩
          rw [whileN, e]
          show (ob (step γ) _) = _
          rw [e2]
          exact e3
        | cnt γ' =>
          obtain ⟨m', hm, h'⟩ := q2
          obtain ⟨n, r, e3, q3⟩ := ih m' hm γ' h'
          refine ⟨n + 1, r, ?_, q3⟩
          rw [whileN, e]
          show (ob (step γ) _) = _
          rw [e2]
          exact e3
        | brk γ' =>
          refine ⟨1, .nxt γ', ?_, q2⟩
          rw [whileN, e]
          show (ob (step γ) _) = _
          rw [e2]
          rfl
        | ret b =>
          refine ⟨1, .ret b, ?_, q2⟩
          rw [whileN, e]
          show (ob (step γ) _) = _
          rw [e2]
          rfl
  obtain ⟨n, r, e, q⟩ := key m γ h0
  exact ⟨r, whileR_of e, q⟩
/-! comprehensions -/
theorem W_lcM {f : α → Option β} {xs : List α} {Q : List β → Prop} (P : α → β → Prop) (h : ∀ x ∈ xs, W (f x) (P x)) (k : ∀ ys, Paired P xs ys → Q ys) : W (lcM f xs) Q := by
  have key : ∀ xs : List α, (∀ x ∈ xs, W (f x) (P x)) → ∃ ys, lcM f xs = some ys ∧ Paired P xs ys := by
    intro xs
    induction xs with
    | nil => intro _; exact ⟨[], rfl, .nil⟩
    | cons x xs ih =>
      intro h
      obtain ⟨y, e, q⟩ := h x List.mem_cons_self
      obtain ⟨ys, e2, q2⟩ := ih fun z hz => h z (List.mem_cons_of_mem _ hz)
      refine ⟨y :: ys, ?_, .cons q q2⟩
      show ob (f x) _ = _
      rw [e]
      show ob (lcM f xs) _ = _
      rw [e2]
      rfl
  obtain ⟨ys, e, q⟩ := key xs h
  exact ⟨ys, e, k ys q⟩
theorem lcM_map {f : α → Option β} {g : α → β} : ∀ {xs : List α}, (∀ x ∈ xs, f x = some (g x)) → lcM f xs = some (xs.map g)
  | [], _ => rfl
  | x :: xs, h => by
    show ob (f x) _ = _
    rw [h x List.mem_cons_self]
    show ob (lcM f xs) _ = _
    rw [lcM_map fun z hz => h z (List.mem_cons_of_mem _ hz)]
    rfl
theorem lcF_map {p : α → Option Bool} {q : α → Bool} {f : α → Option β} {g : α → β} : ∀ {xs : List α}, (∀ x ∈ xs, p x = some (q x)) → (∀ x ∈ xs, q x = true → f x = some (g x)) → lcF p f xs = some ((xs.filter q).map g)
  | [], _, _ => rfl
  | x :: xs, h, k => by
    show ob (p x) _ = _
    rw [h x List.mem_cons_self]
    have ih := lcF_map (xs := xs) (fun z hz => h z (List.mem_cons_of_mem _ hz)) (fun z hz => k z (List.mem_cons_of_mem _ hz))
    show (if q x = true then _ else _) = _
    cases hq : q x with
    | true =>
      rw [if_pos rfl, k x List.mem_cons_self hq, List.filter_cons_of_pos hq, List.map_cons]
      show ob (lcF p f xs) _ = _
      rw [ih]
      rfl
    | false =>
      rw [if_neg Bool.false_ne_true, ih, List.filter_cons_of_neg (by rw [hq]; exact Bool.false_ne_true)]
theorem W_lcMap {f : α → Option β} {g : α → β} {xs : List α} {Q : List β → Prop} (h : ∀ x ∈ xs, f x = some (g x)) (k : Q (xs.map g)) : W (lcM f xs) Q := ⟨_, lcM_map h, k⟩
/-! places -/
theorem pat_nat {xs : List α} {k : Nat} {x : α} (h : xs[k]? = some x) : pat xs (k : Int) = some x := by
  have hk := (List.getElem?_eq_some_iff.mp h).1
  unfold pat L2.atI
  rw [ixN_pos (i := (k : Int)) ⟨by omega, by omega⟩]
  exact h
theorem W_pat {xs : List α} {i : Int} {Q : α → Prop} (h : 0 ≤ i ∧ i < xs.length) (k : ∀ x, xs[i.toNat]? = some x → Q x) : W (pat xs i) Q := by
  have hk : i.toNat < xs.length := by omega
  refine ⟨xs[i.toNat], ?_, k _ (List.getElem?_eq_getElem hk)⟩
  have e : ((i.toNat : Nat) : Int) = i := by omega
  have := pat_nat (xs := xs) (k := i.toNat) (List.getElem?_eq_getElem hk)
  rwa [e] at this
theorem W_patN {xs : List α} {i : Nat} {x : α} {Q : α → Prop} (h : xs[i]? = some x) (q : Q x) : W (pat xs (i : Int)) Q := ⟨x, pat_nat h, q⟩
theorem W_pixS {xs : List Nat} {i : Int} {Q : List Nat → Prop} (hz : xs.length ≤ sz) (h : 0 ≤ i ∧ i < xs.length) (k : ∀ x, xs[i.toNat]? = some x → Q [x]) : W (pixS xs i) Q := by
  unfold pixS
  rw [W_ob, W_pck]
  refine ⟨hz, ?_⟩
  obtain ⟨x, e, q⟩ := W_pat (Q := fun x => Q [x]) h k
  rw [e]
  exact ⟨[x], rfl, q⟩
theorem pset_nat {xs : List α} {k : Nat} {x : α} (h : k < xs.length) : pset xs (k : Int) x = some (xs.set k x) := by
  unfold pset
  rw [ixN_pos (i := (k : Int)) ⟨by omega, by omega⟩]
  rfl
theorem W_pset {xs : List α} {i : Int} {x : α} {Q : List α → Prop} (h : 0 ≤ i ∧ i < xs.length) (q : Q (xs.set i.toNat x)) : W (pset xs i x) Q := by
  unfold pset
  rw [ixN_pos h]
  exact ⟨_, rfl, q⟩
theorem W_pget {xs : List α} {i : Int} {Q : α → Prop} (h : 0 ≤ i ∧ i < xs.length) (k : ∀ x, xs[i.toNat]? = some x → Q x) : W (pget xs i) Q := by
  unfold pget
  rw [if_pos h.1]
  exact ⟨_, List.getElem?_eq_getElem (by omega), k _ (List.getElem?_eq_getElem (by omega))⟩
theorem prange_len (n : Int) : (prange n).length = n.toNat := by unfold prange; rw [List.length_map, List.length_range]
theorem prange_get {n : Int} {i : Nat} {x : Int} (h : (prange n)[i]? = some x) : x = (i : Int) ∧ (i : Int) < n := by
  unfold prange at h
  rw [List.getElem?_map] at h
  by_cases hi : i < n.toNat
  · rw [List.getElem?_range hi] at h
    cases h
    exact ⟨rfl, by omega⟩
  · rw [List.getElem?_eq_none (by rw [List.length_range]; omega)] at h
    cases h
theorem prange2_len (a b : Int) : (prange2 a b).length = (b - a).toNat := by unfold prange2; rw [List.length_map, List.length_range]
theorem prange2_get {a b : Int} {i : Nat} {x : Int} (h : (prange2 a b)[i]? = some x) : x = a + (i : Int) ∧ a + (i : Int) < b := by
  unfold prange2 at h
  rw [List.getElem?_map] at h
  by_cases hi : i < (b - a).toNat
  · rw [List.getElem?_range hi] at h
    cases h
    exact ⟨rfl, by omega⟩
  · rw [List.getElem?_eq_none (by rw [List.length_range]; omega)] at h
    cases h
theorem prangeC_len (a c : Int) (n : Nat) : (prangeC a c n).length = n := by unfold prangeC; rw [List.length_map, List.length_range]
theorem prangeC_get {a c : Int} {n i : Nat} {x : Int} (h : (prangeC a c n)[i]? = some x) : x = a + (i : Int) * c ∧ i < n := by
  unfold prangeC at h
  rw [List.getElem?_map] at h
  by_cases hi : i < n
  · rw [List.getElem?_range hi] at h
    cases h
    exact ⟨rfl, hi⟩
  · rw [List.getElem?_eq_none (by rw [List.length_range]; omega)] at h
    cases h
theorem sing_get {l : List Nat} {i : Nat} {x : List Nat} (h : (l.map fun c => [c])[i]? = some x) : ∃ c, l[i]? = some c ∧ x = [c] := by
  rw [List.getElem?_map] at h
  cases e : l[i]? with
  | none => rw [e] at h; cases h
  | some c => rw [e] at h; exact ⟨c, rfl, (Option.some.inj h).symm⟩
end
/-! one step of a reading -/
local macro_rules | `(tactic| walk_at "m") => `(tactic| simp only [W_some, W_none, W_ob, W_pck, W_rb, W_fin, W_finN, W_T, W_F, Rw_nxt, Rw_ret, Rw_cnt, Rf_ret, Rf_nxt, RfN_ret, RfN_nxt, decide_true, decide_false, Bool.not_true, Bool.not_false])
end Mi

namespace Mi
open PySem PyProof.Rows L2 Fw
section
variable {α β : Type}
theorem pcut_nat (l : List α) (a b : Nat) : pcut l (some (a : Int)) (some (b : Int)) = (l.drop a).take (b - a) := by
  unfold pcut
  rw [HT.sIx_nat, HT.sIx_nat]
  by_cases h : a ≤ l.length
  · rw [Nat.min_eq_left h]
    by_cases h2 : b ≤ l.length
    · rw [Nat.min_eq_left h2]
    · rw [Nat.min_eq_right (show l.length ≤ b by omega), List.take_of_length_le (by rw [List.length_drop]; exact Nat.le_refl _), List.take_of_length_le (by rw [List.length_drop]; omega)]
  · rw [Nat.min_eq_right (show l.length ≤ a by omega), List.drop_length, List.drop_eq_nil_of_le (show l.length ≤ a by omega)]
    simp
theorem pcut_to (l : List α) (b : Nat) : pcut l none (some (b : Int)) = l.take b := by
  unfold pcut
  rw [HT.sIx_nat, HT.sIx_none]
  show List.take (min b l.length - 0) (l.drop 0) = _
  rw [Nat.sub_zero, List.drop_zero]
  by_cases h : b ≤ l.length
  · rw [Nat.min_eq_left h]
  · rw [Nat.min_eq_right (show l.length ≤ b by omega), List.take_length, List.take_of_length_le (show l.length ≤ b by omega)]
theorem pcut_from (l : List α) (a : Nat) : pcut l (some (a : Int)) none = l.drop a := by
  unfold pcut
  rw [HT.sIx_nat, HT.sIx_none]
  by_cases h : a ≤ l.length
  · rw [Nat.min_eq_left h, List.take_of_length_le (by rw [List.length_drop]; exact Nat.le_refl _)]
  · rw [Nat.min_eq_right (show l.length ≤ a by omega), List.drop_length, List.drop_eq_nil_of_le (show l.length ≤ a by omega)]
    simp
theorem pcut_mem {l : List α} {lo hi : Option Int} {x : α} (h : x ∈ pcut l lo hi) : x ∈ l := List.mem_of_mem_drop (List.mem_of_mem_take h)
theorem pcut_len (l : List α) (lo hi : Option Int) : (pcut l lo hi).length ≤ l.length := by
  unfold pcut
  rw [List.length_take, List.length_drop]
  omega
theorem pixS_nat {l : List Nat} {k c : Nat} (h : l[k]? = some c) (hz : l.length ≤ sz) : pixS l (k : Int) = some [c] := by
  unfold pixS
  rw [pck_of hz]
  show (pat l (k : Int)).map _ = _
  rw [pat_nat h]
  rfl
/-- a text of letters -/
def Ltr (l : List Nat) : Prop := ∀ c ∈ l, c ∈ ([65, 67, 71, 84, 78] : List Nat)
theorem Ltr.app {l m : List Nat} (h : Ltr l) (k : Ltr m) : Ltr (l ++ m) := fun c hc => (List.mem_append.mp hc).elim (h c) (k c)
theorem Ltr.sub {l m : List Nat} (h : Ltr l) (k : ∀ c ∈ m, c ∈ l) : Ltr m := fun c hc => h c (k c hc)
/-- the opposite letter -/
def opp (c : Nat) : Nat := ([84, 71, 67, 65, 78] : List Nat).getD (([65, 67, 71, 84, 78] : List Nat).idxOf c) 0
def trn (l : List Nat) : List Nat := (l.map opp).reverse
theorem trn_len (l : List Nat) : (trn l).length = l.length := by simp [trn]
theorem opp_ltr : ∀ c ∈ ([65, 67, 71, 84, 78] : List Nat), opp c ∈ ([65, 67, 71, 84, 78] : List Nat) := by decide
theorem opp_opp : ∀ c ∈ ([65, 67, 71, 84, 78] : List Nat), opp (opp c) = c := by decide
theorem trn_ltr {l : List Nat} (h : Ltr l) : Ltr (trn l) := fun c hc => by
  obtain ⟨d, hd, rfl⟩ := List.mem_map.mp (List.mem_reverse.mp hc)
  exact opp_ltr d (h d hd)
theorem trn_trn {l : List Nat} (h : Ltr l) : trn (trn l) = l := by
  unfold trn
  rw [List.map_reverse, List.reverse_reverse, List.map_map]
  refine (List.map_congr_left fun c hc => ?_).trans (List.map_id l)
  exact opp_opp c (h c hc)
/-- letters agree -/
def agr (a b : Nat) : Bool := decide (a = b) && !decide (a = 78)
theorem sing_eq (a b : Nat) : decide (([a] : List Nat) = [b]) = decide (a = b) := decide_eq_decide.mpr ⟨fun h => (List.cons.inj h).1, fun h => by rw [h]⟩
def pick3 {τ : Type} (k : Nat) (x y z : τ) : τ := match k with
  | 0 => x
  | 1 => y
  | _ => z
/-- a row of n numbers -/
def rowf (n : Nat) (f : Nat → Int) : List Int := (List.range n).map f
theorem rowf_len (n : Nat) (f : Nat → Int) : (rowf n f).length = n := by simp [rowf]
theorem rowf_get {n j : Nat} {f : Nat → Int} (h : j < n) : (rowf n f)[j]? = some (f j) := by
  unfold rowf
  rw [List.getElem?_map, List.getElem?_range h]
  rfl
theorem pat_rowf {n j : Nat} {f : Nat → Int} (h : j < n) : pat (rowf n f) (j : Int) = some (f j) := pat_nat (rowf_get h)
theorem W_rowf {n j : Nat} {f : Nat → Int} {Q : Int → Prop} (h : j < n) (q : Q (f j)) : W (pat (rowf n f) (j : Int)) Q := ⟨_, pat_rowf h, q⟩
def upd1 (f : Nat → Int) (j : Nat) (v : Int) : Nat → Int := fun k => if k = j then v else f k
theorem upd1_same (f : Nat → Int) (j : Nat) (v : Int) : upd1 f j v j = v := if_pos rfl
theorem upd1_ne {f : Nat → Int} {j k : Nat} {v : Int} (h : k ≠ j) : upd1 f j v k = f k := if_neg h
theorem pset_rowf {n j : Nat} {f : Nat → Int} {v : Int} (h : j < n) : pset (rowf n f) (j : Int) v = some (rowf n (upd1 f j v)) := by
  rw [pset_nat (by rw [rowf_len]; exact h)]
  congr 1
  refine List.ext_getElem? fun k => ?_
  by_cases hk : k < n
  · rw [rowf_get hk]
    by_cases e : j = k
    · subst e
      rw [List.getElem?_set_self (by rw [rowf_len]; exact h), upd1_same]
    · rw [List.getElem?_set_ne e, rowf_get hk, upd1_ne (by omega)]
  · rw [List.getElem?_eq_none (by rw [List.length_set, rowf_len]; omega), List.getElem?_eq_none (by rw [rowf_len]; omega)]
theorem W_rset {n j : Nat} {f : Nat → Int} {v : Int} {Q : List Int → Prop} (h : j < n) (q : Q (rowf n (upd1 f j v))) : W (pset (rowf n f) (j : Int) v) Q := ⟨_, pset_rowf h, q⟩
theorem prep_row (c : Int) (k : Nat) : prep [c] (k : Int) = rowf k fun _ => c := by
  unfold prep rowf
  rw [Int.toNat_natCast]
  induction k with
  | zero => rfl
  | succ k ih => rw [List.replicate_succ', List.flatten_append, ih, List.range_succ, List.map_append]; rfl
theorem W_Tr {x y : Option α} {Q : α → Prop} : W (if True then x else y) Q = W x Q := by rw [if_pos trivial]
theorem W_Fa {x y : Option α} {Q : α → Prop} : W (if False then x else y) Q = W y Q := by rw [if_neg id]
theorem pidx_one (l : List Nat) (c : Nat) : pidx l [c] = pck (c ∈ l) (l.idxOf c : Int) := rfl
theorem pinS_one (l : List Nat) (c : Nat) : pinS [c] l = some (decide (c ∈ l)) := rfl
theorem pninS_one (l : List Nat) (c : Nat) : pninS [c] l = some (!decide (c ∈ l)) := rfl
/-! grids -/
def grid (n e : Nat) (f : Nat → Nat → Int) : List (List Int) := (List.range n).map fun i => (List.range e).map fun j => f i j
theorem grid_len (n e : Nat) (f : Nat → Nat → Int) : (grid n e f).length = n := by simp [grid]
theorem grid_row {n e i : Nat} {f : Nat → Nat → Int} (h : i < n) : (grid n e f)[i]? = some ((List.range e).map fun j => f i j) := by
  unfold grid
  rw [List.getElem?_map, List.getElem?_range h]
  rfl
theorem rowi_get {e i j : Nat} {f : Nat → Nat → Int} (h : j < e) : ((List.range e).map fun j => f i j)[j]? = some (f i j) := by
  rw [List.getElem?_map, List.getElem?_range h]
  rfl
theorem pcell_grid {n e i j : Nat} {f : Nat → Nat → Int} (h : i < n) (k : j < e) : pcell (grid n e f) (i : Int) (j : Int) = some (f i j) := by
  unfold pcell
  rw [pat_nat (grid_row h)]
  exact pat_nat (rowi_get k)
theorem rowi_set {e i j : Nat} {f : Nat → Nat → Int} {v : Int} : ((List.range e).map fun j => f i j).set j v = (List.range e).map fun j' => upd2 f i j v i j' := by
  refine List.ext_getElem? fun k => ?_
  by_cases hk : k < e
  · by_cases e2 : j = k
    · subst e2
      rw [List.getElem?_set_self (by simp; exact hk), List.getElem?_map, List.getElem?_range hk]
      show _ = some (upd2 f i j v i j)
      rw [upd2_same]
    · rw [List.getElem?_set_ne e2, List.getElem?_map, List.getElem?_map, List.getElem?_range hk]
      show some (f i k) = some (upd2 f i j v i k)
      rw [upd2_ne (by omega)]
  · rw [List.getElem?_eq_none (by simp; omega), List.getElem?_eq_none (by simp; omega)]
theorem pcset_grid {n e i j : Nat} {f : Nat → Nat → Int} {v : Int} (h : i < n) (k : j < e) : pcset (grid n e f) (i : Int) (j : Int) v = some (grid n e (upd2 f i j v)) := by
  unfold pcset
  rw [pat_nat (grid_row h)]
  show ob (pset _ _ _) _ = _
  rw [pset_nat (by simp; exact k)]
  show pset _ _ _ = _
  rw [pset_nat (by rw [grid_len]; exact h), rowi_set]
  congr 1
  refine List.ext_getElem? fun a => ?_
  by_cases ha : a < n
  · rw [grid_row ha]
    by_cases e2 : i = a
    · subst e2
      rw [List.getElem?_set_self (by rw [grid_len]; exact h)]
    · rw [List.getElem?_set_ne e2, grid_row ha]
      congr 1
      refine List.map_congr_left fun b _ => ?_
      rw [upd2_ne (by omega)]
  · rw [List.getElem?_eq_none (by rw [List.length_set, grid_len]; omega), List.getElem?_eq_none (by rw [grid_len]; omega)]
theorem W_cell {n e i j : Nat} {f : Nat → Nat → Int} {Q : Int → Prop} (h : i < n) (k : j < e) (q : Q (f i j)) : W (pcell (grid n e f) (i : Int) (j : Int)) Q := ⟨_, pcell_grid h k, q⟩
theorem W_cset {n e i j : Nat} {f : Nat → Nat → Int} {v : Int} {Q : List (List Int) → Prop} (h : i < n) (k : j < e) (q : Q (grid n e (upd2 f i j v))) : W (pcset (grid n e f) (i : Int) (j : Int) v) Q := ⟨_, pcset_grid h k, q⟩
theorem joinN_nil' (ys : List (List Nat)) : joinN [] ys = ys.flatten := joinN_nil ys
theorem Paired.get {A : α → β → Prop} : ∀ {xs : List α} {ys : List β} {i : Nat} {x : α}, Paired A xs ys → xs[i]? = some x → ∃ y, ys[i]? = some y ∧ A x y := paired_left
end
end Mi

namespace Mi
open PySem PySem.Spec PyProof.Rows L2 Fw
section
variable {α β δ : Type} {A : Rp α} {K : PySem.W.Frag}
/-- a list of three as a tuple -/
def ptup3 {τ : Type} (xs : List τ) : Option (τ × τ × τ) := match xs with
  | [a, b, c] => some (a, b, c)
  | _ => none
theorem sc_tup3 : SC (fun xs H Q => ∃ p ys, xs = [.ref p] ∧ ((SqL K H p ys ∧ ∀ l, H l = none → Q (.ref l) (upd H l (.tup ys))) ∨ (SqT K H p ys ∧ Q (.ref p) H))) (aC (jL A) aN) (sF (jT (yC A (yC A (y1 A))))) (fun x => ptup3 x.1) := ⟨fun {F H vs a c Q} s0 ⟨v, r, e1, ⟨p, us, e3, h, q⟩, e2⟩ e k => by
  subst e1 e2 e3
  obtain ⟨xs, u⟩ := a
  match xs, q, e with
  | [x, y, z], q, e =>
    cases e
    cases q with
    | @cons v1 _ _ _ r1 q => cases q with
      | @cons v2 _ _ _ r2 q => cases q with
        | @cons v3 _ _ _ r3 q => cases q with
          | nil =>
            refine ⟨p, _, rfl, .inl ⟨.inl (.inl (s0 _ _ h)), fun l nl => ?_⟩⟩
            have s3 := (Step.nil s0).ice nl (.tup [v1, v2, v3])
            exact k _ _ _ [] (s3.chunks trivial) ⟨rfl, l, _, rfl, upd_same, _, _, rfl, A.m s3.f0 r1, _, _, rfl, A.m s3.f0 r2, _, rfl, A.m s3.f0 r3⟩⟩
end
section
variable {ρ ρ'' κ α β : Type} {E : En ρ} {E1 : En ρ''} {Ec : En κ} {A : Rp α} {s : RRt β}
theorem ss_forN {wi : TI} {g : TG} {is : List Nat} {tb : TS} {fi : ρ → Option (List α)} {p : α → ρ → ρ''} {mb : ρ'' → Option (Res ρ ρ β)} {f : α → ρ → Option (Res ρ ρ β)} (hi : SI wi E A fi) (hg : SG g is E A E1 p) (hb : SS tb E1 E E s mb) (hf : ∀ x γ, mb (p x γ) = f x γ) :
    SS (tFor wi g tb) E E Ec s (fun γ => ob (fi γ) fun xs => forR f xs γ) := by
  have e : f = fun x γ => mb (p x γ) := by
    funext x γ
    exact (hf x γ).symm
  rw [e]
  exact ss_for hi hg hb
end
section
variable {ρ ρ' β : Type} {E : En ρ} {E' : En ρ'} {s : Sl β} {t : TS}
theorem fin_runX {a : Ar ρ} {n k : Nat} {N : List Str} {mm : ρ → Option β} {vs : List V} {H : Hp} {Q : VK} {Ex : XK} {D : Ends} (hA : AE a E n) (hn : AN a k) (hN : N.length = k + n) (h : ∃ m : ρ → Option (Res ρ' Unit β), SS t E E' eN (rS s) m ∧ mm = fun γ => Mi.fin (m γ)) (q : spM a s mm vs H Q Ex) (hD : D.rt = Q) : t D (L2.start N vs) H := by
  obtain ⟨m, h, e⟩ := h
  exact fin_run hA hn hN h e q hD
theorem finN_runX {a : Ar ρ} {n k : Nat} {N : List Str} {mm : ρ → Option Unit} {vs : List V} {H : Hp} {Q : VK} {Ex : XK} {D : Ends} (hA : AE a E n) (hn : AN a k) (hN : N.length = k + n) (h : ∃ m : ρ → Option (Res ρ' Unit Unit), SS t E E' eN (rS (sF jN)) m ∧ mm = fun γ => finN (m γ)) (q : spM a (sF jN) mm vs H Q Ex) (hD : D.rt = Q) (hD2 : D.nx = fun _ H' => Q .non H') : t D (L2.start N vs) H := by
  obtain ⟨m, h, e⟩ := h
  exact finN_run hA hn hN h e q hD hD2
end
end Mi

namespace Mi
open PySem PySem.Spec PyProof.Rows L2 Fw
/-! ### own lists of own things -/
theorem set_id {τ : Type} {l : List τ} {k : Nat} {x : τ} (h : l[k]? = some x) : l.set k x = l := by
  obtain ⟨hk, e⟩ := List.getElem?_eq_some_iff.mp h
  rw [← e]
  exact List.set_getElem_self hk
inductive Dq {α : Type} (s : Sl α) (F : Hp) : List V → List (Addr × HO) → List α → Prop
  | nil : Dq s F [] [] []
  | cons {v : V} {x : α} {vs : List V} {xs : List α} {L1 L2 : List (Addr × HO)} : s.r v F L1 x → Dq s F vs L2 xs → Dq s F (v :: vs) (L1 ++ L2) (x :: xs)
section
variable {α : Type} {s : Sl α} {F F' : Hp}
theorem Dq.mono (z : Same F F') : ∀ {vs : List V} {L : List (Addr × HO)} {xs : List α}, Dq s F vs L xs → Dq s F' vs L xs
  | _, _, _, .nil => .nil
  | _, _, _, .cons h t => .cons (s.m z h) (Dq.mono z t)
theorem Dq.len : ∀ {vs : List V} {L : List (Addr × HO)} {xs : List α}, Dq s F vs L xs → vs.length = xs.length
  | _, _, _, .nil => rfl
  | _, _, _, .cons _ t => by rw [List.length_cons, List.length_cons, Dq.len t]
theorem Dq.app {ws : List V} {M : List (Addr × HO)} {ys : List α} (k : Dq s F ws M ys) : ∀ {vs : List V} {L : List (Addr × HO)} {xs : List α}, Dq s F vs L xs → Dq s F (vs ++ ws) (L ++ M) (xs ++ ys)
  | _, _, _, .nil => k
  | _, _, _, .cons h t => by
    rw [List.append_assoc]
    exact .cons h (Dq.app k t)
theorem Dq.one {v : V} {L : List (Addr × HO)} {x : α} (h : s.r v F L x) : Dq s F [v] L [x] := by
  have := Dq.cons h Dq.nil
  rwa [List.append_nil] at this
theorem Dq.focus : ∀ {vs : List V} {L : List (Addr × HO)} {xs : List α} {k : Nat} {x : α}, Dq s F vs L xs → xs[k]? = some x →
    ∃ v pre Lk post, vs[k]? = some v ∧ L = pre ++ (Lk ++ post) ∧ s.r v F Lk x ∧ ∀ F' v' Lk' x', Same F F' → s.r v' F' Lk' x' → Dq s F' (vs.set k v') (pre ++ (Lk' ++ post)) (xs.set k x')
  | _, _, _, _, _, .nil, e => by simp at e
  | _, _, _, 0, _, .cons (L1 := L1) (L2 := L2) h t, e => by
    cases Option.some.inj e
    exact ⟨_, [], L1, L2, rfl, rfl, h, fun F' v' Lk' x' z h' => (Dq.cons (L1 := Lk') (L2 := L2) h' (t.mono z) :)⟩
  | _, _, _, k + 1, _, .cons (L1 := L1) (L2 := L2) h t, e => by
    obtain ⟨v, pre, Lk, post, h1, h2, h3, h4⟩ := Dq.focus (k := k) t e
    refine ⟨v, L1 ++ pre, Lk, post, h1, by rw [h2, List.append_assoc], h3, fun F' v' Lk' x' z h' => ?_⟩
    rw [List.append_assoc]
    exact .cons (s.m z h) (h4 F' v' Lk' x' z h')
theorem Dq.tk : ∀ (n : Nat) {vs : List V} {L : List (Addr × HO)} {xs : List α}, Dq s F vs L xs → ∃ L1 L2, L = L1 ++ L2 ∧ Dq s F (vs.take n) L1 (xs.take n)
  | 0, _, L, _, _ => ⟨[], L, rfl, .nil⟩
  | _ + 1, _, _, _, .nil => ⟨[], [], rfl, .nil⟩
  | n + 1, _, _, _, .cons (L1 := L1) h t => by
    obtain ⟨M1, M2, e, d⟩ := Dq.tk n t
    exact ⟨L1 ++ M1, M2, by rw [e, List.append_assoc], .cons h d⟩
end
def sD {α : Type} (s : Sl α) : Sl (List α) := ⟨fun v F L xs => ∃ p vs M, v = .ref p ∧ L = (p, .lst vs) :: M ∧ Dq s F vs M xs, fun z ⟨p, vs, M, h1, h2, h3⟩ => ⟨p, vs, M, h1, h2, h3.mono z⟩⟩
theorem Dq.ofP {α : Type} {R : Rp α} {F : Hp} : ∀ {vs : List V} {xs : List α}, Paired (R.r F) vs xs → Dq (sF R) F vs [] xs
  | _, _, .nil => .nil
  | _, _, .cons h t => (Dq.cons (s := sF R) (L1 := []) (L2 := []) ⟨rfl, h⟩ (Dq.ofP t) :)
theorem Dq.toP {α : Type} {R : Rp α} {F : Hp} : ∀ {vs : List V} {L : List (Addr × HO)} {xs : List α}, Dq (sF R) F vs L xs → L = [] ∧ Paired (R.r F) vs xs
  | _, _, _, .nil => ⟨rfl, .nil⟩
  | _, _, _, .cons ⟨h0, h⟩ t => by
    obtain ⟨e, p⟩ := Dq.toP t
    subst h0 e
    exact ⟨rfl, .cons h p⟩
/-- an own thing is frozen -/
structure Fz {α : Type} (s : Sl α) (R : Rp α) : Prop where
  run : ∀ {F0 H0 F H : Hp} {L Z : List (Addr × HO)} {v : V} {x : α}, Own F0 H0 F H (L ++ Z) [] → s.r v F L x → ∃ F', Same F F' ∧ Own F0 H0 F' H Z [] ∧ R.r F' v x
theorem fzF {α : Type} {R : Rp α} : Fz (sF R) R := ⟨fun {_ _ F _ _ _ _ _} O ⟨e, h⟩ => by
  subst e
  exact ⟨F, Same.refl _, O, h⟩⟩
theorem fzDq {α : Type} {s : Sl α} {R : Rp α} (h : Fz s R) {F0 H0 H : Hp} {Z : List (Addr × HO)} : ∀ {F : Hp} {vs : List V} {L : List (Addr × HO)} {xs : List α}, Dq s F vs L xs → Own F0 H0 F H (L ++ Z) [] → ∃ F', Same F F' ∧ Own F0 H0 F' H Z [] ∧ Paired (R.r F') vs xs
  | F, _, _, _, .nil, O => ⟨F, Same.refl _, O, .nil⟩
  | F, _, _, _, .cons a t, O => by
    rw [List.append_assoc] at O
    obtain ⟨F1, s1, O1, r1⟩ := h.run O a
    obtain ⟨F2, s2, O2, r2⟩ := fzDq h (t.mono s1) O1
    exact ⟨F2, s1.trans s2, O2, .cons (R.m s2 r1) r2⟩
theorem fzD {α : Type} {s : Sl α} {R : Rp α} (h : Fz s R) : Fz (sD s) (jL R) := ⟨fun {_ _ F _ _ _ _ _} O ⟨p, vs, M, e1, e2, d⟩ => by
  subst e1 e2
  have O1 := (show Own _ _ _ _ ((p, HO.lst vs) :: (M ++ _)) [] from O).freeze
  have s1 : Same F (upd F p (.lst vs)) := fun b u e => by rw [upd_ne (ne_of_none e ((O.own (p, .lst vs) List.mem_cons_self)).1)]; exact e
  obtain ⟨F2, s2, O2, r2⟩ := fzDq h (d.mono s1) (O1.chunks trivial)
  exact ⟨F2, s1.trans s2, O2, p, vs, rfl, s2 _ _ upd_same, r2⟩⟩
section
variable {ρ ρ' ρ'' α β δ ε κ : Type} {E : En ρ} {E' : En ρ'} {E1 : En ρ''} {Ec : En κ} {ta tb tc te ti t : TE} {R : Rp α} {K : PySem.W.Frag} {s : RRt β} {s1 : Sl α} {s' : Sl δ} {u : TS}
theorem cD {c : ρ → ρ'} (hz : Fz s1 R) (h : Co E E' c) : Co (eC s1 E) (eC (sF R) E') (fun γ => (γ.1, c γ.2)) := ⟨fun {_ _ _ F _ _ Z _} O ⟨v, σ', L1, L2, e1, e2, q, t⟩ => by
  subst e1 e2
  rw [List.append_assoc] at O
  obtain ⟨F1, z1, O1, r1⟩ := hz.run O q
  obtain ⟨F', L', O', sF, t'⟩ := h O1 (E.m z1 t)
  exact ⟨F', L', O', z1.trans sF, v, σ', [], L', rfl, rfl, ⟨rfl, R.m sF r1⟩, t'⟩⟩
theorem se_fzD {f : ρ → Option α} (hz : Fz s1 R) (h : SE t E s1 f) : SE t E (sF R) f := ⟨fun s0 hL hE e k => by
  refine h s0 hL hE e fun v F1 H1 L1 st r => ?_
  obtain ⟨F2, z, O2, q⟩ := hz.run (Z := []) (by rw [List.append_nil]; exact st) r
  exact k _ _ _ [] O2 ⟨rfl, q⟩⟩
theorem se_toD {f : ρ → Option (List α)} (h : SE t E (sO R) f) : SE t E (sD (sF R)) f := ⟨fun s0 hL hE e k => h s0 hL hE e fun v F1 H1 L1 st ⟨p, vs, e1, e2, q⟩ => k _ _ _ _ st ⟨p, vs, [], e1, e2, .ofP q⟩⟩
theorem se_nilD {f : ρ → Option (List Unit)} (h : SE t E (sO jN) f) (h0 : ∀ γ, f γ = some []) : SE t E (sD s1) (fun _ => some []) := ⟨fun {_ _ _ _ γ _ _} s0 hL hE e k => by
  cases e
  refine h s0 hL hE (h0 γ) fun v F1 H1 L1 st ⟨p, vs, e1, e2, q⟩ => k _ _ _ _ st ⟨p, vs, [], e1, e2, ?_⟩
  cases q
  exact .nil⟩
theorem nilU : pck (([] : List Unit).length ≤ sz) [] = some ([] : List Unit) := if_pos (Nat.zero_le _)
/-- a name's own thing -/
structure Fx (E : En ρ) (i : Nat) (s : Sl α) (g : ρ → α) (up : α → ρ → ρ) : Prop where
  run : ∀ {σ : L2.St} {F : Hp} {L : List (Addr × HO)} {γ : ρ}, E.r σ F L γ → ∃ v pre L1 post, σ[i]? = some (some v) ∧ L = pre ++ (L1 ++ post) ∧ s.r v F L1 (g γ) ∧ ∀ F' L1' x', Same F F' → s.r v F' L1' x' → E.r σ F' (pre ++ (L1' ++ post)) (up x' γ)
theorem k0 : Fx (eC s1 E) 0 s1 (fun γ => γ.1) (fun x γ => (x, γ.2)) := ⟨fun ⟨v, σ', L1, L2, e1, e2, h, t⟩ => by
  subst e1 e2
  exact ⟨v, [], L1, L2, rfl, rfl, h, fun F' L1' x' z h' => ⟨v, σ', L1', L2, rfl, rfl, h', E.m z t⟩⟩⟩
theorem kU {i : Nat} {g : ρ → α} {up : α → ρ → ρ} (h : Fx E i s1 g up) : Fx (eU E) (i + 1) s1 g up := ⟨fun ⟨o, σ', e, t⟩ => by
  subst e
  obtain ⟨v, pre, L1, post, h1, h2, h3, h4⟩ := h.run t
  exact ⟨v, pre, L1, post, h1, h2, h3, fun F' L1' x' z h' => ⟨o, σ', rfl, h4 F' L1' x' z h'⟩⟩⟩
theorem kS {i : Nat} {g : ρ → α} {up : α → ρ → ρ} (h : Fx E i s1 g up) : Fx (eC s' E) (i + 1) s1 (fun γ => g γ.2) (fun x γ => (γ.1, up x γ.2)) := ⟨fun ⟨v', σ', La, L2, e1, e2, q, t⟩ => by
  subst e1 e2
  obtain ⟨v, pre, L1, post, h1, h2, h3, h4⟩ := h.run t
  subst h2
  exact ⟨v, La ++ pre, L1, post, h1, by rw [List.append_assoc], h3, fun F' L1' x' z h' => ⟨v', σ', La, _, rfl, by rw [List.append_assoc], s'.m z q, h4 F' L1' x' z h'⟩⟩⟩
/-- a place within own things -/
structure SPl {τ : Type} (t : TE) (E : En ρ) (s : Sl α) (f : ρ → Option α) (up : ρ → α → Option τ) (pt : τ → ρ → ρ) : Prop where
  run : ∀ {σ : L2.St} {F H : Hp} {L : List (Addr × HO)} {γ : ρ} {y : α} {Q : VK}, Same F H → Held H L → E.r σ F L γ → f γ = some y →
    (∀ v F' H', Step F H F' H' [] → (∃ pre L1 post, L = pre ++ (L1 ++ post) ∧ s.r v F' L1 y ∧ ∀ F2 L2 y2 γ2, Same F' F2 → s.r v F2 L2 y2 → up γ y2 = some γ2 → E.r σ F2 (pre ++ (L2 ++ post)) (pt γ2 γ)) → Q v H') → t σ H Q
theorem pl_var {i : Nat} {g : ρ → α} {up : α → ρ → ρ} (h : Fx E i s1 g up) : SPl (tVar i) E s1 (fun γ => some (g γ)) (fun _ y => some y) up := ⟨fun s0 hL hE e k => by
  cases e
  obtain ⟨v, pre, L1, post, h1, h2, h3, h4⟩ := h.run hE
  exact ⟨v, h1, k v _ _ (Step.nil s0) ⟨pre, L1, post, h2, h3, fun F2 L2 y2 γ2 z q e => by cases e; exact h4 F2 L2 y2 z q⟩⟩⟩
theorem pl_ix {τ : Type} {f : ρ → Option (List α)} {up : ρ → List α → Option τ} {pt : τ → ρ → ρ} {fi : ρ → Option Int} (ht : SPl t E (sD s1) f up pt) (hi : SE ti E (sF jI) fi) :
    SPl (tOp (rIxL K) t ti) E s1 (fun γ => ob (f γ) fun xs => ob (fi γ) fun i => pat xs i) (fun γ y => ob (f γ) fun xs => ob (fi γ) fun i => ob (pset xs i y) fun ys => up γ ys) pt := ⟨fun {σ F H L γ y Q} s0 hL hE e k => by
  obtain ⟨xs, e1, e⟩ := ob_some e
  obtain ⟨i, e2, e3⟩ := ob_some e
  refine ht.run s0 hL hE e1 fun v F1 H1 st1 ⟨pre, L1, post, h1, ⟨p, vs, M, h2, h3, h4⟩, h5⟩ => ?_
  subst h2 h3
  refine hi st1.fh (hL.mono st1.hh) (E.m st1.f0 hE) e2 fun w F2 H2 L2 st2 ⟨z, r⟩ => ?_
  subst z
  obtain ⟨kk, g1, g2⟩ := pat_ix e3
  obtain ⟨x, pre2, Lk, post2, q1, q2, q3, q4⟩ := Dq.focus (h4.mono st2.f0) g2
  have hp := st2.hh _ _ (st1.hh _ _ (hL (p, .lst vs) (by rw [h1]; simp)))
  refine ⟨p, vs, i, x, rfl, r, .inl (.inl hp), ?_, k _ _ _ (st1.tr st2) ⟨pre ++ (p, .lst vs) :: pre2, Lk, post2 ++ post, ?_, q3, fun F3 L3 y3 γ3 z h e => ?_⟩⟩
  · unfold atI
    rw [h4.len, g1]
    exact q1
  · rw [h1, q2]
    simp
  · have e5 : up γ (xs.set kk y3) = some γ3 := by
      obtain ⟨_, a1, e⟩ := ob_some e
      rw [e1] at a1
      cases a1
      obtain ⟨_, a2, e⟩ := ob_some e
      rw [e2] at a2
      cases a2
      unfold pset at e
      rw [g1] at e
      exact e
    have d := q4 F3 x L3 y3 z h
    have ev : vs.set kk x = vs := set_id q1
    rw [ev] at d
    have := h5 F3 ((p, .lst vs) :: (pre2 ++ (L3 ++ post2))) (xs.set kk y3) γ3 (st2.f0.trans z) ⟨p, vs, _, rfl, rfl, d⟩ e5
    simpa using this⟩
theorem pm1 {a : Addr × HO} {A B C D : List (Addr × HO)} : (a :: (A ++ (B ++ (C ++ D)))).Perm (C ++ (A ++ ((a :: B) ++ D))) := by
  have h1 : (C ++ (A ++ ((a :: B) ++ D))).Perm (a :: (C ++ (A ++ (B ++ D)))) := by
    rw [← List.append_assoc, ← List.append_assoc C A]
    exact List.perm_middle
  refine List.Perm.trans ?_ h1.symm
  refine List.Perm.cons a ?_
  rw [← List.append_assoc, ← List.append_assoc A B D]
  exact List.perm_append_comm_assoc _ _ _
theorem pm2 {a : Addr × HO} {A B D : List (Addr × HO)} : (A ++ ((a :: B) ++ D)).Perm (a :: (A ++ (B ++ D))) := List.perm_middle
theorem pm3 {a : Addr × HO} {A B C D : List (Addr × HO)} : (A ++ ((a :: (B ++ C)) ++ D)).Perm (a :: (A ++ (B ++ (C ++ D)))) := by
  rw [← List.append_assoc B C D]
  exact List.perm_middle
variable {m : ρ → Option (Res ρ' κ β)}
theorem ss_plApp {τ : Type} {f : ρ → Option (List α)} {up : ρ → List α → Option τ} {pt : τ → ρ → ρ} {fe : ρ → Option α} (hp : SPl t E (sD s1) f up pt) (he : SE te E s1 fe) (hu : SS u E E' Ec s m) :
    SS (tSeq (tDrop (tBM K "list" rAppend t (tCons te tNil))) u) E E' Ec s (fun γ => ob (f γ) fun xs => ob (fe γ) fun y => ob (pck (xs.length < sz) (xs ++ [y])) fun ys => ob (up γ ys) fun γ' => m (pt γ' γ)) := ⟨fun O hE e fin => by
  obtain ⟨xs, e1, e⟩ := ob_some e
  obtain ⟨y, e2, e⟩ := ob_some e
  obtain ⟨ys, e3, e⟩ := ob_some e
  obtain ⟨pz, rfl⟩ := pck_some e3
  obtain ⟨γ', e4, e⟩ := ob_some e
  refine hp.run O.fh (Held.of O) hE e1 fun v F1 H1 st1 ⟨pre, L1, post, h1, ⟨p, vs, M, h2, h3, h4⟩, h5⟩ => ?_
  subst h2 h3 h1
  have O1 := Own.on O st1
  rw [List.nil_append] at O1
  refine tyL (Held.of O1 (p, .lst vs) (by simp)) ?_
  refine he O1.fh (Held.of O1) (E.m st1.f0 hE) e2 fun w F2 H2 Lw st2 r2 => ?_
  have O3 := (Own.on O1 st2).perm (pm1 (a := (p, .lst vs)) (A := pre) (B := M) (C := Lw) (D := post))
  exact w_app (j := 0) (Q := fun _ H' => u _ _ H') O3 rfl (fun H' O4 => hu.run (O4.perm pm3) (h5 F2 ((p, .lst (vs ++ [w])) :: (M ++ Lw)) _ γ' st2.f0 ⟨p, _, _, rfl, rfl, Dq.app (.one r2) (h4.mono st2.f0)⟩ e4) e (fin.mo (st1.f0.trans st2.f0))) (sz_lt (by rw [h4.len]; exact pz))⟩
theorem ss_plPop {τ : Type} {f : ρ → Option (List α)} {up : ρ → List α → Option τ} {pt : τ → ρ → ρ} (hp : SPl t E (sD s1) f up pt) (hu : SS u E E' Ec s m) :
    SS (tSeq (tDrop (tBM0 K "list" rPop t)) u) E E' Ec s (fun γ => ob (f γ) fun xs => ob (pck (0 < xs.length) xs.dropLast) fun ys => ob (up γ ys) fun γ' => m (pt γ' γ)) := ⟨fun O hE e fin => by
  obtain ⟨xs, e1, e⟩ := ob_some e
  obtain ⟨ys, e3, e⟩ := ob_some e
  obtain ⟨pz, rfl⟩ := pck_some e3
  obtain ⟨γ', e4, e⟩ := ob_some e
  refine hp.run O.fh (Held.of O) hE e1 fun v F1 H1 st1 ⟨pre, L1, post, h1, ⟨p, vs, M, h2, h3, h4⟩, h5⟩ => ?_
  subst h2 h3 h1
  have O1 := Own.on O st1
  rw [List.nil_append] at O1
  have hl := h4.len
  have O2 := O1.perm (pm2 (a := (p, .lst vs)) (A := pre) (B := M) (D := post)).symm
  refine tyL (O2.at_ 0) ⟨p, vs, _, rfl, rfl, O2.at_ 0, List.getElem?_eq_getElem (by omega), ?_⟩
  obtain ⟨M1, M2, hM, hd⟩ := Dq.tk (vs.length - 1) h4
  subst hM
  have O3 := O2.set 0 rfl (.lst vs.dropLast)
  refine hu.run (L := pre ++ (((p, .lst vs.dropLast) :: M1) ++ post)) (OwnSb O3 ⟨M2, ?_⟩) (h5 F1 _ _ γ' (Same.refl _) ⟨p, _, _, rfl, rfl, ?_⟩ e4) e (fin.mo st1.f0)
  · show List.Perm _ ((p, HO.lst vs.dropLast) :: (pre ++ ((M1 ++ M2) ++ post)))
    have h1 : (((p, HO.lst vs.dropLast) :: (pre ++ (M1 ++ post))) ++ M2).Perm ((p, HO.lst vs.dropLast) :: (pre ++ ((M1 ++ M2) ++ post))) := by
      refine List.Perm.cons _ ?_
      show List.Perm ((pre ++ (M1 ++ post)) ++ M2) _
      rw [List.append_assoc, List.append_assoc, List.append_assoc]
      exact ((List.perm_append_comm).append_left M1).append_left pre
    exact (pm2.append_right M2).trans h1
  · rw [List.dropLast_eq_take, List.dropLast_eq_take, ← hl]
    exact hd⟩
theorem ss_plSet {τ : Type} {f : ρ → Option (List α)} {up : ρ → List α → Option τ} {pt : τ → ρ → ρ} {fe : ρ → Option α} {fi : ρ → Option Int} (hp : SPl t E (sD s1) f up pt) (he : SE te E s1 fe) (hi : SE ti E (sF jI) fi) (hu : SS u E E' Ec s m) :
    SS (tSeq (tAsg te (gSub t ti rSetL)) u) E E' Ec s (fun γ => ob (fe γ) fun y => ob (f γ) fun xs => ob (fi γ) fun i => ob (pset xs i y) fun ys => ob (up γ ys) fun γ' => m (pt γ' γ)) := ⟨fun {σ F0 H0 F H L γ r D} O hE e fin => by
  obtain ⟨y, e2, e⟩ := ob_some e
  obtain ⟨xs, e1, e⟩ := ob_some e
  obtain ⟨i, e5, e⟩ := ob_some e
  obtain ⟨ys, e3, e⟩ := ob_some e
  obtain ⟨γ', e4, ez⟩ := ob_some e
  refine he O.fh (Held.of O) hE e2 fun w F1 H1 Lw st1 r1 => ?_
  have O1 := Own.on O st1
  have hL1 : Held H1 L := fun q hq => Held.of O1 q (List.mem_append_right _ hq)
  refine hp.run O1.fh hL1 (E.m st1.f0 hE) e1 fun v F2 H2 st2 ⟨pre, L1, post, h1, ⟨p, vs, M, h2, h3, h4⟩, h5⟩ => ?_
  subst h2 h3
  have O2 := Own.on O1 st2
  rw [List.nil_append] at O2
  refine hi O2.fh (hL1.mono st2.hh) (E.m (st1.f0.trans st2.f0) hE) e5 fun z F3 H3 L3 st3 ⟨z3, r3⟩ => ?_
  subst z3
  have O3 := Own.on O2 st3
  rw [List.nil_append] at O3
  unfold pset at e3
  cases hj : ixN xs.length i with
  | none => rw [hj] at e3; cases e3
  | some n =>
    rw [hj] at e3
    have e3 : xs.set n y = ys := Option.some.inj e3
    subst e3
    subst h1
    have O4 := O3.perm (pm1 (a := (p, .lst vs)) (A := pre) (B := M) (C := Lw) (D := post))
    refine ⟨p, vs, i, n, rfl, r3, O4.at_ 0, by rw [h4.len]; exact hj, ?_⟩
    have O5 := O4.set 0 rfl (.lst (vs.set n w))
    cases hx : xs[n]? with
    | none =>
      have hn : xs.length ≤ n := List.getElem?_eq_none_iff.mp hx
      refine hu.run (L := pre ++ (((p, .lst (vs.set n w)) :: M) ++ post)) (OwnSb O5 ⟨Lw, ?_⟩) (h5 F3 _ _ γ' st3.f0 ⟨p, _, _, rfl, rfl, ?_⟩ e4) ez (fin.mo (st1.f0.trans (st2.f0.trans st3.f0)))
      · exact (List.perm_append_comm).trans pm1.symm
      · rw [List.set_eq_of_length_le hn, List.set_eq_of_length_le (by rw [h4.len]; exact hn)]
        exact h4.mono st3.f0
    | some x =>
      obtain ⟨x', pre2, Lk, post2, q1, q2, q3, q4⟩ := Dq.focus (h4.mono st3.f0) hx
      subst q2
      refine hu.run (L := pre ++ (((p, .lst (vs.set n w)) :: (pre2 ++ (Lw ++ post2))) ++ post)) (OwnSb O5 ⟨Lk, ?_⟩) (h5 F3 _ _ γ' st3.f0 ⟨p, _, _, rfl, rfl, q4 F3 w Lw y (Same.refl _) (s1.m (st2.f0.trans st3.f0) r1)⟩ e4) ez (fin.mo (st1.f0.trans (st2.f0.trans st3.f0)))
      refine (pm2.append_right Lk).trans (List.Perm.cons _ ?_)
      show List.Perm ((pre ++ ((pre2 ++ (Lw ++ post2)) ++ post)) ++ Lk) _
      rw [List.append_assoc, List.append_assoc, List.append_assoc, List.append_assoc, List.append_assoc]
      refine List.Perm.append_left pre (List.Perm.append_left pre2 ?_)
      have a1 : (Lw ++ (post2 ++ (post ++ Lk))).Perm (Lk ++ (post2 ++ (Lw ++ post))) := by
        have b1 : (Lw ++ (post2 ++ (post ++ Lk))).Perm (post2 ++ (Lw ++ (post ++ Lk))) := List.perm_append_comm_assoc _ _ _
        have b2 : (post2 ++ (Lw ++ (post ++ Lk))) = (post2 ++ (Lw ++ post)) ++ Lk := by simp
        rw [b2] at b1
        exact b1.trans List.perm_append_comm
      simpa using a1⟩
/-- row = place; row[c] = e -/
theorem ss_alias {τ : Type} {f : ρ → Option (List Int)} {up : ρ → List Int → Option τ} {pt : τ → ρ → ρ} {j : Nat} {p : List Int → ρ → ρ''} {g : ρ'' → List Int} {fe fc : ρ'' → Option Int} (hp : SPl t E (sD (sF jI)) f up pt) (hpt : Pt E j (sF (jL jI)) E1 p) (hg : Gt E1 j (sF (jL jI)) g) (hn : Un E j) (he : SE te E1 (sF jI) fe) (hc : SE tc E1 (sF jI) fc) (hu : SS u E E' Ec s m) :
    SS (tSeq (tAsg t (gName j)) (tSeq (tAsg te (gSub (tVar j) tc rSetL)) u)) E E' Ec s (fun γ => ob (f γ) fun row => ob (fe (p row γ)) fun y => ob (fc (p row γ)) fun c => ob (pset row c y) fun row' => ob (up γ row') fun γ' => m (pt γ' γ)) := ⟨fun {σ F0 H0 F H L γ r D} O hE e fin => by
  obtain ⟨row, e1, e⟩ := ob_some e
  obtain ⟨y, e2, e⟩ := ob_some e
  obtain ⟨c, e3, e⟩ := ob_some e
  obtain ⟨row', e4, e⟩ := ob_some e
  obtain ⟨γ', e5, ez⟩ := ob_some e
  refine hp.run O.fh (Held.of O) hE e1 fun v F1 H1 st1 ⟨pre, L1, post, h1, ⟨q, vs, M, h2, h3, h4⟩, h5⟩ => ?_
  obtain ⟨hM, h6⟩ := h4.toP
  subst h2 h3 h1 hM
  have O1 := Own.on O st1
  rw [List.nil_append] at O1
  have hq : H1 q = some (.lst vs) := Held.of O1 (q, .lst vs) (by simp)
  have hF : F1 q = none := (O1.own (q, .lst vs) (by simp)).1
  have zF : Same F1 (upd F1 q (.lst vs)) := fun b u e => by rw [upd_ne (ne_of_none e hF)]; exact e
  have zH : Same (upd F1 q (.lst vs)) H1 := fun b u e => by
    by_cases hb : b = q
    · subst hb
      rw [upd_same] at e
      cases e
      exact hq
    · rw [upd_ne hb] at e
      exact O1.fh b u e
  obtain ⟨L', hE1, hS⟩ := hpt.run (L1 := []) (E.m (st1.f0.trans zF) hE) (show (sF (jL jI)).r (.ref q) (upd F1 q (.lst vs)) [] row from ⟨rfl, q, vs, rfl, upd_same, Paired.mono (fun _ _ w => w) h6⟩)
  rw [List.nil_append] at hS
  have hL' : Held H1 L' := fun z hz => Held.of O1 z (hS.mem hz)
  show te _ _ _
  refine he zH hL' hE1 e2 fun wv F2 H2 L2 st2 ⟨z2, r2⟩ => ?_
  subst z2
  have r2 : wv = .int y := r2
  subst r2
  obtain ⟨v', La, w1, _, _, a', vs', w2, _, _⟩ := hg.run hE1
  have hj : (σ.set j (some (V.ref q)))[j]? = some (some (.ref q)) := by
    rw [w1]
    rw [List.getElem?_set] at w1
    simp only [if_true] at w1
    split at w1
    · exact w1.symm
    · cases w1
  refine ⟨.ref q, hj, ?_⟩
  refine hc (st2.fh) (hL'.mono st2.hh) (E1.m st2.f0 hE1) e3 fun w F3 H3 L3 st3 ⟨z3, r3⟩ => ?_
  subst z3
  have O3 := O1.more (st2.hh.trans st3.hh)
  have O4 := O3.perm (pm2 (a := (q, .lst vs)) (A := pre) (B := []) (D := post)).symm
  unfold pset at e4
  cases hi : ixN row.length c with
  | none => rw [hi] at e4; cases e4
  | some n =>
    rw [hi] at e4
    have e4 : row.set n y = row' := Option.some.inj e4
    subst e4
    refine ⟨q, vs, c, n, rfl, r3, O4.at_ 0, by rw [Paired.len h6]; exact hi, ?_⟩
    have O5 := O4.set 0 rfl (.lst (vs.set n (.int y)))
    refine hu.run (O5.perm pm2) (hn.run (h5 F1 [(q, .lst (vs.set n (.int y)))] _ γ' (Same.refl _) ⟨q, _, [], rfl, rfl, .ofP (Paired.upd (A := jI.r F1) rfl n h6)⟩ e5)) ez (fin.mo st1.f0)⟩
/-- [own thing for x in xs] -/
theorem se_lcD {A : Rp δ} {wi : TI} {g : TG} {is vs : List Nat} {fi : ρ → Option (List δ)} {fe : ρ' → Option α} {p : δ → ρ → ρ'} (hi : SI wi E A fi) (hw : Wp E vs) (hg : SG g is E A E' p) (he : SE te E' s1 fe) (hv : ∀ i ∈ is, i ∈ vs := by decide) :
    SE (tLc wi g tYes te vs) E (sD s1) (fun γ => ob (fi γ) fun xs => ob (lcM (fun x => fe (p x γ)) xs) fun r => pck (r.length ≤ sz) r) := ⟨fun {σ _ _ L γ res Q} s0 hL hE e k => by
  obtain ⟨xs, e1, e⟩ := ob_some e
  obtain ⟨rs, e2, e⟩ := ob_some e
  obtain ⟨pz, e3⟩ := pck_some e
  subst e3
  refine hi.run s0 hL hE e1 fun J F1 H1 st1 it => ?_
  have hE1 := E.m st1.f0 hE
  have hL1 := hL.mono st1.hh
  intro D hD
  refine ⟨fun i m H' => m = xs.length - i ∧ i ≤ xs.length ∧ ∃ F' acc M ys zs, Step F1 H1 F' H' ((D, .lst acc) :: M) ∧ Dq s1 F' acc M ys ∧ lcM (fun x => fe (p x γ)) (xs.drop i) = some zs ∧ rs = ys ++ zs,
    ⟨xs.length, by omega, Nat.zero_le _, F1, [], [], [], rs, (Step.nil st1.fh).alloc hD _, .nil, e2, rfl⟩, ?_⟩
  rintro i m H' ⟨rfl, hi, F', acc, M, ys, zs, st2, pa, e4, e5⟩
  by_cases hlt : i < xs.length
  · obtain ⟨x, hx⟩ : ∃ x, xs[i]? = some x := ⟨_, List.getElem?_eq_getElem hlt⟩
    obtain ⟨go, yl⟩ := it.one st2.f0 st2.fh hx
    have ed : xs.drop i = x :: xs.drop (i + 1) := by
      rw [List.drop_eq_getElem_cons hlt]
      congr 1
      rw [List.getElem?_eq_getElem hlt] at hx
      exact Option.some.inj hx
    rw [ed] at e4
    obtain ⟨y, e8, e9⟩ := ob_some e4
    obtain ⟨r, e10, e11⟩ := ob_some e9
    cases e11
    have hacc : acc.length < sz := by
      rw [pa.len]
      rw [e5, List.length_append, List.length_cons] at pz
      omega
    refine .inr ⟨go, fun H'' => ∃ F' acc M ys zs, Step F1 H1 F' H'' ((D, .lst acc) :: M) ∧ Dq s1 F' acc M ys ∧ lcM (fun x => fe (p x γ)) (xs.drop (i + 1)) = some zs ∧ rs = ys ++ zs, fun H'' h => ⟨xs.length - (i + 1), by omega, rfl, hlt, h⟩, fun v H3 hy => ?_⟩
    obtain ⟨F3, s3, r3⟩ := yl v H3 hy
    have s13 := Own.on st2 s3
    rw [List.nil_append] at s13
    refine hg s3.fh (hw (E.m s13.f0 hE1)) r3 fun σ4 L4 hb4 hE4 hw4 => ⟨?_, ?_⟩
    · rw [hw4 vs hv]
      have gen : ∀ (ws : List Nat), (∀ i ∈ ws, i ∈ vs) → wipe (wipe σ ws) vs = wipe σ vs := by
        intro ws
        induction ws with
        | nil => intro _; rfl
        | cons a as ih => intro h; show wipe ((wipe σ as).set a none) vs = _; rw [wipe_comm _ _ _ vs (h a List.mem_cons_self), ih fun i hi => h i (List.mem_cons_of_mem _ hi)]
      exact gen vs fun _ h => h
    have hL4 : Held H3 L4 := fun q hq => (hL1.mono s13.hh) q (hb4.mem hq)
    show te _ _ _
    refine he s3.fh hL4 hE4 e8 fun w F6 H6 L6 s6 r6 => ?_
    have s16 := Own.on s13 s6
    have O7 := s16.perm (L' := (D, .lst acc) :: (M ++ L6)) ((List.Perm.cons _ List.perm_append_comm).trans List.perm_middle.symm)
    exact ⟨acc, O7.at_ 0, sz_lt hacc, F6, _, M ++ L6, ys ++ [y], r, O7.set 0 rfl _, Dq.app (.one r6) (pa.mono (s3.f0.trans s6.f0)), e10, by rw [e5, List.append_assoc]; rfl⟩
  · have hi2 : i = xs.length := by omega
    subst hi2
    rw [List.drop_length] at e4
    cases e4
    rw [List.append_nil] at e5
    subst e5
    exact .inl ⟨it.stop st2.f0 st2.fh, k _ _ _ _ (by have := Own.on st1 st2; rwa [List.append_nil] at this) ⟨D, acc, M, rfl, rfl, pa⟩⟩⟩
end
end Mi

namespace Mi
open PySem PySem.Spec PyProof.Rows L2 Fw
theorem W_add {ρ κ β : Type} {c c' : Prop} [Decidable c] [Decidable c'] {e : Option Int} {x : Int} {l : List Int} {mk : List Int → Option (Res ρ κ β)} {Q : Res ρ κ β → Prop} (hc : c ↔ c') (he : c' → e = some x) (hl : l.length < sz) (q : W (mk (l ++ if c' then [x] else [])) Q) :
    W (if decide c = true then (ob e fun x => ob (pck (l.length < sz) (l ++ [x])) fun w => mk w) else mk l) Q := by
  refine W_ifD (fun h => ?_) (fun h => ?_)
  · rw [he (hc.mp h), W_ob, W_some, W_ob, W_pck]
    rw [if_pos (hc.mp h)] at q
    exact ⟨hl, q⟩
  · rw [if_neg fun z => h (hc.mpr z), List.append_nil] at q
    exact q
theorem one_le1 {c : Prop} [Decidable c] (x : Int) : (if c then [x] else ([] : List Int)).length ≤ 1 := by
  split
  · exact Nat.le_refl 1
  · exact Nat.zero_le 1
theorem cell_add {n m a b : Nat} {M : Nat → Nat → Int} {v : Int} (ha : a ≤ n) (hb : b ≤ m) : (ob (ob (pat (grid (n + 1) (m + 1) M) (a : Int)) fun x => pat x (b : Int)) fun x => some (x + v)) = some (M a b + v) := by
  have : (ob (pat (grid (n + 1) (m + 1) M) (a : Int)) fun x => pat x (b : Int)) = some (M a b) := pcell_grid (by omega) (by omega)
  rw [this]
  rfl
theorem cell_add2 {n m a b : Nat} {M : Nat → Nat → Int} {v v' : Int} (ha : a ≤ n) (hb : b ≤ m) : (ob (ob (ob (pat (grid (n + 1) (m + 1) M) (a : Int)) fun x => pat x (b : Int)) fun x => some (x + v)) fun x => some (x + v')) = some (M a b + (v + v')) := by
  rw [cell_add ha hb]
  show some (M a b + v + v') = _
  rw [Int.add_assoc]
end Mi

namespace Mi
open PySem PySem.Spec PyProof.Rows L2 Fw
/-! ### own lists handed in and changed -/
def cutH (H : Hp) (p : Addr) : Hp := fun b => if b = p then none else H b
theorem cutH_ne {H : Hp} {p b : Addr} (h : b ≠ p) : cutH H p b = H b := if_neg h
theorem cutH_same {H : Hp} {p : Addr} : cutH H p p = none := if_pos rfl
theorem cutH_sub {H : Hp} {p : Addr} : Same (cutH H p) H := fun b o e => by
  by_cases h : b = p
  · subst h
    rw [cutH_same] at e
    cases e
  · rwa [cutH_ne h] at e
section
variable {α β ρ ρ' ρ'' κ : Type} {R : Rp α} {B : Rp β} {p : Addr} {i : Nat} {E : En ρ} {tA : TA} {te : TE}
def sOA {α : Type} (p : Addr) (R : Rp α) : Sl (List α) := ⟨fun v F L xs => ∃ vs, v = .ref p ∧ L = [(p, .lst vs)] ∧ Paired (R.r F) vs xs, fun s ⟨vs, e, h, q⟩ => ⟨vs, e, h, Paired.mono (fun _ _ q => R.m s q) q⟩⟩
theorem gA {g : ρ → List α} (h : Gt E i (sOA p R) g) : Gt E i (sO R) g := ⟨fun e => by
  obtain ⟨v, L1, h1, h2, vs, h3⟩ := h e
  exact ⟨v, L1, h1, h2, p, vs, h3⟩⟩
theorem u0A : Up (eC (sOA p R) E) 0 R (fun γ => γ.1) (fun xs γ => (xs, γ.2)) := ⟨fun ⟨v', σ', La, L2, e1, e2, ⟨vs, e3, e4, q⟩, t⟩ => by
  subst e1 e2 e3 e4
  exact ⟨p, vs, 0, rfl, rfl, q, fun F' vs' xs' sF q' => ⟨_, σ', [(p, .lst vs')], L2, rfl, rfl, ⟨vs', rfl, rfl, q'⟩, E.m sF t⟩⟩⟩
/-- arguments, one of them the list at p -/
structure Au (ρ : Type) where
  r : Hp → List V → Addr → ρ → Prop
  m : ∀ {F F' : Hp} {v : List V} {p : Addr} {x : ρ}, Same F F' → r F v p x → r F' v p x
def uH (T : Ar ρ) : Au ρ := ⟨fun F vs p γ => ∃ r, vs = .ref p :: r ∧ T.r F r γ, fun s ⟨r, e, t⟩ => ⟨r, e, T.m s t⟩⟩
def uC (B : Rp β) (T : Au ρ) : Au (β × ρ) := ⟨fun F vs p γ => ∃ v r, vs = v :: r ∧ B.r F v γ.1 ∧ T.r F r p γ.2, fun s ⟨v, r, e, h, t⟩ => ⟨v, r, e, B.m s h, T.m s t⟩⟩
structure SAu (tA : TA) (E : En ρ) (i : Nat) (A : Au α) (f : ρ → Option α) : Prop where
  run : ∀ {σ : L2.St} {F H : Hp} {L : List (Addr × HO)} {γ : ρ} {x : α} {p : Addr} {Q : List V → Hp → Prop}, Same F H → Held H L → E.r σ F L γ → σ[i]? = some (some (.ref p)) → f γ = some x → (∀ vs F' H', Step F H F' H' [] → A.r F' vs p x → Q vs H') → tA σ H Q
theorem sau_hole {T : Ar α} {f : ρ → Option α} (h : SA tA E T f) : SAu (tCons (tVar i) tA) E i (uH T) f := ⟨fun s0 hL he hi e k => by
  refine ⟨_, hi, ?_⟩
  refine h s0 hL he e fun vs F' H' s1 r1 => k _ F' H' s1 ⟨vs, rfl, r1⟩⟩
theorem sau_cons {A : Au α} {f : ρ → Option α} {fa : ρ → Option β} (ha : SE te E (sF B) fa) (h : SAu tA E i A f) : SAu (tCons te tA) E i (uC B A) (fun γ => ob (fa γ) fun x => ob (f γ) fun r => some (x, r)) := ⟨fun s0 hL he hi e k => by
  obtain ⟨x, e1, e⟩ := ob_some e
  obtain ⟨r, e2, e⟩ := ob_some e
  cases e
  refine ha s0 hL he e1 fun v F1 H1 L1 s1 ⟨z1, r1⟩ => ?_
  subst z1
  refine h.run s1.fh (hL.mono s1.hh) (E.m s1.f0 he) hi e2 fun vs F2 H2 s2 r2 => ?_
  exact k _ F2 H2 (s1.tr s2) ⟨v, vs, rfl, B.m s2.f0 r1, r2⟩⟩
/-- a callee has changed the own list at p -/
theorem Own.lent {F0 H0 F H F' H' : Hp} {L : List (Addr × HO)} {C : List Ck} {o o' : HO} {j : Nat} (O : Own F0 H0 F H L C) (hj : L[j]? = some (p, o)) (c : Own F (cutH H p) F' H' [(p, o')] []) : Own F0 H0 F' H' (L.set j (p, o')) C := by
  obtain ⟨hF, hH0, hH⟩ := O.own (p, o) (List.mem_of_getElem? hj)
  obtain ⟨kF, _, kH⟩ := c.own (p, o') List.mem_cons_self
  have hc : ∀ b u, b ≠ p → H b = some u → H' b = some u := fun b u n e => c.hh b u (by rw [cutH_ne n]; exact e)
  refine ⟨O.f0.trans c.f0, c.fh, fun b u e => hc b u (ne_of_none e hH0) (O.hh b u e), fun b u h => ?_, fun q hq => ?_, ?_, O.cs.mono c.f0⟩
  · rcases c.new b u h with h | h
    · exact O.new b u h
    · by_cases hb : b = p
      · subst hb
        exact .inr hH0
      · rw [cutH_ne hb] at h
        exact .inr (O.hh.free h)
  · obtain ⟨k, hk⟩ := List.mem_iff_getElem?.mp hq
    by_cases e : j = k
    · subst e
      have hlt : j < L.length := (List.getElem?_eq_some_iff.mp hj).1
      rw [List.getElem?_set_self hlt] at hk
      cases hk
      exact ⟨kF, hH0, kH⟩
    · rw [List.getElem?_set_ne e] at hk
      obtain ⟨h1, h2, h3⟩ := O.own q (List.mem_of_getElem? hk)
      have hq : q.1 ≠ p := fun z => e (nodup_map_get O.nd hj hk z.symm)
      refine ⟨?_, h2, hc _ _ hq h3⟩
      cases z : F' q.1 with
      | none => rfl
      | some u =>
        rcases c.new _ _ z with h | h
        · rw [h1] at h; cases h
        · rw [cutH_ne hq, h3] at h; cases h
  · have e : (L.set j (p, o')).map Prod.fst = L.map Prod.fst := by
      rw [List.map_set]
      refine List.ext_getElem? fun k => ?_
      by_cases h : j = k
      · subst h
        have hlt : j < (L.map Prod.fst).length := by rw [List.length_map]; exact (List.getElem?_eq_some_iff.mp hj).1
        rw [List.getElem?_set_self hlt, List.getElem?_map, hj]
        rfl
      · rw [List.getElem?_set_ne h]
    rw [e]
    exact O.nd
theorem Own.lend {F H : Hp} {o : HO} (s : Same F H) (hF : F p = none) (hH : H p = some o) : Own F (cutH H p) F H [(p, o)] [] :=
  ⟨Same.refl _, s, cutH_sub, fun _ _ h => .inl h, fun q hq => by rw [List.mem_singleton.mp hq]; exact ⟨hF, cutH_same, hH⟩, by rw [List.map_singleton]; exact List.nodup_cons.mpr ⟨List.not_mem_nil, List.nodup_nil⟩, trivial⟩
/-- called with such arguments, it changes the list handed in -/
def spU (A : Au ρ) (R : Rp α) (m : List α → ρ → Option (List α)) : Sp := fun vs H Q _ => ∃ F p ws xs γ ys, Same F H ∧ F p = none ∧ H p = some (.lst ws) ∧ Paired (R.r F) ws xs ∧ A.r F vs p γ ∧ m xs γ = some ys ∧
  ∀ F' H' ws', Own F (cutH H p) F' H' [(p, .lst ws')] [] → Paired (R.r F') ws' ys → Q .non H'
theorem ss_callU {A : Au α} {τ : Type} {T : Rp τ} {g : ρ → List τ} {up : List τ → ρ → ρ} {f : ρ → Option α} {m : List τ → α → Option (List τ)} {E' : En ρ'} {Ec : En κ} {s : RRt β} {u : TS} {mm : ρ → Option (Res ρ' κ β)} {Ex : XK}
    (hu' : Up E i T g up) (ha : SAu tA E i A f) (hu : SS u E E' Ec s mm) : SS (tSeq (tDrop (tCall (spU A T m) [] Ex tA)) u) E E' Ec s (fun γ => ob (f γ) fun a => ob (m (g γ) a) fun ys => mm (up ys γ)) := ⟨fun {σ F0 H0 F H L γ r D} O hE e fin => by
  obtain ⟨a, e1, e⟩ := ob_some e
  obtain ⟨ys, e2, e⟩ := ob_some e
  obtain ⟨p, ws, j, h1, h2, h3, h4⟩ := hu' hE
  show tCall (spU A T m) [] Ex tA σ H (fun _ H1 => u D σ H1)
  rw [q_call]
  refine ha.run O.fh (Held.of O) hE h1 e1 fun vs F1 H1 s1 r1 => ?_
  have O1 := Own.on O s1
  rw [List.nil_append] at O1
  refine ⟨F1, p, ws, g γ, a, ys, O1.fh, (O1.own _ (List.mem_of_getElem? h2)).1, O1.at_ j h2, Paired.mono (fun _ _ q => T.m s1.f0 q) h3, r1, e2, fun F2 H2 ws2 c q2 => ?_⟩
  have O2 := Own.lent O1 h2 c
  exact hu.run O2 (h4 F2 _ _ (s1.f0.trans c.f0) q2) e (fin.mo (s1.f0.trans c.f0))⟩
/-! defs -/
structure AUE (A : Au ρ) (R : Rp α) (p : Addr) (E : En ρ') (n : Nat) (j : List α → ρ → ρ') : Prop where
  run : ∀ {F : Hp} {vs ws : List V} {xs : List α} {γ : ρ}, A.r F vs p γ → Paired (R.r F) ws xs → E.r (vs.map some ++ List.replicate n none) F [(p, .lst ws)] (j xs γ)
theorem aue_H {T : Ar ρ} {E : En ρ} {n : Nat} (h : AE T E n) : AUE (uH T) R p (eC (sOA p R) E) n (fun xs γ => (xs, γ)) := ⟨fun {F vs ws xs γ} ⟨r, e, t⟩ q => by
  subst e
  exact ⟨_, _, [(p, .lst ws)], [], rfl, rfl, ⟨ws, rfl, rfl, q⟩, h.run t⟩⟩
theorem aue_C {A : Au ρ} {E : En ρ'} {n : Nat} {j : List α → ρ → ρ'} (h : AUE A R p E n j) : AUE (uC B A) R p (eC (sF B) E) n (fun xs γ => (γ.1, j xs γ.2)) := ⟨fun ⟨v, r, e, r1, t⟩ q => by
  subst e
  exact ⟨v, _, [], _, rfl, rfl, ⟨rfl, r1⟩, h.run t q⟩⟩
structure AUN (A : Au ρ) (n : Nat) : Prop where
  run : ∀ {F : Hp} {vs : List V} {p : Addr} {γ : ρ}, A.r F vs p γ → vs.length = n
theorem aun_H {T : Ar ρ} {n : Nat} (h : AN T n) : AUN (uH T) (n + 1) := ⟨fun ⟨r, e, t⟩ => by rw [e, List.length_cons, h.run t]⟩
theorem aun_C {A : Au ρ} {n : Nat} (h : AUN A n) : AUN (uC B A) (n + 1) := ⟨fun ⟨v, r, e, _, t⟩ => by rw [e, List.length_cons, h.run t]⟩
theorem spU_len {A : Au ρ} {m : List α → ρ → Option (List α)} {n : Nat} (h : AUN A n) : ∀ vs H Q E, spU A R m vs H Q E → vs.length = n := fun _ _ _ _ ⟨_, _, _, _, _, _, _, _, _, _, r, _⟩ => h.run r
/-- the list behind the body -/
def finU (g : ρ → List α) (x : Option (Res ρ κ β)) : Option (List α) := ob x fun r => match r with | .nxt γ => some (g γ) | _ => none
theorem finU_runX {A : Au ρ} {k n : Nat} {N : List Str} {E0 : Addr → En ρ''} {E1 : Addr → En ρ'} {j : List α → ρ → ρ''} {g : ρ' → List α} {i : Nat} {t : TS} {mm : List α → ρ → Option (List α)} {vs : List V} {H : Hp} {Q : VK} {Ex : XK} {D : Ends}
    (hA : ∀ p, AUE A R p (E0 p) n j) (hn : AUN A k) (hN : N.length = k + n) (hg : ∀ p, Gt (E1 p) i (sOA p R) g) (h : ∀ p, ∃ m : ρ'' → Option (Res ρ' Unit Unit), SS t (E0 p) (E1 p) eN (rS (sF jN)) m ∧ mm = fun xs γ => finU g (m (j xs γ))) (q : spU A R mm vs H Q Ex)
    (hD2 : D.nx = fun _ H' => Q .non H') : t D (L2.start N vs) H := by
  obtain ⟨F, p, ws, xs, γ, ys, s0, hF, hH, q1, r, e, k⟩ := q
  obtain ⟨m, hs, hm⟩ := h p
  subst hm
  obtain ⟨r1, e1, e2⟩ := ob_some e
  have hl := hn.run r
  have hs' : L2.start N vs = vs.map some ++ List.replicate n none := by
    unfold L2.start
    rw [show N.length - vs.length = n by omega]
  rw [hs']
  refine hs.run (Own.lend s0 hF hH) ((hA p).run r q1) e1 ?_
  cases r1 with
  | nxt γ' =>
    cases e2
    refine fun σ F' H' L _ O r' => ?_
    rw [hD2]
    obtain ⟨v, L1, _, h2, vs', _, h4, h5⟩ := hg p r'
    subst h4
    refine k F' H' vs' (OwnSb O ?_) h5
    obtain ⟨a, b, hab⟩ := List.append_of_mem (h2 _ List.mem_cons_self)
    rw [hab]
    exact ⟨a ++ b, (List.perm_middle (l₁ := a) (l₂ := b)).symm⟩
  | ret b => cases e2
  | cnt _ => cases e2
  | brk _ => cases e2
/-! what it tells -/
def RfU (Q : List α → Prop) (g : ρ → List α) : Res ρ κ β → Prop
  | .nxt γ => Q (g γ)
  | _ => False
theorem RfU_nxt {Q : List α → Prop} {g : ρ → List α} {γ : ρ} : RfU (κ := κ) (β := β) Q g (.nxt γ) = Q (g γ) := rfl
theorem W_finU {g : ρ → List α} {x : Option (Res ρ κ β)} {Q : List α → Prop} : W (finU g x) Q = W x (RfU Q g) := by
  unfold finU
  rw [W_ob]
  congr 1
  funext r
  cases r with
  | nxt γ => exact W_some
  | ret b => exact W_none
  | cnt γ => exact W_none
  | brk γ => exact W_none
end
end Mi

namespace Mi
open PySem PySem.Spec PyProof.Rows L2 Fw
/-! ### more constructs: low rules -/
section
variable {X : Cx} {K : PySem.W.Frag}
/-- sum of a tuple of ints -/
def rSumT (K : PySem.W.Frag) : List V → Hp → VK → Prop := fun vs H Q => ∃ (a : Addr) (ns : List Int), vs = [V.ref a] ∧ SqT K H a (ns.map V.int) ∧ Q (.int ns.sum) H
theorem sumT_ {K : PySem.W.Frag} (hc : X.calm = true) (eK : X.K = K := by rfl) : CallR X (.builtin "sum") (rSumT K) := by
  subst eK
  intro pins s σ H vs us Q I r h
  obtain ⟨a, ns, rfl, hs, q⟩ := h
  obtain ⟨its, rv, ht, _⟩ := I.tuple hs
  rw [Vals.ref1 r]
  have hi := rv.ints
  obtain ⟨xs, e⟩ := hi.allInts.items
  have hn : numsOf (intItems xs).toList = ns := by rw [← e]; exact hi.numsOf
  rw [nums_intItems] at hn
  rw [e] at ht
  have hT : s.heap.IsTuple a (intItems xs) := by
    obtain ⟨o, h1, h2, n, h3⟩ := ht
    exact ⟨o, h1, h2, n, h3⟩
  refine PySem.call_sum_walkG (PySem.wpAny_pyIter_tuple hT ?_)
  have hne : a ≠ s.heap.objs.size := by
    obtain ⟨o, h1, _⟩ := ht
    exact Nat.ne_of_lt (Heap.lt_size h1)
  refine ⟨_, _, _, _, _, _, PySem.numAt xs, rfl, PySem.Walks.tuple (A := X.A.in1) (I.ok.hd hc) _ a hne (intItems xs), ⟨⟨_, Heap.get?_push_size _ rfl, rfl, rfl⟩, hT.push _⟩, fun c hc2 => ?_, (fun _ _ => PySem.intItems_at), fun h' tk t' hk => ?_⟩
  · show c < (s.heap.push _).objs.size
    rw [Heap.size_push]
    rcases List.mem_cons.mp hc2 with rfl | hc2
    · exact Nat.lt_succ_self _
    · rcases List.mem_cons.mp hc2 with rfl | hc2
      · obtain ⟨o, h1, _⟩ := ht
        exact Nat.lt_succ_of_lt (Heap.lt_size h1)
      · cases hc2
  · have hold : ∀ c o, s.heap.get? c = some o → h'.get? c = some o := fun c o e => by
      refine hk c o (fun hm => ?_) (Heap.get?_push_of_some _ e)
      rcases List.mem_cons.mp hm with e1 | hm
      · have := Heap.lt_size e
        rw [e1] at this
        exact Nat.lt_irrefl _ this
      · cases hm
    have es : PySem.preSum (PySem.numAt xs) (intItems xs).size = ns.sum := by
      rw [show (intItems xs).size = xs.size by simp [PySem.intItems], ← hn, PySem.preSum_eq, List.take_of_length_le (by simp)]
    rw [es]
    exact ⟨.int _, H, I.kept hold, ⟨_, rfl⟩, q⟩
/-- xs[lo:hi] = .. -/
def gCut (to : TE) (tl th : TO) : TG := fun v σ H Q => to σ H fun x H1 => tl σ H1 fun l H2 => th σ H2 fun u H3 => ∃ (p b : Addr) (xs ys : List V) (a c : Int), x = .ref p ∧ v = .ref b ∧ l = some a ∧ u = some c ∧ H3 p = some (.lst xs) ∧ H3 b = some (.lst ys) ∧ p ≠ b ∧
  0 ≤ a ∧ a ≤ c ∧ c ≤ xs.length ∧ xs.length + ys.length ≤ sizeLine ∧ Q σ (upd H3 p (.lst (xs.take a.toNat ++ ys ++ xs.drop c.toNat)))
theorem pg_cut {o : Expr} {lo hi : Option Expr} {to : TE} {tl th : TO} {p2 pos : Pos} (ho : PE X o to) (hl : PO X lo tl) (hu : PO X hi th)
    (ha : ∀ v, assign (.Subscript o (.Slice lo hi none p2) pos) X.env v = (do
      let ov ← holding [v] (eval o X.env)
      let iv ← holding [v, ov] (eval (.Slice lo hi none p2) X.env)
      standAt pos
      holding [v, ov, iv] (setItem ov iv v)
      release [iv, v, ov] []) := by intro _; rfl) : PG X (.Subscript o (.Slice lo hi none p2) pos) (gCut to tl th) := by
  refine ⟨fun pins s σ H v u Q I r h => ?_⟩
  rw [ha]
  refine wpAny_bind (wpAny_holding (thn (ho.run pins s σ H _ I h) fun ov s1 ⟨x, H1, I1, r1, q1⟩ => ?_))
  refine wpAny_bind (wpAny_holding ?_)
  refine wpAny_Slice (thn (hl.run pins s1 σ H1 _ I1 q1) fun vl s2 ⟨l, H2, I2, pl, q2⟩ => thn (hu.run pins s2 σ H2 _ I2 q2) fun vu s3 ⟨u', H3, I3, pu, q3⟩ => ?_)
  rw [evalPart_none]
  refine wpAny_pure ?_
  have I4 : Inv X pins σ H3 { s3 with heap := s3.heap.push { cls := .type "slice", data := .fields #[vl, vu, .none] } } := I3.kept (t' := s3.toks) fun b ob q => Heap.get?_push_of_some _ q
  obtain ⟨p, b, xs, ys, a, c, e1, e2, e3, e4, h1, h2, hne, k1, k2, k3, hz, q⟩ := q3
  subst e1 e2 e3 e4
  have ra : RelV (.int a) vl := by
    cases pl with
    | int i t => exact ⟨t, rfl⟩
  have rc : RelV (.int c) vu := by
    cases pu with
    | int i t => exact ⟨t, rfl⟩
  cases r1
  cases r
  refine wpAny_bind (wpAny_standAt (wpAny_bind (wpAny_holding (thn (set_slice (Q := fun _ s' => ∃ H4, Inv X pins σ H4 s' ∧ Q σ H4) (s := { s3 with heap := s3.heap.push { cls := .type "slice", data := .fields #[vl, vu, .none] } }) I4 h1 h2 hne (Heap.IsSliceOf.new ..) ra rc k1 k2 k3 hz fun s' J => ⟨_, J, q⟩) fun _ s5 h5 => ?_))))
  obtain ⟨H4, J, q4⟩ := h5
  exact wpAny_release ⟨σ, H4, J, q4⟩
theorem gl_ {es : List Expr} {k : Nat} {t : TGs} {n : Nat} {pos : Pos} (hc : X.calm = true) (h : PGs X es t) (eK : X.K = K := by rfl)
    (hn : (assignEach es X.env).length = n := by rfl) (hst : (assignEach es X.env).findIdx? (·.1) = none := by rfl) : PG X (.Tuple es k pos) (gLst K n t) := by
  subst eK
  exact pg_lst hc h hn hst
/-- text.find(sign) -/
def rFind1 : V → List V → Hp → VK → Prop := fun x xs H Q => ∃ (l : List Nat) (c : Nat), x = Fw.vS l ∧ xs = [Fw.vS [c]] ∧ Q (.int (if c ∈ l then (l.idxOf c : Int) else -1)) H
theorem find_one (l : List Nat) (c : Nat) : Txt.find (S l) (S [c]) = if c ∈ l then (l.idxOf c : Int) else -1 := by
  unfold Txt.find
  by_cases h : c ∈ l
  · obtain ⟨r, e⟩ := occ_idx h
    rw [if_pos h]
    show (match Builtin.Str.occurrences (S l) (S [c]) 0 (S l).length 1 with | i :: _ => (i : Int) | [] => -1) = _
    rw [e]
  · rw [if_neg h]
    show (match Builtin.Str.occurrences (S l) (S [c]) 0 (S l).length 1 with | i :: _ => (i : Int) | [] => -1) = _
    rcases StrLaws.occ_head (S l) (S [c]) 1 (Nat.le_refl _) with ⟨e, _⟩ | ⟨i, r, e, ha, _⟩
    · rw [e]
    · have h1 := (StrLaws.subAt_one (S l) c i).mp ha
      rw [S_list] at h1
      exact absurd (List.mem_of_getElem? h1) h
theorem mt_find1 : MtR X "str.find" rFind1 := by
  intro pins s σ H x xs v us Q I rx rs h
  obtain ⟨l, c, e1, e2, q⟩ := h
  exact mt_find pins s σ H x xs v us Q I rx rs ⟨S l, S [c], e1, e2, by rw [find_one]; exact q⟩
theorem pe_find1 {o e : Expr} {apos pos : Pos} {to te : TE} (ho : PE X o to) (he : PE X e te) (hs : starEach [e] X.env = [(false, eval e X.env)] := by rfl) (hbase : attributeBase o "find" X.env (eval o X.env) = eval o X.env := by rfl) (hline : (apos.endLine == pos.line) = true := by rfl) :
    PE X (.Call (.Attribute o "find" apos) [e] [] pos) (tM1 rFind1 to te) := pe_m1 PySem.F.slot_str_find PySem.F.type_str_find mt_find1 ho he hs hbase hline
end
/-! ### their readings -/
section
variable {ρ ρ' ρ'' α β δ κ τ : Type} {E : En ρ} {E' : En ρ'} {E1 : En ρ''} {Ec : En κ} {ta tb tc te ti t : TE} {tA : TA} {A : Rp α} {B : Rp β} {R : Rp α} {K : PySem.W.Frag} {w : World} {s : RRt β} {u : TS} {m : ρ → Option (Res ρ' κ β)}
theorem sc_sumT2 : SC (rSumT K) (aC (jT (yC jI (y1 jI))) aN) (sF jI) (fun x => some (x.1.1 + x.1.2)) := sc_val fun {_ _ _ a _} s0 ⟨v, r, e1, ⟨p, vs, e3, h, v1, r1, e4, q1, v2, e5, q2⟩, e2⟩ k => by
  subst e1 e2 e3 e4 e5
  refine ⟨p, [a.1.1, a.1.2], rfl, .inl (.inl ?_), ?_⟩
  · have e := s0 _ _ h
    rw [show v1 = V.int a.1.1 from q1, show v2 = V.int a.1.2 from q2] at e
    exact e
  · have e : ([a.1.1, a.1.2] : List Int).sum = a.1.1 + a.1.2 := by simp
    rw [e]
    exact k _ rfl
/-! a module's dict of texts -/
/-- the value of a sign -/
def dget {τ : Type} (d : List (List Nat × τ)) (x : List Nat) : Option τ := (d.find? fun q => decide (q.1 = x)).map (·.2)
theorem se_kdI {a : Addr} {kvs : List (List Nat × Int)} {fa : ρ → Option (List Nat)} (hx : ∀ q ∈ kvs, KDct K w a (S q.1) (.int q.2)) (h : SE te E (sF jS) fa) : SE (tOp (rIxD K w) (tC (.ref a)) te) E (sF jI) (fun γ => ob (fa γ) fun x => dget kvs x) := ⟨fun s0 hL hE e k => by
  obtain ⟨x, e1, e⟩ := ob_some e
  unfold dget at e
  cases hf : kvs.find? (fun q => decide (q.1 = x)) with
  | none => rw [hf] at e; cases e
  | some q =>
    rw [hf] at e
    cases e
    have hq : q.1 = x := by simpa using List.find?_some hf
    refine h s0 hL hE e1 fun v F1 H1 L1 s1 ⟨z1, r1⟩ => ?_
    subst z1
    refine ⟨a, S x, .int q.2, rfl, r1.1, by rw [← hq]; exact hx q (List.mem_of_find?_eq_some hf), k _ _ _ [] s1 ⟨rfl, rfl⟩⟩⟩
theorem se_kdS {a : Addr} {kvs : List (List Nat × List Nat)} {fa : ρ → Option (List Nat)} (hx : ∀ q ∈ kvs, KDct K w a (S q.1) (Fw.vS q.2)) (hk : ∀ q ∈ kvs, okS q.2) (h : SE te E (sF jS) fa) : SE (tOp (rIxD K w) (tC (.ref a)) te) E (sF jS) (fun γ => ob (fa γ) fun x => dget kvs x) := ⟨fun s0 hL hE e k => by
  obtain ⟨x, e1, e⟩ := ob_some e
  unfold dget at e
  cases hf : kvs.find? (fun q => decide (q.1 = x)) with
  | none => rw [hf] at e; cases e
  | some q =>
    rw [hf] at e
    cases e
    have hq : q.1 = x := by simpa using List.find?_some hf
    refine h s0 hL hE e1 fun v F1 H1 L1 s1 ⟨z1, r1⟩ => ?_
    subst z1
    refine ⟨a, S x, Fw.vS q.2, rfl, r1.1, by rw [← hq]; exact hx q (List.mem_of_find?_eq_some hf), k _ _ _ [] s1 ⟨rfl, rfl, hk q (List.mem_of_find?_eq_some hf)⟩⟩⟩
/-! range(a, b, c) -/
theorem rgc_from {a b c : Int} (hc : 0 < c ∧ c < 1073741824) (ha : 0 ≤ a ∧ a < 2 ^ 61) (hb : 0 ≤ b ∧ b < 2 ^ 61) : RgC a b c (((b - a).toNat + c.toNat - 1) / c.toNat) := by
  have hs : Builtin.Range.rangeSize a b c = ((((b - a).toNat + c.toNat - 1) / c.toNat : Nat) : Int) := by
    unfold Builtin.Range.rangeSize
    rw [if_pos (by omega)]
    by_cases h : a < b
    · rw [if_pos h]
      obtain ⟨n, hn⟩ : ∃ n : Nat, b - a = (n : Int) + 1 := ⟨(b - a - 1).toNat, by omega⟩
      obtain ⟨d, hd⟩ : ∃ d : Nat, c = (d : Int) := ⟨c.toNat, by omega⟩
      subst hd
      rw [hn, show ((n : Int) + 1).toNat + ((d : Int)).toNat - 1 = n + d by omega, Int.toNat_natCast, Nat.add_div_right _ (by omega), show (n : Int) + 1 - 1 = (n : Int) by omega]
      omega
    · rw [if_neg h, Nat.div_eq_of_lt (by omega)]
      rfl
  have e : Builtin.Range.small a b c = true := by
    unfold Builtin.Range.small
    rw [hs]
    simp only [Builtin.Range.rangeFitsLong, Bool.and_eq_true, Bool.or_eq_true, decide_eq_true_eq, beq_iff_eq]
    have hd : 0 < c.toNat := by omega
    have hle : ((b - a).toNat + c.toNat - 1) / c.toNat ≤ (b - a).toNat := by
      rw [Nat.div_le_iff_le_mul hd]
      have : (b - a).toNat ≤ (b - a).toNat * c.toNat := Nat.le_mul_of_pos_right _ hd
      omega
    have hle3 : ((((b - a).toNat + c.toNat - 1) / c.toNat : Nat) : Int) * c ≤ ((b - a).toNat : Int) + c - 1 := by
      have := Nat.div_mul_le_self ((b - a).toNat + c.toNat - 1) c.toNat
      have e : c = (c.toNat : Int) := by omega
      rw [e, ← Int.natCast_mul]
      rw [Int.toNat_natCast]
      omega
    generalize ((b - a).toNat + c.toNat - 1) / c.toNat = d at hle hle3 ⊢
    refine ⟨⟨⟨⟨⟨by omega, by omega⟩, by omega, by omega⟩, by omega, by omega⟩, by omega, by omega⟩, .inr ?_⟩
    rw [if_pos (by omega), Bool.and_eq_true, decide_eq_true_eq, decide_eq_true_eq]
    omega
  exact ⟨by omega, by omega, e, hs⟩
theorem si_r3 {f : ρ → Option (Int × Int × Int × Unit)} (h : SA tA E (aC jI (aC jI (aC jI aN))) f) : SI (iRng3 tA) E jI (fun γ => ob (f γ) fun x => pck ((0 ≤ x.1 ∧ x.1 < 2305843009213693952) ∧ (0 ≤ x.2.1 ∧ x.2.1 < 2305843009213693952) ∧ 0 < x.2.2.1 ∧ x.2.2.1 < 1073741824) (prangeC x.1 x.2.2.1 (((x.2.1 - x.1).toNat + x.2.2.1.toNat - 1) / x.2.2.1.toNat))) where
  run s0 hL he e k := by
    obtain ⟨x, e1, e⟩ := ob_some e
    obtain ⟨p, rfl⟩ := pck_some e
    refine h s0 hL he e1 fun vs F1 H1 s1 ⟨v, r, z1, r1, v2, r', z2, r2, v3, r'', z3, r3, z4⟩ => ?_
    subst z1 z2 z3 z4
    exact ⟨x.1, x.2.1, x.2.2.1, _, by rw [show v = .int x.1 from r1, show v2 = .int x.2.1 from r2, show v3 = .int x.2.2.1 from r3], rgc_from p.2.2 p.1 p.2.1, k _ _ _ s1 itc_ok⟩
/-! find -/
def pfind (x y : List Nat) : Option Int := match y with | [c] => some (if c ∈ x then (x.idxOf c : Int) else -1) | _ => none
theorem sm_find : SM rFind1 jS jS (sF jI) (fun x y => pfind x y) := ⟨fun {_ _ _ _ x y _ _} s0 r1 r2 e k => by
  match y, r2, e with
  | [c], r2, e =>
    cases e
    exact ⟨x, c, r1.1, by rw [show _ = Fw.vS [c] from r2.1], k _ _ _ [] (Step.nil s0) ⟨rfl, rfl⟩⟩⟩
/-! lists of two, taken apart -/
def jP2 (A : Rp α) : Rp (α × α) := ⟨fun F v x => ∃ a v1 v2, v = .ref a ∧ F a = some (.lst [v1, v2]) ∧ A.r F v1 x.1 ∧ A.r F v2 x.2, fun s ⟨a, v1, v2, e, h, p, q⟩ => ⟨a, v1, v2, e, s _ _ h, A.m s p, A.m s q⟩⟩
def ptwo {τ : Type} : List (List τ) → Option (List (τ × τ))
  | [] => some []
  | [x, y] :: r => ob (ptwo r) fun q => some ((x, y) :: q)
  | _ :: _ => none
theorem two_of {F : Hp} : ∀ {vs : List V} {xs : List (List α)} {ys : List (α × α)}, Paired ((jL A).r F) vs xs → ptwo xs = some ys → Paired ((jP2 A).r F) vs ys
  | _, _, _, .nil, e => by cases e; exact .nil
  | _, [] :: _, _, .cons _ _, e => nomatch e
  | _, [_] :: _, _, .cons _ _, e => nomatch e
  | _, [x, y] :: xs, ys, .cons ⟨a, us, e1, h, p⟩ t, e => by
    obtain ⟨q, e2, e⟩ := ob_some (show (ob (ptwo xs) fun q => some ((x, y) :: q)) = some ys from e)
    cases e
    cases p with
    | cons r1 p => cases p with
      | cons r2 p =>
        cases p
        exact .cons ⟨a, _, _, e1, h, r1, r2⟩ (two_of t e2)
  | _, (_ :: _ :: _ :: _) :: _, _, .cons _ _, e => nomatch e
theorem si_list2 {f : ρ → Option (List (List α))} (h : SE te E (sF (jL (jL A))) f) : SI (iList K te) E (jP2 A) (fun γ => ob (f γ) ptwo) where
  run s0 hL he e k := by
    obtain ⟨x, e1, e⟩ := ob_some e
    refine h s0 hL he e1 fun v F1 H1 L1 s1 ⟨z1, a, vs, e2, h2, p⟩ => ?_
    subst z1 e2
    exact ⟨a, rfl, ⟨vs, .inl (.inl (s1.fh _ _ h2))⟩, k _ _ _ s1 (itl_ok (.inl (.inl h2)) (two_of p e))⟩
theorem sg_lst2 {gs : TGs} {is : List Nat} {u : α × α → ρ → ρ'} (h : SGs gs is E (yC A (y1 A)) E' u) : SG (gLst K 2 gs) is E (jP2 A) E' u := ⟨fun s0 he ⟨a, v1, v2, e, r, p, q⟩ k =>
  ⟨a, _, e, .inl (.inl (s0 _ _ r)), rfl, h s0 he ⟨v1, [v2], rfl, p, v2, rfl, q⟩ k⟩⟩
/-! own things within own things, read -/
theorem se_plIx {f : ρ → Option (List α)} {up : ρ → List α → Option τ} {pt : τ → ρ → ρ} {fi : ρ → Option Int} (ht : SPl t E (sD (sF R)) f up pt) (hi : SE ti E (sF jI) fi) : SE (tOp (rIxL K) t ti) E (sF R) (fun γ => ob (f γ) fun xs => ob (fi γ) fun i => pat xs i) := ⟨fun {σ F H L γ y Q} s0 hL hE e k => by
  refine (pl_ix (K := K) ht hi).run s0 hL hE e fun v F' H' st ⟨pre, L1, post, h1, ⟨z, r⟩, _⟩ => ?_
  subst z
  exact k v F' H' [] st ⟨rfl, r⟩⟩
theorem se_plLen {s1 : Sl α} {f : ρ → Option (List α)} {up : ρ → List α → Option τ} {pt : τ → ρ → ρ} (ht : SPl t E (sD s1) f up pt) : SE (tCB (rLenQ K) (tCons t tNil)) E (sF jI) (fun γ => ob (f γ) fun xs => some (xs.length : Int)) := ⟨fun {σ F H L γ y Q} s0 hL hE e k => by
  obtain ⟨xs, e1, e⟩ := ob_some e
  cases e
  refine ht.run s0 hL hE e1 fun v F1 H1 st1 ⟨pre, L1, post, h1, ⟨p, vs, M, h2, h3, h4⟩, h5⟩ => ?_
  subst h2 h3
  have hp := st1.hh _ _ (hL (p, .lst vs) (by rw [h1]; simp))
  refine ⟨p, vs, rfl, .inl (.inl (.inl hp)), ?_⟩
  rw [h4.len]
  exact k _ _ _ [] st1 ⟨rfl, rfl⟩⟩
/-! xs[a:c] = ys -/
theorem ss_cut {i : Nat} {R : Rp α} {g : ρ → List α} {up : List α → ρ → ρ} {fe : ρ → Option (List α)} {fa fc : ρ → Option Int} (hu' : Up E i R g up) (he : SE te E (sO R) fe) (hl : SE ta E (sF jI) fa) (hh : SE tc E (sF jI) fc) (hu : SS u E E' Ec s m) :
    SS (tSeq (tAsg te (gCut (tVar i) (tPart ta) (tPart tc))) u) E E' Ec s (fun γ => ob (fe γ) fun ys => ob (fa γ) fun a => ob (fc γ) fun c => ob (pck ((0 ≤ a ∧ a ≤ c ∧ c ≤ ((g γ).length : Int)) ∧ (g γ).length + ys.length ≤ sz) ((g γ).take a.toNat ++ ys ++ (g γ).drop c.toNat)) fun zs => m (up zs γ)) := ⟨fun O hE e fin => by
  obtain ⟨ys, e1, e⟩ := ob_some e
  obtain ⟨a, e2, e⟩ := ob_some e
  obtain ⟨c, e3, e⟩ := ob_some e
  obtain ⟨zs, e4, e⟩ := ob_some e
  obtain ⟨⟨⟨k1, k2, k3⟩, k4⟩, rfl⟩ := pck_some e4
  refine he O.fh (Held.of O) hE e1 fun v F1 H1 L1 s1 ⟨b, us, z1, z2, r1⟩ => ?_
  subst z1 z2
  have O1 := Own.on O s1
  obtain ⟨p, vs, j, h1, h2, h3, h4⟩ := hu' (E.m s1.f0 hE)
  refine ⟨.ref p, h1, ?_⟩
  refine hl O1.fh (fun q hq => (Held.of O1) q (List.mem_append_right _ hq)) (E.m s1.f0 hE) e2 fun w2 F2 H2 L2 s2 ⟨z2, r2⟩ => ?_
  subst z2
  have O2 := Own.on O1 s2
  rw [List.nil_append] at O2
  refine ⟨a, r2, ?_⟩
  refine hh O2.fh (fun q hq => (Held.of O2) q (List.mem_append_right _ hq)) (E.m (s1.f0.trans s2.f0) hE) e3 fun w3 F3 H3 L3 s3 ⟨z3, r3⟩ => ?_
  subst z3
  have O3 := Own.on O2 s3
  rw [List.nil_append] at O3
  refine ⟨c, r3, ?_⟩
  have hl1 := Paired.len h3
  have hl2 := Paired.len r1
  have hne : p ≠ b := fun z => by
    have nd := O3.nd
    rw [List.singleton_append, List.map_cons] at nd
    have := (List.nodup_cons.mp nd).1
    exact this (List.mem_map.mpr ⟨(p, .lst vs), List.mem_of_getElem? h2, z⟩)
  have O4 := O3.set (i := j + 1) (a := p) (o := .lst vs) (by rw [List.singleton_append, List.getElem?_cons_succ]; exact h2) (.lst (vs.take a.toNat ++ us ++ vs.drop c.toNat))
  rw [List.singleton_append, List.set_cons_succ] at O4
  refine ⟨p, b, vs, us, a, c, rfl, rfl, rfl, rfl, O3.at_ (j + 1) (by rw [List.singleton_append, List.getElem?_cons_succ]; exact h2), O3.at_ 0 rfl, hne, k1, k2, by rw [hl1]; exact k3, sz_le (by rw [hl1, hl2]; exact k4), ?_⟩
  have sF := (s1.f0.trans s2.f0).trans s3.f0
  refine hu.run (OwnSb O4 (Sb.dropL [(b, HO.lst us)] _)) (h4 F3 _ _ (s2.f0.trans s3.f0) ?_) e (fin.mo sF)
  have q1 : Paired (R.r F3) vs (g _) := Paired.mono (fun _ _ q => R.m (s2.f0.trans s3.f0) q) h3
  have q2 : Paired (R.r F3) us ys := Paired.mono (fun _ _ q => R.m (s2.f0.trans s3.f0) q) r1
  exact Paired.app (Paired.app (Paired.tk _ q1) q2) (Paired.dp _ q1)⟩
end
end Mi

namespace Mi
open PySem PySem.Spec PyProof.Rows L2 Fw
/-! ### lent lists, results that name no frozen thing -/
theorem Step.weak {F H F' H' : Hp} {L : List (Addr × HO)} (s0 : Same F H) (s : Step H H F' H' L) : Step F H F H' L :=
  ⟨Same.refl _, s0.trans s.hh, s.hh, fun _ _ h => .inl h, fun q hq => let ⟨_, h2, h3⟩ := s.own q hq; ⟨s0.free h2, h2, h3⟩, s.nd, trivial⟩
section
variable {ρ ρ' ρ'' α β δ κ τ : Type} {E : En ρ} {E' : En ρ'} {E1 : En ρ''} {Ec : En κ} {ta tb tc te t : TE} {tA : TA} {A : Rp α} {D : Rp δ} {K : PySem.W.Frag} {u : TS}
structure ScalS (s : Sl α) : Prop where
  run : ∀ {F F' : Hp} {v : V} {L : List (Addr × HO)} {x : α}, s.r v F L x → s.r v F' L x
theorem scsF (h : Scal A) : ScalS (sF A) := ⟨fun ⟨e, r⟩ => ⟨e, h.run r⟩⟩
theorem scsO (h : Scal A) : ScalS (sO A) := ⟨fun ⟨p, vs, e, h1, q⟩ => ⟨p, vs, e, h1, Paired.mono (fun _ _ q => h.run q) q⟩⟩
theorem se_callRS {a : Ar α} {s : Sl β} {f : ρ → Option α} {m : α → Option β} {Ex : XK} (h : SRA tA E a f) (hd : ScalS s) : SE (tCall (spM a s m) [] Ex tA) E s (fun γ => ob (f γ) m) := ⟨fun s0 hL he e k => by
  obtain ⟨x, e1, e⟩ := ob_some e
  rw [q_call]
  exact h.run s0 hL he e1 fun vs F1 H1 s1 r1 => ⟨H1, x, _, Same.refl _, r1, e, fun v F' H' L s2 r2 => k v F1 H' L (s1.tr (Step.weak s1.fh s2)) (hd.run r2)⟩⟩
end
/-! ### exceptions -/
/-- class, line, column -/
abbrev Exn := Nat × Int × Int
def exN : Nat → Str
  | 0 => "InvalidLine"
  | 1 => "InvalidPack"
  | 2 => "NotAnIndex"
  | 3 => "Truncated"
  | 4 => "Damaged"
  | _ => "HomeError"
def exR (K : PySem.W.Frag) (e : Exn) (cls : Value) (d : Option Addr) (F : Hp) : Prop := cls = .ref (He.ga K (exN e.1)) ∧
  ((e.1 = 0 ∧ ∃ dd fs, d = some dd ∧ F dd = some (.xd fs) ∧ fs.lookup ("line" : Str) = some (V.int e.2.1) ∧ fs.lookup ("column" : Str) = some (V.int e.2.2)) ∨ (e.1 ≠ 0 ∧ d = none))
theorem exR.mono {K : PySem.W.Frag} {e : Exn} {cls : Value} {d : Option Addr} {F F' : Hp} (s : Same F F') (h : exR K e cls d F) : exR K e cls d F' := by
  obtain ⟨h1, h2 | h2⟩ := h
  · obtain ⟨h0, dd, fs, a, b, c⟩ := h2
    exact ⟨h1, .inl ⟨h0, dd, fs, a, s _ _ b, c⟩⟩
  · exact ⟨h1, .inr h2⟩
/-- what a raise wishes -/
def rX {β : Type} (K : PySem.W.Frag) (E : XK) (R : RRt β) : RRt (Except Exn β) := ⟨fun F0 H0 Fs Q r => match r with
  | .ok b => R.fin F0 H0 Fs Q b
  | .error e => ∀ cls d F H, Same Fs F → Own F0 H0 F H [] [] → exR K e cls d F → E cls d H, fun {_ _ _ _ _ b} h sF => by
    cases b with
    | ok b => exact R.mo h sF
    | error e => exact fun cls d F H s2 => h cls d F H (sF.trans s2)⟩
section
variable {ρ ρ' ρ'' α β δ κ τ : Type} {E : En ρ} {E' : En ρ'} {E1 : En ρ''} {Ec : En κ} {ta tb tc te t : TE} {tA : TA} {A : Rp α} {B : Rp β} {D : Rp δ} {K : PySem.W.Frag} {u : TS} {W : WX} {s : Sl α} {R : RRt β} {E0 : XK}
def obx {α β : Type} (x : Option (Except Exn α)) (f : α → Option (Except Exn β)) : Option (Except Exn β) := ob x fun r => match r with
  | .ok a => f a
  | .error e => some (.error e)
def rbx {α ρ κ β : Type} (x : Option (Except Exn α)) (f : α → Option (Res ρ κ (Except Exn β))) : Option (Res ρ κ (Except Exn β)) := ob x fun r => match r with
  | .ok a => f a
  | .error e => some (.ret (.error e))
def okx {α : Type} : Except Exn α → Option α
  | .ok a => some a
  | .error _ => none
/-- called with such arguments, it hands back what the mirror tells, or raises it -/
def spX (K : PySem.W.Frag) (A : Ar ρ) (s : Sl β) (m : ρ → Option (Except Exn β)) : Sp := fun vs H Q E => ∃ F γ b, Same F H ∧ A.r F vs γ ∧ m γ = some b ∧ match b with
  | .ok b => ∀ v F' H' L, Step F H F' H' L → s.r v F' L b → Q v H'
  | .error e => ∀ cls d F' H', Step F H F' H' [] → exR K e cls d F' → E cls d H'
def spUX (K : PySem.W.Frag) (A : Au ρ) (R : Rp α) (m : List α → ρ → Option (Except Exn (List α))) : Sp := fun vs H Q E => ∃ F p ws xs γ b, Same F H ∧ F p = none ∧ H p = some (.lst ws) ∧ Paired (R.r F) ws xs ∧ A.r F vs p γ ∧ m xs γ = some b ∧ match b with
  | .ok ys => ∀ F' H' ws', Own F (cutH H p) F' H' [(p, .lst ws')] [] → Paired (R.r F') ws' ys → Q .non H'
  | .error e => ∀ cls d F' H', Own F (cutH H p) F' H' [] [] → exR K e cls d F' → E cls d H'
structure SEX (K : PySem.W.Frag) (W : WX) (t : TE) (E : En ρ) (s : Sl α) (f : ρ → Option (Except Exn α)) : Prop where
  run : ∀ {σ : L2.St} {F H : Hp} {L : List (Addr × HO)} {γ : ρ} {x : Except Exn α} {Q : VK}, Same F H → Held H L → E.r σ F L γ → f γ = some x → (match x with
    | .ok x => ∀ v F' H' L1, Step F H F' H' L1 → s.r v F' L1 x → Q v H'
    | .error e => ∀ cls d F' H', Step F H F' H' [] → exR K e cls d F' → W cls d σ H') → t σ H Q
theorem sx_call {a : Ar δ} {f : ρ → Option δ} {m : δ → Option (Except Exn α)} (h : SA tA E a f) : SEX K W (tCallS (spX K a s m) (WE W) tA) E s (fun γ => ob (f γ) m) := ⟨fun {σ F H L γ x Q} s0 hL he e k => by
  obtain ⟨y, e1, e⟩ := ob_some e
  show tA σ H fun vs H1 => spX K a s m vs H1 Q (WE W σ)
  refine h s0 hL he e1 fun vs F1 H1 s1 r1 => ⟨F1, y, x, s1.fh, r1, e, ?_⟩
  cases x with
  | ok x => exact fun v F' H' L s2 r2 => k v F' H' L (s1.tr s2) r2
  | error er => exact fun cls d F' H' s2 r2 => k cls d F' H' (s1.tr s2) r2⟩
/-- where it can't raise -/
theorem se_callX {a : Ar δ} {f : ρ → Option δ} {m : δ → Option (Except Exn α)} {Ex : XK} (h : SA tA E a f) : SE (tCall (spX K a s m) [] Ex tA) E s (fun γ => ob (f γ) fun x => ob (m x) okx) := ⟨fun s0 hL he e k => by
  obtain ⟨x, e1, e⟩ := ob_some e
  obtain ⟨r, e2, e⟩ := ob_some e
  rw [q_call]
  refine h s0 hL he e1 fun vs F1 H1 s1 r1 => ⟨F1, x, r, s1.fh, r1, e2, ?_⟩
  cases r with
  | ok y => cases e; exact fun v F' H' L s2 r2 => k v F' H' L (s1.tr s2) r2
  | error er => cases e⟩
variable {m : ρ'' → Option (Res ρ' κ (Except Exn β))} {m0 : ρ → Option (Res ρ' κ (Except Exn β))}
theorem ss_asgX {i : Nat} {fe : ρ → Option (Except Exn α)} {p : α → ρ → ρ''} (he : SEX K (fun c d _ H => E0 c d H) te E s fe) (hp : Pt E i s E1 p) (hu : SS u E1 E' Ec (rX K E0 R) m) : SS (tSeq (tAsg te (gName i)) u) E E' Ec (rX K E0 R) (fun γ => rbx (fe γ) fun x => m (p x γ)) := ⟨fun O hE e fin => by
  obtain ⟨x, e1, e⟩ := ob_some e
  refine he.run O.fh (Held.of O) hE e1 ?_
  cases x with
  | ok x =>
    refine fun v F1 H1 L1 s1 r1 => ?_
    obtain ⟨L', h1, h2⟩ := hp (E.m s1.f0 hE) r1
    exact hu.run (OwnSb (Own.on O s1) h2) h1 e (fin.mo s1.f0)
  | error er =>
    cases e
    exact fun cls d F1 H1 s1 r1 => fin cls d F1 H1 s1.f0 (OwnSb (Own.on O s1) (Sb.nil _)) r1⟩
theorem ss_asgGX {g : TG} {is : List Nat} {fe : ρ → Option (Except Exn α)} {p : α → ρ → ρ''} (he : SEX K (fun c d _ H => E0 c d H) te E (sF A) fe) (hp : SG g is E A E1 p) (hu : SS u E1 E' Ec (rX K E0 R) m) : SS (tSeq (tAsg te g) u) E E' Ec (rX K E0 R) (fun γ => rbx (fe γ) fun x => m (p x γ)) := ⟨fun O hE e fin => by
  obtain ⟨x, e1, e⟩ := ob_some e
  refine he.run O.fh (Held.of O) hE e1 ?_
  cases x with
  | ok x =>
    refine fun v F1 H1 L1 s1 ⟨z1, r1⟩ => ?_
    subst z1
    have O1 := Own.on O s1
    rw [List.nil_append] at O1
    exact hp O1.fh (E.m s1.f0 hE) r1 fun σ' L' hb he' _ => hu.run (OwnSb O1 hb) he' e (fin.mo s1.f0)
  | error er =>
    cases e
    exact fun cls d F1 H1 s1 r1 => fin cls d F1 H1 s1.f0 (OwnSb (Own.on O s1) (Sb.nil _)) r1⟩
theorem ss_exprX {fe : ρ → Option (Except Exn α)} (he : SEX K (fun c d _ H => E0 c d H) te E s fe) (hu : SS u E E' Ec (rX K E0 R) m0) : SS (tSeq (tDrop te) u) E E' Ec (rX K E0 R) (fun γ => rbx (fe γ) fun _ => m0 γ) := ⟨fun O hE e fin => by
  obtain ⟨x, e1, e⟩ := ob_some e
  refine he.run O.fh (Held.of O) hE e1 ?_
  cases x with
  | ok x => exact fun v F1 H1 L1 s1 r1 => hu.run (OwnSb (Own.on O s1) (Sb.dropL _ _)) (E.m s1.f0 hE) e (fin.mo s1.f0)
  | error er =>
    cases e
    exact fun cls d F1 H1 s1 r1 => fin cls d F1 H1 s1.f0 (OwnSb (Own.on O s1) (Sb.nil _)) r1⟩
theorem ss_retX {sl : Sl β} {fe : ρ → Option β} (he : SE te E sl fe) : SS (tRet te) E E' Ec (rX K E0 (rS sl)) (fun γ => ob (fe γ) fun x => some (.ret (.ok x))) := ⟨fun O hE e fin => by
  obtain ⟨x, e1, e⟩ := ob_some e
  cases e
  refine he O.fh (Held.of O) hE e1 fun v F1 H1 L1 s1 r1 => ?_
  exact fin v F1 H1 L1 s1.f0 (OwnSb (Own.on O s1) (Sb.dropR _ _)) r1⟩
theorem ss_retOX {i : Nat} {S : Rp α} {g : ρ → List α} (hg : Gt E i (sO S) g) : SS (tRet (tVar i)) E E' Ec (rX K E0 (rS (sO S))) (fun γ => some (.ret (.ok (g γ)))) := ⟨fun {_ _ _ F H L _ _ _} O hE e fin => by
  cases e
  obtain ⟨v, L1, h1, h2, p, vs, h3, h4, h5⟩ := hg hE
  subst h3 h4
  obtain ⟨a, b, hab⟩ := List.append_of_mem (h2 _ List.mem_cons_self)
  refine ⟨_, h1, fin _ F H [(p, .lst vs)] (Same.refl _) (OwnSb O ?_) ⟨p, vs, rfl, rfl, h5⟩⟩
  rw [hab]
  exact ⟨a ++ b, (List.perm_middle (l₁ := a) (l₂ := b)).symm⟩⟩
/-- raise of a class without an __init__ of its own -/
theorem ss_raise0 (c : Nat) (hc : c ≠ 0) {C : Addr} (hC : C = He.ga K (exN c)) : SS (fun _ σ H => (fun (_ : L2.St) (H : Hp) (Q : XK) => Q (.ref C) none H) σ H fun cls d H' => (fun c d (_ : L2.St) H => E0 c d H : WX) cls d σ H') E E' Ec (rX K E0 R) (fun _ => some (.ret (.error (c, 0, 0)))) := ⟨fun {σ F0 H0 F H L γ r D} O hE e fin => by
  cases e
  exact fin (.ref C) none F H (Same.refl _) (OwnSb O (Sb.nil _)) ⟨by rw [hC], .inr ⟨hc, rfl⟩⟩⟩
/-- a call that changes an own list, or raises -/
theorem ss_callUX {a : Au δ} {T : Rp τ} {i : Nat} {g : ρ → List τ} {up : List τ → ρ → ρ} {f : ρ → Option δ} {mc : List τ → δ → Option (Except Exn (List τ))} (hu' : Up E i T g up) (ha : SAu tA E i a f) (hu : SS u E E' Ec (rX K E0 R) m0) :
    SS (tSeq (tDrop (tCallS (spUX K a T mc) (WE fun c d _ H => E0 c d H) tA)) u) E E' Ec (rX K E0 R) (fun γ => ob (f γ) fun y => rbx (mc (g γ) y) fun ys => m0 (up ys γ)) := ⟨fun {σ F0 H0 F H L γ r D} O hE e fin => by
  obtain ⟨y, e1, e⟩ := ob_some e
  obtain ⟨x, e2, e⟩ := ob_some e
  obtain ⟨p, ws, j, h1, h2, h3, h4⟩ := hu' hE
  show tA σ H fun vs H1 => spUX K a T mc vs H1 (fun _ H2 => u D σ H2) (WE (fun c d _ H => E0 c d H) σ)
  refine ha.run O.fh (Held.of O) hE h1 e1 fun vs F1 H1 s1 r1 => ?_
  have O1 := Own.on O s1
  rw [List.nil_append] at O1
  refine ⟨F1, p, ws, g γ, y, x, O1.fh, (O1.own _ (List.mem_of_getElem? h2)).1, O1.at_ j h2, Paired.mono (fun _ _ q => T.m s1.f0 q) h3, r1, e2, ?_⟩
  cases x with
  | ok ys =>
    refine fun F2 H2 ws2 c q2 => ?_
    have O2 := Own.lent O1 h2 c
    exact hu.run O2 (h4 F2 _ _ (s1.f0.trans c.f0) q2) e (fin.mo (s1.f0.trans c.f0))
  | error er =>
    cases e
    refine fun cls d F2 H2 c q2 => fin cls d F2 H2 (s1.f0.trans c.f0) ?_ q2
    have hH0 := (O1.own _ (List.mem_of_getElem? h2)).2.1
    have hc : ∀ b u, b ≠ p → H1 b = some u → H2 b = some u := fun b u n e => c.hh b u (by rw [cutH_ne n]; exact e)
    refine ⟨O1.f0.trans c.f0, c.fh, fun b u e => hc b u (ne_of_none e hH0) (O1.hh b u e), fun b u h => ?_, fun _ h => (nomatch h), List.nodup_nil, trivial⟩
    rcases c.new b u h with h | h
    · exact O1.new b u h
    · by_cases hb : b = p
      · subst hb
        exact .inr hH0
      · rw [cutH_ne hb] at h
        exact .inr (O1.hh.free h)⟩
/-! a try around a call -/
def sE (K : PySem.W.Frag) (a : Addr) (cls : Value) (d : Option Addr) : Sl Exn := ⟨fun v F L e => v = .ref a ∧ L = [] ∧ exR K e cls d F, fun s ⟨h1, h2, h3⟩ => ⟨h1, h2, h3.mono s⟩⟩
theorem ss_try {ρ2 : Type} {E2 : Addr → Value → Option Addr → En ρ2} {a : Ar δ} {C : Addr} {i j : Nat} {ts : Addr → Value → Option Addr → TS} {Wout : WX} {f : ρ → Option δ} {mc : δ → Option (Except Exn α)} {p : α → ρ → ρ''} {pe : Exn → ρ → ρ2} {R' : RRt τ} {mm : ρ'' → Option (Res ρ' κ τ)} {ms : ρ2 → Option (Res Unit Unit τ)} {E4 : Addr → Value → Option Addr → En Unit}
    (hx : ∀ c, PySem.W.exmOne K (.ref (He.ga K (exN c))) (.ref C) = some true) (ha : SA tA E a f) (hp : Pt E j s E1 p) (hu : SS u E1 E' Ec R' mm) (hpe : ∀ a cls d, Pt E i (sE K a cls d) (E2 a cls d) pe) (hs : ∀ a cls d, SS (ts a cls d) (E2 a cls d) (E4 a cls d) eN R' ms) :
    SS (fun D σ H => tSeq (tAsg (tCallS (spX K a s mc) (WE (wAs K (.ref C) i ts Wout D)) tA) (gName j)) u D σ H) E E' Ec R'
      (fun γ => ob (f γ) fun x => ob (mc x) fun r => match r with | .ok y => mm (p y γ) | .error e => ob (Mi.fin (ms (pe e γ))) fun b => some (.ret b)) := ⟨fun {σ F0 H0 F H L γ r D} O hE e fin => by
  obtain ⟨y, e1, e⟩ := ob_some e
  obtain ⟨x, e2, e⟩ := ob_some e
  show tA σ H fun vs H1 => spX K a s mc vs H1 (fun v H2 => u D (σ.set j (some v)) H2) (WE (wAs K (.ref C) i ts Wout D) σ)
  refine ha O.fh (Held.of O) hE e1 fun vs F1 H1 s1 r1 => ⟨F1, y, x, s1.fh, r1, e2, ?_⟩
  have O1 := Own.on O s1
  rw [List.nil_append] at O1
  cases x with
  | ok x =>
    refine fun v F2 H2 L2 s2 r2 => ?_
    obtain ⟨L', h1, h2⟩ := hp (E.m (s1.f0.trans s2.f0) hE) r2
    exact hu.run (OwnSb (Own.on O1 s2) h2) h1 e (fin.mo (s1.f0.trans s2.f0))
  | error er =>
    refine fun cls d F2 H2 s2 r2 => ?_
    have hcl : cls = .ref (He.ga K (exN er.1)) := r2.1
    refine ⟨true, by rw [hcl]; exact hx er.1, fun _ a na => ?_, fun z => nomatch z⟩
    obtain ⟨b, e3, e⟩ := ob_some e
    cases e
    obtain ⟨r3, e4, e5⟩ := ob_some e3
    have O2 := Own.on O1 s2
    rw [List.nil_append] at O2
    obtain ⟨L', h1, h2⟩ := (hpe a cls d).run (v := .ref a) (L1 := []) (x := er) (E.m (s1.f0.trans s2.f0) hE) ⟨rfl, rfl, r2⟩
    refine (hs a cls d).run (OwnSb O2 h2) h1 e4 ?_
    cases r3 with
    | ret b2 =>
      cases e5
      exact R'.mo fin (s1.f0.trans s2.f0)
    | nxt _ => cases e5
    | cnt _ => cases e5
    | brk _ => cases e5⟩
end
/-! ### defs that raise -/
section
variable {ρ ρ' ρ'' α β : Type} {E : En ρ} {E' : En ρ'} {K : PySem.W.Frag} {t : TS}
def DnX (P : Program) (w : World) (K : PySem.W.Frag) (mg : Str → Option Value) (base : Heap) (k : Nat) (f : Addr) (ps : List Str) (sp : Sp) : Prop :=
  ∃ fd, FnOk P w K mg base (L2.CX P w) k f fd ps sp ∧ Binds K fd ps [] ∧ PySem.W.keepIn K (.ref f) = true ∧ Lk K f fd
theorem dnx_mk {P : Program} {w : World} {mg : Str → Option Value} {base : Heap} {x q : Str} {st : Stmt} {f : Addr} {N ps : List Str} {k : Nat} {sp : Sp} (F : ∃ fd, FnP K x q st f fd) (S : FnScope N ps (defScope st))
    (hb : ∀ (kV doc pm : Value) (an : Option Addr) (cdv ct : Value) (us : List Value), us.length = ps.length → bindArgs (PySem.W.fnOf x q (defArgs st) (defBody st) (defScope st) .none kV doc pm an cdv ct) ⟨us, []⟩ = pure (ps.zip us))
    (len : ∀ vs H Q E, sp vs H Q E → vs.length = ps.length)
    (hbody : ∀ (cdv : Value) (A : Around) (outer : List Env) (s : Shared) (H : Hp) (vs : List V) (Q : VK) (E : XK), Room k (A.deeper (envOfC q (defScope st) s.heap.objs.size f cdv)) → sp vs H Q E →
      ∃ t, PSs (cxOf (L2.CX P w) P w K mg base N q (defScope st) f cdv A outer s H E) (defBody st) t ∧ t ⟨fun _ H' => Q .non H', Q, fun _ _ => False, fun _ _ => False⟩ (start N vs) H) : DnX P w K mg base (k + 1) f ps sp := by
  obtain ⟨fd, F⟩ := F
  refine ⟨fd, F.ok S len fun cdv A outer s H vs Q E hr hsp => ?_, F.bindsN hb, F.kp, lk_of F⟩
  obtain ⟨t, h, q⟩ := hbody cdv A outer s H vs Q E hr hsp
  exact ⟨t, h, q⟩
theorem spX_len {a : Ar ρ} {sl : Sl β} {m : ρ → Option (Except Exn β)} {n : Nat} (h : AN a n) : ∀ vs H Q E, spX K a sl m vs H Q E → vs.length = n := fun _ _ _ _ ⟨_, _, _, _, r, _⟩ => h.run r
theorem spUX_len {A : Au ρ} {T : Rp α} {m : List α → ρ → Option (Except Exn (List α))} {n : Nat} (h : AUN A n) : ∀ vs H Q E, spUX K A T m vs H Q E → vs.length = n := fun _ _ _ _ ⟨_, _, _, _, _, _, _, _, _, _, r, _⟩ => h.run r
theorem finX_runX {a : Ar ρ} {sl : Sl β} {n k : Nat} {N : List Str} {mm : ρ → Option (Except Exn β)} {vs : List V} {H : Hp} {Q : VK} {Ex : XK} {D : Ends} (hA : AE a E n) (hn : AN a k) (hN : N.length = k + n) (h : ∃ m : ρ → Option (Res ρ' Unit (Except Exn β)), SS t E E' eN (rX K Ex (rS sl)) m ∧ mm = fun γ => Mi.fin (m γ))
    (q : spX K a sl mm vs H Q Ex) (hD : D.rt = Q) : t D (L2.start N vs) H := by
  obtain ⟨m, hs, hm⟩ := h
  obtain ⟨F, γ, b, s0, r, e, k⟩ := q
  subst hm
  obtain ⟨r1, e1, e2⟩ := ob_some e
  have hl := hn.run r
  have hs' : L2.start N vs = vs.map some ++ List.replicate n none := by
    unfold L2.start
    rw [show N.length - vs.length = n by omega]
  rw [hs']
  refine hs.run (Own.start s0 trivial) (hA.run r) e1 ?_
  cases r1 with
  | ret b2 =>
    cases e2
    cases b with
    | ok y => rw [← hD] at k; exact fun v F' H' L _ O r' => k v F' H' L O r'
    | error er => exact fun cls d F' H' _ O r' => k cls d F' H' O r'
  | nxt _ => cases e2
  | cnt _ => cases e2
  | brk _ => cases e2
/-- of a def that falls off its end or raises -/
def finNX {ρ κ : Type} (x : Option (Res ρ κ (Except Exn Unit))) : Option (Except Exn Unit) := ob x fun r => match r with | .ret b => some b | .nxt _ => some (.ok ()) | _ => none
theorem finNX_runX {a : Ar ρ} {n k : Nat} {N : List Str} {mm : ρ → Option (Except Exn Unit)} {vs : List V} {H : Hp} {Q : VK} {Ex : XK} {D : Ends} (hA : AE a E n) (hn : AN a k) (hN : N.length = k + n) (h : ∃ m : ρ → Option (Res ρ' Unit (Except Exn Unit)), SS t E E' eN (rX K Ex (rS (sF jN))) m ∧ mm = fun γ => finNX (m γ))
    (q : spX K a (sF jN) mm vs H Q Ex) (hD : D.rt = Q) (hD2 : D.nx = fun _ H' => Q .non H') : t D (L2.start N vs) H := by
  obtain ⟨m, hs, hm⟩ := h
  obtain ⟨F, γ, b, s0, r, e, k⟩ := q
  subst hm
  obtain ⟨r1, e1, e2⟩ := ob_some e
  have hl := hn.run r
  have hs' : L2.start N vs = vs.map some ++ List.replicate n none := by
    unfold L2.start
    rw [show N.length - vs.length = n by omega]
  rw [hs']
  refine hs.run (Own.start s0 trivial) (hA.run r) e1 ?_
  cases r1 with
  | ret b2 =>
    cases e2
    cases b with
    | ok y => rw [← hD] at k; exact fun v F' H' L _ O r' => k v F' H' L O r'
    | error er => exact fun cls d F' H' _ O r' => k cls d F' H' O r'
  | nxt _ =>
    cases e2
    exact fun σ F' H' L _ O r' => by rw [hD2]; exact k .non F' H' [] (OwnSb O (Sb.nil _)) ⟨rfl, rfl⟩
  | cnt _ => cases e2
  | brk _ => cases e2
def finUX {ρ κ : Type} (g : ρ → List α) (x : Option (Res ρ κ (Except Exn Unit))) : Option (Except Exn (List α)) := ob x fun r => match r with | .nxt γ => some (.ok (g γ)) | .ret (.error e) => some (.error e) | _ => none
theorem finUX_runX {A : Au ρ} {T : Rp α} {k n : Nat} {N : List Str} {E0 : Addr → En ρ''} {E1 : Addr → En ρ'} {j : List α → ρ → ρ''} {g : ρ' → List α} {i : Nat} {mm : List α → ρ → Option (Except Exn (List α))} {vs : List V} {H : Hp} {Q : VK} {Ex : XK} {D : Ends}
    (hA : ∀ p, AUE A T p (E0 p) n j) (hn : AUN A k) (hN : N.length = k + n) (hg : ∀ p, Gt (E1 p) i (sOA p T) g) (h : ∀ p, ∃ m : ρ'' → Option (Res ρ' Unit (Except Exn Unit)), SS t (E0 p) (E1 p) eN (rX K Ex (rS (sF jN))) m ∧ mm = fun xs γ => finUX g (m (j xs γ))) (q : spUX K A T mm vs H Q Ex)
    (hD2 : D.nx = fun _ H' => Q .non H') : t D (L2.start N vs) H := by
  obtain ⟨F, p, ws, xs, γ, b, s0, hF, hH, q1, r, e, k⟩ := q
  obtain ⟨m, hs, hm⟩ := h p
  subst hm
  obtain ⟨r1, e1, e2⟩ := ob_some e
  have hl := hn.run r
  have hs' : L2.start N vs = vs.map some ++ List.replicate n none := by
    unfold L2.start
    rw [show N.length - vs.length = n by omega]
  rw [hs']
  refine hs.run (Own.lend s0 hF hH) ((hA p).run r q1) e1 ?_
  cases r1 with
  | nxt γ' =>
    cases e2
    refine fun σ F' H' L _ O r' => ?_
    rw [hD2]
    obtain ⟨v, L1, _, h2, vs', _, h4, h5⟩ := hg p r'
    subst h4
    refine k F' H' vs' (OwnSb O ?_) h5
    obtain ⟨a, b, hab⟩ := List.append_of_mem (h2 _ List.mem_cons_self)
    rw [hab]
    exact ⟨a ++ b, (List.perm_middle (l₁ := a) (l₂ := b)).symm⟩
  | ret b2 =>
    cases b2 with
    | ok y => cases e2
    | error er =>
      cases e2
      exact fun cls d F' H' _ O r' => k cls d F' H' O r'
  | cnt _ => cases e2
  | brk _ => cases e2
end
/-! ### what it tells -/
section
variable {α β ρ ρ' κ : Type}
/-- of an outcome -/
def Xf (Q : Except Exn β → Prop) (f : α → Option (Except Exn β)) : Except Exn α → Prop
  | .ok a => W (f a) Q
  | .error e => Q (.error e)
theorem Xf_ok {Q : Except Exn β → Prop} {f : α → Option (Except Exn β)} {a : α} : Xf Q f (.ok a) = W (f a) Q := rfl
theorem Xf_er {Q : Except Exn β → Prop} {f : α → Option (Except Exn β)} {e : Exn} : Xf Q f (.error e) = Q (.error e) := rfl
theorem W_obx {x : Option (Except Exn α)} {f : α → Option (Except Exn β)} {Q : Except Exn β → Prop} : W (obx x f) Q = W x (Xf Q f) := by
  unfold obx
  rw [W_ob]
  congr 1
  funext r
  cases r with
  | ok a => rfl
  | error e => exact W_some
def Xr (Q : Res ρ κ (Except Exn β) → Prop) (f : α → Option (Res ρ κ (Except Exn β))) : Except Exn α → Prop
  | .ok a => W (f a) Q
  | .error e => Q (.ret (.error e))
theorem Xr_ok {Q : Res ρ κ (Except Exn β) → Prop} {f : α → Option (Res ρ κ (Except Exn β))} {a : α} : Xr Q f (.ok a) = W (f a) Q := rfl
theorem Xr_er {Q : Res ρ κ (Except Exn β) → Prop} {f : α → Option (Res ρ κ (Except Exn β))} {e : Exn} : Xr Q f (.error e) = Q (.ret (.error e)) := rfl
theorem W_rbx {x : Option (Except Exn α)} {f : α → Option (Res ρ κ (Except Exn β))} {Q : Res ρ κ (Except Exn β) → Prop} : W (rbx x f) Q = W x (Xr Q f) := by
  unfold rbx
  rw [W_ob]
  congr 1
  funext r
  cases r with
  | ok a => rfl
  | error e => exact W_some
theorem W_okx {a : α} {Q : α → Prop} : W (okx (.ok a)) Q = Q a := W_some
def RfNX (Q : Except Exn Unit → Prop) : Res ρ κ (Except Exn Unit) → Prop
  | .ret b => Q b
  | .nxt _ => Q (.ok ())
  | _ => False
theorem RfNX_ret {Q : Except Exn Unit → Prop} {b : Except Exn Unit} : RfNX (ρ := ρ) (κ := κ) Q (.ret b) = Q b := rfl
theorem RfNX_nxt {Q : Except Exn Unit → Prop} {γ : ρ} : RfNX (κ := κ) Q (.nxt γ) = Q (.ok ()) := rfl
theorem W_finNX {x : Option (Res ρ κ (Except Exn Unit))} {Q : Except Exn Unit → Prop} : W (finNX x) Q = W x (RfNX Q) := by
  unfold finNX
  rw [W_ob]
  congr 1
  funext r
  cases r with
  | nxt γ => exact W_some
  | ret b => exact W_some
  | cnt γ => exact W_none
  | brk γ => exact W_none
def RfUX (Q : Except Exn (List α) → Prop) (g : ρ → List α) : Res ρ κ (Except Exn Unit) → Prop
  | .nxt γ => Q (.ok (g γ))
  | .ret (.error e) => Q (.error e)
  | _ => False
theorem RfUX_nxt {Q : Except Exn (List α) → Prop} {g : ρ → List α} {γ : ρ} : RfUX (κ := κ) Q g (.nxt γ) = Q (.ok (g γ)) := rfl
theorem RfUX_er {Q : Except Exn (List α) → Prop} {g : ρ → List α} {e : Exn} : RfUX (κ := κ) Q g (.ret (.error e)) = Q (.error e) := rfl
theorem W_finUX {g : ρ → List α} {x : Option (Res ρ κ (Except Exn Unit))} {Q : Except Exn (List α) → Prop} : W (finUX g x) Q = W x (RfUX Q g) := by
  unfold finUX
  rw [W_ob]
  congr 1
  funext r
  cases r with
  | nxt γ => exact W_some
  | ret b => cases b with
    | ok y => exact W_none
    | error e => exact W_some
  | cnt γ => exact W_none
  | brk γ => exact W_none
end
end Mi

namespace Mi
open PySem PySem.Spec PyProof.Rows L2 Fw
/-! ### what the text says of the exception classes -/
def exC (K : PySem.W.Frag) (c : Nat) : Addr := He.ga K (exN c)
/-- the classes that isinstance is asked of: 0 to 4 as they are numbered, HomeError, ValueError -/
def exT (K : PySem.W.Frag) (t : Nat) : Value := if t = 6 then .type "ValueError" else .ref (exC K t)
def exIs (c t : Nat) : Bool := decide (c = t) || decide (t = 5) || decide (t = 6)
def xcB (K : PySem.W.Frag) (D : Addr) : Bool := decide (PySem.W.findIn K (.ref D) "__getattribute__" = some (some (.builtin "BaseException.__getattribute__"))) && (decide (PySem.W.findIn K (.ref D) "__getattr__" = some none) && (decide (PySem.W.subIn K (.ref D) (.type "BaseException") = some true) &&
  (PySem.W.hasDictIn K D && (decide (PySem.W.findIn K (.ref D) "__class__" = some (some (.builtin "object.__class__"))) && (decide (PySem.W.specialIn K (.builtin "object.__class__") "__get__" = some (some (.builtin "getset_descriptor.__get__"))) &&
  (decide (PySem.W.takesIn K (.builtin "object.__class__") = some true) && decide (PySem.W.mroIn K D (.type "object") = some true)))))))
theorem xcB_ok {K : PySem.W.Frag} {D : Addr} (h : xcB K D = true) : ExcC K D := by
  obtain ⟨h1, h⟩ := He.ba h
  obtain ⟨h2, h⟩ := He.ba h
  obtain ⟨h3, h⟩ := He.ba h
  obtain ⟨h4, h⟩ := He.ba h
  obtain ⟨h5, h⟩ := He.ba h
  obtain ⟨h6, h⟩ := He.ba h
  obtain ⟨h7, h8⟩ := He.ba h
  exact ⟨of_decide_eq_true h1, of_decide_eq_true h2, of_decide_eq_true h3, h4, of_decide_eq_true h5, of_decide_eq_true h6, of_decide_eq_true h7, of_decide_eq_true h8⟩
def xB (K : PySem.W.Frag) : Bool := (List.range 6).all fun c => xcB K (exC K c) && (decide (PySem.W.exmOne K (.ref (exC K c)) (.ref (exC K 5)) = some true) && ((List.range 7).all fun t => decide (PySem.W.kitOne K (.ref (exC K c)) (exT K t) = some (exIs c t))))
structure XFa (K : PySem.W.Frag) : Prop where
  xc : ∀ c, ExcC K (exC K c)
  xm : ∀ c, PySem.W.exmOne K (.ref (exC K c)) (.ref (exC K 5)) = some true
  is : ∀ c t, t < 7 → PySem.W.kitOne K (.ref (exC K c)) (exT K t) = some (exIs c t)
theorem exC_le (K : PySem.W.Frag) (c : Nat) : ∃ c', c' < 6 ∧ exC K c = exC K c' ∧ ∀ t, t < 7 → exIs c' t = exIs c t := by
  by_cases h : c < 6
  · exact ⟨c, h, rfl, fun _ _ => rfl⟩
  · refine ⟨5, by decide, ?_, fun t ht => ?_⟩
    · obtain ⟨n, rfl⟩ : ∃ n, c = n + 5 := ⟨c - 5, by omega⟩
      rfl
    · unfold exIs
      by_cases h5 : t = 5
      · subst h5; simp
      · by_cases h6 : t = 6
        · subst h6; simp
        · rw [decide_eq_false h5, decide_eq_false h6, decide_eq_false (by omega), decide_eq_false (by omega)]
theorem xB_ok {K : PySem.W.Frag} (h : xB K = true) : XFa K := by
  have key : ∀ c, c < 6 → ExcC K (exC K c) ∧ PySem.W.exmOne K (.ref (exC K c)) (.ref (exC K 5)) = some true ∧ ∀ t, t < 7 → PySem.W.kitOne K (.ref (exC K c)) (exT K t) = some (exIs c t) := fun c hc => by
    have h2 := List.all_eq_true.mp h c (List.mem_range.mpr hc)
    obtain ⟨a, b⟩ := He.ba h2
    obtain ⟨b, d⟩ := He.ba b
    exact ⟨xcB_ok a, of_decide_eq_true b, fun t ht => of_decide_eq_true (List.all_eq_true.mp d t (List.mem_range.mpr ht))⟩
  refine ⟨fun c => ?_, fun c => ?_, fun c t ht => ?_⟩ <;> obtain ⟨c', h1, h2, h3⟩ := exC_le K c <;> rw [h2]
  · exact (key c' h1).1
  · exact (key c' h1).2.1
  · rw [(key c' h1).2.2 t ht, h3 t ht]
/-! ### isinstance(error, C) -/
section
variable {X : Cx} {K : PySem.W.Frag}
def rIsX (K : PySem.W.Frag) (a : Addr) (cls : Value) (d : Option Addr) : List V → Hp → VK → Prop := fun xs H Q => ∃ (D : Addr) (c : V) (cv : Value) (b : Bool), cls = .ref D ∧ ExcC K D ∧ (d = none ∨ ∃ dd fs, d = some dd ∧ H dd = some (.xd fs)) ∧ xs = [.ref a, c] ∧ (∀ u, RelV c u → u = cv) ∧
  PySem.W.kitOne K (.ref D) cv = some b ∧ Q (.bl b) H
theorem isX_ {a : Addr} {cls : Value} {d : Option Addr} {oe : Obj} {pn : List (Addr × Obj)} (hz : Zc cls d oe) (hf : ∃ vs, oe.data = .fields vs) (eK : X.K = K := by rfl) : CallR (X.suite a ((a, oe) :: pn)) (.builtin "isinstance") (rIsX K a cls d) := by
  subst eK
  intro pins s σ H xs us Q I r h
  obtain ⟨D, c, cv, b, rfl, T, hd, rfl, hcv, e, q⟩ := h
  cases r with
  | cons rx rr => cases rr with
    | cons rt rr =>
      cases rr
      cases rx
      obtain rfl := hcv _ rt
      obtain ⟨hget, _⟩ := I.pin (a, oe) (List.mem_append.mpr (.inl List.mem_cons_self))
      obtain ⟨fv, hv⟩ := hf
      obtain ⟨od, J⟩ : ∃ od, PySem.W.InstAt s.heap a oe D od := by
        obtain ⟨z1, z2⟩ := hz
        rcases hd with hd | ⟨dd, fs, hd, hh⟩
        · exact ⟨none, hget, z1, by unfold PySem.W.notCls; rw [hv] <;> rfl, by rw [z2, hd]; trivial⟩
        · have ok : ObjOk X.prog X.w H s.heap dd (.xd fs) := I.hok dd _ hh
          obtain ⟨mA, hns, _⟩ := ok
          obtain ⟨od, ho, _⟩ := lookIn_ns hns
          exact ⟨some od, hget, z1, by unfold PySem.W.notCls; rw [hv] <;> rfl, by rw [z2, hd]; exact ho⟩
      have hcl : (PySem.W.clsIn X.K D).isSome = true := by
        obtain ⟨cd, hc, _⟩ := PySem.W.any_some T.hd
        rw [hc]
        rfl
      exact PySem.W.kia_one (PySem.W.kitx_exc hcl T.hg T.hk T.hs T.ha T.hn T.ht T.hm) I.kIn J e (fun z => nomatch z) fun tk => ⟨.bl b, H, I.kept (t' := tk) fun _ _ z => z, rfl, q⟩
end
section
variable {ρ : Type} {E : En ρ} {K : PySem.W.Frag} {i : Nat} {a : Addr} {cls : Value} {d : Option Addr}
theorem se_isX {g : ρ → Exn} {c : V} {t : Nat} (X : XFa K) (ht : t < 7) (hg : Gt E i (sE K a cls d) g) (hc : ∀ u, RelV c u → u = exT K t) : SE (tCB (rIsX K a cls d) (tCons (tVar i) (tCons (tC c) tNil))) E (sF jB) (fun γ => some (exIs (g γ).1 t)) := ⟨fun s0 hL hE e k => by
  cases e
  obtain ⟨v, L1, h1, _, e1, _, r⟩ := hg hE
  subst e1
  refine ⟨_, h1, exC K (g _).1, c, exT K t, exIs (g _).1 t, r.1, X.xc _, ?_, rfl, hc, X.is _ t ht, k _ _ _ [] (Step.nil s0) ⟨rfl, rfl⟩⟩
  rcases r.2 with ⟨_, dd, fs, e2, e3, _⟩ | ⟨_, e2⟩
  · exact .inr ⟨dd, fs, e2, s0 _ _ e3⟩
  · exact .inl e2⟩
/-- error.line, error.column -/
theorem se_line {g : ρ → Exn} (hg : Gt E i (sE K a cls d) g) : SE (tXf a cls d (exC K 0) "line" (tVar i)) E (sF jI) (fun γ => pck ((g γ).1 = 0) (g γ).2.1) := ⟨fun s0 hL hE e k => by
  obtain ⟨p, rfl⟩ := pck_some e
  obtain ⟨v, L1, h1, _, e1, _, r⟩ := hg hE
  subst e1
  refine ⟨_, h1, rfl, by rw [r.1, p]; rfl, ?_⟩
  rcases r.2 with ⟨_, dd, fs, e2, e3, e4, e5⟩ | ⟨h, _⟩
  · exact ⟨dd, fs, _, e2, s0 _ _ e3, e4, k _ _ _ [] (Step.nil s0) ⟨rfl, rfl⟩⟩
  · exact absurd p h⟩
theorem se_column {g : ρ → Exn} (hg : Gt E i (sE K a cls d) g) : SE (tXf a cls d (exC K 0) "column" (tVar i)) E (sF jI) (fun γ => pck ((g γ).1 = 0) (g γ).2.2) := ⟨fun s0 hL hE e k => by
  obtain ⟨p, rfl⟩ := pck_some e
  obtain ⟨v, L1, h1, _, e1, _, r⟩ := hg hE
  subst e1
  refine ⟨_, h1, rfl, by rw [r.1, p]; rfl, ?_⟩
  rcases r.2 with ⟨_, dd, fs, e2, e3, e4, e5⟩ | ⟨h, _⟩
  · exact ⟨dd, fs, _, e2, s0 _ _ e3, e5, k _ _ _ [] (Step.nil s0) ⟨rfl, rfl⟩⟩
  · exact absurd p h⟩
end
/-! ### try, said once -/
section
variable {α β ρ κ τ : Type}
def trx (x : Option (Except Exn α)) (f : α → Option (Res ρ κ τ)) (g : Exn → Option (Res Unit Unit τ)) : Option (Res ρ κ τ) := ob x fun r => match r with
  | .ok y => f y
  | .error e => ob (Mi.fin (g e)) fun b => some (.ret b)
def Xt (Q : Res ρ κ τ → Prop) (f : α → Option (Res ρ κ τ)) (g : Exn → Option (Res Unit Unit τ)) : Except Exn α → Prop
  | .ok y => W (f y) Q
  | .error e => W (g e) (Rf fun b => Q (.ret b))
theorem Xt_ok {Q : Res ρ κ τ → Prop} {f : α → Option (Res ρ κ τ)} {g : Exn → Option (Res Unit Unit τ)} {y : α} : Xt Q f g (.ok y) = W (f y) Q := rfl
theorem Xt_er {Q : Res ρ κ τ → Prop} {f : α → Option (Res ρ κ τ)} {g : Exn → Option (Res Unit Unit τ)} {e : Exn} : Xt Q f g (.error e) = W (g e) (Rf fun b => Q (.ret b)) := rfl
theorem W_trx {x : Option (Except Exn α)} {f : α → Option (Res ρ κ τ)} {g : Exn → Option (Res Unit Unit τ)} {Q : Res ρ κ τ → Prop} : W (trx x f g) Q = W x (Xt Q f g) := by
  unfold trx
  rw [W_ob]
  congr 1
  funext r
  cases r with
  | ok a => rfl
  | error e =>
    show W (ob (Mi.fin (g e)) fun b => some (.ret b)) Q = _
    rw [W_ob, W_fin]
    unfold Xt
    congr 2
    funext b
    exact W_some
end
theorem ss_tryN {ρ ρ' ρ'' ρ2 α δ κ τ : Type} {E : En ρ} {E' : En ρ'} {E1 : En ρ''} {Ec : En κ} {tA : TA} {K : PySem.W.Frag} {u : TS} {s : Sl α} {E2 : Addr → Value → Option Addr → En ρ2} {a : Ar δ} {i j : Nat} {ts : Addr → Value → Option Addr → TS} {Wout : WX} {f : ρ → Option δ} {mc : δ → Option (Except Exn α)} {p : α → ρ → ρ''} {pe : Exn → ρ → ρ2} {R' : RRt τ}
    {mm : ρ'' → Option (Res ρ' κ τ)} {ms : ρ2 → Option (Res Unit Unit τ)} {E4 : Addr → Value → Option Addr → En Unit}
    (X : XFa K) (ha : SA tA E a f) (hp : Pt E j s E1 p) (hu : SS u E1 E' Ec R' mm) (hpe : ∀ a cls d, Pt E i (sE K a cls d) (E2 a cls d) pe) (hs : ∀ a cls d, SS (ts a cls d) (E2 a cls d) (E4 a cls d) eN R' ms) :
    SS (fun D σ H => tSeq (tAsg (tCallS (spX K a s mc) (WE (wAs K (.ref (exC K 5)) i ts Wout D)) tA) (gName j)) u D σ H) E E' Ec R' (fun γ => ob (f γ) fun x => trx (mc x) (fun y => mm (p y γ)) (fun e => ms (pe e γ))) :=
  ss_conv (ss_try (Wout := Wout) X.xm ha hp hu hpe hs) (by
    funext γ
    refine congrArg (ob (f γ)) ?_
    funext x
    unfold trx
    refine congrArg (ob (mc x)) ?_
    funext r
    cases r <;> rfl)
end Mi

namespace Mi
open PySem PySem.Spec PyProof.Rows L2 Fw
/-! ### own lists handed over -/
section
variable {ρ ρ' ρ'' α β δ κ τ : Type} {E : En ρ} {E' : En ρ'} {E1 : En ρ''} {Ec : En κ} {tA : TA} {K : PySem.W.Frag} {u : TS} {s : Sl α} {s' : Sl β} {s2 : Sl δ}
/-- a name's thing is replaced by another -/
structure Rx (E : En ρ) (i : Nat) (s : Sl α) (g : ρ → α) (s' : Sl β) (E1 : En ρ'') (put : β → ρ → ρ'') : Prop where
  run : ∀ {σ : L2.St} {F : Hp} {L : List (Addr × HO)} {γ : ρ}, E.r σ F L γ → ∃ v pre L1 post, σ[i]? = some (some v) ∧ L = pre ++ (L1 ++ post) ∧ s.r v F L1 (g γ) ∧
    ∀ v' F' L1' x', Same F F' → s'.r v' F' L1' x' → E1.r (σ.set i (some v')) F' (pre ++ (L1' ++ post)) (put x' γ)
theorem x0 : Rx (eC s E) 0 s (fun γ => γ.1) s' (eC s' E) (fun x γ => (x, γ.2)) := ⟨fun ⟨v, σ', L1, L2, e1, e2, h, t⟩ => by
  subst e1 e2
  exact ⟨v, [], L1, L2, rfl, rfl, h, fun v' F' L1' x' z h' => ⟨v', σ', L1', L2, rfl, rfl, h', E.m z t⟩⟩⟩
theorem xU {i : Nat} {g : ρ → α} {put : β → ρ → ρ''} (h : Rx E i s g s' E1 put) : Rx (eU E) (i + 1) s g s' (eU E1) put := ⟨fun ⟨o, σ', e, t⟩ => by
  subst e
  obtain ⟨v, pre, L1, post, h1, h2, h3, h4⟩ := h.run t
  exact ⟨v, pre, L1, post, h1, h2, h3, fun v' F' L1' x' z h' => ⟨o, _, rfl, h4 v' F' L1' x' z h'⟩⟩⟩
theorem xS {i : Nat} {g : ρ → α} {put : β → ρ → ρ''} (h : Rx E i s g s' E1 put) : Rx (eC s2 E) (i + 1) s (fun γ => g γ.2) s' (eC s2 E1) (fun x γ => (γ.1, put x γ.2)) := ⟨fun ⟨v', σ', La, L2, e1, e2, q, t⟩ => by
  subst e1 e2
  obtain ⟨v, pre, L1, post, h1, h2, h3, h4⟩ := h.run t
  subst h2
  exact ⟨v, La ++ pre, L1, post, h1, by rw [List.append_assoc], h3, fun w F' L1' x' z h' => ⟨v', _, La, _, rfl, by rw [List.append_assoc], s2.m z q, h4 w F' L1' x' z h'⟩⟩⟩
/-- called with such arguments and a list that is handed over -/
def spC (A : Au ρ) (R : Rp α) (s : Sl β) (m : List α → ρ → Option β) : Sp := fun vs H Q _ => ∃ F p ws xs γ b, Same F H ∧ F p = none ∧ H p = some (.lst ws) ∧ Paired (R.r F) ws xs ∧ A.r F vs p γ ∧ m xs γ = some b ∧
  ∀ v F' H' L, Own F (cutH H p) F' H' L [] → s.r v F' L b → Q v H'
/-- a callee has taken the own list at p over -/
theorem Own.given {F0 H0 F H F' H' : Hp} {pre post L' : List (Addr × HO)} {p : Addr} {o : HO} (O : Own F0 H0 F H (pre ++ ([(p, o)] ++ post)) []) (c : Own F (cutH H p) F' H' L' []) : Own F0 H0 F' H' (pre ++ (L' ++ post)) [] := by
  have O1 : Own F0 H0 F H ((p, o) :: (pre ++ post)) [] := O.perm (List.perm_middle (l₁ := pre) (l₂ := post)).symm
  obtain ⟨hF, hH0, hH⟩ := O1.own _ List.mem_cons_self
  have nd := O1.nd
  rw [List.map_cons] at nd
  obtain ⟨n1, n2⟩ := List.nodup_cons.mp nd
  have hc : ∀ b u, b ≠ p → H b = some u → H' b = some u := fun b u n e => c.hh b u (by rw [cutH_ne n]; exact e)
  have key : Own F0 H0 F' H' (L' ++ (pre ++ post)) [] := by
    refine ⟨O1.f0.trans c.f0, c.fh, fun b u e => hc b u (ne_of_none e hH0) (O1.hh b u e), fun b u h => ?_, fun q hq => ?_, ?_, trivial⟩
    · rcases c.new b u h with h | h
      · exact O1.new b u h
      · by_cases hb : b = p
        · subst hb
          exact .inr hH0
        · rw [cutH_ne hb] at h
          exact .inr (O1.hh.free h)
    · rcases List.mem_append.mp hq with hq | hq
      · obtain ⟨h1, h2, h3⟩ := c.own q hq
        refine ⟨h1, ?_, h3⟩
        by_cases hb : q.1 = p
        · rw [hb]; exact hH0
        · rw [cutH_ne hb] at h2
          exact O1.hh.free h2
      · obtain ⟨h1, h2, h3⟩ := O1.own q (List.mem_cons_of_mem _ hq)
        have hb : q.1 ≠ p := fun z => n1 (List.mem_map.mpr ⟨q, hq, z⟩)
        refine ⟨?_, h2, hc _ _ hb h3⟩
        cases z : F' q.1 with
        | none => rfl
        | some u =>
          rcases c.new _ _ z with h | h
          · rw [h1] at h; cases h
          · rw [cutH_ne hb, h3] at h; cases h
    · rw [List.map_append]
      refine List.nodup_append.mpr ⟨c.nd, n2, fun x hx y hy e2 => ?_⟩
      obtain ⟨q, hq, rfl⟩ := List.mem_map.mp hx
      obtain ⟨r, hr, rfl⟩ := List.mem_map.mp hy
      have hb : r.1 ≠ p := fun z => n1 (List.mem_map.mpr ⟨r, hr, z⟩)
      have h3 := (O1.own r (List.mem_cons_of_mem _ hr)).2.2
      have h4 := (c.own q hq).2.1
      rw [e2, cutH_ne hb, h3] at h4
      cases h4
  refine key.perm ?_
  rw [← List.append_assoc, ← List.append_assoc]
  exact List.perm_append_comm.append_right post
theorem ss_asgC {A : Au δ} {T : Rp τ} {i : Nat} {g : ρ → List τ} {put : α → ρ → ρ''} {f : ρ → Option δ} {m : List τ → δ → Option α} {Ex : XK} {R : RRt β} {mm : ρ'' → Option (Res ρ' κ β)} (hr : Rx E i (sO T) g s E1 put) (ha : SAu tA E i A f) (hu : SS u E1 E' Ec R mm) :
    SS (tSeq (tAsg (tCall (spC A T s m) [] Ex tA) (gName i)) u) E E' Ec R (fun γ => ob (f γ) fun a => ob (m (g γ) a) fun b => mm (put b γ)) := ⟨fun {σ F0 H0 F H L γ r D} O hE e fin => by
  obtain ⟨a, e1, e⟩ := ob_some e
  obtain ⟨b, e2, e⟩ := ob_some e
  obtain ⟨v, pre, L1, post, h1, h2, ⟨p, vs, h3, h4, h5⟩, h6⟩ := hr.run hE
  subst h3 h4 h2
  show tCall (spC A T s m) [] Ex tA σ H (fun w H1 => u D (σ.set i (some w)) H1)
  rw [q_call]
  refine ha.run O.fh (Held.of O) hE h1 e1 fun us F1 H1 s1 r1 => ?_
  have O1 := Own.on O s1
  rw [List.nil_append] at O1
  have hp : (p, HO.lst vs) ∈ pre ++ ([(p, HO.lst vs)] ++ post) := by simp
  refine ⟨F1, p, vs, g γ, a, b, O1.fh, (O1.own _ hp).1, (O1.own _ hp).2.2, Paired.mono (fun _ _ q => T.m s1.f0 q) h5, r1, e2, fun w F2 H2 L2 c q2 => ?_⟩
  exact hu.run (Own.given O1 c) (h6 w F2 L2 b (s1.f0.trans c.f0) q2) e (fin.mo (s1.f0.trans c.f0))⟩
structure AUC {α : Type} (A : Au ρ) (R : Rp α) (E : En ρ') (n : Nat) (j : List α → ρ → ρ') : Prop where
  run : ∀ {F : Hp} {vs ws : List V} {xs : List α} {γ : ρ} {p : Addr}, A.r F vs p γ → Paired (R.r F) ws xs → E.r (vs.map some ++ List.replicate n none) F [(p, .lst ws)] (j xs γ)
theorem auc_H {R : Rp α} {T : Ar ρ} {E : En ρ} {n : Nat} (h : AE T E n) : AUC (uH T) R (eC (sO R) E) n (fun xs γ => (xs, γ)) := ⟨fun {F vs ws xs γ p} ⟨r, e, t⟩ q => by
  subst e
  exact ⟨_, _, [(p, .lst ws)], [], rfl, rfl, ⟨p, ws, rfl, rfl, q⟩, h.run t⟩⟩
theorem auc_C {R : Rp α} {B : Rp β} {A : Au ρ} {E : En ρ'} {n : Nat} {j : List α → ρ → ρ'} (h : AUC A R E n j) : AUC (uC B A) R (eC (sF B) E) n (fun xs γ => (γ.1, j xs γ.2)) := ⟨fun ⟨v, r, e, r1, t⟩ q => by
  subst e
  exact ⟨v, _, [], _, rfl, rfl, ⟨rfl, r1⟩, h.run t q⟩⟩
theorem spC_len {A : Au ρ} {R : Rp α} {s : Sl β} {m : List α → ρ → Option β} {n : Nat} (h : AUN A n) : ∀ vs H Q E, spC A R s m vs H Q E → vs.length = n := fun _ _ _ _ ⟨_, _, _, _, _, _, _, _, _, _, r, _⟩ => h.run r
theorem finC_runX {A : Au ρ} {R : Rp α} {s : Sl β} {k n : Nat} {N : List Str} {E0 : En ρ''} {E1 : En ρ'} {j : List α → ρ → ρ''} {t : TS} {mm : List α → ρ → Option β} {vs : List V} {H : Hp} {Q : VK} {Ex : XK} {D : Ends}
    (hA : AUC A R E0 n j) (hn : AUN A k) (hN : N.length = k + n) (h : ∃ m : ρ'' → Option (Res ρ' Unit β), SS t E0 E1 eN (rS s) m ∧ mm = fun xs γ => Mi.fin (m (j xs γ))) (q : spC A R s mm vs H Q Ex) (hD : D.rt = Q) : t D (L2.start N vs) H := by
  obtain ⟨F, p, ws, xs, γ, b, s0, hF, hH, q1, r, e, k⟩ := q
  obtain ⟨m, hs, hm⟩ := h
  subst hm
  obtain ⟨r1, e1, e2⟩ := ob_some e
  have hl := hn.run r
  have hs' : L2.start N vs = vs.map some ++ List.replicate n none := by
    unfold L2.start
    rw [show N.length - vs.length = n by omega]
  rw [hs']
  refine hs.run (Own.lend s0 hF hH) (hA.run r q1) e1 ?_
  cases r1 with
  | ret b2 =>
    cases e2
    rw [← hD] at k
    exact fun v F' H' L _ O r' => k v F' H' L O r'
  | nxt _ => cases e2
  | cnt _ => cases e2
  | brk _ => cases e2
end
end Mi

namespace Mi
open PySem PySem.Spec PyProof.Rows L2 Fw
theorem sing_at {l : List Nat} {i : Nat} {x : List Nat} (h : (l.map fun c => [c])[i]? = some x) : ∃ c, l[i]? = some c ∧ x = [c] := by
  rw [List.getElem?_map] at h
  cases e : l[i]? with
  | none => rw [e] at h; cases h
  | some c => rw [e] at h; exact ⟨c, rfl, (Option.some.inj h).symm⟩
/-! ### enumerate(text) -/
/-- each sign with its place, in a new pair -/
def Ites (x : Str) : It := ⟨fun i _ => i < x.cps.size, fun i H v H' => ∃ T c, v = .ref T ∧ H T = none ∧ x.cps[i]? = some c ∧ H' = upd H T (.tup [.int (i : Nat), .str ⟨#[c]⟩]), fun i _ => x.cps.size ≤ i⟩
theorem turn_enumS {P : Program} {w : World} {K : PySem.W.Frag} {elts : List Expr} {kk : Nat} {tpos : Pos} (x : Str) (t : Tok) (e it : Addr) :
    Turn P w K (.Tuple elts kk tpos) (Ites x) [e, it] e (fun i h => (∃ old, IsEnum h e it ((i : Nat) : Int) old) ∧ h.IsStrIter it (strIterType x) x t i ∧ e ≠ it ∧ i ≤ x.cps.size) where
  mem := List.mem_cons_self
  obj := fun i h st b hb => by
    obtain ⟨⟨old, h1⟩, ⟨o, h2, _, h3⟩, _⟩ := st
    rcases List.mem_cons.mp hb with z | hb
    · rw [z]; exact ⟨_, h1, fun v q => nomatch q⟩
    · rw [List.mem_singleton.mp hb]
      exact ⟨o, h2, fun v q => by rw [h3] at q; cases q⟩
  keep := fun i h h' st k => by
    obtain ⟨⟨old, h1⟩, ⟨o, h2, h3⟩, hne, hle⟩ := st
    exact ⟨⟨old, k e List.mem_cons_self _ h1⟩, ⟨o, k it (List.mem_cons_of_mem _ List.mem_cons_self) o h2, h3⟩, hne, hle⟩
  item := by
    intro X hP hw hK hc i pins s σ H E I hf st hg
    subst hP hw hK
    obtain ⟨⟨old, he⟩, hit, hne, hle⟩ := st
    have D : Draws X.prog X.w X.A.in1 it [it] x.cps.size (SignAt x) (fun i h => h.IsStrIter it (strIterType x) x t i) := by
      have hd : X.A.in1.handled = none := I.ok.hd hc
      unfold strIterType
      split
      · exact Draws.strAscii hd it x t
      · exact Draws.strWide hd it x t
    have hel : e < s.heap.objs.size := Heap.lt_size he
    have hil : it < s.heap.objs.size := by
      obtain ⟨_, q, _⟩ := hit
      exact Heap.lt_size q
    refine wpAny_pyNext_enum_itemD D he hit hg hne (fun hm => hne (List.mem_singleton.mp hm)) fun v h' tk hv ho hit' hT hsz hk => ?_
    obtain ⟨c, u, hcx, ev⟩ := hv
    subst ev
    refine ⟨_, rfl, wpAny_letOwnedTupleGo_enum (s := { s with heap := h', toks := tk + 1 }) ho fun h2 he' sb => ?_⟩
    have hT2 : h2.get? s.heap.objs.size = some { cls := .type "tuple", data := .seq #[.int i tk, .str ⟨#[c]⟩ u] } := (sb.2 _ (Nat.ne_of_gt hel)).trans hT
    have new : ObjOk X.prog X.w (upd H s.heap.objs.size (.tup [.int (i : Nat), .str ⟨#[c]⟩])) h2 s.heap.objs.size (.tup [.int (i : Nat), .str ⟨#[c]⟩]) :=
      ⟨by show 2 ≤ sizeLine; decide, [.int i tk, .str ⟨#[c]⟩ u], .cons ⟨_, rfl⟩ (.cons ⟨_, rfl⟩ .nil), ⟨_, hT2, rfl, _, rfl⟩⟩
    have J : Inv X pins σ (upd H s.heap.objs.size (.tup [.int (i : Nat), .str ⟨#[c]⟩])) { s with heap := h2, toks := tk + 1 } :=
      I.turnedNew (ch := [e, it]) (fun b ob hb q => by
        have b1 : b ≠ e := fun z => hb (by rw [z]; exact List.mem_cons_self)
        have b2 : b ≠ it := fun z => hb (by rw [z]; exact List.mem_cons_of_mem _ List.mem_cons_self)
        exact (sb.2 b b1).trans (hk b ob b1 b2 q)) hf (Nat.le_refl _) new
    refine ⟨.ref s.heap.objs.size, _, J, rfl, ⟨_, c, rfl, I.hok.fresh (Nat.le_refl _), hcx, rfl⟩, ⟨⟨.str ⟨#[c]⟩ u, ?_⟩, ?_, hne, hg⟩, fun b hb => ?_⟩
    · rw [show ((i + 1 : Nat) : Int) = (i : Int) + 1 by omega]
      exact he'
    · obtain ⟨o, q1, q2⟩ := hit'
      exact ⟨o, (sb.2 it (Ne.symm hne)).trans q1, q2⟩
    · have hb' : b < s.heap.objs.size := by
        rcases List.mem_cons.mp hb with z | hb
        · rw [z]; exact hel
        · rw [List.mem_singleton.mp hb]; exact hil
      rw [upd_ne (Nat.ne_of_lt hb')]
      exact (hf b hb).1
  done := by
    intro X hP hw hK hc i pins s σ H E I hf st hg
    subst hP hw hK
    obtain ⟨⟨old, he⟩, hit, hne, hle⟩ := st
    have D : Draws X.prog X.w X.A.in1 it [it] x.cps.size (SignAt x) (fun i h => h.IsStrIter it (strIterType x) x t i) := by
      have hd : X.A.in1.handled = none := I.ok.hd hc
      unfold strIterType
      split
      · exact Draws.strAscii hd it x t
      · exact Draws.strWide hd it x t
    obtain ⟨f0, f1, f2, f3, f4, f5⟩ := hf it (List.mem_cons_of_mem _ List.mem_cons_self)
    obtain rfl : i = x.cps.size := Nat.le_antisymm hle hg
    exact wpAny_pyNext_enum_endD D he hit fun h' eb => ⟨rfl, I.turned (t' := s.toks) (fun b o hb q => eb b o hb q) f0 f1 f3 f4 f5⟩
  self := fun A i s Q E st h => by
    obtain ⟨⟨_, he⟩, _⟩ := st
    exact wpAny_pyIter_enum he h
def iEnumS (ta : TA) : TI := fun σ H R => ta σ H fun vs H1 => ∃ x, vs = [.str x] ∧ R (Ites x) H1
theorem pi_enumS {X : Cx} {e : Expr} {ta : TA} {p pos tpos : Pos} {elts : List Expr} {kk : Nat} (hg : Gl X "enumerate") (hm : X.mg "enumerate" = none) (ha : PA X [e] ta) (hs : starEach [e] X.env = [(false, eval e X.env)] := by rfl) :
    PI X (.Tuple elts kk tpos) (.Call (.Name "enumerate" p) [e] [] pos) (iEnumS ta) := by
  refine ⟨fun pins s σ H R I h => ?_⟩
  refine Call_ (ld_blt I hg hm boot_enumerate (PyProof.Rows.callWith_type1 (thn (ha.run pos pins s σ H _ I h) fun us s1 ⟨vs, H1, I1, r1, x, ev, q⟩ => ?_) hs rfl))
  subst ev
  cases r1 with
  | cons r rr =>
    cases rr
    obtain ⟨t, rfl⟩ := r
    refine call_enumerate_str fun h' hen hit hsz hk => wpAny_pyIter_enum hen ?_
    · have J : Inv X pins σ H1 { s1 with heap := h' } := I1.kept (t' := s1.toks) hk
      refine ⟨s1.heap.objs.size + 1, [s1.heap.objs.size + 1, s1.heap.objs.size], _, _, H1, rfl, J, turn_enumS x t (s1.heap.objs.size + 1) s1.heap.objs.size, ⟨⟨.none, hen⟩, hit, Nat.succ_ne_self _, Nat.zero_le _⟩, fun b hb => ?_, q⟩
      have hle : s1.heap.objs.size ≤ b := by
        rcases List.mem_cons.mp hb with z | hb
        · rw [z]; exact Nat.le_add_right _ _
        · rw [List.mem_singleton.mp hb]; exact Nat.le_refl _
      exact I1.fpOk hle (I1.hok.fresh hle)
section
variable {ρ : Type} {E : En ρ} {tA : TA}
theorem si_enumS {fa : ρ → Option (List Nat × Unit)} (h : SA tA E (aC jS aN) fa) : SI (iEnumS tA) E (jT (yC jI (y1 jS))) (fun γ => ob (fa γ) fun x => some (penum (x.1.map fun c => [c]))) where
  run s0 hL he e k := by
    obtain ⟨x, e1, e⟩ := ob_some e
    cases e
    refine h s0 hL he e1 fun vs F1 H1 s1 ⟨v, r, z1, r1, z2⟩ => ?_
    obtain ⟨x, _⟩ := x
    subst z1 z2
    have hsz : (S x).cps.size = x.length := by simp [S]
    refine ⟨S x, by rw [show v = _ from r1.1], k _ _ _ s1 ⟨fun {i F2 H2 y} s1 s2 e => ?_, fun s1 s2 => ?_⟩⟩
    · obtain ⟨g1, g2⟩ := penum_get e
      obtain ⟨c, hc, hy⟩ := sing_at g2
      refine ⟨by show i < (S x).cps.size; rw [hsz]; exact (List.getElem?_eq_some_iff.mp hc).1, fun u H3 hyl => ?_⟩
      obtain ⟨t, c', rfl, nt, e4, rfl⟩ := hyl
      have e5 : x[i]? = some c' := by simpa [S] using e4
      rw [hc] at e5
      cases e5
      refine yieldT s2 nt ⟨_, _, rfl, by show V.int _ = V.int _; rw [g1], _, rfl, by rw [hy]; rfl, by rw [hy]; exact fun d hd => by rw [List.mem_singleton.mp hd]; exact r1.2 c (List.mem_of_getElem? hc)⟩
    · show (S x).cps.size ≤ _
      rw [hsz, penum_len, List.length_map]
      exact Nat.le_refl _
end
end Mi

namespace Mi
open PySem PyProof.Rows L2 Fw
section
variable {α β : Type}
theorem ob_s (a : α) (f : α → Option β) : ob (some a) f = f a := rfl
theorem ixN_last {n : Nat} (h : 0 < n) : ixN n (-(1 : Int)) = some (n - 1) := by
  unfold ixN
  rw [if_neg (by omega), if_pos (by omega)]
  congr 1
  omega
theorem pat_last {xs : List α} {x : α} (h : xs.getLast? = some x) : pat xs (-(1 : Int)) = some x := by
  have hp : 0 < xs.length := List.length_pos_of_mem (List.mem_of_getLast? h)
  unfold pat L2.atI
  rw [ixN_last hp]
  rw [List.getLast?_eq_getElem?] at h
  exact h
theorem pset_last {xs : List α} {x y : α} (h : xs.getLast? = some x) : pset xs (-(1 : Int)) y = some (xs.dropLast ++ [y]) := by
  obtain ⟨ys, rfl⟩ := List.getLast?_eq_some_iff.mp h
  unfold pset
  rw [ixN_last (by simp)]
  simp
end
end Mi
namespace Mi
open PySem PyProof.Rows L2 Fw
section
variable {α : Type}
theorem pat_lastL (ys : List α) (x : α) : pat (ys ++ [x]) (((ys ++ [x]).length : Int) - 1) = some x := by
  have e : ((ys ++ [x]).length : Int) - 1 = (ys.length : Int) := by rw [List.length_append, List.length_singleton]; omega
  rw [e]
  exact pat_nat (by simp)
theorem pset_lastL (ys : List α) (x y : α) : pset (ys ++ [x]) (((ys ++ [x]).length : Int) - 1) y = some (ys ++ [y]) := by
  have e : ((ys ++ [x]).length : Int) - 1 = (ys.length : Int) := by rw [List.length_append, List.length_singleton]; omega
  rw [e, pset_nat (by simp)]
  simp
end
end Mi
namespace Mi
open PySem PyProof.Rows L2 Fw
instance (l : List Nat) : Decidable (Ltr l) := inferInstanceAs (Decidable (∀ c ∈ l, c ∈ ([65, 67, 71, 84, 78] : List Nat)))
theorem rep_flat (l : List Nat) (n : Nat) : (List.replicate n l).flatten.length = n * l.length ∧ ∀ c ∈ (List.replicate n l).flatten, c ∈ l := by
  refine ⟨?_, fun c hc => ?_⟩
  · rw [List.length_flatten, List.map_replicate, List.sum_replicate_nat]
  · obtain ⟨m, h1, h2⟩ := List.mem_flatten.mp hc
    rw [(List.mem_replicate.mp h1).2] at h2
    exact h2
end Mi

namespace Mi
open PySem PySem.Spec PyProof.Rows L2 Fw
/-! ### the error that tells a line and a column -/
/-- the class above it: its __init__ is that of ValueError -/
structure OIn (K : PySem.W.Frag) (B : Addr) : Prop where
  ga : PySem.W.specialIn K (.ref B) "__getattribute__" = some (some (.builtin "type.__getattribute__"))
  ty : PySem.W.typeIn K (.ref B) = some (.type "type")
  rd : PySem.W.readsIn K B (.type "type") = true
  ini : PySem.W.findCls K (.ref B) (.type "type") "__init__" = some (.val (.builtin "ValueError.__init__"))
def oexO (C : Addr) : Option Obj → Bool
  | some o => (match o with
    | ⟨.type "type", _, .cls cd, k⟩ => cd.hasDict && (!cd.hasDel && (match cd.mro with
      | .ref C' :: bm => decide (C' = C) && PySem.HandSPX.refsVE bm
      | _ => false) && (match k.toList with
      | [_, _, _, _, some (.builtin n), _] => decide (n = "ValueError.__new__")
      | _ => false))
    | _ => false)
  | none => false
theorem oexO_ok {C : Addr} {x : Option Obj} (h : oexO C x = true) : ∃ nm q N bs bm sn sub ab col dd k0 k1 k2 k3 k5, x = some (excClassObj nm q C N bs bm true sn sub ab col dd k0 k1 k2 k3 k5 "ValueError.__new__") ∧ PySem.HandSPX.refsVE bm = true := by
  unfold oexO at h
  split at h
  · split at h
    · rename_i dd cd k
      obtain ⟨h1, h⟩ := He.ba h
      obtain ⟨h2, h5⟩ := He.ba h
      obtain ⟨h3, h4⟩ := He.ba h2
      split at h4
      · rename_i C' bm hm
        obtain ⟨e1, hbm⟩ := He.ba h4
        have e1 := of_decide_eq_true e1
        subst e1
        split at h5
        · rename_i k0 k1 k2 k3 n k5 hk
          have e2 := of_decide_eq_true h5
          subst e2
          obtain ⟨nm, bs, mro, ns, qn, hd, sn, sub, ab, col, del⟩ := cd
          dsimp only at hm h1 h3
          subst hm h1
          have h3 : del = false := by cases del <;> first | rfl | cases h3
          subst h3
          obtain ⟨l⟩ := k
          have hk : l = [k0, k1, k2, k3, some (.builtin "ValueError.__new__"), k5] := hk
          subst hk
          exact ⟨nm, qn, ns, bs, bm, sn, sub, ab, col, dd, k0, k1, k2, k3, k5, rfl, hbm⟩
        · cases h5
      · cases h4
    · cases h
  · cases h
structure OFa (K : PySem.W.Frag) : Prop where
  oc : OexC K (exC K 0)
  oi : OIn K (exC K 5)
def viB : Option PySem.W.CFound → Bool
  | some (.val (.builtin n)) => decide (n = "ValueError.__init__")
  | _ => false
theorem viB_ok {x : Option PySem.W.CFound} (h : viB x = true) : x = some (.val (.builtin "ValueError.__init__")) := by
  unfold viB at h
  split at h
  · rw [of_decide_eq_true h]
  · cases h
def oB (K : PySem.W.Frag) : Bool := oexO (exC K 0) (K.lookup (exC K 0)) && (decide (PySem.W.findIn K (.ref (exC K 0)) "__setattr__" = some (some (.builtin "object.__setattr__"))) && (decide (PySem.W.subIn K (.ref (exC K 0)) (.type "BaseException") = some true) &&
  (decide (PySem.W.typeIn K (.ref (exC K 0)) = some (.type "type")) && (PySem.W.keepIn K (.ref (exC K 0)) &&
  (decide (PySem.W.specialIn K (.ref (exC K 5)) "__getattribute__" = some (some (.builtin "type.__getattribute__"))) && (decide (PySem.W.typeIn K (.ref (exC K 5)) = some (.type "type")) && (PySem.W.readsIn K (exC K 5) (.type "type") &&
  viB (PySem.W.findCls K (.ref (exC K 5)) (.type "type") "__init__"))))))))
theorem oB_ok {K : PySem.W.Frag} (h : oB K = true) : OFa K := by
  obtain ⟨h1, h⟩ := He.ba h
  obtain ⟨h2, h⟩ := He.ba h
  obtain ⟨h3, h⟩ := He.ba h
  obtain ⟨h4, h⟩ := He.ba h
  obtain ⟨h5, h⟩ := He.ba h
  obtain ⟨h6, h⟩ := He.ba h
  obtain ⟨h7, h⟩ := He.ba h
  obtain ⟨h8, h9⟩ := He.ba h
  exact ⟨⟨oexO_ok h1, of_decide_eq_true h2, of_decide_eq_true h3, of_decide_eq_true h4, h5⟩, ⟨of_decide_eq_true h6, of_decide_eq_true h7, h8, viB_ok h9⟩⟩
section
variable {X : Cx} {e : Expr} {es : List Expr} {ta : TA} {p1 p2 pos : Pos} {x : Str} {B : Addr}
/-- B.__init__(self, ..) -/
theorem pe_oinit {pl : Sem Bool} (hg : Gl X x) (hm : X.mg x = some (.ref B)) (O : OIn X.K B) (ha : PA X (e :: es) ta) (hdb : (x == ("__debug__" : Str)) = false := by decide)
    (hc : eval (.Call (.Attribute (.Name x p1) "__init__" p2) (e :: es) [] pos) X.env = (do
      let ov ← eval (.Name x p1) X.env
      standAt p2.atName
      let (f, first) ← holding [ov] (getMethod ov "__init__" pl)
      callWith pos f first (backTo pos (starEach (e :: es) X.env)) (backToKw pos (keywordEach [] X.env))) := by rfl)
    (he : starEach (e :: es) X.env = (false, eval e X.env) :: starEach es X.env := by rfl) (hpl : (backTo pos (starEach es X.env)).any (·.1) = false := by rfl) : PE X (.Call (.Attribute (.Name x p1) "__init__" p2) (e :: es) [] pos) (tVeI X.K ta) := by
  refine ⟨fun pins s σ H Q I h => ?_⟩
  refine PySem.W.methodCall_KW (ld_glob I hg hm ?_ hdb) hc
  obtain ⟨m, fr⟩ := I.fr
  refine PySem.W.method_of_cls fr I.ok.mod.kin O.ga (PySem.W.cls_val fr I.ok.mod.kin O.ty O.rd O.ini (by decide +kernel) ?_)
  refine PyProof.Rows.callWith_method1 (thn (ha.run pos pins _ σ H _ ((I.tok _).tok _) h) fun us s1 ⟨vs, H1, I1, r1, a, C, ws, ev, hl, T, ea, q⟩ => ?_) he hpl
  subst ev
  cases r1 with
  | @cons _ u0 _ ur ra rw' =>
    obtain rfl : u0 = Value.ref a := ra
    have hlen : ur.length ≤ sizeLine := by
      rw [← Paired.length rw', sizeLine_eq]
      omega
    exact oinit_ok T I1 ea hlen fun s' J => ⟨.non, H1, J, rfl, q⟩
end
abbrev PLn (l : Int) : Prop := -4611686018427387904 ≤ l ∧ l < 4611686018427387904
theorem PLn.small {l : Int} (h : PLn l) : l.natAbs.log2 < 1920 := by
  by_cases h0 : l.natAbs = 0
  · rw [h0]; decide
  · refine Nat.lt_of_lt_of_le ((Nat.log2_lt (k := 63) h0).mpr ?_) (by decide)
    have := h.1
    have := h.2
    omega
def lnF (l c : Int) : List (Str × V) := [("column", .int c), ("line", .int l)]
/-- what its __init__ does -/
def spIL (K : PySem.W.Frag) : Sp := fun vs H Q _ => ∃ (a : Addr) (l c : Int), vs = [.ref a, .int l, .int c] ∧ PLn l ∧ PLn c ∧ OexC K (exC K 0) ∧ NoAttr K (exC K 0) "line" ∧ NoAttr K (exC K 0) "column" ∧ H a = some (exo a (exC K 0) none) ∧
  ∀ d, H d = none → d ≠ a → Q .non (upd (upd (upd H d (exd d [("line", .int l)])) a (exo a (exC K 0) (some d))) d (exd d (lnF l c)))
theorem spIL_len {K : PySem.W.Frag} : ∀ vs H Q E, spIL K vs H Q E → vs.length = 3 := fun vs H Q E ⟨_, _, _, e, _⟩ => by rw [e]; rfl
section
variable {ρ ρ' κ β : Type} {E : En ρ} {E' : En ρ'} {Ec : En κ} {tA : TA} {K : PySem.W.Frag} {R : RRt β} {E0 : XK}
theorem ss_raiseL {f : ρ → Option (Int × Int × Unit)} (O : OFa K) (n1 : NoAttr K (exC K 0) "line") (n2 : NoAttr K (exC K 0) "column") (ha : SA tA E (aC jI (aC jI aN)) f) : SS (fun _ σ H => tMkO (exC K 0) (spIL K) [] tA σ H fun cls d H' => (fun c d (_ : L2.St) H => E0 c d H : WX) cls d σ H') E E' Ec (rX K E0 R) (fun γ => ob (f γ) fun z => pck (PLn z.1 ∧ PLn z.2.1) (.ret (.error (0, z.1, z.2.1)))) := ⟨fun {σ F0 H0 F H L γ r D} O' hE e fin => by
  obtain ⟨⟨l, c, u⟩, e1, e⟩ := ob_some e
  obtain ⟨⟨b1, b2⟩, e2⟩ := pck_some e
  subst e2
  refine ha O'.fh (Held.of O') hE e1 fun vs F1 H1 s1 r1 => ?_
  obtain ⟨v1, w1, e3, r1, v2, w2, e4, r2, e5⟩ := r1
  subst e5 e4 e3
  cases r1
  cases r2
  refine ⟨by show 2 ≤ 1000; decide, fun a na => ⟨a, l, c, rfl, b1, b2, O.oc, n1, n2, upd_same, fun d nd dne => ⟨rfl, d, lnF l c, ?_, upd_same, ?_, ?_⟩⟩⟩
  · rw [upd_ne (Ne.symm dne), upd_same]
  · rw [upd_ne dne] at nd; exact nd
  · rw [upd_ne dne] at nd
    have eH : upd (del (upd (upd (upd (upd H1 a (exo a (exC K 0) none)) d (exd d [("line", .int l)])) a (exo a (exC K 0) (some d))) d (exd d (lnF l c))) a) d (.xd (lnF l c)) = upd H1 d (.xd (lnF l c)) := by
      funext b
      by_cases hd : b = d
      · subst hd
        rw [upd_same, upd_same]
      · rw [upd_ne hd, upd_ne hd]
        by_cases hb : b = a
        · subst hb
          rw [del_same, na]
        · rw [del_ne hb, upd_ne hd, upd_ne hb, upd_ne hd, upd_ne hb]
    rw [eH]
    have O1 := Own.on O' s1
    rw [List.nil_append] at O1
    have O2 := (O1.ice nd (.xd (lnF l c)))
    exact fin (.ref (exC K 0)) (some d) _ _ (s1.f0.trans fun b u e => by rw [upd_ne (ne_of_none e (O1.fh.free nd))]; exact e) ((OwnSb O2 (Sb.nil _)).chunks trivial) ⟨rfl, .inl ⟨rfl, d, lnF l c, rfl, upd_same, rfl, rfl⟩⟩⟩
end
end Mi

namespace Mi
open PySem PySem.Spec PyProof.Rows L2 Fw
theorem Paired.dr {α β : Type} {A : α → β → Prop} : ∀ {xs : List α} {ys : List β} (n : Nat), Paired A xs ys → Paired A (xs.drop n) (ys.drop n)
  | _, _, 0, h => h
  | _, _, _ + 1, .nil => .nil
  | _, _, n + 1, .cons _ h => Paired.dr n h
theorem Paired.era {α β : Type} {A : α → β → Prop} {xs : List α} {ys : List β} (n : Nat) (h : Paired A xs ys) : Paired A (xs.eraseIdx n) (ys.eraseIdx n) := by
  rw [List.eraseIdx_eq_take_drop_succ, List.eraseIdx_eq_take_drop_succ]
  exact Paired.app (Paired.tk n h) (Paired.dr (n + 1) h)
/-! ### pop(i), insert(i, y) -/
section
variable {ρ ρ' κ α β : Type} {E : En ρ} {E' : En ρ'} {Ec : En κ} {ta te : TE} {K : PySem.W.Frag} {R' : RRt β} {u : TS}
theorem ss_popAt {i : Nat} {R : Rp α} {g : ρ → List α} {up : List α → ρ → ρ} {fi : ρ → Option Int} {m : ρ → Option (Res ρ' κ β)} (hu' : Up E i R g up) (hi : SE ta E (sF jI) fi) (hu : SS u E E' Ec R' m) :
    SS (tSeq (tDrop (tBM K "list" rPopAt (tVar i) (tCons ta tNil))) u) E E' Ec R' (fun γ => ob (fi γ) fun j => ob (pck ((0 ≤ j ∧ j < 4611686018427387904) ∧ j.toNat < (g γ).length) ((g γ).eraseIdx j.toNat)) fun ys => m (up ys γ)) := ⟨fun O hE e fin => by
  obtain ⟨k, e1, e⟩ := ob_some e
  obtain ⟨ys, e2, e⟩ := ob_some e
  obtain ⟨⟨pz, pl⟩, rfl⟩ := pck_some e2
  obtain ⟨p, vs, j, h1, h2, h3, h4⟩ := hu' hE
  refine ⟨.ref p, h1, tyL (O.at_ j h2) ?_⟩
  refine hi O.fh (Held.of O) hE e1 fun v F1 H1 L1 s1 ⟨z1, r1⟩ => ?_
  subst z1
  cases r1
  have O1 := Own.on O s1
  rw [List.nil_append] at O1
  have hl := Paired.len h3
  have hk : k.toNat < vs.length := by omega
  refine ⟨p, vs, k, k.toNat, vs[k.toNat], rfl, rfl, O1.at_ j h2, by omega, by omega, ?_, List.getElem?_eq_getElem hk, ?_⟩
  · unfold seqIndex?
    have e : (if k < 0 then k + (vs.length : Int) else k) = k := if_neg (by omega)
    have e2 : (decide (0 ≤ k) && decide (k < (vs.length : Int))) = true := by rw [decide_eq_true (by omega), decide_eq_true (by omega)]; rfl
    simp only [e, e2]
    rfl
  · exact hu.run (O1.set j h2 _) (h4 F1 _ _ s1.f0 (Paired.era _ (Paired.mono (fun _ _ q => R.m s1.f0 q) h3))) e (fin.mo s1.f0)⟩
theorem ss_insert {i : Nat} {R : Rp α} {g : ρ → List α} {up : List α → ρ → ρ} {fi : ρ → Option Int} {fe : ρ → Option α} {m : ρ → Option (Res ρ' κ β)} (hu' : Up E i R g up) (hi : SE ta E (sF jI) fi) (he : SE te E (sF R) fe) (hu : SS u E E' Ec R' m) :
    SS (tSeq (tDrop (tBM K "list" (fun x vs H Q => ∃ (l : Addr) (xs : List V) (i : Int) (y : V), x = .ref l ∧ vs = [.int i, y] ∧ H l = some (.lst xs) ∧ xs.length < sizeLine ∧ 0 ≤ i ∧ i < 2 ^ 63 ∧ Q .non (upd H l (.lst (xs.take i.toNat ++ [y] ++ xs.drop i.toNat)))) (tVar i) (tCons ta (tCons te tNil)))) u) E E' Ec R'
      (fun γ => ob (fi γ) fun j => ob (fe γ) fun y => ob (pck ((0 ≤ j ∧ j < 4611686018427387904) ∧ (g γ).length < sz) ((g γ).take j.toNat ++ [y] ++ (g γ).drop j.toNat)) fun ys => m (up ys γ)) := ⟨fun O hE e fin => by
  obtain ⟨k, e1, e⟩ := ob_some e
  obtain ⟨y, e3, e⟩ := ob_some e
  obtain ⟨ys, e2, e⟩ := ob_some e
  obtain ⟨⟨pz, pl⟩, rfl⟩ := pck_some e2
  obtain ⟨p, vs, j, h1, h2, h3, h4⟩ := hu' hE
  refine ⟨.ref p, h1, tyL (O.at_ j h2) ?_⟩
  refine hi O.fh (Held.of O) hE e1 fun v F1 H1 L1 s1 ⟨z1, r1⟩ => ?_
  subst z1
  cases r1
  have O1 := Own.on O s1
  rw [List.nil_append] at O1
  refine he O1.fh (Held.of O1) (E.m s1.f0 hE) e3 fun w F2 H2 L2 s2 ⟨z2, r2⟩ => ?_
  subst z2
  have O2 := Own.on O1 s2
  rw [List.nil_append] at O2
  have sF := s1.f0.trans s2.f0
  have hq := Paired.mono (fun _ _ q => R.m sF q) h3
  refine ⟨p, vs, k, w, rfl, rfl, O2.at_ j h2, sz_lt (by rw [Paired.len h3]; exact pl), by omega, by omega, ?_⟩
  exact hu.run (O2.set j h2 _) (h4 F2 _ _ sF (Paired.app (Paired.app (Paired.tk _ hq) (.cons r2 .nil)) (Paired.dr _ hq))) e (fin.mo sF)⟩
end
/-! ### calls that may raise, within larger expressions -/
section
variable {ρ ρ' κ α β δ τ : Type} {E : En ρ} {E' : En ρ'} {Ec : En κ} {ta tb te : TE} {tA tr : TA} {K : PySem.W.Frag} {W : WX} {A : Rp α} {B : Rp β} {E0 : XK} {R0 : RRt τ} {u : TS}
theorem sx_op {r : R2} {s : Sl δ} {fa : ρ → Option α} {fb : ρ → Option (Except Exn β)} {g : α → β → Option δ} (ha : SE ta E (sF A) fa) (hb : SEX K W tb E (sF B) fb) (hs : S2 r A B s g) : SEX K W (tOp r ta tb) E s (fun γ => ob (fa γ) fun x => obx (fb γ) fun y => ob (g x y) fun z => some (.ok z)) := ⟨fun {σ F H L γ x Q} s0 hL he e k => by
  obtain ⟨x1, e1, e⟩ := ob_some e
  obtain ⟨y, e2, e⟩ := ob_some e
  refine ha s0 hL he e1 fun v F1 H1 L1 s1 ⟨z1, r1⟩ => ?_
  subst z1
  refine hb.run s1.fh (hL.mono s1.hh) (E.m s1.f0 he) e2 ?_
  cases y with
  | ok y =>
    obtain ⟨z, e3, e⟩ := ob_some e
    cases e
    refine fun w F2 H2 L2 s2 ⟨z2, r2⟩ => ?_
    subst z2
    exact hs s2.fh (A.m s2.f0 r1) r2 e3 fun z F3 H3 L3 s3 r3 => k z F3 H3 L3 (s1.tr (s2.tr s3)) r3
  | error er =>
    cases e
    exact fun cls d F2 H2 s2 r2 => k cls d F2 H2 (s1.tr s2) r2⟩
theorem sx_fz {f : ρ → Option (Except Exn (List α))} (h : SEX K W te E (sO A) f) : SEX K W te E (sF (jL A)) f := ⟨fun {σ F H L γ x Q} s0 hL he e k => by
  refine h.run s0 hL he e ?_
  cases x with
  | ok x =>
    refine fun v F' H' L1 s2 ⟨p, vs, e1, e2, q⟩ => ?_
    subst e1 e2
    have sP : Same F' (upd F' p (.lst vs)) := fun b u e => by rw [upd_ne (ne_of_none e ((s2.own (p, .lst vs) List.mem_cons_self)).1)]; exact e
    exact k _ _ _ [] (s2.freeze.chunks trivial) ⟨rfl, p, vs, rfl, upd_same, Paired.mono (fun _ _ q => A.m sP q) q⟩
  | error er => exact k⟩
structure SAX (K : PySem.W.Frag) (W : WX) (t : TA) (E : En ρ) (A : Ar α) (f : ρ → Option (Except Exn α)) : Prop where
  run : ∀ {σ : L2.St} {F H : Hp} {L : List (Addr × HO)} {γ : ρ} {x : Except Exn α} {Q : List V → Hp → Prop}, Same F H → Held H L → E.r σ F L γ → f γ = some x → (match x with
    | .ok x => ∀ vs F' H', Step F H F' H' [] → A.r F' vs x → Q vs H'
    | .error e => ∀ cls d F' H', Step F H F' H' [] → exR K e cls d F' → W cls d σ H') → t σ H Q
theorem stX1 {fa : ρ → Option (Except Exn α)} (ha : SEX K W ta E (sF A) fa) : SAX K W (tCons ta tNil) E (aT (y1 A)) fa := ⟨fun {σ F H L γ x Q} s0 hL he e k => by
  refine ha.run s0 hL he e ?_
  cases x with
  | ok x =>
    refine fun v F1 H1 L1 s1 ⟨z1, r1⟩ => ?_
    subst z1
    exact k _ _ _ s1 ⟨v, rfl, r1⟩
  | error er => exact k⟩
theorem stXC {T : Tp β} {fa : ρ → Option α} {fr : ρ → Option (Except Exn β)} (ha : SE ta E (sF A) fa) (hr : SAX K W tr E (aT T) fr) : SAX K W (tCons ta tr) E (aT (yC A T)) (fun γ => ob (fa γ) fun x => obx (fr γ) fun y => some (.ok (x, y))) := ⟨fun {σ F H L γ x Q} s0 hL he e k => by
  obtain ⟨x1, e1, e⟩ := ob_some e
  obtain ⟨y, e2, e⟩ := ob_some e
  refine ha s0 hL he e1 fun v F1 H1 L1 s1 ⟨z1, r1⟩ => ?_
  subst z1
  refine hr.run s1.fh (hL.mono s1.hh) (E.m s1.f0 he) e2 ?_
  cases y with
  | ok y =>
    cases e
    exact fun vs F2 H2 s2 r2 => k _ _ _ (s1.tr s2) ⟨v, vs, rfl, A.m s2.f0 r1, r2⟩
  | error er =>
    cases e
    exact fun cls d F2 H2 s2 r2 => k cls d F2 H2 (s1.tr s2) r2⟩
theorem sx_tup {T : Tp α} {f : ρ → Option (Except Exn α)} {n j : Nat} {R : Rp β} {g : α → β} (h : SAX K W tA E (aT T) f) (hn : Tat T n j R g) (hz : n ≤ sz := by decide) : SEX K W (tTup tA) E (sF (jT T)) f := ⟨fun {σ F H L γ x Q} s0 hL he e k => by
  refine h.run s0 hL he e ?_
  cases x with
  | ok x =>
    refine fun vs F1 H1 s1 r1 => ?_
    refine ⟨sz_le (by rw [show vs.length = n from (hn r1).1]; exact hz), fun p np => ?_⟩
    have s2 := (Step.nil s1.fh).ice np (.tup vs)
    exact k _ _ _ [] (s1.tr (s2.chunks trivial)) ⟨rfl, p, vs, rfl, upd_same, T.m s2.f0 r1⟩
  | error er => exact k⟩
/-- append of what may raise -/
theorem ss_appX {i : Nat} {R : Rp α} {g : ρ → List α} {up : List α → ρ → ρ} {fe : ρ → Option (Except Exn α)} {m : ρ → Option (Res ρ' κ (Except Exn τ))} (hu' : Up E i R g up) (he : SEX K (fun c d _ H => E0 c d H) te E (sF R) fe) (hu : SS u E E' Ec (rX K E0 R0) m) :
    SS (tSeq (tDrop (tBM K "list" rAppend (tVar i) (tCons te tNil))) u) E E' Ec (rX K E0 R0) (fun γ => rbx (fe γ) fun y => ob (pck ((g γ).length < sz) (g γ ++ [y])) fun ys => m (up ys γ)) := ⟨fun {σ F0 H0 F H L γ r D} O hE e fin => by
  obtain ⟨x, e1, e⟩ := ob_some e
  obtain ⟨p, vs, j, h1, h2, h3, h4⟩ := hu' hE
  refine ⟨.ref p, h1, tyL (O.at_ j h2) ?_⟩
  refine he.run O.fh (Held.of O) hE e1 ?_
  cases x with
  | ok x =>
    obtain ⟨ys, e2, e⟩ := ob_some e
    obtain ⟨pz, rfl⟩ := pck_some e2
    refine fun v F1 H1 L1 s1 ⟨z1, r1⟩ => ?_
    subst z1
    have O1 := Own.on O s1
    rw [List.nil_append] at O1
    exact w_app (Q := fun _ H' => u _ _ H') O1 h2 (fun H' O2 => hu.run O2 (h4 F1 _ _ s1.f0 (Paired.app (Paired.mono (fun _ _ q => R.m s1.f0 q) h3) (.cons r1 .nil))) e (fin.mo s1.f0)) (sz_lt (by rw [Paired.len h3]; exact pz))
  | error er =>
    cases e
    exact fun cls d F1 H1 s1 r1 => fin cls d F1 H1 s1.f0 (OwnSb (Own.on O s1) (Sb.nil _)) r1⟩
end
/-! ### a great number, kept shut -/
noncomputable def lit (n : Int) : Int := Classical.choose (⟨n, rfl⟩ : ∃ x : Int, x = n)
theorem lit_eq (n : Int) : lit n = n := Classical.choose_spec (⟨n, rfl⟩ : ∃ x : Int, x = n)
theorem se_lit {ρ : Type} {E : En ρ} {i : Int} : SE (tC (.int i)) E (sF jI) (fun _ => some (lit i)) := by
  rw [lit_eq]
  exact se_int
end Mi

namespace Mi
open PySem PySem.Spec PyProof.Rows L2 Fw
/-! ### a frame that holds the interpreter's statics too -/
abbrev frY (n : Nat) (g : Addr → Option Obj) : PySem.W.Frag := He.frG g (He.asD g n ++ [cStatics])
def obsY (n : Nat) (fa : List He.Fa) (fn : List He.DefD) (ex : PySem.W.Frag → Bool) (g : Addr → Option Obj) : He.AlD × Bool := (He.obsD fa fn (frY n g), ex (frY n g))
structure SaysY (fa : List He.Fa) (fn : List He.DefD) (ex : PySem.W.Frag → Bool) (K : PySem.W.Frag) : Prop where
  d : He.SaysD fa fn K
  more : ex K = true
def hookY (n : Nat) (fa : List He.Fa) (fn : List He.DefD) (ex : PySem.W.Frag → Bool) : PySem.W.Hook where
  α := He.AlD × Bool
  obs := fun s => obsY n fa fn ex s.heap.get?
  val := fun _ => (He.valD fn, true)
  says := fun _ h => ∃ K : PySem.W.Frag, K.In h ∧ SaysY fa fn ex K
  of := fun _ _ e => ⟨_, He.frG_in, congrArg Prod.fst e, congrArg Prod.snd e⟩
  keeps := fun _ _ _ ⟨K, hK, c⟩ k => ⟨K, PySem.W.Frag.In.keeps hK k, c⟩
theorem obsY_eq {n : Nat} {fa : List He.Fa} {fn : List He.DefD} {ex : PySem.W.Frag → Bool} {g : Addr → Option Obj} {s : Shared} (h : ∀ a, g a = s.heap.get? a) : obsY n fa fn ex g = (hookY n fa fn ex).obs s := by
  have e : g = s.heap.get? := funext h
  rw [e] <;> rfl
end Mi

namespace Lw
open PySem PySem.Spec PyProof.Rows L2 Fw
/-! ### the text by places -/
def top (i : Nat) : Stmt := PySem.Challenge.pw_homereads_k05_faults_of_read_lines.main.body.getD i (.Pass ⟨0, 0, 0, 0⟩)
abbrev s_InvalidLine___init : Stmt := inClass (top 2) 0
abbrev s_first_wrong : Stmt := top 13
abbrev s_check_last : Stmt := top 14
abbrev s_name_in : Stmt := top 15
abbrev s_letters_in : Stmt := top 16
abbrev s_marks_in : Stmt := top 17
abbrev s_read_reads : Stmt := top 18
abbrev s_law_cell : Stmt := top 20
abbrev s_law_row : Stmt := top 21
abbrev s_law_text : Stmt := top 23
abbrev s_law_references : Stmt := top 26
abbrev s_law_first : Stmt := top 27
abbrev s_law_name_fault : Stmt := top 28
abbrev s_law_text_fault : Stmt := top 29
abbrev s_law_spoilt : Stmt := top 30
abbrev s_law_marks_fault : Stmt := top 31
abbrev s_law_due : Stmt := top 32
abbrev s_law : Stmt := top 33
theorem sc_InvalidLine___init : FnScope ["self", "line", "column"] ["self", "line", "column"] (defScope s_InvalidLine___init) := ⟨rfl, rfl, rfl, by decide +kernel, rfl, by decide +kernel, by decide +kernel⟩
theorem sc_first_wrong : FnScope ["line", "start", "signs", "column"] ["line", "start", "signs"] (defScope s_first_wrong) := ⟨rfl, rfl, rfl, by decide +kernel, rfl, by decide +kernel, by decide +kernel⟩
theorem sc_check_last : FnScope ["lines", "index"] ["lines", "index"] (defScope s_check_last) := ⟨rfl, rfl, rfl, by decide +kernel, rfl, by decide +kernel, by decide +kernel⟩
theorem sc_name_in : FnScope ["lines", "index", "head", "line", "wrong"] ["lines", "index", "head"] (defScope s_name_in) := ⟨rfl, rfl, rfl, by decide +kernel, rfl, by decide +kernel, by decide +kernel⟩
theorem sc_letters_in : FnScope ["lines", "index", "room", "line", "wrong"] ["lines", "index", "room"] (defScope s_letters_in) := ⟨rfl, rfl, rfl, by decide +kernel, rfl, by decide +kernel, by decide +kernel⟩
theorem sc_marks_in : FnScope ["lines", "index", "count", "line", "wrong", "sign"] ["lines", "index", "count"] (defScope s_marks_in) := ⟨rfl, rfl, rfl, by decide +kernel, rfl, by decide +kernel, by decide +kernel⟩
theorem sc_read_reads : FnScope ["lines", "result", "index", "name", "text"] ["lines"] (defScope s_read_reads) := ⟨rfl, rfl, rfl, by decide +kernel, rfl, by decide +kernel, by decide +kernel⟩
theorem sc_law_cell : FnScope ["_law_script", "_law_k"] ["_law_script", "_law_k"] (defScope s_law_cell) := ⟨rfl, rfl, rfl, by decide +kernel, rfl, by decide +kernel, by decide +kernel⟩
theorem sc_law_row : FnScope ["_law_cell_here", "_law_count", "_law_bound", "_law_rest", "_law_mixed", "_law_row_here", "_law_k"] ["_law_cell_here", "_law_count", "_law_bound"] (defScope s_law_row) := ⟨rfl, rfl, rfl, by decide +kernel, rfl, by decide +kernel, by decide +kernel⟩
theorem sc_law_text : FnScope ["_law_cell_here", "_law_size", "_law_drawn", "_law_kind", "_law_text_here", "_law_k", "_law_letter"] ["_law_cell_here", "_law_size"] (defScope s_law_text) := ⟨rfl, rfl, rfl, by decide +kernel, rfl, by decide +kernel, by decide +kernel⟩
theorem sc_law_references : FnScope ["_law_script", "_law_at", "_law_count", "_law_found", "_law_k", "_law_cell_here", "_law_text_here"] ["_law_script", "_law_at", "_law_count"] (defScope s_law_references) := ⟨rfl, rfl, rfl, by decide +kernel, rfl, by decide +kernel, by decide +kernel⟩
theorem sc_law_first : FnScope ["_law_line", "_law_start", "_law_signs", "_law_k"] ["_law_line", "_law_start", "_law_signs"] (defScope s_law_first) := ⟨rfl, rfl, rfl, by decide +kernel, rfl, by decide +kernel, by decide +kernel⟩
theorem sc_law_name_fault : FnScope ["_law_line", "_law_head", "_law_signs", "_law_at"] ["_law_line", "_law_head"] (defScope s_law_name_fault) := ⟨rfl, rfl, rfl, by decide +kernel, rfl, by decide +kernel, by decide +kernel⟩
theorem sc_law_text_fault : FnScope ["_law_line", "_law_room", "_law_at"] ["_law_line", "_law_room"] (defScope s_law_text_fault) := ⟨rfl, rfl, rfl, by decide +kernel, rfl, by decide +kernel, by decide +kernel⟩
theorem sc_law_spoilt : FnScope ["_law_lines", "_law_cell_here", "_law_x", "_law_strange", "_law_at", "_law_line", "_law_place", "_law_kind", "_law_news"] ["_law_lines", "_law_cell_here"] (defScope s_law_spoilt) := ⟨rfl, rfl, rfl, by decide +kernel, rfl, by decide +kernel, by decide +kernel⟩
theorem sc_law_marks_fault : FnScope ["_law_line", "_law_count", "_law_signs", "_law_at"] ["_law_line", "_law_count", "_law_signs"] (defScope s_law_marks_fault) := ⟨rfl, rfl, rfl, by decide +kernel, rfl, by decide +kernel, by decide +kernel⟩
theorem sc_law_due : FnScope ["_law_lines", "_law_signs", "_law_found", "_law_turn", "_law_at", "_law_column", "_law_sign"] ["_law_lines", "_law_signs"] (defScope s_law_due) := ⟨rfl, rfl, rfl, by decide +kernel, rfl, by decide +kernel, by decide +kernel⟩
theorem sc_law : FnScope ["_law_script", "_law_signs", "_law_lines", "_law_name", "_law_text_here", "_law_marks", "_law_mark", "_law_found", "_law_fault", "_law_handed", "_law_told", "error", "_law_others"] ["_law_script"] (defScope s_law) := ⟨rfl, rfl, rfl, by decide +kernel, rfl, by decide +kernel, by decide +kernel⟩
structure Tx (w : World) (K : PySem.W.Frag) (mg : Str → Option Value) : Prop where
  m_InvalidLine___init : Meth K (He.ga K "InvalidLine") "__init__" (He.ma K (He.ga K "InvalidLine") "__init__")
  g_first_wrong : mg "first_wrong" = some (.ref (He.ga K "first_wrong"))
  g_check_last : mg "check_last" = some (.ref (He.ga K "check_last"))
  g_name_in : mg "name_in" = some (.ref (He.ga K "name_in"))
  g_letters_in : mg "letters_in" = some (.ref (He.ga K "letters_in"))
  g_marks_in : mg "marks_in" = some (.ref (He.ga K "marks_in"))
  g_read_reads : mg "read_reads" = some (.ref (He.ga K "read_reads"))
  g_law_cell : mg "_law_cell" = some (.ref (He.ga K "_law_cell"))
  g_law_row : mg "_law_row" = some (.ref (He.ga K "_law_row"))
  g_law_text : mg "_law_text" = some (.ref (He.ga K "_law_text"))
  g_law_references : mg "_law_references" = some (.ref (He.ga K "_law_references"))
  g_law_first : mg "_law_first" = some (.ref (He.ga K "_law_first"))
  g_law_name_fault : mg "_law_name_fault" = some (.ref (He.ga K "_law_name_fault"))
  g_law_text_fault : mg "_law_text_fault" = some (.ref (He.ga K "_law_text_fault"))
  g_law_spoilt : mg "_law_spoilt" = some (.ref (He.ga K "_law_spoilt"))
  g_law_marks_fault : mg "_law_marks_fault" = some (.ref (He.ga K "_law_marks_fault"))
  g_law_due : mg "_law_due" = some (.ref (He.ga K "_law_due"))
  g_law : mg "law" = some (.ref (He.ga K "law"))
  z_range : mg "range" = none
  z_len : mg "len" = none
  z_min : mg "min" = none
  z_int : mg "int" = none
  z_abs : mg "abs" = none
  z_str : mg "str" = none
  z_list : mg "list" = none
  z_isinstance : mg "isinstance" = none
  z_ValueError : mg "ValueError" = none
  k_LETTERS : ∃ t, mg "LETTERS" = some (.str (S [65, 67, 71, 84, 78]) t)
  k_NAME_SIGNS : ∃ t, mg "NAME_SIGNS" = some (.str (S [48, 49, 50, 51, 52, 53, 54, 55, 56, 57, 65, 66, 67, 68, 69, 70, 71, 72, 73, 74, 75, 76, 77, 78, 79, 80, 81, 82, 83, 84, 85, 86, 87, 88, 89, 90, 97, 98, 99, 100, 101, 102, 103, 104, 105, 106, 107, 108, 109, 110, 111, 112, 113, 114, 115, 116, 117, 118, 119, 120, 121, 122]) t)
  k_MARK_SIGNS : ∃ t, mg "MARK_SIGNS" = some (.str (S [48, 49, 50, 51, 52, 53, 54, 55, 56, 57, 65, 66, 67, 68, 69, 70, 71, 72, 73, 74, 75, 76, 77, 78, 79, 80, 81, 82, 83, 84, 85, 86, 87, 88, 89, 90, 97, 98, 99, 100, 101]) t)
  k_LONGEST_NAME : ∃ t, mg "LONGEST_NAME" = some (.int 40 t)
  k_LONGEST_READ : ∃ t, mg "LONGEST_READ" = some (.int 1000 t)
  g_HomeError : mg "HomeError" = some (.ref (He.ga K "HomeError"))
  e_HomeError : PySem.W.excIn K (He.ga K "HomeError") He.veBase "ValueError.__new__" = true ∧ PySem.W.keepIn K (.ref (He.ga K "HomeError")) = true ∧ PySem.W.subIn K (.ref (He.ga K "HomeError")) (.type "BaseException") = some true ∧ PySem.W.typeIn K (.ref (He.ga K "HomeError")) = some (.type "type")
  g_InvalidLine : mg "InvalidLine" = some (.ref (He.ga K "InvalidLine"))
  n_InvalidLine_line : NoAttr K (He.ga K "InvalidLine") "line"
  n_InvalidLine_column : NoAttr K (He.ga K "InvalidLine") "column"
  g_InvalidPack : mg "InvalidPack" = some (.ref (He.ga K "InvalidPack"))
  e_InvalidPack : PySem.W.excIn K (He.ga K "InvalidPack") He.veBase "ValueError.__new__" = true ∧ PySem.W.keepIn K (.ref (He.ga K "InvalidPack")) = true ∧ PySem.W.subIn K (.ref (He.ga K "InvalidPack")) (.type "BaseException") = some true ∧ PySem.W.typeIn K (.ref (He.ga K "InvalidPack")) = some (.type "type")
  g_NotAnIndex : mg "NotAnIndex" = some (.ref (He.ga K "NotAnIndex"))
  e_NotAnIndex : PySem.W.excIn K (He.ga K "NotAnIndex") He.veBase "ValueError.__new__" = true ∧ PySem.W.keepIn K (.ref (He.ga K "NotAnIndex")) = true ∧ PySem.W.subIn K (.ref (He.ga K "NotAnIndex")) (.type "BaseException") = some true ∧ PySem.W.typeIn K (.ref (He.ga K "NotAnIndex")) = some (.type "type")
  g_Truncated : mg "Truncated" = some (.ref (He.ga K "Truncated"))
  e_Truncated : PySem.W.excIn K (He.ga K "Truncated") He.veBase "ValueError.__new__" = true ∧ PySem.W.keepIn K (.ref (He.ga K "Truncated")) = true ∧ PySem.W.subIn K (.ref (He.ga K "Truncated")) (.type "BaseException") = some true ∧ PySem.W.typeIn K (.ref (He.ga K "Truncated")) = some (.type "type")
  g_Damaged : mg "Damaged" = some (.ref (He.ga K "Damaged"))
  e_Damaged : PySem.W.excIn K (He.ga K "Damaged") He.veBase "ValueError.__new__" = true ∧ PySem.W.keepIn K (.ref (He.ga K "Damaged")) = true ∧ PySem.W.subIn K (.ref (He.ga K "Damaged")) (.type "BaseException") = some true ∧ PySem.W.typeIn K (.ref (He.ga K "Damaged")) = some (.type "type")
  xf : Mi.XFa K
  of : Mi.OFa K
  d_InvalidLine___init : ∃ fd, FnP K "__init__" "InvalidLine.__init__" s_InvalidLine___init (He.ma K (He.ga K "InvalidLine") "__init__") fd
  d_first_wrong : ∃ fd, FnP K "first_wrong" "first_wrong" s_first_wrong (He.ga K "first_wrong") fd
  d_check_last : ∃ fd, FnP K "check_last" "check_last" s_check_last (He.ga K "check_last") fd
  d_name_in : ∃ fd, FnP K "name_in" "name_in" s_name_in (He.ga K "name_in") fd
  d_letters_in : ∃ fd, FnP K "letters_in" "letters_in" s_letters_in (He.ga K "letters_in") fd
  d_marks_in : ∃ fd, FnP K "marks_in" "marks_in" s_marks_in (He.ga K "marks_in") fd
  d_read_reads : ∃ fd, FnP K "read_reads" "read_reads" s_read_reads (He.ga K "read_reads") fd
  d_law_cell : ∃ fd, FnP K "_law_cell" "_law_cell" s_law_cell (He.ga K "_law_cell") fd
  d_law_row : ∃ fd, FnP K "_law_row" "_law_row" s_law_row (He.ga K "_law_row") fd
  d_law_text : ∃ fd, FnP K "_law_text" "_law_text" s_law_text (He.ga K "_law_text") fd
  d_law_references : ∃ fd, FnP K "_law_references" "_law_references" s_law_references (He.ga K "_law_references") fd
  d_law_first : ∃ fd, FnP K "_law_first" "_law_first" s_law_first (He.ga K "_law_first") fd
  d_law_name_fault : ∃ fd, FnP K "_law_name_fault" "_law_name_fault" s_law_name_fault (He.ga K "_law_name_fault") fd
  d_law_text_fault : ∃ fd, FnP K "_law_text_fault" "_law_text_fault" s_law_text_fault (He.ga K "_law_text_fault") fd
  d_law_spoilt : ∃ fd, FnP K "_law_spoilt" "_law_spoilt" s_law_spoilt (He.ga K "_law_spoilt") fd
  d_law_marks_fault : ∃ fd, FnP K "_law_marks_fault" "_law_marks_fault" s_law_marks_fault (He.ga K "_law_marks_fault") fd
  d_law_due : ∃ fd, FnP K "_law_due" "_law_due" s_law_due (He.ga K "_law_due") fd
  d_law : ∃ fd, FnP K "law" "law" s_law (He.ga K "law") fd
end Lw
namespace Lw
open PySem PySem.Spec PyProof.Rows L2 Fw Mi
section
variable {P : Program} {w : World} {K : PySem.W.Frag} {mg : Str → Option Value} {base : Heap}
noncomputable def m_law_cell (script : (List Int)) (k : Int) : Option Int := fin (κ := Unit) (ρ := Unit) (rb (if (decide (k < (script.length : Int))) = true then (rb (ob (ob (ob (pat script k) fun x4 => some (x4, ())) fun z5 => some z5.1) fun r6 => some (.ret r6)) fun γ => some (.nxt γ)) else (some (.nxt (script, k, ())))) fun γ => rb (some (.ret (0 : Int))) fun γ => some (.nxt γ))
abbrev sp_law_cell (K : PySem.W.Frag) : Sp := spM (aC (jQ K jI) (aC jI aN)) (sF jI) (fun γ => m_law_cell γ.1 γ.2.1)
theorem ok_law_cell (T : Tx w K mg) : Dn P w K mg base 1 (He.ga K "_law_cell") ["_law_script", "_law_k"] (sp_law_cell K) := by
  refine dn_mk T.d_law_cell sc_law_cell (fun _ _ _ _ _ _ us hl => match us, hl with | [_, _], _ => rfl) (spM_len (an_C (an_C an_0))) fun cdv A outer s H vs Q E hr h => ?_
  refine ⟨_, (pss_cons (ps_if (pt_cmpR op_lt (pv 1) (pe_callB (lenQ_ (K := K)) (by rfl) T.z_len (by decide +kernel) (pa_cons (pv 0) pa_nil)) (nomark _))
      (pss_cons (ps_ret (pe_callTy k_int (by rfl) T.z_int (by decide +kernel) (pa_cons (pe_ix (ixL_ (K := K)) (pv 0) (pv 1) (fun _ _ => rfl)) pa_nil)))
      pss_nil)
      pss_nil)
      (pss_cons (ps_ret pe_int)
      pss_nil)), ?_⟩
  refine fin_runX (E := (eC (sF (jQ K jI)) (eC (sF jI) eN))) (E' := eN) (ae_C (ae_C ae_0)) (an_C (an_C an_0)) rfl ?S h rfl
  exact ⟨_, (ss_seq (ss_if (st_test (se_op (se_var (gS g0)) (se_cb (sa_cons (se_var g0) sa_nil) (sc_lenQ (K := K))) (s2_C0 (f := fun i j => decide (i < j))))) (ss_seq (ss_ret (se_cb (sa_cons (se_op (se_var g0) (se_var (gS g0)) s2_ixQ) sa_nil) sc_int)) ss_nil) ss_nil) (ss_seq (ss_ret se_int) ss_nil)), by exact rfl⟩
end
end Lw
namespace Lw
open PySem PySem.Spec PyProof.Rows L2 Fw Mi
local macro_rules | `(tactic| walk_at "m") => `(tactic| simp only [pidx_one, pinS_one, pninS_one, W_some, W_none, W_ob, W_bind, W_pck, W_rb, W_fin, W_finN, W_T, W_F, W_Tr, W_Fa, Rw_nxt, Rw_ret, Rw_cnt, Rf_ret, Rf_nxt, RfN_ret, RfN_nxt, W_finU, RfU_nxt, W_obx, Xf_ok, Xf_er, W_rbx, Xr_ok, Xr_er, W_okx, W_finNX, RfNX_ret, RfNX_nxt, W_finUX, RfUX_nxt, RfUX_er, W_trx, Xt_ok, Xt_er, decide_true, decide_false, Bool.not_true, Bool.not_false])
theorem w_cell {ns : List Int} {k : Int} {Q : Int → Prop} (hk : 0 ≤ k) (q : ∀ c, Q c) : W (m_law_cell ns k) Q := by
  unfold m_law_cell
  walk_at "m"
  refine W_ifD (fun h => ?_) (fun h => ?_)
  · walk_at "m"
    exact W_pat ⟨hk, h⟩ fun c _ => q c
  · walk_at "m"
    exact q _

end Lw
namespace Lw
open PySem PySem.Spec PyProof.Rows L2 Fw Mi
section
variable {P : Program} {w : World} {K : PySem.W.Frag} {mg : Str → Option Value} {base : Heap}
noncomputable def m_law_row (cell : Int) (count : Int) (bound : Int) : Option (List Int) := fin (κ := Unit) (ρ := Unit) (ob (ob (pck (PMod cell (1000003 : Int)) (cell % (1000003 : Int))) fun x1 => some (x1 + (1 : Int))) fun mixed => ob (pck (([] : List Int).length ≤ sz) []) fun row => rb (ob (pck (-4611686018427387904 ≤ count ∧ count < 4611686018427387904) (prange count)) fun xs16 => (forR (fun (x_ : Int) (γ : (Int × Int × Int × Int × Int × (List Int) × Unit)) => let k := x_; let cell := γ.1; let count := γ.2.1; let bound := γ.2.2.1; let rest := γ.2.2.2.1; let mixed := γ.2.2.2.2.1; let row := γ.2.2.2.2.2.1; rb (if (decide (bound ≤ rest)) = true then ((ob (pck (PMod rest bound) (rest % bound)) fun x3 => ob (pck (row.length < sz) (row ++ [x3])) fun w2 => ob (pck (PDiv rest bound) (rest / bound)) fun rest => some (.nxt (cell, count, bound, rest, mixed, w2, k, ())))) else (ob (ob (ob (ob (ob (ob (pck (PMul mixed (48271 : Int)) (mixed * (48271 : Int))) fun x4 => (ob (pck (PMul (11 : Int) k) ((11 : Int) * k)) fun y5 => some (x4 + y5))) fun x6 => some (x6 + (7 : Int))) fun x7 => some (x7, ())) fun z8 => some z8.1) fun x9 => (pck (PMod x9 (2147483647 : Int)) (x9 % (2147483647 : Int)))) fun mixed => (ob (ob (ob (ob (ob (pck (PMul mixed (2862933555777941757 : Int)) (mixed * (2862933555777941757 : Int))) fun x10 => (pck (PDiv x10 (1024 : Int)) (x10 / (1024 : Int)))) fun x11 => some (x11, ())) fun z12 => some z12.1) fun x13 => (pck (PMod x13 bound) (x13 % bound))) fun x15 => ob (pck (row.length < sz) (row ++ [x15])) fun w14 => some (.nxt (cell, count, bound, rest, mixed, w14, k, ()))))) fun γ => let cell := γ.1; let count := γ.2.1; let bound := γ.2.2.1; let rest := γ.2.2.2.1; let mixed := γ.2.2.2.2.1; let row := γ.2.2.2.2.2.1; some (.nxt (cell, count, bound, rest, mixed, row, ()))) xs16 (cell, count, bound, (cell.natAbs : Int), mixed, row, ()))) fun γ => let row := γ.2.2.2.2.2.1; rb (some (.ret row)) fun γ => some (.nxt γ))
abbrev sp_law_row (K : PySem.W.Frag) : Sp := spM (aC jI (aC jI (aC jI aN))) (sO jI) (fun γ => m_law_row γ.1 γ.2.1 γ.2.2.1)
theorem ok_law_row (T : Tx w K mg) : Dn P w K mg base 1 (He.ga K "_law_row") ["_law_cell_here", "_law_count", "_law_bound"] (sp_law_row K) := by
  refine dn_mk T.d_law_row sc_law_row (fun _ _ _ _ _ _ us hl => match us, hl with | [_, _, _], _ => rfl) (spM_len (an_C (an_C (an_C an_0)))) fun cdv A outer s H vs Q E hr h => ?_
  refine ⟨_, (pss_cons (ps_set (i := 3) sc_law_row.nd rfl (.inl rfl) (pe_callB k_abs (by rfl) T.z_abs (by decide +kernel) (pa_cons (pe_callTy k_int (by rfl) T.z_int (by decide +kernel) (pa_cons (pv 0) pa_nil)) pa_nil)))
      (pss_cons (ps_set (i := 4) sc_law_row.nd rfl (.inl rfl) (pe_op op_add (pe_op op_mod (pe_callTy k_int (by rfl) T.z_int (by decide +kernel) (pa_cons (pv 0) pa_nil)) pe_int) pe_int))
      (pss_cons (ps_set (i := 5) sc_law_row.nd rfl (.inl rfl) (pe_lst pa_nil))
      (pss_cons (ps_for PassesOwn.never rfl (pi_range1 (by rfl) T.z_range (pa_cons (pv 1) pa_nil)) (pg_name (i := 6) sc_law_row.nd rfl (.inl rfl))
      (pss_cons (ps_if (pt_cmpR op_ge (pv 3) (pv 2) (nomark _))
      (pss_cons (ps_expr (bm_ (K := K) PySem.F.plainAttrs_list PySem.F.slot_list_append PySem.F.type_list_append mt_append (pv 5) (pa_cons (pe_op op_mod (pe_callTy k_int (by rfl) T.z_int (by decide +kernel) (pa_cons (pv 3) pa_nil)) (pv 2)) pa_nil)))
      (pss_cons (ps_set (i := 3) sc_law_row.nd rfl (.inl rfl) (pe_op op_fdiv (pv 3) (pv 2)))
      pss_nil))
      (pss_cons (ps_set (i := 4) sc_law_row.nd rfl (.inl rfl) (pe_op op_mod (pe_callTy k_int (by rfl) T.z_int (by decide +kernel) (pa_cons (pe_op op_add (pe_op op_add (pe_op op_mul (pv 4) pe_int) (pe_op op_mul pe_int (pv 6))) pe_int) pa_nil)) pe_int))
      (pss_cons (ps_expr (bm_ (K := K) PySem.F.plainAttrs_list PySem.F.slot_list_append PySem.F.type_list_append mt_append (pv 5) (pa_cons (pe_op op_mod (pe_callTy k_int (by rfl) T.z_int (by decide +kernel) (pa_cons (pe_op op_fdiv (pe_op op_mul (pv 4) pe_int) pe_int) pa_nil)) (pv 2)) pa_nil)))
      pss_nil)))
      pss_nil))
      (pss_cons (ps_ret (pv 5))
      pss_nil))))), ?_⟩
  refine fin_runX (E := (eC (sF jI) (eC (sF jI) (eC (sF jI) (eU (eU (eU (eU eN)))))))) (E' := eN) (ae_C (ae_C (ae_C (ae_U rfl (ae_U rfl (ae_U rfl (ae_U rfl ae_0))))))) (an_C (an_C (an_C an_0))) rfl ?S h rfl
  exact ⟨_, (ss_asg (se_cb (sa_cons (se_cb (sa_cons (se_var g0) sa_nil) sc_int) sa_nil) sc_abs) (pS (pS (pS p0U))) (ss_asg (se_op (se_op (se_cb (sa_cons (se_var g0) sa_nil) sc_int) se_int s2_mod) se_int (s2_I0 (f := fun i j => i + j))) (pS (pS (pS (pS p0U)))) (ss_asg (se_lst (A := jI) sl_nil) (pS (pS (pS (pS (pS p0U))))) (ss_seq (ss_for (si_r1 (sa_cons (se_var (gS g0)) sa_nil)) (sg_name (pS (pS (pS (pS (pS (pS p0U))))))) (ss_seq (ss_if (st_test (se_op (se_var (gS (gS (gS g0)))) (se_var (gS (gS g0))) (s2_C0 (f := fun i j => decide (j ≤ i))))) (ss_app (K := K) (uS (uS (uS (uS (uS u0))))) (se_op (se_cb (sa_cons (se_var (gS (gS (gS g0)))) sa_nil) sc_int) (se_var (gS (gS g0))) s2_mod) (ss_asg (se_op (se_var (gS (gS (gS g0)))) (se_var (gS (gS g0))) s2_div) (pS (pS (pS p0))) ss_nil)) (ss_asg (se_op (se_cb (sa_cons (se_op (se_op (se_op (se_var (gS (gS (gS (gS g0))))) se_int s2_mul) (se_op se_int (se_var (gS (gS (gS (gS (gS (gS g0))))))) s2_mul) (s2_I0 (f := fun i j => i + j))) se_int (s2_I0 (f := fun i j => i + j))) sa_nil) sc_int) se_int s2_mod) (pS (pS (pS (pS p0)))) (ss_app (K := K) (uS (uS (uS (uS (uS u0))))) (se_op (se_cb (sa_cons (se_op (se_op (se_var (gS (gS (gS (gS g0))))) se_int s2_mul) se_int s2_div) sa_nil) sc_int) (se_var (gS (gS g0))) s2_mod) ss_nil))) (ss_co (cK (cK (cK (cK (cK (cK (cF cId)))))))))) (ss_seq (ss_retO (gS (gS (gS (gS (gS g0)))))) ss_nil))))), by exact rfl⟩
end
end Lw
namespace Lw
open PySem PySem.Spec PyProof.Rows L2 Fw Mi
local macro_rules | `(tactic| walk_at "m") => `(tactic| simp only [pidx_one, pinS_one, pninS_one, W_some, W_none, W_ob, W_bind, W_pck, W_rb, W_fin, W_finN, W_T, W_F, W_Tr, W_Fa, Rw_nxt, Rw_ret, Rw_cnt, Rf_ret, Rf_nxt, RfN_ret, RfN_nxt, W_finU, RfU_nxt, W_obx, Xf_ok, Xf_er, W_rbx, Xr_ok, Xr_er, W_okx, W_finNX, RfNX_ret, RfNX_nxt, W_finUX, RfUX_nxt, RfUX_er, W_trx, Xt_ok, Xt_er, decide_true, decide_false, Bool.not_true, Bool.not_false])
theorem w_row {c n b : Int} {Q : List Int → Prop} (hn : 0 ≤ n ∧ n < 1000000) (hb : 0 < b ∧ b < 1073741824) (q : ∀ ns : List Int, ns.length = n.toNat → (∀ x ∈ ns, 0 ≤ x ∧ x < b) → Q ns) : W (m_law_row c n b) Q := by
  unfold m_law_row
  walk_at "m"
  refine ⟨by omega, by simp, by omega, ?_⟩
  refine W_for (fun i γ => ∃ rest mixed row, γ = (c, n, b, rest, mixed, row, ()) ∧ 0 ≤ rest ∧ (0 ≤ mixed ∧ mixed < 2147483648) ∧ row.length = i ∧ ∀ x ∈ row, 0 ≤ x ∧ x < b) ⟨_, _, [], rfl, by omega, by omega, rfl, by simp⟩ ?_ ?_
  · rintro i k γ hk ⟨rest, mixed, row, rfl, h1, h2, h3, h4⟩
    obtain ⟨rfl, hi⟩ := prange_get hk
    walk_at "m"
    have hm : ∀ y : Int, 0 ≤ y % b ∧ y % b < b := fun y => ⟨Int.emod_nonneg _ (by omega), Int.emod_lt_of_pos _ hb.1⟩
    have hap : ∀ y, (0 ≤ y ∧ y < b) → ∀ x ∈ row ++ [y], 0 ≤ x ∧ x < b := fun y hy x hx => by
      rcases List.mem_append.mp hx with hx | hx
      · exact h4 x hx
      · rw [List.mem_singleton.mp hx]; exact hy
    refine W_ifD (fun h => ?_) (fun h => ?_)
    · walk_at "m"
      refine ⟨hb.1, by unfold sz; omega, ⟨hb.1, hb.2⟩, _, _, _, rfl, Int.ediv_nonneg h1 (by omega), h2, by simp [h3], hap _ (hm _)⟩
    · walk_at "m"
      refine ⟨by omega, by omega, by omega, by omega, by omega, hb.1, by unfold sz; omega, _, _, _, rfl, h1, by omega, by simp [h3], hap _ (hm _)⟩
  · rintro γ ⟨rest, mixed, row, rfl, h1, h2, h3, h4⟩
    walk_at "m"
    exact q _ (by rw [h3, prange_len]) h4

end Lw
namespace Lw
open PySem PySem.Spec PyProof.Rows L2 Fw Mi
section
variable {P : Program} {w : World} {K : PySem.W.Frag} {mg : Str → Option Value} {base : Heap}
noncomputable def m_law_text (cell : Int) (size : Int) : Option (List Nat) := fin (κ := Unit) (ρ := Unit) (ob (m_law_row cell size (97 : Int)) fun drawn => ob (ob (pck (PDiv (cell.natAbs : Int) (7 : Int)) ((cell.natAbs : Int) / (7 : Int))) fun x1 => (pck (PMod x1 (4 : Int)) (x1 % (4 : Int)))) fun kind => let text := ([] : List Nat); rb (ob (pck (-4611686018427387904 ≤ size ∧ size < 4611686018427387904) (prange size)) fun xs11 => (forR (fun (x_ : Int) (γ : (Int × Int × (List Int) × Int × (List Nat) × Unit)) => let k := x_; let cell := γ.1; let size := γ.2.1; let drawn := γ.2.2.1; let kind := γ.2.2.2.1; let text := γ.2.2.2.2.1; ob (ob (ob (pat drawn k) fun x2 => (pck (PMod x2 (4 : Int)) (x2 % (4 : Int)))) fun y3 => (pixS ([65, 67, 71, 84] : List Nat) y3)) fun letter => rb ((ob (if (decide (kind = (1 : Int))) = true then (if (decide ((4 : Int) < k)) = true then (ob (ob (pat drawn k) fun x4 => (pck (PMod x4 (11 : Int)) (x4 % (11 : Int)))) fun x5 => some (decide ((0 : Int) < x5))) else some false) else some false) fun b6 => if b6 = true then (ob (pixS text (k - (5 : Int))) fun letter => some (.nxt (cell, size, drawn, kind, text, k, letter, ()))) else (some (.nxt (cell, size, drawn, kind, text, k, letter, ()))))) fun γ => let cell := γ.1; let size := γ.2.1; let drawn := γ.2.2.1; let kind := γ.2.2.2.1; let text := γ.2.2.2.2.1; let k := γ.2.2.2.2.2.1; let letter := γ.2.2.2.2.2.2.1; rb (if (decide (kind = (2 : Int))) = true then (ob (ob (ob (pat drawn k) fun x7 => (pck (PMod x7 (2 : Int)) (x7 % (2 : Int)))) fun y8 => (pixS ([65, 67] : List Nat) y8)) fun letter => some (.nxt (cell, size, drawn, kind, text, k, letter, ()))) else (some (.nxt (cell, size, drawn, kind, text, k, letter, ())))) fun γ => let cell := γ.1; let size := γ.2.1; let drawn := γ.2.2.1; let kind := γ.2.2.2.1; let text := γ.2.2.2.2.1; let k := γ.2.2.2.2.2.1; let letter := γ.2.2.2.2.2.2.1; rb ((ob (if (decide (kind = (3 : Int))) = true then (ob (pat drawn k) fun x9 => some (decide ((88 : Int) < x9))) else some false) fun b10 => if b10 = true then (let letter := ([78] : List Nat); some (.nxt (cell, size, drawn, kind, text, k, letter, ()))) else (some (.nxt (cell, size, drawn, kind, text, k, letter, ()))))) fun γ => let cell := γ.1; let size := γ.2.1; let drawn := γ.2.2.1; let kind := γ.2.2.2.1; let text := γ.2.2.2.2.1; let letter := γ.2.2.2.2.2.2.1; ob (pck (text.length + letter.length ≤ sz) (text ++ letter)) fun text => some (.nxt (cell, size, drawn, kind, text, ()))) xs11 (cell, size, drawn, kind, text, ()))) fun γ => let text := γ.2.2.2.2.1; rb (some (.ret text)) fun γ => some (.nxt γ))
abbrev sp_law_text (K : PySem.W.Frag) : Sp := spM (aC jI (aC jI aN)) (sF jS) (fun γ => m_law_text γ.1 γ.2.1)
theorem ok_law_text (T : Tx w K mg) : Dn P w K mg base 2 (He.ga K "_law_text") ["_law_cell_here", "_law_size"] (sp_law_text K) := by
  obtain ⟨fd_law_row, G_law_row, b_law_row, kp_law_row, _⟩ := ok_law_row (P := P) (w := w) (base := base) T
  refine dn_mk T.d_law_text sc_law_text (fun _ _ _ _ _ _ us hl => match us, hl with | [_, _], _ => rfl) (spM_len (an_C (an_C an_0))) fun cdv A outer s H vs Q E hr h => ?_
  refine ⟨_, (pss_cons (ps_set (i := 2) sc_law_text.nd rfl (.inl rfl) (pe_call G_law_row (hr.mono (by decide)) (by rfl) T.g_law_row kp_law_row b_law_row .nil pass0 (pa_cons (pv 0) (pa_cons (pv 1) (pa_cons pe_int pa_nil)))))
      (pss_cons (ps_set (i := 3) sc_law_text.nd rfl (.inl rfl) (pe_op op_mod (pe_op op_fdiv (pe_callB k_abs (by rfl) T.z_abs (by decide +kernel) (pa_cons (pe_callTy k_int (by rfl) T.z_int (by decide +kernel) (pa_cons (pv 0) pa_nil)) pa_nil)) pe_int) pe_int))
      (pss_cons (ps_set (i := 4) sc_law_text.nd rfl (.inl rfl) (pe_strL (l := []) (by decide +kernel)))
      (pss_cons (ps_for PassesOwn.never rfl (pi_range1 (by rfl) T.z_range (pa_cons (pv 1) pa_nil)) (pg_name (i := 5) sc_law_text.nd rfl (.inl rfl))
      (pss_cons (ps_set (i := 6) sc_law_text.nd rfl (.inl rfl) (pe_ix k_ixS (pe_strL (l := [65, 67, 71, 84]) (by decide +kernel)) (pe_op op_mod (pe_ix (ixL_ (K := K)) (pv 2) (pv 5) (fun _ _ => rfl)) pe_int) (fun _ _ => rfl)))
      (pss_cons (ps_if (PW.pt (pw_and (pt_cmpR op_eq (pv 3) pe_int (nomark _)) (pw_and (pt_cmpR op_gt (pv 5) pe_int (nomark _)) (pw_and1 (pt_cmpR op_gt (pe_op op_mod (pe_ix (ixL_ (K := K)) (pv 2) (pv 5) (fun _ _ => rfl)) pe_int) pe_int (nomark _))))))
      (pss_cons (ps_set (i := 6) sc_law_text.nd rfl (.inl rfl) (pe_ix k_ixS (pv 4) (pe_op op_sub (pv 5) pe_int) (fun _ _ => rfl)))
      pss_nil)
      pss_nil)
      (pss_cons (ps_if (pt_cmpR op_eq (pv 3) pe_int (nomark _))
      (pss_cons (ps_set (i := 6) sc_law_text.nd rfl (.inl rfl) (pe_ix k_ixS (pe_strL (l := [65, 67]) (by decide +kernel)) (pe_op op_mod (pe_ix (ixL_ (K := K)) (pv 2) (pv 5) (fun _ _ => rfl)) pe_int) (fun _ _ => rfl)))
      pss_nil)
      pss_nil)
      (pss_cons (ps_if (PW.pt (pw_and (pt_cmpR op_eq (pv 3) pe_int (nomark _)) (pw_and1 (pt_cmpR op_gt (pe_ix (ixL_ (K := K)) (pv 2) (pv 5) (fun _ _ => rfl)) pe_int (nomark _)))))
      (pss_cons (ps_set (i := 6) sc_law_text.nd rfl (.inl rfl) (pe_strL (l := [78]) (by decide +kernel)))
      pss_nil)
      pss_nil)
      (pss_cons (ps_set (i := 4) sc_law_text.nd rfl (.inl rfl) (pe_op k_addS (pv 4) (pv 6)))
      pss_nil))))))
      (pss_cons (ps_ret (pv 4))
      pss_nil))))), ?_⟩
  refine fin_runX (E := (eC (sF jI) (eC (sF jI) (eU (eU (eU (eU (eU eN)))))))) (E' := eN) (ae_C (ae_C (ae_U rfl (ae_U rfl (ae_U rfl (ae_U rfl (ae_U rfl ae_0))))))) (an_C (an_C an_0)) rfl ?S h rfl
  exact ⟨_, (ss_asg (se_call (sa_cons (se_var g0) (sa_cons (se_var (gS g0)) (sa_cons se_int sa_nil)))) (pS (pS p0U)) (ss_asg (se_op (se_op (se_cb (sa_cons (se_cb (sa_cons (se_var g0) sa_nil) sc_int) sa_nil) sc_abs) se_int s2_div) se_int s2_mod) (pS (pS (pS p0U))) (ss_asg (se_str (l := [])) (pS (pS (pS (pS p0U)))) (ss_seq (ss_for (si_r1 (sa_cons (se_var (gS g0)) sa_nil)) (sg_name (pS (pS (pS (pS (pS p0U)))))) (ss_asg (se_op (se_str (l := [65, 67, 71, 84])) (se_op (se_ixB (K := K) (sb_var (gS (gS g0))) (se_var (gS (gS (gS (gS (gS g0))))))) se_int s2_mod) s2_ixS) (pS (pS (pS (pS (pS (pS p0U)))))) (ss_seq (ss_if (st_and (st_test (se_op (se_var (gS (gS (gS g0)))) se_int (s2_eqI))) (st_and (st_test (se_op (se_var (gS (gS (gS (gS (gS g0)))))) se_int (s2_C0 (f := fun i j => decide (j < i))))) (st_test (se_op (se_op (se_ixB (K := K) (sb_var (gS (gS g0))) (se_var (gS (gS (gS (gS (gS g0))))))) se_int s2_mod) se_int (s2_C0 (f := fun i j => decide (j < i))))))) (ss_asg (se_op (se_var (gS (gS (gS (gS g0))))) (se_op (se_var (gS (gS (gS (gS (gS g0)))))) se_int (s2_I0 (f := fun i j => i - j))) s2_ixS) (pS (pS (pS (pS (pS (pS p0)))))) ss_nil) ss_nil) (ss_seq (ss_if (st_test (se_op (se_var (gS (gS (gS g0)))) se_int (s2_eqI))) (ss_asg (se_op (se_str (l := [65, 67])) (se_op (se_ixB (K := K) (sb_var (gS (gS g0))) (se_var (gS (gS (gS (gS (gS g0))))))) se_int s2_mod) s2_ixS) (pS (pS (pS (pS (pS (pS p0)))))) ss_nil) ss_nil) (ss_seq (ss_if (st_and (st_test (se_op (se_var (gS (gS (gS g0)))) se_int (s2_eqI))) (st_test (se_op (se_ixB (K := K) (sb_var (gS (gS g0))) (se_var (gS (gS (gS (gS (gS g0))))))) se_int (s2_C0 (f := fun i j => decide (j < i)))))) (ss_asg (se_str (l := [78])) (pS (pS (pS (pS (pS (pS p0)))))) ss_nil) ss_nil) (ss_asg (se_op (se_var (gS (gS (gS (gS g0))))) (se_var (gS (gS (gS (gS (gS (gS g0))))))) s2_addS) (pS (pS (pS (pS p0)))) (ss_co (cK (cK (cK (cK (cK (cF (cF cId)))))))))))))) (ss_seq (ss_ret (se_var (gS (gS (gS (gS g0)))))) ss_nil))))), by exact rfl⟩
end
end Lw
namespace Lw
open PySem PySem.Spec PyProof.Rows L2 Fw Mi
local macro_rules | `(tactic| walk_at "m") => `(tactic| simp only [pidx_one, pinS_one, pninS_one, W_some, W_none, W_ob, W_bind, W_pck, W_rb, W_fin, W_finN, W_T, W_F, W_Tr, W_Fa, Rw_nxt, Rw_ret, Rw_cnt, Rf_ret, Rf_nxt, RfN_ret, RfN_nxt, W_finU, RfU_nxt, W_obx, Xf_ok, Xf_er, W_rbx, Xr_ok, Xr_er, W_okx, W_finNX, RfNX_ret, RfNX_nxt, W_finUX, RfUX_nxt, RfUX_er, W_trx, Xt_ok, Xt_er, decide_true, decide_false, Bool.not_true, Bool.not_false])
theorem w_text {c s : Int} {Q : List Nat → Prop} (hs : 0 ≤ s ∧ s < 1000000) (q : ∀ l : List Nat, l.length = s.toNat → Ltr l → Q l) : W (m_law_text c s) Q := by
  unfold m_law_text
  walk_at "m"
  refine w_row hs (by omega) fun ns hl hx => ?_
  refine ⟨by omega, by omega, by omega, ?_⟩
  generalize (c.natAbs : Int) / 7 % 4 = kind
  refine W_for (fun i γ => ∃ l, γ = (c, s, ns, kind, l, ()) ∧ l.length = i ∧ Ltr l) ⟨[], rfl, rfl, fun _ h => (nomatch h)⟩ ?_ ?_
  · rintro i k γ hk ⟨l, rfl, hll, hlt⟩
    obtain ⟨rfl, hi⟩ := prange_get hk
    walk_at "m"
    have hin : 0 ≤ (i : Int) ∧ (i : Int) < ns.length := by omega
    refine W_pat hin fun d hd => ⟨by omega, ?_⟩
    have hd0 := hx d (List.mem_of_getElem? hd)
    refine W_pixS (by decide) (by show 0 ≤ d % 4 ∧ d % 4 < 4; omega) fun x1 hx1 => ?_
    have l1 : Ltr [x1] := fun c hc => by
      rw [List.mem_singleton.mp hc]
      have := List.mem_of_getElem? hx1
      simp only [List.mem_cons, List.not_mem_nil, or_false] at this ⊢
      omega
    have fin : ∀ x2, Ltr [x2] → l.length + [x2].length ≤ sz ∧ ∃ l', (c, s, ns, kind, l ++ [x2], ()) = (c, s, ns, kind, l', ()) ∧ l'.length = i + 1 ∧ Ltr l' := fun x2 h2 =>
      ⟨by unfold sz; simp; omega, _, rfl, by simp [hll], hlt.app h2⟩
    rw [← W_ob]
    refine W.mono (Q := fun r => ∃ x2, r = .nxt (c, s, ns, kind, l, (i : Int), [x2], ()) ∧ Ltr [x2]) ?_ ?_
    · walk_at "m"
      refine W.mono (Q := fun y => y = true → 4 < (i : Int)) ?_ fun y hy => W_ifB (fun h => ?_) (fun h => ?_)
      · refine W_ifD (fun h => ?_) (fun h => ?_)
        · refine W_ifD (fun h => ?_) (fun h => ?_)
          · walk_at "m"
            exact W_pat hin fun d hd => ⟨by omega, fun _ => h⟩
          · walk_at "m"
            exact fun h => nomatch h
        · walk_at "m"
          exact fun h => nomatch h
      · have := hy h
        walk_at "m"
        exact W_pixS (by unfold sz; omega) (by omega) fun x2 hx2 => ⟨x2, rfl, hlt.sub fun c hc => by rw [List.mem_singleton.mp hc]; exact List.mem_of_getElem? hx2⟩
      · walk_at "m"
        exact ⟨x1, rfl, l1⟩
    rintro _ ⟨x2, rfl, l2⟩
    walk_at "m"
    refine W.mono (Q := fun r => ∃ x3, r = .nxt (c, s, ns, kind, l, (i : Int), [x3], ()) ∧ Ltr [x3]) ?_ ?_
    · refine W_ifD (fun h => ?_) (fun h => ?_)
      · walk_at "m"
        refine W_pat hin fun d hd => ⟨by omega, ?_⟩
        refine W_pixS (by decide) (by show 0 ≤ d % 2 ∧ d % 2 < 2; omega) fun x3 hx3 => ⟨x3, rfl, fun c hc => ?_⟩
        rw [List.mem_singleton.mp hc]
        have := List.mem_of_getElem? hx3
        simp only [List.mem_cons, List.not_mem_nil, or_false] at this ⊢
        omega
      · walk_at "m"
        exact ⟨x2, rfl, l2⟩
    rintro _ ⟨x3, rfl, l3⟩
    walk_at "m"
    rw [← W_ob]
    refine W.mono (Q := fun r => ∃ x4, r = .nxt (c, s, ns, kind, l, (i : Int), [x4], ()) ∧ Ltr [x4]) ?_ ?_
    · walk_at "m"
      refine W.mono (Q := fun y => True) ?_ fun y hy => W_ifB (fun h => ?_) (fun h => ?_)
      · refine W_ifD (fun h => ?_) (fun h => ?_)
        · walk_at "m"
          exact W_pat hin fun d hd => trivial
        · walk_at "m"
      · walk_at "m"
        exact ⟨78, rfl, fun c hc => by rw [List.mem_singleton.mp hc]; decide⟩
      · walk_at "m"
        exact ⟨x3, rfl, l3⟩
    rintro _ ⟨x4, rfl, l4⟩
    walk_at "m"
    exact ⟨by unfold sz; simp; omega, _, rfl, by simp [hll], hlt.app l4⟩
  · rintro γ ⟨l, rfl, hll, hlt⟩
    walk_at "m"
    exact q _ (by rw [hll, prange_len]) hlt

end Lw
namespace Lw
open PySem PySem.Spec PyProof.Rows L2 Fw Mi
section
variable {P : Program} {w : World} {K : PySem.W.Frag} {mg : Str → Option Value} {base : Heap}
noncomputable def m_law_references (script : (List Int)) (at_ : Int) (count : Int) : Option (List ((List Nat) × (List Nat))) := fin (κ := Unit) (ρ := Unit) (ob (pck (([] : List ((List Nat) × (List Nat))).length ≤ sz) []) fun found => rb (ob (pck (-4611686018427387904 ≤ count ∧ count < 4611686018427387904) (prange count)) fun xs22 => (forR (fun (x_ : Int) (γ : ((List Int) × Int × Int × (List ((List Nat) × (List Nat))) × Unit)) => let k := x_; let script := γ.1; let at_ := γ.2.1; let count := γ.2.2.1; let found := γ.2.2.2.1; ob (ob (ob (ob (ob (pck (PMul (2 : Int) k) ((2 : Int) * k)) fun y1 => some (at_ + y1)) fun x2 => some (x2, ())) fun r3 => some (script, r3)) fun z4 => (m_law_cell z4.1 z4.2.1)) fun cell => ob (ob (ob (ob (ob (ob (ob (pck (PMul (2 : Int) k) ((2 : Int) * k)) fun y5 => some ((at_ + (1 : Int)) + y5)) fun x6 => some (x6, ())) fun r7 => some (script, r7)) fun z8 => (m_law_cell z8.1 z8.2.1)) fun x11 => (ob (ob (ob (pck (PMod cell (45 : Int)) (cell % (45 : Int))) fun y9 => some ((1 : Int) + y9)) fun x10 => some (x10, ())) fun r12 => some (x11, r12))) fun z13 => (m_law_text z13.1 z13.2.1)) fun text => rb ((ob (if (decide ((0 : Int) < k)) = true then (ob (ob (pck (PDiv cell (45 : Int)) (cell / (45 : Int))) fun x14 => (pck (PMod x14 (4 : Int)) (x14 % (4 : Int)))) fun x15 => some (decide (x15 = (1 : Int)))) else some false) fun b17 => if b17 = true then (ob (ob (pat found (0 : Int)) fun x16 => some x16.2) fun text => some (.nxt (script, at_, count, found, k, cell, text, ()))) else (some (.nxt (script, at_, count, found, k, cell, text, ()))))) fun γ => let script := γ.1; let at_ := γ.2.1; let count := γ.2.2.1; let found := γ.2.2.2.1; let k := γ.2.2.2.2.1; let text := γ.2.2.2.2.2.2.1; (ob (ob (ob (pstr k) fun y18 => (pck (([114] : List Nat).length + y18.length ≤ sz) (([114] : List Nat) ++ y18))) fun x19 => some (x19, (text))) fun x21 => ob (pck (found.length < sz) (found ++ [x21])) fun w20 => some (.nxt (script, at_, count, w20, ())))) xs22 (script, at_, count, found, ()))) fun γ => let found := γ.2.2.2.1; rb (some (.ret found)) fun γ => some (.nxt γ))
abbrev sp_law_references (K : PySem.W.Frag) : Sp := spM (aC (jQ K jI) (aC jI (aC jI aN))) (sO (jT (yC jS (y1 jS)))) (fun γ => m_law_references γ.1 γ.2.1 γ.2.2.1)
theorem ok_law_references (T : Tx w K mg) : Dn P w K mg base 3 (He.ga K "_law_references") ["_law_script", "_law_at", "_law_count"] (sp_law_references K) := by
  obtain ⟨fd_law_cell, G_law_cell, b_law_cell, kp_law_cell, _⟩ := ok_law_cell (P := P) (w := w) (base := base) T
  obtain ⟨fd_law_text, G_law_text, b_law_text, kp_law_text, _⟩ := ok_law_text (P := P) (w := w) (base := base) T
  refine dn_mk T.d_law_references sc_law_references (fun _ _ _ _ _ _ us hl => match us, hl with | [_, _, _], _ => rfl) (spM_len (an_C (an_C (an_C an_0)))) fun cdv A outer s H vs Q E hr h => ?_
  refine ⟨_, (pss_cons (ps_set (i := 3) sc_law_references.nd rfl (.inl rfl) (pe_lst pa_nil))
      (pss_cons (ps_for PassesOwn.never rfl (pi_range1 (by rfl) T.z_range (pa_cons (pv 2) pa_nil)) (pg_name (i := 4) sc_law_references.nd rfl (.inl rfl))
      (pss_cons (ps_set (i := 5) sc_law_references.nd rfl (.inl rfl) (pe_call G_law_cell (hr.mono (by decide)) (by rfl) T.g_law_cell kp_law_cell b_law_cell .nil pass0 (pa_cons (pv 0) (pa_cons (pe_op op_add (pv 1) (pe_op op_mul pe_int (pv 4))) pa_nil))))
      (pss_cons (ps_set (i := 6) sc_law_references.nd rfl (.inl rfl) (pe_call G_law_text (hr.mono (by decide)) (by rfl) T.g_law_text kp_law_text b_law_text .nil pass0 (pa_cons (pe_call G_law_cell (hr.mono (by decide)) (by rfl) T.g_law_cell kp_law_cell b_law_cell .nil pass0 (pa_cons (pv 0) (pa_cons (pe_op op_add (pe_op op_add (pv 1) pe_int) (pe_op op_mul pe_int (pv 4))) pa_nil))) (pa_cons (pe_op op_add pe_int (pe_op op_mod (pv 5) pe_int)) pa_nil))))
      (pss_cons (ps_if (PW.pt (pw_and (pt_cmpR op_gt (pv 4) pe_int (nomark _)) (pw_and1 (pt_cmpR op_eq (pe_op op_mod (pe_op op_fdiv (pv 5) pe_int) pe_int) pe_int (nomark _)))))
      (pss_cons (ps_set (i := 6) sc_law_references.nd rfl (.inl rfl) (pe_ix (ixT_ (K := K)) (pe_ix (ixL_ (K := K)) (pv 3) pe_int (fun _ _ => rfl)) pe_int (fun _ _ => rfl)))
      pss_nil)
      pss_nil)
      (pss_cons (ps_expr (bm_ (K := K) PySem.F.plainAttrs_list PySem.F.slot_list_append PySem.F.type_list_append mt_append (pv 3) (pa_cons (pe_tup (pa_cons (pe_op k_addS (pe_strL (l := [114]) (by decide +kernel)) (pe_callTy k_str (by rfl) T.z_str (by decide +kernel) (pa_cons (pv 4) pa_nil))) (pa_cons (pv 6) pa_nil))) pa_nil)))
      pss_nil)))))
      (pss_cons (ps_ret (pv 3))
      pss_nil))), ?_⟩
  refine fin_runX (E := (eC (sF (jQ K jI)) (eC (sF jI) (eC (sF jI) (eU (eU (eU (eU eN)))))))) (E' := eN) (ae_C (ae_C (ae_C (ae_U rfl (ae_U rfl (ae_U rfl (ae_U rfl ae_0))))))) (an_C (an_C (an_C an_0))) rfl ?S h rfl
  exact ⟨_, (ss_asg (se_lst (A := (jT (yC jS (y1 jS)))) sl_nil) (pS (pS (pS p0U))) (ss_seq (ss_for (si_r1 (sa_cons (se_var (gS (gS g0))) sa_nil)) (sg_name (pS (pS (pS (pS p0U))))) (ss_asg (se_call (sa_cons (se_var g0) (sa_cons (se_op (se_var (gS g0)) (se_op se_int (se_var (gS (gS (gS (gS g0))))) s2_mul) (s2_I0 (f := fun i j => i + j))) sa_nil))) (pS (pS (pS (pS (pS p0U))))) (ss_asg (se_call (sa_cons (se_call (sa_cons (se_var g0) (sa_cons (se_op (se_op (se_var (gS g0)) se_int (s2_I0 (f := fun i j => i + j))) (se_op se_int (se_var (gS (gS (gS (gS g0))))) s2_mul) (s2_I0 (f := fun i j => i + j))) sa_nil))) (sa_cons (se_op se_int (se_op (se_var (gS (gS (gS (gS (gS g0)))))) se_int s2_mod) (s2_I0 (f := fun i j => i + j))) sa_nil))) (pS (pS (pS (pS (pS (pS p0U)))))) (ss_seq (ss_if (st_and (st_test (se_op (se_var (gS (gS (gS (gS g0))))) se_int (s2_C0 (f := fun i j => decide (j < i))))) (st_test (se_op (se_op (se_op (se_var (gS (gS (gS (gS (gS g0)))))) se_int s2_div) se_int s2_mod) se_int (s2_eqI)))) (ss_asg (se_ixT (K := K) (i := 1) (se_ixB (K := K) (sb_var (gS (gS (gS g0)))) se_int) (ts tz1)) (pS (pS (pS (pS (pS (pS p0)))))) ss_nil) ss_nil) (ss_app (K := K) (uS (uS (uS u0))) (se_tup (stC (se_op (se_str (l := [114])) (se_cb (sa_cons (se_var (gS (gS (gS (gS g0))))) sa_nil) sc_strN) s2_addS) (st1 (se_var (gS (gS (gS (gS (gS (gS g0))))))))) (tz tz1)) (ss_co (cK (cK (cK (cK (cF (cF (cF cId))))))))))))) (ss_seq (ss_retO (gS (gS (gS g0)))) ss_nil))), by exact rfl⟩
end
end Lw
namespace Lw
open PySem PySem.Spec PyProof.Rows L2 Fw Mi
local macro_rules | `(tactic| walk_at "m") => `(tactic| simp only [pidx_one, pinS_one, pninS_one, W_some, W_none, W_ob, W_bind, W_pck, W_rb, W_fin, W_finN, W_T, W_F, W_Tr, W_Fa, Rw_nxt, Rw_ret, Rw_cnt, Rf_ret, Rf_nxt, RfN_ret, RfN_nxt, W_finU, RfU_nxt, W_obx, Xf_ok, Xf_er, W_rbx, Xr_ok, Xr_er, W_okx, W_finNX, RfNX_ret, RfNX_nxt, W_finUX, RfUX_nxt, RfUX_er, W_trx, Xt_ok, Xt_er, decide_true, decide_false, Bool.not_true, Bool.not_false])
theorem w_refs {ns : List Int} {a c : Int} {Q : List (List Nat × List Nat) → Prop} (ha : 0 ≤ a ∧ a ≤ 1000) (hc : 0 ≤ c ∧ c ≤ 4) (q : ∀ f : List (List Nat × List Nat), f.length ≤ 4 → (∀ r ∈ f, r.1.length ≤ 40 ∧ r.2.length ≤ 45) → Q f) : W (m_law_references ns a c) Q := by
  have hz : ∀ k : Nat, k ≤ 16000000 → k ≤ sz := fun k h => by unfold sz; omega
  unfold m_law_references
  walk_at "m"
  refine ⟨by unfold sz; decide, by omega, ?_⟩
  refine W_for (fun i γ => ∃ f : List (List Nat × List Nat), γ = (ns, a, c, f, ()) ∧ f.length = i ∧ ∀ r ∈ f, r.1.length ≤ 40 ∧ r.2.length ≤ 45) ⟨[], rfl, rfl, fun _ h => nomatch h⟩ ?_ ?_
  · rintro i x γ hx ⟨f, rfl, hf, hr⟩
    obtain ⟨rfl, hi⟩ := prange_get hx
    walk_at "m"
    refine ⟨by left; omega, ?_⟩
    refine w_cell (by omega) fun ce => ⟨by left; omega, ?_⟩
    refine w_cell (by omega) fun ct => ⟨by omega, ?_⟩
    refine w_text (by omega) fun t ht hl => ?_
    have hl : t.length ≤ 45 := by omega
    rw [← W_ob]
    refine W.mono (Q := fun r => ∃ u : List Nat, u.length ≤ 45 ∧ r = Res.nxt (ns, a, c, f, (i : Int), ce, u, ())) ?_ ?_
    · walk_at "m"
      refine W.mono (Q := fun b => b = true → 0 < (i : Int)) ?_ ?_
      · refine W_ifD (fun h => ?_) (fun h => ?_)
        · walk_at "m"
          exact ⟨by omega, by omega, fun _ => h⟩
        · walk_at "m"
          exact fun z => (by cases z)
      intro b hb
      refine W_ifB (fun h => ?_) (fun h => ?_)
      · have := hb h
        walk_at "m"
        refine W_pat ⟨by omega, by omega⟩ fun r hg => ?_
        exact ⟨_, (hr r (List.mem_of_getElem? hg)).2, rfl⟩
      · walk_at "m"
        exact ⟨t, hl, rfl⟩
    rintro _ ⟨u, hu, rfl⟩
    rw [Rw_nxt]
    have hnum : ∀ k, k < 5 → (TL.numL k).length ≤ 20 := by decide
    unfold pstr
    walk_at "m"
    have hnl := hnum i (by omega)
    rw [Int.toNat_natCast]
    refine ⟨by omega, hz _ (by show 1 + _ ≤ _; omega), by unfold sz; omega, _, rfl, by rw [List.length_append, hf]; rfl, fun r hm => ?_⟩
    rcases List.mem_append.mp hm with h | h
    · exact hr r h
    · rw [List.mem_singleton.mp h]
      exact ⟨by show (_ ++ _ : List Nat).length ≤ _; rw [List.length_append]; show 1 + _ ≤ _; omega, hu⟩
  · rintro γ ⟨f, rfl, hf, hr⟩
    rw [prange_len] at hf
    walk_at "m"
    exact q f (by omega) hr

end Lw
namespace Ln
/-- how many letters at the front are signs -/
def fwn (s : List Nat) : List Nat → Nat
  | [] => 0
  | c :: l => if c ∈ s then fwn s l + 1 else 0
theorem fwn_le (s : List Nat) : ∀ l, fwn s l ≤ l.length
  | [] => Nat.le_refl _
  | c :: l => by
    rw [fwn]
    have := fwn_le s l
    split
    · rw [List.length_cons]; omega
    · omega
/-- the first place from k on that holds no sign, or the length -/
def fw (l : List Nat) (k : Nat) (s : List Nat) : Nat := k + fwn s (l.drop k)
theorem fw_in {l s : List Nat} {k : Nat} (h : k < l.length) (hc : l[k] ∈ s) : fw l k s = fw l (k + 1) s := by
  unfold fw
  rw [List.drop_eq_getElem_cons h, fwn, if_pos hc]
  omega
theorem fw_out {l s : List Nat} {k : Nat} (h : k < l.length) (hc : l[k] ∉ s) : fw l k s = k := by
  unfold fw
  rw [List.drop_eq_getElem_cons h, fwn, if_neg hc]
  omega
theorem fw_end (l s : List Nat) : fw l l.length s = l.length := by
  unfold fw
  rw [List.drop_length]
  rfl
theorem fw_le {l s : List Nat} {k : Nat} (h : k ≤ l.length) : fw l k s ≤ l.length := by
  have := fwn_le s (l.drop k)
  rw [List.length_drop] at this
  unfold fw
  omega
abbrev NS : List Nat := [48, 49, 50, 51, 52, 53, 54, 55, 56, 57, 65, 66, 67, 68, 69, 70, 71, 72, 73, 74, 75, 76, 77, 78, 79, 80, 81, 82, 83, 84, 85, 86, 87, 88, 89, 90, 97, 98, 99, 100, 101, 102, 103, 104, 105, 106, 107, 108, 109, 110, 111, 112, 113, 114, 115, 116, 117, 118, 119, 120, 121, 122]
abbrev LS : List Nat := [65, 67, 71, 84, 78]
/-- where a name's line is wrong; -1 if it is not -/
def nf (h l : List Nat) : Int := if l.take 1 ≠ h then 0 else if l.length = 1 ∨ min 41 (fw l 1 NS) < l.length then ((min 41 (fw l 1 NS) : Nat) : Int) else -1
/-- where a text's line is wrong -/
def tf (l : List Nat) (room : Int) : Int := if l = [] then 0 else if min room (fw l 0 LS : Int) < l.length then min room (fw l 0 LS : Int) else -1
theorem pf1 (c : Nat) : ∀ l : List Nat, ([c] : List Nat).isPrefixOf l = decide (l.take 1 = [c])
  | [] => rfl
  | d :: l => by
    show (c == d && true) = _
    rw [Bool.and_true]
    by_cases h : c = d
    · subst h; simp
    · have e : (c == d) = false := by simpa using h
      rw [e]
      refine (decide_eq_false fun z => ?_).symm
      have : [d] = [c] := z
      exact h (by cases this; rfl)
/-- a text, line by line -/
def rdT : List (List Nat) → Nat → List Nat → Except (Int × Int) (List Nat × List (List Nat) × Nat)
  | [], a, t => .ok (t, [], a)
  | l :: ls, a, t => if t ≠ [] ∧ l.take 1 = [62] then .ok (t, l :: ls, a) else if 0 ≤ tf l (100000 - t.length) then .error ((a : Int), tf l (100000 - t.length)) else rdT ls (a + 1) (t ++ l)
/-- references, one behind another -/
def rd : Nat → List (List Nat) → Nat → List (List Nat × List Nat) → List (List Nat × List Nat) × Option (Int × Int)
  | 0, _, _, f => (f, none)
  | _ + 1, [], _, f => (f, none)
  | k + 1, l :: ls, a, f => if 0 ≤ nf [62] l then (f, some ((a : Int), nf [62] l)) else if ls = [] then (f, some ((a : Int) + 1, 0)) else match rdT ls (a + 1) [] with
    | .error e => (f, some e)
    | .ok z => rd k z.2.1 z.2.2 (f ++ [(l.drop 1, z.1)])
theorem rd_nil (k a : Nat) (f : List (List Nat × List Nat)) : rd k [] a f = (f, none) := by cases k <;> rfl
theorem rdT_len : ∀ {ls : List (List Nat)} {a : Nat} {t : List Nat} {z : List Nat × List (List Nat) × Nat}, rdT ls a t = .ok z → z.2.1.length ≤ ls.length
  | [], a, t, z, h => by cases h; exact Nat.le_refl _
  | l :: ls, a, t, z, h => by
    rw [rdT] at h
    split at h
    · cases h; exact Nat.le_refl _
    · split at h
      · cases h
      · exact Nat.le_succ_of_le (rdT_len h)
end Ln

namespace Lw
open PySem PySem.Spec PyProof.Rows L2 Fw Mi
section
variable {P : Program} {w : World} {K : PySem.W.Frag} {mg : Str → Option Value} {base : Heap}
noncomputable def m_law_first (line : (List Nat)) (start : Int) (signs : (List Nat)) : Option Int := fin (κ := Unit) (ρ := Unit) (rb (ob (ob (ob (ob (pck (line.length ≤ sz) (line.length : Int)) fun x8 => some (x8, ())) fun r9 => some (start, r9)) fun z10 => (pck (-4611686018427387904 ≤ z10.1 ∧ z10.1 < 4611686018427387904 ∧ -4611686018427387904 ≤ z10.2.1 ∧ z10.2.1 < 4611686018427387904) (prange2 z10.1 z10.2.1))) fun xs11 => (forR (fun (x_ : Int) (γ : ((List Nat) × Int × (List Nat) × Unit)) => let k := x_; let line := γ.1; let start := γ.2.1; let signs := γ.2.2.1; rb ((ob (ob (pixS line k) fun x4 => (pninS x4 signs)) fun b5 => if b5 = true then (rb (some (.ret k)) fun γ => some (.nxt γ)) else (some (.nxt (line, start, signs, k, ()))))) fun γ => let line := γ.1; let start := γ.2.1; let signs := γ.2.2.1; some (.nxt (line, start, signs, ()))) xs11 (line, start, signs, ()))) fun γ => let line := γ.1; rb (ob (pck (line.length ≤ sz) (line.length : Int)) fun r7 => some (.ret r7)) fun γ => some (.nxt γ))
abbrev sp_law_first (K : PySem.W.Frag) : Sp := spM (aC jS (aC jI (aC jS aN))) (sF jI) (fun γ => m_law_first γ.1 γ.2.1 γ.2.2.1)
theorem ok_law_first (T : Tx w K mg) : Dn P w K mg base 1 (He.ga K "_law_first") ["_law_line", "_law_start", "_law_signs"] (sp_law_first K) := by
  refine dn_mk T.d_law_first sc_law_first (fun _ _ _ _ _ _ us hl => match us, hl with | [_, _, _], _ => rfl) (spM_len (an_C (an_C (an_C an_0)))) fun cdv A outer s H vs Q E hr h => ?_
  refine ⟨_, (pss_cons (ps_for PassesOwn.never rfl (pi_range2 (by rfl) T.z_range (pa_cons (pv 1) (pa_cons (pe_callB k_lenS (by rfl) T.z_len (by decide +kernel) (pa_cons (pv 0) pa_nil)) pa_nil))) (pg_name (i := 3) sc_law_first.nd rfl (.inl rfl))
      (pss_cons (ps_if (pt_cmpR k_notInS (pe_ix k_ixS (pv 0) (pv 3) (fun _ _ => rfl)) (pv 2) (by rfl))
      (pss_cons (ps_ret (pv 3))
      pss_nil)
      pss_nil)
      pss_nil))
      (pss_cons (ps_ret (pe_callB k_lenS (by rfl) T.z_len (by decide +kernel) (pa_cons (pv 0) pa_nil)))
      pss_nil)), ?_⟩
  refine fin_runX (E := (eC (sF jS) (eC (sF jI) (eC (sF jS) (eU eN))))) (E' := eN) (ae_C (ae_C (ae_C (ae_U rfl ae_0)))) (an_C (an_C (an_C an_0))) rfl ?S h rfl
  exact ⟨_, (ss_seq (ss_for (si_r2 (sa_cons (se_var (gS g0)) (sa_cons (se_cb (sa_cons (se_var g0) sa_nil) sc_lenS) sa_nil))) (sg_name (pS (pS (pS p0U)))) (ss_seq (ss_if (st_test (se_op (se_op (se_var g0) (se_var (gS (gS (gS g0)))) s2_ixS) (se_var (gS (gS g0))) (s2_notInS))) (ss_seq (ss_ret (se_var (gS (gS (gS g0))))) ss_nil) ss_nil) (ss_co (cK (cK (cK (cF cId))))))) (ss_seq (ss_ret (se_cb (sa_cons (se_var g0) sa_nil) sc_lenS)) ss_nil)), by exact rfl⟩
end
end Lw
namespace Lw
open PySem PySem.Spec PyProof.Rows L2 Fw Mi
local macro_rules | `(tactic| walk_at "m") => `(tactic| simp only [pidx_one, pinS_one, pninS_one, W_some, W_none, W_ob, W_bind, W_pck, W_rb, W_fin, W_finN, W_T, W_F, W_Tr, W_Fa, Rw_nxt, Rw_ret, Rw_cnt, Rf_ret, Rf_nxt, RfN_ret, RfN_nxt, W_finU, RfU_nxt, W_obx, Xf_ok, Xf_er, W_rbx, Xr_ok, Xr_er, W_okx, W_finNX, RfNX_ret, RfNX_nxt, W_finUX, RfUX_nxt, RfUX_er, W_trx, Xt_ok, Xt_er, decide_true, decide_false, Bool.not_true, Bool.not_false])
theorem m_lawfirst_eq {l s : List Nat} {k : Nat} (hk : k ≤ l.length) (hl : l.length ≤ 1000000) : m_law_first l (k : Int) s = some (Ln.fw l k s : Int) := by
  have hz : l.length ≤ sz := by unfold sz; omega
  refine W.eq ?_
  unfold m_law_first
  walk_at "m"
  refine ⟨hz, by omega, ?_⟩
  refine W_for (fun i γ => γ = (l, (k : Int), s, ()) ∧ Ln.fw l k s = Ln.fw l (k + i) s) ⟨rfl, rfl⟩ ?_ ?_
  · rintro i x γ hx ⟨rfl, hI⟩
    obtain ⟨rfl, hi⟩ := prange2_get hx
    have hlt : k + i < l.length := by omega
    walk_at "m"
    rw [show (k : Int) + (i : Int) = ((k + i : Nat) : Int) by omega, pixS_nat (List.getElem?_eq_getElem hlt) hz]
    walk_at "m"
    by_cases hc : l[k + i] ∈ s
    · rw [decide_eq_true hc]
      walk_at "m"
      exact ⟨trivial, by rw [hI, Ln.fw_in hlt hc]; rfl⟩
    · rw [decide_eq_false hc]
      walk_at "m"
      rw [hI, Ln.fw_out hlt hc]
  · rintro γ ⟨rfl, hI⟩
    rw [prange2_len] at hI
    walk_at "m"
    refine ⟨hz, ?_⟩
    rw [hI, show k + ((l.length : Int) - (k : Int)).toNat = l.length by omega, Ln.fw_end]

end Lw
namespace Lw
open PySem PySem.Spec PyProof.Rows L2 Fw Mi
section
variable {P : Program} {w : World} {K : PySem.W.Frag} {mg : Str → Option Value} {base : Heap}
noncomputable def m_law_name_fault (line : (List Nat)) (head : (List Nat)) : Option Int := fin (κ := Unit) (ρ := Unit) (rb ((ob (ob (pck (line.length ≤ sz) (pcut line none (some (1 : Int)))) fun x1 => some (!decide (x1 = head))) fun b2 => if b2 = true then (rb (some (.ret (0 : Int))) fun γ => some (.nxt γ)) else (some (.nxt (line, head, ()))))) fun γ => let line := γ.1; let head := γ.2.1; let signs := ([48, 49, 50, 51, 52, 53, 54, 55, 56, 57, 65, 66, 67, 68, 69, 70, 71, 72, 73, 74, 75, 76, 77, 78, 79, 80, 81, 82, 83, 84, 85, 86, 87, 88, 89, 90, 97, 98, 99, 100, 101, 102, 103, 104, 105, 106, 107, 108, 109, 110, 111, 112, 113, 114, 115, 116, 117, 118, 119, 120, 121, 122] : List Nat); ob (ob (ob (ob (m_law_first line (1 : Int) signs) fun x3 => some (x3, ())) fun r4 => some ((41 : Int), r4)) fun z5 => some (min z5.1 z5.2.1)) fun at_ => rb ((ob ((ob (ob (pck (line.length ≤ sz) (line.length : Int)) fun x6 => some (decide (x6 = (1 : Int)))) fun b8 => if b8 = true then some true else (ob (pck (line.length ≤ sz) (line.length : Int)) fun y7 => some (decide (at_ < y7))))) fun b9 => if b9 = true then (rb (some (.ret at_)) fun γ => some (.nxt γ)) else (some (.nxt (line, head, signs, at_, ()))))) fun γ => rb (some (.ret (-(1 : Int)))) fun γ => some (.nxt γ))
abbrev sp_law_name_fault (K : PySem.W.Frag) : Sp := spM (aC jS (aC jS aN)) (sF jI) (fun γ => m_law_name_fault γ.1 γ.2.1)
theorem ok_law_name_fault (T : Tx w K mg) : Dn P w K mg base 2 (He.ga K "_law_name_fault") ["_law_line", "_law_head"] (sp_law_name_fault K) := by
  obtain ⟨fd_law_first, G_law_first, b_law_first, kp_law_first, _⟩ := ok_law_first (P := P) (w := w) (base := base) T
  refine dn_mk T.d_law_name_fault sc_law_name_fault (fun _ _ _ _ _ _ us hl => match us, hl with | [_, _], _ => rfl) (spM_len (an_C (an_C an_0))) fun cdv A outer s H vs Q E hr h => ?_
  refine ⟨_, (pss_cons (ps_if (pt_cmpR op_ne (pe_slice k_slS (pv 0) po_none (po_some pe_int)) (pv 1) (nomark _))
      (pss_cons (ps_ret pe_int)
      pss_nil)
      pss_nil)
      (pss_cons (ps_set (i := 2) sc_law_name_fault.nd rfl (.inl rfl) (pe_strL (l := [48, 49, 50, 51, 52, 53, 54, 55, 56, 57, 65, 66, 67, 68, 69, 70, 71, 72, 73, 74, 75, 76, 77, 78, 79, 80, 81, 82, 83, 84, 85, 86, 87, 88, 89, 90, 97, 98, 99, 100, 101, 102, 103, 104, 105, 106, 107, 108, 109, 110, 111, 112, 113, 114, 115, 116, 117, 118, 119, 120, 121, 122]) (by decide +kernel)))
      (pss_cons (ps_set (i := 3) sc_law_name_fault.nd rfl (.inl rfl) (pe_callB (min2_ rfl) (by rfl) T.z_min (by decide +kernel) (pa_cons pe_int (pa_cons (pe_call G_law_first (hr.mono (by decide)) (by rfl) T.g_law_first kp_law_first b_law_first .nil pass0 (pa_cons (pv 0) (pa_cons pe_int (pa_cons (pv 2) pa_nil)))) pa_nil))))
      (pss_cons (ps_if (PW.pt (pw_or (pt_cmpR op_eq (pe_callB k_lenS (by rfl) T.z_len (by decide +kernel) (pa_cons (pv 0) pa_nil)) pe_int (nomark _)) (pw_or1 (pt_cmpR op_lt (pv 3) (pe_callB k_lenS (by rfl) T.z_len (by decide +kernel) (pa_cons (pv 0) pa_nil)) (nomark _)))))
      (pss_cons (ps_ret (pv 3))
      pss_nil)
      pss_nil)
      (pss_cons (ps_ret (pe_un un_neg pe_int))
      pss_nil))))), ?_⟩
  refine fin_runX (E := (eC (sF jS) (eC (sF jS) (eU (eU eN))))) (E' := eN) (ae_C (ae_C (ae_U rfl (ae_U rfl ae_0)))) (an_C (an_C an_0)) rfl ?S h rfl
  exact ⟨_, (ss_seq (ss_if (st_test (se_op (se_sl (se_var g0) sp_no (sp_so se_int) s3_S) (se_var (gS g0)) (s2_neS))) (ss_seq (ss_ret se_int) ss_nil) ss_nil) (ss_asg (se_str (l := [48, 49, 50, 51, 52, 53, 54, 55, 56, 57, 65, 66, 67, 68, 69, 70, 71, 72, 73, 74, 75, 76, 77, 78, 79, 80, 81, 82, 83, 84, 85, 86, 87, 88, 89, 90, 97, 98, 99, 100, 101, 102, 103, 104, 105, 106, 107, 108, 109, 110, 111, 112, 113, 114, 115, 116, 117, 118, 119, 120, 121, 122])) (pS (pS p0U)) (ss_asg (se_cb (sa_cons se_int (sa_cons (se_call (sa_cons (se_var g0) (sa_cons se_int (sa_cons (se_var (gS (gS g0))) sa_nil)))) sa_nil)) sc_min2) (pS (pS (pS p0U))) (ss_seq (ss_if (st_or (st_test (se_op (se_cb (sa_cons (se_var g0) sa_nil) sc_lenS) se_int (s2_eqI))) (st_test (se_op (se_var (gS (gS (gS g0)))) (se_cb (sa_cons (se_var g0) sa_nil) sc_lenS) (s2_C0 (f := fun i j => decide (i < j)))))) (ss_seq (ss_ret (se_var (gS (gS (gS g0))))) ss_nil) ss_nil) (ss_seq (ss_ret (se_un se_int (s1_U (f := fun i => -i)))) ss_nil))))), by exact rfl⟩
end
end Lw
namespace Lw
open PySem PySem.Spec PyProof.Rows L2 Fw Mi
local macro_rules | `(tactic| walk_at "m") => `(tactic| simp only [pidx_one, pinS_one, pninS_one, W_some, W_none, W_ob, W_bind, W_pck, W_rb, W_fin, W_finN, W_T, W_F, W_Tr, W_Fa, Rw_nxt, Rw_ret, Rw_cnt, Rf_ret, Rf_nxt, RfN_ret, RfN_nxt, W_finU, RfU_nxt, W_obx, Xf_ok, Xf_er, W_rbx, Xr_ok, Xr_er, W_okx, W_finNX, RfNX_ret, RfNX_nxt, W_finUX, RfUX_nxt, RfUX_er, W_trx, Xt_ok, Xt_er, decide_true, decide_false, Bool.not_true, Bool.not_false])
theorem m_lawnf_eq {l : List Nat} {c : Nat} (hl : l.length ≤ 1000000) : m_law_name_fault l [c] = some (Ln.nf [c] l) := by
  have hz : l.length ≤ sz := by unfold sz; omega
  refine W.eq ?_
  unfold m_law_name_fault
  walk_at "m"
  refine ⟨hz, ?_⟩
  rw [show (1 : Int) = ((1 : Nat) : Int) from rfl, pcut_to]
  unfold Ln.nf
  refine W_ifN (fun h => ?_) (fun h => ?_)
  · walk_at "m"
    rw [if_pos h]
  · rw [if_neg (fun z => z h)]
    have h1 : 1 ≤ l.length := by
      cases l with
      | nil => cases h
      | cons _ _ => exact Nat.succ_le_succ (Nat.zero_le _)
    walk_at "m"
    refine W_of (m_lawfirst_eq (k := 1) h1 hl) ?_
    refine ⟨hz, ?_⟩
    have e : min (41 : Int) (Ln.fw l 1 Ln.NS : Int) = ((min 41 (Ln.fw l 1 Ln.NS) : Nat) : Int) := by omega
    rw [e]
    refine W.mono (Q := fun b => b = true ↔ (l.length = 1 ∨ min 41 (Ln.fw l 1 Ln.NS) < l.length)) ?_ ?_
    · refine W_ifD (fun h2 => ?_) (fun h2 => ?_)
      · walk_at "m"
        exact ⟨fun _ => .inl (by omega), fun _ => by trivial⟩
      · walk_at "m"
        refine ⟨hz, ?_⟩
        rw [decide_eq_true_iff]
        omega
    intro b hb
    refine W_ifB (fun h2 => ?_) (fun h2 => ?_)
    · walk_at "m"
      rw [if_pos (hb.mp h2)]
    · walk_at "m"
      rw [if_neg (fun z => by have := hb.mpr z; rw [h2] at this; cases this)]
      rfl

end Lw
namespace Lw
open PySem PySem.Spec PyProof.Rows L2 Fw Mi
section
variable {P : Program} {w : World} {K : PySem.W.Frag} {mg : Str → Option Value} {base : Heap}
noncomputable def m_law_text_fault (line : (List Nat)) (room : Int) : Option Int := fin (κ := Unit) (ρ := Unit) (rb (if (decide (line = ([] : List Nat))) = true then (rb (some (.ret (0 : Int))) fun γ => some (.nxt γ)) else (some (.nxt (line, room, ())))) fun γ => let line := γ.1; let room := γ.2.1; ob (ob (ob (ob (m_law_first line (0 : Int) ([65, 67, 71, 84, 78] : List Nat)) fun x1 => some (x1, ())) fun r2 => some (room, r2)) fun z3 => some (min z3.1 z3.2.1)) fun at_ => rb ((ob (ob (pck (line.length ≤ sz) (line.length : Int)) fun y4 => some (decide (at_ < y4))) fun b5 => if b5 = true then (rb (some (.ret at_)) fun γ => some (.nxt γ)) else (some (.nxt (line, room, at_, ()))))) fun γ => rb (some (.ret (-(1 : Int)))) fun γ => some (.nxt γ))
abbrev sp_law_text_fault (K : PySem.W.Frag) : Sp := spM (aC jS (aC jI aN)) (sF jI) (fun γ => m_law_text_fault γ.1 γ.2.1)
theorem ok_law_text_fault (T : Tx w K mg) : Dn P w K mg base 2 (He.ga K "_law_text_fault") ["_law_line", "_law_room"] (sp_law_text_fault K) := by
  obtain ⟨fd_law_first, G_law_first, b_law_first, kp_law_first, _⟩ := ok_law_first (P := P) (w := w) (base := base) T
  refine dn_mk T.d_law_text_fault sc_law_text_fault (fun _ _ _ _ _ _ us hl => match us, hl with | [_, _], _ => rfl) (spM_len (an_C (an_C an_0))) fun cdv A outer s H vs Q E hr h => ?_
  refine ⟨_, (pss_cons (ps_if (pt_cmpR op_eq (pv 0) (pe_strL (l := []) (by decide +kernel)) (nomark _))
      (pss_cons (ps_ret pe_int)
      pss_nil)
      pss_nil)
      (pss_cons (ps_set (i := 2) sc_law_text_fault.nd rfl (.inl rfl) (pe_callB (min2_ rfl) (by rfl) T.z_min (by decide +kernel) (pa_cons (pv 1) (pa_cons (pe_call G_law_first (hr.mono (by decide)) (by rfl) T.g_law_first kp_law_first b_law_first .nil pass0 (pa_cons (pv 0) (pa_cons pe_int (pa_cons (pe_strL (l := [65, 67, 71, 84, 78]) (by decide +kernel)) pa_nil)))) pa_nil))))
      (pss_cons (ps_if (pt_cmpR op_lt (pv 2) (pe_callB k_lenS (by rfl) T.z_len (by decide +kernel) (pa_cons (pv 0) pa_nil)) (nomark _))
      (pss_cons (ps_ret (pv 2))
      pss_nil)
      pss_nil)
      (pss_cons (ps_ret (pe_un un_neg pe_int))
      pss_nil)))), ?_⟩
  refine fin_runX (E := (eC (sF jS) (eC (sF jI) (eU eN)))) (E' := eN) (ae_C (ae_C (ae_U rfl ae_0))) (an_C (an_C an_0)) rfl ?S h rfl
  exact ⟨_, (ss_seq (ss_if (st_test (se_op (se_var g0) (se_str (l := [])) (s2_eqS))) (ss_seq (ss_ret se_int) ss_nil) ss_nil) (ss_asg (se_cb (sa_cons (se_var (gS g0)) (sa_cons (se_call (sa_cons (se_var g0) (sa_cons se_int (sa_cons (se_str (l := [65, 67, 71, 84, 78])) sa_nil)))) sa_nil)) sc_min2) (pS (pS p0U)) (ss_seq (ss_if (st_test (se_op (se_var (gS (gS g0))) (se_cb (sa_cons (se_var g0) sa_nil) sc_lenS) (s2_C0 (f := fun i j => decide (i < j))))) (ss_seq (ss_ret (se_var (gS (gS g0)))) ss_nil) ss_nil) (ss_seq (ss_ret (se_un se_int (s1_U (f := fun i => -i)))) ss_nil)))), by exact rfl⟩
end
end Lw
namespace Lw
open PySem PySem.Spec PyProof.Rows L2 Fw Mi
local macro_rules | `(tactic| walk_at "m") => `(tactic| simp only [pidx_one, pinS_one, pninS_one, W_some, W_none, W_ob, W_bind, W_pck, W_rb, W_fin, W_finN, W_T, W_F, W_Tr, W_Fa, Rw_nxt, Rw_ret, Rw_cnt, Rf_ret, Rf_nxt, RfN_ret, RfN_nxt, W_finU, RfU_nxt, W_obx, Xf_ok, Xf_er, W_rbx, Xr_ok, Xr_er, W_okx, W_finNX, RfNX_ret, RfNX_nxt, W_finUX, RfUX_nxt, RfUX_er, W_trx, Xt_ok, Xt_er, decide_true, decide_false, Bool.not_true, Bool.not_false])
theorem m_lawtf_eq {l : List Nat} {room : Int} (hl : l.length ≤ 1000000) : m_law_text_fault l room = some (Ln.tf l room) := by
  have hz : l.length ≤ sz := by unfold sz; omega
  refine W.eq ?_
  unfold m_law_text_fault
  walk_at "m"
  unfold Ln.tf
  refine W_ifD (fun h => ?_) (fun h => ?_)
  · walk_at "m"
    rw [if_pos h]
  · rw [if_neg h]
    walk_at "m"
    refine W_of (m_lawfirst_eq (k := 0) (Nat.zero_le _) hl) ?_
    refine ⟨hz, ?_⟩
    refine W_ifD (fun h2 => ?_) (fun h2 => ?_)
    · walk_at "m"
      rw [if_pos h2]
    · walk_at "m"
      rw [if_neg h2]

end Lw
namespace Ln
/-! ### lines of reads -/
abbrev MS : List Nat := [48, 49, 50, 51, 52, 53, 54, 55, 56, 57, 65, 66, 67, 68, 69, 70, 71, 72, 73, 74, 75, 76, 77, 78, 79, 80, 81, 82, 83, 84, 85, 86, 87, 88, 89, 90, 97, 98, 99, 100, 101]
/-- where a line of marks is wrong; -1 if it is not -/
def mf (l : List Nat) (n : Nat) : Int := if min n (fw l 0 MS) < l.length ∨ l.length < n then ((min n (fw l 0 MS) : Nat) : Int) else -1
theorem fwn_all {s : List Nat} : ∀ {l : List Nat}, fwn s l = l.length → ∀ c ∈ l, c ∈ s
  | [], _, _, h => nomatch h
  | d :: l, e, c, h => by
    rw [fwn] at e
    by_cases hd : d ∈ s
    · rw [if_pos hd, List.length_cons] at e
      rcases List.mem_cons.mp h with h | h
      · rw [h]; exact hd
      · exact fwn_all (by omega) c h
    · rw [if_neg hd, List.length_cons] at e
      omega
theorem mf_ok {l : List Nat} {n : Nat} (h : ¬ 0 ≤ mf l n) : ¬ (min n (fw l 0 MS) < l.length ∨ l.length < n) ∧ ∀ c ∈ l, c ∈ MS := by
  unfold mf at h
  by_cases e : min n (fw l 0 MS) < l.length ∨ l.length < n
  · rw [if_pos e] at h
    omega
  · refine ⟨e, fwn_all ?_⟩
    have h1 := fw_le (s := MS) (Nat.zero_le l.length)
    unfold fw at e h1
    rw [List.drop_zero] at e h1
    omega
theorem mf_no {l : List Nat} {n : Nat} (h : ¬ 0 ≤ mf l n) : mf l n = -1 := by
  unfold mf
  rw [if_neg (mf_ok h).1]
/-- the marks -/
def ixs (l : List Nat) : List Int := l.map fun c => ((MS.idxOf c : Nat) : Int)
/-- reads, one behind another -/
def rr : Nat → List (List Nat) → Nat → List (List Nat × List Nat × List Int) → List (List Nat × List Nat × List Int) × Option (Int × Int)
  | 0, _, _, f => (f, none)
  | _ + 1, [], _, f => (f, none)
  | _ + 1, [l], a, f => if 0 ≤ nf [64] l then (f, some ((a : Int), nf [64] l)) else (f, some ((a : Int) + 1, 0))
  | _ + 1, [l, t], a, f => if 0 ≤ nf [64] l then (f, some ((a : Int), nf [64] l)) else if 0 ≤ tf t 1000 then (f, some ((a : Int) + 1, tf t 1000)) else (f, some ((a : Int) + 2, 0))
  | k + 1, l :: t :: m :: ls, a, f => if 0 ≤ nf [64] l then (f, some ((a : Int), nf [64] l)) else if 0 ≤ tf t 1000 then (f, some ((a : Int) + 1, tf t 1000)) else
    if 0 ≤ mf m t.length then (f, some ((a : Int) + 2, mf m t.length)) else rr k ls (a + 3) (f ++ [(l.drop 1, t, ixs m)])
theorem rr_nil (k a : Nat) (f : List (List Nat × List Nat × List Int)) : rr k [] a f = (f, none) := by cases k <;> rfl
theorem rr_bad {k a : Nat} {l : List Nat} {ls : List (List Nat)} {f : List (List Nat × List Nat × List Int)} (h : 0 ≤ nf [64] l) : rr (k + 1) (l :: ls) a f = (f, some ((a : Int), nf [64] l)) := by
  match ls with
  | [] => rw [rr, if_pos h]
  | [_] => rw [rr, if_pos h]
  | _ :: _ :: _ => rw [rr, if_pos h]
theorem rr_one {k a : Nat} {l : List Nat} {f : List (List Nat × List Nat × List Int)} (h : ¬ 0 ≤ nf [64] l) : rr (k + 1) [l] a f = (f, some ((a : Int) + 1, 0)) := by
  rw [rr, if_neg h]
theorem rr_bad2 {k a : Nat} {l t : List Nat} {ls : List (List Nat)} {f : List (List Nat × List Nat × List Int)} (h : ¬ 0 ≤ nf [64] l) (h2 : 0 ≤ tf t 1000) : rr (k + 1) (l :: t :: ls) a f = (f, some ((a : Int) + 1, tf t 1000)) := by
  match ls with
  | [] => rw [rr, if_neg h, if_pos h2]
  | _ :: _ => rw [rr, if_neg h, if_pos h2]
theorem rr_two {k a : Nat} {l t : List Nat} {f : List (List Nat × List Nat × List Int)} (h : ¬ 0 ≤ nf [64] l) (h2 : ¬ 0 ≤ tf t 1000) : rr (k + 1) [l, t] a f = (f, some ((a : Int) + 2, 0)) := by
  rw [rr, if_neg h, if_neg h2]
theorem rr_bad3 {k a : Nat} {l t m : List Nat} {ls : List (List Nat)} {f : List (List Nat × List Nat × List Int)} (h : ¬ 0 ≤ nf [64] l) (h2 : ¬ 0 ≤ tf t 1000) (h3 : 0 ≤ mf m t.length) : rr (k + 1) (l :: t :: m :: ls) a f = (f, some ((a : Int) + 2, mf m t.length)) := by
  rw [rr, if_neg h, if_neg h2, if_pos h3]
theorem rr_go {k a : Nat} {l t m : List Nat} {ls : List (List Nat)} {f : List (List Nat × List Nat × List Int)} (h : ¬ 0 ≤ nf [64] l) (h2 : ¬ 0 ≤ tf t 1000) (h3 : ¬ 0 ≤ mf m t.length) : rr (k + 1) (l :: t :: m :: ls) a f = rr k ls (a + 3) (f ++ [(l.drop 1, t, ixs m)]) := by
  rw [rr, if_neg h, if_neg h2, if_neg h3]
end Ln

namespace Lw
open PySem PySem.Spec PyProof.Rows L2 Fw Mi
section
variable {P : Program} {w : World} {K : PySem.W.Frag} {mg : Str → Option Value} {base : Heap}
noncomputable def m_law_marks_fault (line : (List Nat)) (count : Int) (signs : (List Nat)) : Option Int := fin (κ := Unit) (ρ := Unit) (ob (ob (ob (ob (m_law_first line (0 : Int) signs) fun x1 => some (x1, ())) fun r2 => some (count, r2)) fun z3 => some (min z3.1 z3.2.1)) fun at_ => rb ((ob ((ob (ob (pck (line.length ≤ sz) (line.length : Int)) fun y4 => some (decide (at_ < y4))) fun b6 => if b6 = true then some true else (ob (pck (line.length ≤ sz) (line.length : Int)) fun x5 => some (decide (x5 < count))))) fun b7 => if b7 = true then (rb (some (.ret at_)) fun γ => some (.nxt γ)) else (some (.nxt (line, count, signs, at_, ()))))) fun γ => rb (some (.ret (-(1 : Int)))) fun γ => some (.nxt γ))
abbrev sp_law_marks_fault (K : PySem.W.Frag) : Sp := spM (aC jS (aC jI (aC jS aN))) (sF jI) (fun γ => m_law_marks_fault γ.1 γ.2.1 γ.2.2.1)
theorem ok_law_marks_fault (T : Tx w K mg) : Dn P w K mg base 2 (He.ga K "_law_marks_fault") ["_law_line", "_law_count", "_law_signs"] (sp_law_marks_fault K) := by
  obtain ⟨fd_law_first, G_law_first, b_law_first, kp_law_first, _⟩ := ok_law_first (P := P) (w := w) (base := base) T
  refine dn_mk T.d_law_marks_fault sc_law_marks_fault (fun _ _ _ _ _ _ us hl => match us, hl with | [_, _, _], _ => rfl) (spM_len (an_C (an_C (an_C an_0)))) fun cdv A outer s H vs Q E hr h => ?_
  refine ⟨_, (pss_cons (ps_set (i := 3) sc_law_marks_fault.nd rfl (.inl rfl) (pe_callB (min2_ rfl) (by rfl) T.z_min (by decide +kernel) (pa_cons (pv 1) (pa_cons (pe_call G_law_first (hr.mono (by decide)) (by rfl) T.g_law_first kp_law_first b_law_first .nil pass0 (pa_cons (pv 0) (pa_cons pe_int (pa_cons (pv 2) pa_nil)))) pa_nil))))
      (pss_cons (ps_if (PW.pt (pw_or (pt_cmpR op_lt (pv 3) (pe_callB k_lenS (by rfl) T.z_len (by decide +kernel) (pa_cons (pv 0) pa_nil)) (nomark _)) (pw_or1 (pt_cmpR op_lt (pe_callB k_lenS (by rfl) T.z_len (by decide +kernel) (pa_cons (pv 0) pa_nil)) (pv 1) (nomark _)))))
      (pss_cons (ps_ret (pv 3))
      pss_nil)
      pss_nil)
      (pss_cons (ps_ret (pe_un un_neg pe_int))
      pss_nil))), ?_⟩
  refine fin_runX (E := (eC (sF jS) (eC (sF jI) (eC (sF jS) (eU eN))))) (E' := eN) (ae_C (ae_C (ae_C (ae_U rfl ae_0)))) (an_C (an_C (an_C an_0))) rfl ?S h rfl
  exact ⟨_, (ss_asg (se_cb (sa_cons (se_var (gS g0)) (sa_cons (se_call (sa_cons (se_var g0) (sa_cons se_int (sa_cons (se_var (gS (gS g0))) sa_nil)))) sa_nil)) sc_min2) (pS (pS (pS p0U))) (ss_seq (ss_if (st_or (st_test (se_op (se_var (gS (gS (gS g0)))) (se_cb (sa_cons (se_var g0) sa_nil) sc_lenS) (s2_C0 (f := fun i j => decide (i < j))))) (st_test (se_op (se_cb (sa_cons (se_var g0) sa_nil) sc_lenS) (se_var (gS g0)) (s2_C0 (f := fun i j => decide (i < j)))))) (ss_seq (ss_ret (se_var (gS (gS (gS g0))))) ss_nil) ss_nil) (ss_seq (ss_ret (se_un se_int (s1_U (f := fun i => -i)))) ss_nil))), by exact rfl⟩
end
end Lw
namespace Lw
open PySem PySem.Spec PyProof.Rows L2 Fw Mi
local macro_rules | `(tactic| walk_at "m") => `(tactic| simp only [pidx_one, pinS_one, pninS_one, W_some, W_none, W_ob, W_bind, W_pck, W_rb, W_fin, W_finN, W_T, W_F, W_Tr, W_Fa, Rw_nxt, Rw_ret, Rw_cnt, Rf_ret, Rf_nxt, RfN_ret, RfN_nxt, W_finU, RfU_nxt, W_obx, Xf_ok, Xf_er, W_rbx, Xr_ok, Xr_er, W_okx, W_finNX, RfNX_ret, RfNX_nxt, W_finUX, RfUX_nxt, RfUX_er, W_trx, Xt_ok, Xt_er, decide_true, decide_false, Bool.not_true, Bool.not_false])
theorem m_lawmf_eq {l : List Nat} {n : Nat} (hl : l.length ≤ 1000000) : m_law_marks_fault l (n : Int) Ln.MS = some (Ln.mf l n) := by
  have hz : l.length ≤ sz := by unfold sz; omega
  refine W.eq ?_
  unfold m_law_marks_fault
  walk_at "m"
  refine W_of (m_lawfirst_eq (k := 0) (Nat.zero_le _) hl) ?_
  have e : min (n : Int) (Ln.fw l 0 Ln.MS : Int) = ((min n (Ln.fw l 0 Ln.MS) : Nat) : Int) := by omega
  rw [e]
  refine ⟨hz, ?_⟩
  refine W.mono (Q := fun b => b = true ↔ (min n (Ln.fw l 0 Ln.MS) < l.length ∨ l.length < n)) ?_ ?_
  · refine W_ifD (fun h2 => ?_) (fun h2 => ?_)
    · walk_at "m"
      exact ⟨fun _ => .inl (by omega), fun _ => by trivial⟩
    · walk_at "m"
      refine ⟨hz, ?_⟩
      rw [decide_eq_true_iff]
      omega
  intro b hb2
  unfold Ln.mf
  refine W_ifB (fun h3 => ?_) (fun h3 => ?_)
  · walk_at "m"
    rw [if_pos (hb2.mp h3)]
  · walk_at "m"
    rw [if_neg (fun z => by have := hb2.mpr z; rw [h3] at this; cases this)]

end Lw
namespace Lw
open PySem PySem.Spec PyProof.Rows L2 Fw Mi
section
variable {P : Program} {w : World} {K : PySem.W.Frag} {mg : Str → Option Value} {base : Heap}
noncomputable def m_law_due (lines : (List (List Nat))) (signs : (List Nat)) : Option ((List ((List Nat) × (List Nat) × (List Int))) × (Option (Int × Int))) := fin (κ := Unit) (ρ := Unit) (ob (pck (([] : List ((List Nat) × (List Nat) × (List Int))).length ≤ sz) []) fun found => rb (ob (ob (some ((lines.length : Int), ())) fun z => (pck (-4611686018427387904 ≤ z.1 ∧ z.1 < 4611686018427387904) (prange z.1))) fun xs21 => (forR (fun (x_ : Int) (γ : ((List (List Nat)) × (List Nat) × (List ((List Nat) × (List Nat) × (List Int))) × Unit)) => let turn := x_; let lines := γ.1; let signs := γ.2.1; let found := γ.2.2.1; ob (pck (PMul (3 : Int) turn) ((3 : Int) * turn)) fun at_ => rb (if (decide ((lines.length : Int) ≤ at_)) = true then (rb (some (.ret (found, none))) fun γ => some (.nxt γ)) else (some (.nxt (lines, signs, found, turn, at_, ())))) fun γ => let lines := γ.1; let signs := γ.2.1; let found := γ.2.2.1; let turn := γ.2.2.2.1; let at_ := γ.2.2.2.2.1; ob (ob (ob (pat lines at_) fun x1 => some (x1, (([64] : List Nat), ()))) fun z2 => (m_law_name_fault z2.1 z2.2.1)) fun column => rb (if (decide ((0 : Int) ≤ column)) = true then (rb (some (.ret (found, (some (at_, column))))) fun γ => some (.nxt γ)) else (some (.nxt (lines, signs, found, turn, at_, column, ())))) fun γ => let lines := γ.1; let signs := γ.2.1; let found := γ.2.2.1; let turn := γ.2.2.2.1; let at_ := γ.2.2.2.2.1; let column := γ.2.2.2.2.2.1; rb (if (decide ((lines.length : Int) ≤ (at_ + (1 : Int)))) = true then (rb (some (.ret (found, (some ((lines.length : Int), (0 : Int)))))) fun γ => some (.nxt γ)) else (some (.nxt (lines, signs, found, turn, at_, column, ())))) fun γ => let lines := γ.1; let signs := γ.2.1; let found := γ.2.2.1; let turn := γ.2.2.2.1; let at_ := γ.2.2.2.2.1; let column := γ.2.2.2.2.2.1; ob (ob (ob (pat lines (at_ + (1 : Int))) fun x3 => some (x3, ((1000 : Int), ()))) fun z4 => (m_law_text_fault z4.1 z4.2.1)) fun column => rb (if (decide ((0 : Int) ≤ column)) = true then (rb (some (.ret (found, (some ((at_ + (1 : Int)), column))))) fun γ => some (.nxt γ)) else (some (.nxt (lines, signs, found, turn, at_, column, ())))) fun γ => let lines := γ.1; let signs := γ.2.1; let found := γ.2.2.1; let turn := γ.2.2.2.1; let at_ := γ.2.2.2.2.1; let column := γ.2.2.2.2.2.1; rb (if (decide ((lines.length : Int) ≤ (at_ + (2 : Int)))) = true then (rb (some (.ret (found, (some ((lines.length : Int), (0 : Int)))))) fun γ => some (.nxt γ)) else (some (.nxt (lines, signs, found, turn, at_, column, ())))) fun γ => let lines := γ.1; let signs := γ.2.1; let found := γ.2.2.1; let turn := γ.2.2.2.1; let at_ := γ.2.2.2.2.1; let column := γ.2.2.2.2.2.1; ob (ob (ob (pat lines (at_ + (2 : Int))) fun x8 => (ob (ob (ob (ob (pat lines (at_ + (1 : Int))) fun x5 => some (x5, ())) fun z6 => (pck (z6.1.length ≤ sz) (z6.1.length : Int))) fun x7 => some (x7, (signs, ()))) fun r9 => some (x8, r9))) fun z10 => (m_law_marks_fault z10.1 z10.2.1 z10.2.2.1)) fun column => rb (if (decide ((0 : Int) ≤ column)) = true then (rb (some (.ret (found, (some ((at_ + (2 : Int)), column))))) fun γ => some (.nxt γ)) else (some (.nxt (lines, signs, found, turn, at_, column, ())))) fun γ => let lines := γ.1; let signs := γ.2.1; let found := γ.2.2.1; let at_ := γ.2.2.2.2.1; (ob (ob (ob (pat lines at_) fun x11 => (pck (x11.length ≤ sz) (pcut x11 (some (1 : Int)) none))) fun x17 => (ob (ob (pat lines (at_ + (1 : Int))) fun x15 => (ob (ob (ob (pat lines (at_ + (2 : Int))) fun x12 => some (x12.map fun c => [c])) fun xs14 => (ob (lcM (fun c13 => (pidx signs c13)) xs14) fun r => pck (r.length ≤ sz) r)) fun r16 => some (x15, r16))) fun r18 => some (x17, r18))) fun x20 => ob (pck (found.length < sz) (found ++ [x20])) fun w19 => some (.nxt (lines, signs, w19, ())))) xs21 (lines, signs, found, ()))) fun γ => let found := γ.2.2.1; rb (some (.ret (found, none))) fun γ => some (.nxt γ))
abbrev sp_law_due (K : PySem.W.Frag) : Sp := spM (aC (jL jS) (aC jS aN)) (sF (jT (yC (jL (jT (yC jS (yC jS (y1 (jL jI)))))) (y1 (jO (jT (yC jI (y1 jI)))))))) (fun γ => m_law_due γ.1 γ.2.1)
theorem ok_law_due (T : Tx w K mg) : Dn P w K mg base 3 (He.ga K "_law_due") ["_law_lines", "_law_signs"] (sp_law_due K) := by
  obtain ⟨fd_law_name_fault, G_law_name_fault, b_law_name_fault, kp_law_name_fault, _⟩ := ok_law_name_fault (P := P) (w := w) (base := base) T
  obtain ⟨fd_law_text_fault, G_law_text_fault, b_law_text_fault, kp_law_text_fault, _⟩ := ok_law_text_fault (P := P) (w := w) (base := base) T
  obtain ⟨fd_law_marks_fault, G_law_marks_fault, b_law_marks_fault, kp_law_marks_fault, _⟩ := ok_law_marks_fault (P := P) (w := w) (base := base) T
  refine dn_mk T.d_law_due sc_law_due (fun _ _ _ _ _ _ us hl => match us, hl with | [_, _], _ => rfl) (spM_len (an_C (an_C an_0))) fun cdv A outer s H vs Q E hr h => ?_
  refine ⟨_, (pss_cons (ps_set (i := 2) sc_law_due.nd rfl (.inl rfl) (pe_lst pa_nil))
      (pss_cons (ps_for PassesOwn.never rfl (pi_range1 (by rfl) T.z_range (pa_cons (pe_callB (lenQ_ (K := K)) (by rfl) T.z_len (by decide +kernel) (pa_cons (pv 0) pa_nil)) pa_nil)) (pg_name (i := 3) sc_law_due.nd rfl (.inl rfl))
      (pss_cons (ps_set (i := 4) sc_law_due.nd rfl (.inl rfl) (pe_op op_mul pe_int (pv 3)))
      (pss_cons (ps_if (pt_cmpR op_ge (pv 4) (pe_callB (lenQ_ (K := K)) (by rfl) T.z_len (by decide +kernel) (pa_cons (pv 0) pa_nil)) (nomark _))
      (pss_cons (ps_ret (pe_tup (pa_cons (pv 2) (pa_cons pe_non pa_nil))))
      pss_nil)
      pss_nil)
      (pss_cons (ps_set (i := 5) sc_law_due.nd rfl (.inl rfl) (pe_call G_law_name_fault (hr.mono (by decide)) (by rfl) T.g_law_name_fault kp_law_name_fault b_law_name_fault .nil pass0 (pa_cons (pe_ix (ixL_ (K := K)) (pv 0) (pv 4) (fun _ _ => rfl)) (pa_cons (pe_strL (l := [64]) (by decide +kernel)) pa_nil))))
      (pss_cons (ps_if (pt_cmpR op_ge (pv 5) pe_int (nomark _))
      (pss_cons (ps_ret (pe_tup (pa_cons (pv 2) (pa_cons (pe_tup (pa_cons (pv 4) (pa_cons (pv 5) pa_nil))) pa_nil))))
      pss_nil)
      pss_nil)
      (pss_cons (ps_if (pt_cmpR op_ge (pe_op op_add (pv 4) pe_int) (pe_callB (lenQ_ (K := K)) (by rfl) T.z_len (by decide +kernel) (pa_cons (pv 0) pa_nil)) (nomark _))
      (pss_cons (ps_ret (pe_tup (pa_cons (pv 2) (pa_cons (pe_tup (pa_cons (pe_callB (lenQ_ (K := K)) (by rfl) T.z_len (by decide +kernel) (pa_cons (pv 0) pa_nil)) (pa_cons pe_int pa_nil))) pa_nil))))
      pss_nil)
      pss_nil)
      (pss_cons (ps_set (i := 5) sc_law_due.nd rfl (.inl rfl) (pe_call G_law_text_fault (hr.mono (by decide)) (by rfl) T.g_law_text_fault kp_law_text_fault b_law_text_fault .nil pass0 (pa_cons (pe_ix (ixL_ (K := K)) (pv 0) (pe_op op_add (pv 4) pe_int) (fun _ _ => rfl)) (pa_cons pe_int pa_nil))))
      (pss_cons (ps_if (pt_cmpR op_ge (pv 5) pe_int (nomark _))
      (pss_cons (ps_ret (pe_tup (pa_cons (pv 2) (pa_cons (pe_tup (pa_cons (pe_op op_add (pv 4) pe_int) (pa_cons (pv 5) pa_nil))) pa_nil))))
      pss_nil)
      pss_nil)
      (pss_cons (ps_if (pt_cmpR op_ge (pe_op op_add (pv 4) pe_int) (pe_callB (lenQ_ (K := K)) (by rfl) T.z_len (by decide +kernel) (pa_cons (pv 0) pa_nil)) (nomark _))
      (pss_cons (ps_ret (pe_tup (pa_cons (pv 2) (pa_cons (pe_tup (pa_cons (pe_callB (lenQ_ (K := K)) (by rfl) T.z_len (by decide +kernel) (pa_cons (pv 0) pa_nil)) (pa_cons pe_int pa_nil))) pa_nil))))
      pss_nil)
      pss_nil)
      (pss_cons (ps_set (i := 5) sc_law_due.nd rfl (.inl rfl) (pe_call G_law_marks_fault (hr.mono (by decide)) (by rfl) T.g_law_marks_fault kp_law_marks_fault b_law_marks_fault .nil pass0 (pa_cons (pe_ix (ixL_ (K := K)) (pv 0) (pe_op op_add (pv 4) pe_int) (fun _ _ => rfl)) (pa_cons (pe_callB k_lenS (by rfl) T.z_len (by decide +kernel) (pa_cons (pe_ix (ixL_ (K := K)) (pv 0) (pe_op op_add (pv 4) pe_int) (fun _ _ => rfl)) pa_nil)) (pa_cons (pv 1) pa_nil)))))
      (pss_cons (ps_if (pt_cmpR op_ge (pv 5) pe_int (nomark _))
      (pss_cons (ps_ret (pe_tup (pa_cons (pv 2) (pa_cons (pe_tup (pa_cons (pe_op op_add (pv 4) pe_int) (pa_cons (pv 5) pa_nil))) pa_nil))))
      pss_nil)
      pss_nil)
      (pss_cons (ps_expr (bm_ (K := K) PySem.F.plainAttrs_list PySem.F.slot_list_append PySem.F.type_list_append mt_append (pv 2) (pa_cons (pe_tup (pa_cons (pe_slice k_slS (pe_ix (ixL_ (K := K)) (pv 0) (pv 4) (fun _ _ => rfl)) (po_some pe_int) po_none) (pa_cons (pe_ix (ixL_ (K := K)) (pv 0) (pe_op op_add (pv 4) pe_int) (fun _ _ => rfl)) (pa_cons (pe_lc (own := [("_law_sign", 6)]) rfl sc_law_due.nd (pi_str (pe_ix (ixL_ (K := K)) (pv 0) (pe_op op_add (pv 4) pe_int) (fun _ _ => rfl))) (blkOk_by (own := [("_law_sign", 6)]) (N := ["_law_lines", "_law_signs", "_law_found", "_law_turn", "_law_at", "_law_column", "_law_sign"]) (sc := defScope s_law_due) (by decide +kernel)) (fun _ _ _ _ _ => (pg_name (i := 6) sc_law_due.nd rfl (.inl rfl))) (fun _ _ _ _ _ => pts_nil) (fun _ _ _ _ _ => (pe_indexL (pv 1) (pv 6)))) pa_nil)))) pa_nil)))
      pss_nil))))))))))))
      (pss_cons (ps_ret (pe_tup (pa_cons (pv 2) (pa_cons pe_non pa_nil))))
      pss_nil))), ?_⟩
  refine fin_runX (E := (eC (sF (jL jS)) (eC (sF jS) (eU (eU (eU (eU (eU eN)))))))) (E' := eN) (ae_C (ae_C (ae_U rfl (ae_U rfl (ae_U rfl (ae_U rfl (ae_U rfl ae_0))))))) (an_C (an_C an_0)) rfl ?S h rfl
  exact ⟨_, (ss_asg (se_lst (A := (jT (yC jS (yC jS (y1 (jL jI)))))) sl_nil) (pS (pS p0U)) (ss_seq (ss_for (si_r1 (sa_cons (se_cb (sa_cons (se_var g0) sa_nil) (sc_lenL (K := K))) sa_nil)) (sg_name (pS (pS (pS p0U)))) (ss_asg (se_op se_int (se_var (gS (gS (gS g0)))) s2_mul) (pS (pS (pS (pS p0U)))) (ss_seq (ss_if (st_test (se_op (se_var (gS (gS (gS (gS g0))))) (se_cb (sa_cons (se_var g0) sa_nil) (sc_lenL (K := K))) (s2_C0 (f := fun i j => decide (j ≤ i))))) (ss_pre (cK (cK (cI cId))) (ss_seq (ss_ret (se_tup (stC (se_var (gS (gS g0))) (st1 se_nonOp)) (tz tz1))) ss_nil)) ss_nil) (ss_asg (se_call (sa_cons (se_op (se_var g0) (se_var (gS (gS (gS (gS g0))))) s2_ixL) (sa_cons (se_str (l := [64])) sa_nil))) (pS (pS (pS (pS (pS p0U))))) (ss_seq (ss_if (st_test (se_op (se_var (gS (gS (gS (gS (gS g0)))))) se_int (s2_C0 (f := fun i j => decide (j ≤ i))))) (ss_pre (cK (cK (cI cId))) (ss_seq (ss_ret (se_tup (stC (se_var (gS (gS g0))) (st1 (se_toOp (se_tup (stC (se_var (gS (gS (gS (gS g0))))) (st1 (se_var (gS (gS (gS (gS (gS g0)))))))) (tz tz1))))) (tz tz1))) ss_nil)) ss_nil) (ss_seq (ss_if (st_test (se_op (se_op (se_var (gS (gS (gS (gS g0))))) se_int (s2_I0 (f := fun i j => i + j))) (se_cb (sa_cons (se_var g0) sa_nil) (sc_lenL (K := K))) (s2_C0 (f := fun i j => decide (j ≤ i))))) (ss_pre (cK (cK (cI cId))) (ss_seq (ss_ret (se_tup (stC (se_var (gS (gS g0))) (st1 (se_toOp (se_tup (stC (se_cb (sa_cons (se_var g0) sa_nil) (sc_lenL (K := K))) (st1 se_int)) (tz tz1))))) (tz tz1))) ss_nil)) ss_nil) (ss_asg (se_call (sa_cons (se_op (se_var g0) (se_op (se_var (gS (gS (gS (gS g0))))) se_int (s2_I0 (f := fun i j => i + j))) s2_ixL) (sa_cons se_int sa_nil))) (pS (pS (pS (pS (pS p0))))) (ss_seq (ss_if (st_test (se_op (se_var (gS (gS (gS (gS (gS g0)))))) se_int (s2_C0 (f := fun i j => decide (j ≤ i))))) (ss_pre (cK (cK (cI cId))) (ss_seq (ss_ret (se_tup (stC (se_var (gS (gS g0))) (st1 (se_toOp (se_tup (stC (se_op (se_var (gS (gS (gS (gS g0))))) se_int (s2_I0 (f := fun i j => i + j))) (st1 (se_var (gS (gS (gS (gS (gS g0)))))))) (tz tz1))))) (tz tz1))) ss_nil)) ss_nil) (ss_seq (ss_if (st_test (se_op (se_op (se_var (gS (gS (gS (gS g0))))) se_int (s2_I0 (f := fun i j => i + j))) (se_cb (sa_cons (se_var g0) sa_nil) (sc_lenL (K := K))) (s2_C0 (f := fun i j => decide (j ≤ i))))) (ss_pre (cK (cK (cI cId))) (ss_seq (ss_ret (se_tup (stC (se_var (gS (gS g0))) (st1 (se_toOp (se_tup (stC (se_cb (sa_cons (se_var g0) sa_nil) (sc_lenL (K := K))) (st1 se_int)) (tz tz1))))) (tz tz1))) ss_nil)) ss_nil) (ss_asg (se_call (sa_cons (se_op (se_var g0) (se_op (se_var (gS (gS (gS (gS g0))))) se_int (s2_I0 (f := fun i j => i + j))) s2_ixL) (sa_cons (se_cb (sa_cons (se_op (se_var g0) (se_op (se_var (gS (gS (gS (gS g0))))) se_int (s2_I0 (f := fun i j => i + j))) s2_ixL) sa_nil) sc_lenS) (sa_cons (se_var (gS g0)) sa_nil)))) (pS (pS (pS (pS (pS p0))))) (ss_seq (ss_if (st_test (se_op (se_var (gS (gS (gS (gS (gS g0)))))) se_int (s2_C0 (f := fun i j => decide (j ≤ i))))) (ss_pre (cK (cK (cI cId))) (ss_seq (ss_ret (se_tup (stC (se_var (gS (gS g0))) (st1 (se_toOp (se_tup (stC (se_op (se_var (gS (gS (gS (gS g0))))) se_int (s2_I0 (f := fun i j => i + j))) (st1 (se_var (gS (gS (gS (gS (gS g0)))))))) (tz tz1))))) (tz tz1))) ss_nil)) ss_nil) (ss_app (K := K) (uS (uS u0)) (se_tup (stC (se_sl (se_op (se_var g0) (se_var (gS (gS (gS (gS g0))))) s2_ixL) (sp_so se_int) sp_no s3_S) (stC (se_op (se_var g0) (se_op (se_var (gS (gS (gS (gS g0))))) se_int (s2_I0 (f := fun i j => i + j))) s2_ixL) (st1 (se_fz (se_lc (si_str (se_op (se_var g0) (se_op (se_var (gS (gS (gS (gS g0))))) se_int (s2_I0 (f := fun i j => i + j))) s2_ixL)) (wp_cons (nS (nS (nS (nS (nS (nS n0)))))) wp_nil) (sg_name (pS (pS (pS (pS (pS (pS p0U))))))) (se_m1 (se_var (gS g0)) (se_var (gS (gS (gS (gS (gS (gS g0))))))) sm_idx)))))) (tz (tz tz1))) (ss_co (cK (cK (cK (cF (cF (cF cId))))))))))))))))))) (ss_pre (cK (cK (cI cId))) (ss_seq (ss_ret (se_tup (stC (se_var (gS (gS g0))) (st1 se_nonOp)) (tz tz1))) ss_nil)))), by exact rfl⟩
end
end Lw
namespace Lw
open PySem PySem.Spec PyProof.Rows L2 Fw Mi
local macro_rules | `(tactic| walk_at "m") => `(tactic| simp only [pidx_one, pinS_one, pninS_one, W_some, W_none, W_ob, W_bind, W_pck, W_rb, W_fin, W_finN, W_T, W_F, W_Tr, W_Fa, Rw_nxt, Rw_ret, Rw_cnt, Rf_ret, Rf_nxt, RfN_ret, RfN_nxt, W_finU, RfU_nxt, W_obx, Xf_ok, Xf_er, W_rbx, Xr_ok, Xr_er, W_okx, W_finNX, RfNX_ret, RfNX_nxt, W_finUX, RfUX_nxt, RfUX_er, W_trx, Xt_ok, Xt_er, decide_true, decide_false, Bool.not_true, Bool.not_false])
theorem m_lawduer_eq {ls : List (List Nat)} (hl : ls.length ≤ 300) (hb : ∀ l ∈ ls, l.length ≤ 2000) : m_law_due ls Ln.MS = some (Ln.rr ls.length ls 0 []) := by
  have hz : ∀ k : Nat, k ≤ 16000000 → k ≤ sz := fun k h => by unfold sz; omega
  refine W.eq ?_
  unfold m_law_due
  walk_at "m"
  refine ⟨by unfold sz; decide, by omega, ?_⟩
  refine W_for (fun i γ => ∃ (f : List (List Nat × List Nat × List Int)), γ = (ls, Ln.MS, f, ()) ∧ Ln.rr (ls.length - i) (ls.drop (3 * i)) (3 * i) f = Ln.rr ls.length ls 0 [] ∧ f.length ≤ i) ⟨[], rfl, rfl, Nat.le_refl _⟩ ?_ ?_
  · rintro i x γ hx ⟨f, rfl, hR, hf⟩
    obtain ⟨rfl, hi⟩ := prange_get hx
    obtain ⟨k, hk⟩ : ∃ k, ls.length - i = k + 1 := ⟨ls.length - i - 1, by omega⟩
    rw [hk] at hR
    walk_at "m"
    refine ⟨by left; omega, ?_⟩
    refine W_ifD (fun h => ?_) (fun h => ?_)
    · walk_at "m"
      rw [List.drop_eq_nil_of_le (by omega), Ln.rr_nil] at hR
      exact hR
    have hlt : 3 * i < ls.length := by omega
    have hg : ls[3 * i]? = some ls[3 * i] := List.getElem?_eq_getElem hlt
    rw [List.drop_eq_getElem_cons hlt] at hR
    have hn0 := hb _ (List.getElem_mem hlt)
    generalize ls[3 * i] = l at hg hR hn0
    walk_at "m"
    rw [show (3 : Int) * (i : Int) = ((3 * i : Nat) : Int) by omega]
    rw [pat_nat hg]
    walk_at "m"
    refine W_of (m_lawnf_eq (by omega)) ?_
    refine W_ifD (fun hn => ?_) (fun hn => ?_)
    · rw [Ln.rr_bad hn] at hR
      walk_at "m"
      exact hR
    walk_at "m"
    refine W_ifD (fun h2 => ?_) (fun h2 => ?_)
    · rw [List.drop_eq_nil_of_le (by omega), Ln.rr_one hn] at hR
      walk_at "m"
      rw [← hR]
      show (f, some ((ls.length : Int), (0 : Int))) = (f, some (((3 * i : Nat) : Int) + 1, (0 : Int)))
      rw [show (ls.length : Int) = ((3 * i : Nat) : Int) + 1 by omega]
    have hlt2 : 3 * i + 1 < ls.length := by omega
    have hg2 : ls[3 * i + 1]? = some ls[3 * i + 1] := List.getElem?_eq_getElem hlt2
    rw [List.drop_eq_getElem_cons hlt2] at hR
    have hn2 := hb _ (List.getElem_mem hlt2)
    generalize ls[3 * i + 1] = l2 at hg2 hR hn2
    walk_at "m"
    rw [show ((3 * i : Nat) : Int) + 1 = ((3 * i + 1 : Nat) : Int) by omega, pat_nat hg2]
    walk_at "m"
    refine W_of (m_lawtf_eq (by omega)) ?_
    refine W_ifD (fun ht => ?_) (fun ht => ?_)
    · rw [Ln.rr_bad2 hn ht] at hR
      walk_at "m"
      rw [← hR]
      rfl
    walk_at "m"
    refine W_ifD (fun h3 => ?_) (fun h3 => ?_)
    · rw [List.drop_eq_nil_of_le (by omega), Ln.rr_two hn ht] at hR
      walk_at "m"
      rw [← hR]
      show (f, some ((ls.length : Int), (0 : Int))) = (f, some (((3 * i : Nat) : Int) + 2, (0 : Int)))
      rw [show (ls.length : Int) = ((3 * i : Nat) : Int) + 2 by omega]
    have hlt3 : 3 * i + 2 < ls.length := by omega
    have hg3 : ls[3 * i + 2]? = some ls[3 * i + 2] := List.getElem?_eq_getElem hlt3
    rw [show 3 * i + 1 + 1 = 3 * i + 2 from rfl, List.drop_eq_getElem_cons hlt3] at hR
    have hn3 := hb _ (List.getElem_mem hlt3)
    generalize ls[3 * i + 2] = l3 at hg3 hR hn3
    walk_at "m"
    rw [show ((3 * i : Nat) : Int) + 2 = ((3 * i + 2 : Nat) : Int) by omega, pat_nat hg3]
    walk_at "m"
    rw [show ((3 * i : Nat) : Int) + 1 = ((3 * i + 1 : Nat) : Int) by omega, pat_nat hg2]
    walk_at "m"
    refine ⟨hz _ (by omega), ?_⟩
    refine W_of (m_lawmf_eq (by omega)) ?_
    refine W_ifD (fun hm => ?_) (fun hm => ?_)
    · rw [Ln.rr_bad3 hn ht hm] at hR
      walk_at "m"
      rw [← hR]
      rfl
    rw [Ln.rr_go hn ht hm] at hR
    have hall := (Ln.mf_ok hm).2
    walk_at "m"
    rw [pat_nat hg]
    walk_at "m"
    refine ⟨hz _ (by omega), ?_⟩
    rw [show ((3 * i : Nat) : Int) + 1 = ((3 * i + 1 : Nat) : Int) by omega, show ((3 * i : Nat) : Int) + 2 = ((3 * i + 2 : Nat) : Int) by omega, pat_nat hg2]
    walk_at "m"
    rw [pat_nat hg3]
    walk_at "m"
    refine W_lcMap (g := fun c => (Ln.MS.idxOf (c.headD 0) : Int)) (fun c hc => ?_) ?_
    · obtain ⟨x, hx, rfl⟩ := List.mem_map.mp hc
      rw [pidx_one, pck_of (hall x hx)]
      rfl
    have e1 : (l3.map fun c => [c]).map (fun c => (Ln.MS.idxOf (c.headD 0) : Int)) = Ln.ixs l3 := by
      rw [List.map_map]
      rfl
    rw [e1]
    rw [show (1 : Int) = ((1 : Nat) : Int) from rfl, pcut_from]
    refine ⟨by unfold Ln.ixs; rw [List.length_map]; exact hz _ (by omega), by unfold sz; omega, _, rfl, ?_, by rw [List.length_append]; show _ + 1 ≤ _; omega⟩
    rw [show ls.length - (i + 1) = k by omega]
    exact hR
  · rintro γ ⟨f, rfl, hR, hf⟩
    rw [prange_len, Int.toNat_natCast, Nat.sub_self] at hR
    walk_at "m"
    exact hR

end Lw
namespace Lw
open PySem PySem.Spec PyProof.Rows L2 Fw Mi
section
variable {P : Program} {w : World} {K : PySem.W.Frag} {mg : Str → Option Value} {base : Heap}
noncomputable def m_law_spoilt (lines : (List (List Nat))) (cell : Int) : Option (List (List Nat)) := fin (κ := Unit) (ρ := Unit) (ob (ob (pck (([([32] : List Nat), ([110] : List Nat), ([45] : List Nat), ([] : List Nat), ([62] : List Nat), ([64] : List Nat), ([43] : List Nat), ([65] : List Nat), ([49] : List Nat), ([62, 65] : List Nat), ([126] : List Nat)] : List (List Nat)).length ≤ sz) [([32] : List Nat), ([110] : List Nat), ([45] : List Nat), ([] : List Nat), ([62] : List Nat), ([64] : List Nat), ([43] : List Nat), ([65] : List Nat), ([49] : List Nat), ([62, 65] : List Nat), ([126] : List Nat)]) fun x1 => (ob (pck (PMod (cell.natAbs : Int) (11 : Int)) ((cell.natAbs : Int) % (11 : Int))) fun y2 => (pat x1 y2))) fun strange => rb (if (decide ((lines.length : Int) = (0 : Int))) = true then (rb (ob (pck (([strange] : List (List Nat)).length ≤ sz) [strange]) fun r4 => some (.ret r4)) fun γ => some (.nxt γ)) else (some (.nxt (lines, cell, (cell.natAbs : Int), strange, ())))) fun γ => let lines := γ.1; let cell := γ.2.1; let x := γ.2.2.1; let strange := γ.2.2.2.1; ob (ob (pck (PDiv x (11 : Int)) (x / (11 : Int))) fun x5 => (pck (PMod x5 (lines.length : Int)) (x5 % (lines.length : Int)))) fun at_ => ob (pat lines at_) fun line => ob (ob (pck (PDiv x (400 : Int)) (x / (400 : Int))) fun x7 => (ob (ob (pck (line.length ≤ sz) (line.length : Int)) fun x6 => some (x6 + (1 : Int))) fun y8 => (pck (PMod x7 y8) (x7 % y8)))) fun place => ob (ob (pck (PDiv x (37 : Int)) (x / (37 : Int))) fun x9 => (pck (PMod x9 (6 : Int)) (x9 % (6 : Int)))) fun kind => ob (pck (lines.length ≤ sz) lines) fun news => rb (if (decide (kind = (0 : Int))) = true then (ob (pck ((0 ≤ at_ ∧ at_ < 4611686018427387904) ∧ (at_).toNat < news.length) (news.eraseIdx (at_).toNat)) fun w10 => some (.nxt (lines, cell, x, strange, at_, line, place, kind, w10, ()))) else (rb (if (decide (kind = (1 : Int))) = true then (ob (pck ((0 ≤ at_ ∧ at_ < 4611686018427387904) ∧ news.length < sz) (news.take (at_).toNat ++ [strange] ++ news.drop (at_).toNat)) fun w11 => some (.nxt (lines, cell, x, strange, at_, line, place, kind, w11, ()))) else (rb (if (decide (kind = (2 : Int))) = true then (let news := (pcut news none (some at_)); some (.nxt (lines, cell, x, strange, at_, line, place, kind, news, ()))) else (rb (if (decide (kind = (3 : Int))) = true then ((ob (pck (line.length ≤ sz) (pcut line none (some place))) fun x13 => ob (pset news at_ x13) fun w12 => some (.nxt (lines, cell, x, strange, at_, line, place, kind, w12, ())))) else (rb (if (decide (kind = (4 : Int))) = true then ((ob (ob (ob (pck (line.length ≤ sz) (pcut line none (some place))) fun x14 => (pck (x14.length + strange.length ≤ sz) (x14 ++ strange))) fun x15 => (ob (pck (line.length ≤ sz) (pcut line (some place) none)) fun y16 => (pck (x15.length + y16.length ≤ sz) (x15 ++ y16)))) fun x18 => ob (pset news at_ x18) fun w17 => some (.nxt (lines, cell, x, strange, at_, line, place, kind, w17, ())))) else ((ob (ob (ob (ob (pck (PDiv x (400 : Int)) (x / (400 : Int))) fun x19 => (pck (PMod x19 (50 : Int)) (x19 % (50 : Int)))) fun y20 => (pck ((0 ≤ y20 ∧ y20 < 1073741824) ∧ ([65] : List Nat).length * (y20).toNat ≤ sz) (List.replicate (y20).toNat ([65] : List Nat)).flatten)) fun y21 => (pck (line.length + y21.length ≤ sz) (line ++ y21))) fun x23 => ob (pset news at_ x23) fun w22 => some (.nxt (lines, cell, x, strange, at_, line, place, kind, w22, ()))))) fun γ => let lines := γ.1; let cell := γ.2.1; let x := γ.2.2.1; let strange := γ.2.2.2.1; let at_ := γ.2.2.2.2.1; let line := γ.2.2.2.2.2.1; let place := γ.2.2.2.2.2.2.1; let kind := γ.2.2.2.2.2.2.2.1; let news := γ.2.2.2.2.2.2.2.2.1; some (.nxt (lines, cell, x, strange, at_, line, place, kind, news, ())))) fun γ => let lines := γ.1; let cell := γ.2.1; let x := γ.2.2.1; let strange := γ.2.2.2.1; let at_ := γ.2.2.2.2.1; let line := γ.2.2.2.2.2.1; let place := γ.2.2.2.2.2.2.1; let kind := γ.2.2.2.2.2.2.2.1; let news := γ.2.2.2.2.2.2.2.2.1; some (.nxt (lines, cell, x, strange, at_, line, place, kind, news, ())))) fun γ => let lines := γ.1; let cell := γ.2.1; let x := γ.2.2.1; let strange := γ.2.2.2.1; let at_ := γ.2.2.2.2.1; let line := γ.2.2.2.2.2.1; let place := γ.2.2.2.2.2.2.1; let kind := γ.2.2.2.2.2.2.2.1; let news := γ.2.2.2.2.2.2.2.2.1; some (.nxt (lines, cell, x, strange, at_, line, place, kind, news, ())))) fun γ => let lines := γ.1; let cell := γ.2.1; let x := γ.2.2.1; let strange := γ.2.2.2.1; let at_ := γ.2.2.2.2.1; let line := γ.2.2.2.2.2.1; let place := γ.2.2.2.2.2.2.1; let kind := γ.2.2.2.2.2.2.2.1; let news := γ.2.2.2.2.2.2.2.2.1; some (.nxt (lines, cell, x, strange, at_, line, place, kind, news, ())))) fun γ => let news := γ.2.2.2.2.2.2.2.2.1; rb (some (.ret news)) fun γ => some (.nxt γ))
abbrev sp_law_spoilt (K : PySem.W.Frag) : Sp := spM (aC (jL jS) (aC jI aN)) (sO jS) (fun γ => m_law_spoilt γ.1 γ.2.1)
theorem ok_law_spoilt (T : Tx w K mg) : Dn P w K mg base 1 (He.ga K "_law_spoilt") ["_law_lines", "_law_cell_here"] (sp_law_spoilt K) := by
  refine dn_mk T.d_law_spoilt sc_law_spoilt (fun _ _ _ _ _ _ us hl => match us, hl with | [_, _], _ => rfl) (spM_len (an_C (an_C an_0))) fun cdv A outer s H vs Q E hr h => ?_
  refine ⟨_, (pss_cons (ps_set (i := 2) sc_law_spoilt.nd rfl (.inl rfl) (pe_callB k_abs (by rfl) T.z_abs (by decide +kernel) (pa_cons (pe_callTy k_int (by rfl) T.z_int (by decide +kernel) (pa_cons (pv 1) pa_nil)) pa_nil)))
      (pss_cons (ps_set (i := 3) sc_law_spoilt.nd rfl (.inl rfl) (pe_ix (ixL_ (K := K)) (pe_lst (pa_cons (pe_strL (l := [32]) (by decide +kernel)) (pa_cons (pe_strL (l := [110]) (by decide +kernel)) (pa_cons (pe_strL (l := [45]) (by decide +kernel)) (pa_cons (pe_strL (l := []) (by decide +kernel)) (pa_cons (pe_strL (l := [62]) (by decide +kernel)) (pa_cons (pe_strL (l := [64]) (by decide +kernel)) (pa_cons (pe_strL (l := [43]) (by decide +kernel)) (pa_cons (pe_strL (l := [65]) (by decide +kernel)) (pa_cons (pe_strL (l := [49]) (by decide +kernel)) (pa_cons (pe_strL (l := [62, 65]) (by decide +kernel)) (pa_cons (pe_strL (l := [126]) (by decide +kernel)) pa_nil)))))))))))) (pe_op op_mod (pv 2) pe_int) (fun _ _ => rfl)))
      (pss_cons (ps_if (pt_cmpR op_eq (pe_callB (lenQ_ (K := K)) (by rfl) T.z_len (by decide +kernel) (pa_cons (pv 0) pa_nil)) pe_int (nomark _))
      (pss_cons (ps_ret (pe_lst (pa_cons (pv 3) pa_nil)))
      pss_nil)
      pss_nil)
      (pss_cons (ps_set (i := 4) sc_law_spoilt.nd rfl (.inl rfl) (pe_op op_mod (pe_op op_fdiv (pv 2) pe_int) (pe_callB (lenQ_ (K := K)) (by rfl) T.z_len (by decide +kernel) (pa_cons (pv 0) pa_nil))))
      (pss_cons (ps_set (i := 5) sc_law_spoilt.nd rfl (.inl rfl) (pe_ix (ixL_ (K := K)) (pv 0) (pv 4) (fun _ _ => rfl)))
      (pss_cons (ps_set (i := 6) sc_law_spoilt.nd rfl (.inl rfl) (pe_op op_mod (pe_op op_fdiv (pv 2) pe_int) (pe_op op_add (pe_callB k_lenS (by rfl) T.z_len (by decide +kernel) (pa_cons (pv 5) pa_nil)) pe_int)))
      (pss_cons (ps_set (i := 7) sc_law_spoilt.nd rfl (.inl rfl) (pe_op op_mod (pe_op op_fdiv (pv 2) pe_int) pe_int))
      (pss_cons (ps_set (i := 8) sc_law_spoilt.nd rfl (.inl rfl) (pe_callTy (listQ_ (K := K)) (by rfl) T.z_list (by decide +kernel) (pa_cons (pv 0) pa_nil)))
      (pss_cons (ps_if (pt_cmpR op_eq (pv 7) pe_int (nomark _))
      (pss_cons (ps_expr (bm_ (K := K) PySem.F.plainAttrs_list PySem.F.slot_list_pop PySem.F.type_list_pop mt_popAt (pv 8) (pa_cons (pv 4) pa_nil)))
      pss_nil)
      (pss_cons (ps_if (pt_cmpR op_eq (pv 7) pe_int (nomark _))
      (pss_cons (ps_expr (bm_ (K := K) PySem.F.plainAttrs_list PySem.F.slot_list_insert PySem.F.type_list_insert mt_insert (pv 8) (pa_cons (pv 4) (pa_cons (pv 3) pa_nil))))
      pss_nil)
      (pss_cons (ps_if (pt_cmpR op_eq (pv 7) pe_int (nomark _))
      (pss_cons (ps_set (i := 8) sc_law_spoilt.nd rfl (.inl rfl) (pe_slice (slL_ (K := K)) (pv 8) po_none (po_some (pv 4))))
      pss_nil)
      (pss_cons (ps_if (pt_cmpR op_eq (pv 7) pe_int (nomark _))
      (pss_cons (ps_asg (pe_slice k_slS (pv 5) po_none (po_some (pv 6))) (pg_sub (pv 8) (pv 4) set_list))
      pss_nil)
      (pss_cons (ps_if (pt_cmpR op_eq (pv 7) pe_int (nomark _))
      (pss_cons (ps_asg (pe_op k_addS (pe_op k_addS (pe_slice k_slS (pv 5) po_none (po_some (pv 6))) (pv 3)) (pe_slice k_slS (pv 5) (po_some (pv 6)) po_none)) (pg_sub (pv 8) (pv 4) set_list))
      pss_nil)
      (pss_cons (ps_asg (pe_op k_addS (pv 5) (pe_op k_mulS (pe_strL (l := [65]) (by decide +kernel)) (pe_op op_mod (pe_op op_fdiv (pv 2) pe_int) pe_int))) (pg_sub (pv 8) (pv 4) set_list))
      pss_nil))
      pss_nil))
      pss_nil))
      pss_nil))
      pss_nil))
      (pss_cons (ps_ret (pv 8))
      pss_nil)))))))))), ?_⟩
  refine fin_runX (E := (eC (sF (jL jS)) (eC (sF jI) (eU (eU (eU (eU (eU (eU (eU eN)))))))))) (E' := eN) (ae_C (ae_C (ae_U rfl (ae_U rfl (ae_U rfl (ae_U rfl (ae_U rfl (ae_U rfl (ae_U rfl ae_0))))))))) (an_C (an_C an_0)) rfl ?S h rfl
  exact ⟨_, (ss_asg (se_cb (sa_cons (se_cb (sa_cons (se_var (gS g0)) sa_nil) sc_int) sa_nil) sc_abs) (pS (pS p0U)) (ss_asg (se_op (se_fz (se_lst (sl_cons (se_str (l := [32])) (sl_cons (se_str (l := [110])) (sl_cons (se_str (l := [45])) (sl_cons (se_str (l := [])) (sl_cons (se_str (l := [62])) (sl_cons (se_str (l := [64])) (sl_cons (se_str (l := [43])) (sl_cons (se_str (l := [65])) (sl_cons (se_str (l := [49])) (sl_cons (se_str (l := [62, 65])) (sl_cons (se_str (l := [126])) sl_nil))))))))))))) (se_op (se_var (gS (gS g0))) se_int s2_mod) s2_ixL) (pS (pS (pS p0U))) (ss_seq (ss_if (st_test (se_op (se_cb (sa_cons (se_var g0) sa_nil) (sc_lenL (K := K))) se_int (s2_eqI))) (ss_seq (ss_ret (se_lst (sl_cons (se_var (gS (gS (gS g0)))) sl_nil))) ss_nil) ss_nil) (ss_asg (se_op (se_op (se_var (gS (gS g0))) se_int s2_div) (se_cb (sa_cons (se_var g0) sa_nil) (sc_lenL (K := K))) s2_mod) (pS (pS (pS (pS p0U)))) (ss_asg (se_op (se_var g0) (se_var (gS (gS (gS (gS g0))))) s2_ixL) (pS (pS (pS (pS (pS p0U))))) (ss_asg (se_op (se_op (se_var (gS (gS g0))) se_int s2_div) (se_op (se_cb (sa_cons (se_var (gS (gS (gS (gS (gS g0)))))) sa_nil) sc_lenS) se_int (s2_I0 (f := fun i j => i + j))) s2_mod) (pS (pS (pS (pS (pS (pS p0U)))))) (ss_asg (se_op (se_op (se_var (gS (gS g0))) se_int s2_div) se_int s2_mod) (pS (pS (pS (pS (pS (pS (pS p0U))))))) (ss_asg (se_cb (sa_cons (se_var g0) sa_nil) (sc_listL (K := K))) (pS (pS (pS (pS (pS (pS (pS (pS p0U)))))))) (ss_seq (ss_if (st_test (se_op (se_var (gS (gS (gS (gS (gS (gS (gS g0)))))))) se_int (s2_eqI))) (ss_popAt (K := K) (uS (uS (uS (uS (uS (uS (uS (uS u0)))))))) (se_var (gS (gS (gS (gS g0))))) ss_nil) (ss_seq (ss_if (st_test (se_op (se_var (gS (gS (gS (gS (gS (gS (gS g0)))))))) se_int (s2_eqI))) (ss_insert (K := K) (uS (uS (uS (uS (uS (uS (uS (uS u0)))))))) (se_var (gS (gS (gS (gS g0))))) (se_var (gS (gS (gS g0)))) ss_nil) (ss_seq (ss_if (st_test (se_op (se_var (gS (gS (gS (gS (gS (gS (gS g0)))))))) se_int (s2_eqI))) (ss_pre (cK (cK (cK (cK (cK (cK (cK (cK (cI cId))))))))) (ss_asg (se_sl (se_var (gS (gS (gS (gS (gS (gS (gS (gS g0))))))))) sp_no (sp_so (se_var (gS (gS (gS (gS g0)))))) s3_L) (pS (pS (pS (pS (pS (pS (pS (pS p0)))))))) ss_nil)) (ss_seq (ss_if (st_test (se_op (se_var (gS (gS (gS (gS (gS (gS (gS g0)))))))) se_int (s2_eqI))) (ss_setI (uS (uS (uS (uS (uS (uS (uS (uS u0)))))))) (se_sl (se_var (gS (gS (gS (gS (gS g0)))))) sp_no (sp_so (se_var (gS (gS (gS (gS (gS (gS g0)))))))) s3_S) (se_var (gS (gS (gS (gS g0))))) ss_nil) (ss_seq (ss_if (st_test (se_op (se_var (gS (gS (gS (gS (gS (gS (gS g0)))))))) se_int (s2_eqI))) (ss_setI (uS (uS (uS (uS (uS (uS (uS (uS u0)))))))) (se_op (se_op (se_sl (se_var (gS (gS (gS (gS (gS g0)))))) sp_no (sp_so (se_var (gS (gS (gS (gS (gS (gS g0)))))))) s3_S) (se_var (gS (gS (gS g0)))) s2_addS) (se_sl (se_var (gS (gS (gS (gS (gS g0)))))) (sp_so (se_var (gS (gS (gS (gS (gS (gS g0)))))))) sp_no s3_S) s2_addS) (se_var (gS (gS (gS (gS g0))))) ss_nil) (ss_setI (uS (uS (uS (uS (uS (uS (uS (uS u0)))))))) (se_op (se_var (gS (gS (gS (gS (gS g0)))))) (se_op (se_str (l := [65])) (se_op (se_op (se_var (gS (gS g0))) se_int s2_div) se_int s2_mod) s2_mulS) s2_addS) (se_var (gS (gS (gS (gS g0))))) ss_nil)) ss_nil)) ss_nil)) ss_nil)) ss_nil)) (ss_seq (ss_retO (gS (gS (gS (gS (gS (gS (gS (gS g0))))))))) ss_nil)))))))))), by exact rfl⟩
end
end Lw
namespace Lw
open PySem PySem.Spec PyProof.Rows L2 Fw Mi
local macro_rules | `(tactic| walk_at "m") => `(tactic| simp only [pidx_one, pinS_one, pninS_one, W_some, W_none, W_ob, W_bind, W_pck, W_rb, W_fin, W_finN, W_T, W_F, W_Tr, W_Fa, Rw_nxt, Rw_ret, Rw_cnt, Rf_ret, Rf_nxt, RfN_ret, RfN_nxt, W_finU, RfU_nxt, W_obx, Xf_ok, Xf_er, W_rbx, Xr_ok, Xr_er, W_okx, W_finNX, RfNX_ret, RfNX_nxt, W_finUX, RfUX_nxt, RfUX_er, W_trx, Xt_ok, Xt_er, decide_true, decide_false, Bool.not_true, Bool.not_false])
theorem w_spoilt {ls : List (List Nat)} {c : Int} {n : Nat} {Q : List (List Nat) → Prop} (hl : ls.length ≤ 1000) (hn : n ≤ 10000) (hb : ∀ l ∈ ls, l.length ≤ n) (q : ∀ ls' : List (List Nat), ls'.length ≤ ls.length + 1 → (∀ l ∈ ls', l.length ≤ n + 60) → Q ls') : W (m_law_spoilt ls c) Q := by
  have hz : ∀ k : Nat, k ≤ 16000000 → k ≤ sz := fun k h => by unfold sz; omega
  unfold m_law_spoilt
  walk_at "m"
  refine ⟨by show 11 ≤ sz; unfold sz; omega, by omega, ?_⟩
  generalize hx : (c.natAbs : Int) = x
  have hx0 : 0 ≤ x := by omega
  refine W_pat ⟨by omega, by show _ < 11; omega⟩ fun s hs => ?_
  have hs2 : s.length ≤ 2 := (by decide : ∀ y ∈ ([[32], [110], [45], [], [62], [64], [43], [65], [49], [62, 65], [126]] : List (List Nat)), y.length ≤ 2) s (List.mem_of_getElem? hs)
  refine W_ifD (fun h0 => ?_) (fun h0 => ?_)
  · walk_at "m"
    refine ⟨hz _ (by show 1 ≤ _; omega), q _ (by show 1 ≤ _; omega) fun l hm => ?_⟩
    rw [List.mem_singleton.mp hm]
    omega
  walk_at "m"
  have hm0 := Int.emod_nonneg (x / 11) (show (ls.length : Int) ≠ 0 by omega)
  have hm1 := Int.emod_lt_of_pos (x / 11) (show (0 : Int) < (ls.length : Int) by omega)
  obtain ⟨a, ha⟩ : ∃ a : Nat, x / 11 % (ls.length : Int) = (a : Int) := ⟨(x / 11 % (ls.length : Int)).toNat, by omega⟩
  rw [ha] at hm0 hm1 ⊢
  refine ⟨by omega, by omega, ?_⟩
  refine W_pat ⟨by omega, by omega⟩ fun l hg => ?_
  have hll := hb l (List.mem_of_getElem? hg)
  have hp0 := Int.emod_nonneg (x / 400) (show ((l.length : Int) + 1) ≠ 0 by omega)
  have hp1 := Int.emod_lt_of_pos (x / 400) (show (0 : Int) < (l.length : Int) + 1 by omega)
  obtain ⟨p, hp⟩ : ∃ p : Nat, x / 400 % ((l.length : Int) + 1) = (p : Int) := ⟨(x / 400 % ((l.length : Int) + 1)).toNat, by omega⟩
  rw [hp] at hp0 hp1 ⊢
  refine ⟨by omega, hz _ (by omega), by omega, by omega, by omega, hz _ (by omega), ?_⟩
  generalize x / 37 % 6 = kind
  have hset : ∀ y : List Nat, y.length ≤ n + 60 → Q (ls.set a y) := fun y hy => q _ (by rw [List.length_set]; omega) fun z hz' => by
    rcases List.mem_or_eq_of_mem_set hz' with h | h
    · have := hb z h; omega
    · rw [h]; exact hy
  refine W_ifD (fun h1 => ?_) (fun h1 => ?_)
  · walk_at "m"
    refine ⟨⟨⟨by omega, by omega⟩, by omega⟩, q _ (by rw [List.length_eraseIdx]; split <;> omega) fun z hz' => ?_⟩
    have := hb z (List.mem_of_mem_eraseIdx hz')
    omega
  walk_at "m"
  refine W_ifD (fun h1 => ?_) (fun h1 => ?_)
  · walk_at "m"
    refine ⟨⟨⟨by omega, by omega⟩, by unfold sz; omega⟩, q _ (by simp only [List.length_append, List.length_take, List.length_drop]; show _ + 1 + _ ≤ _; omega) fun z hz' => ?_⟩
    rcases List.mem_append.mp hz' with h | h
    · rcases List.mem_append.mp h with h | h
      · have := hb z (List.mem_of_mem_take h); omega
      · rw [List.mem_singleton.mp h]; omega
    · have := hb z (List.mem_of_mem_drop h); omega
  walk_at "m"
  refine W_ifD (fun h1 => ?_) (fun h1 => ?_)
  · walk_at "m"
    have := pcut_len ls none (some (a : Int))
    refine q _ (by omega) fun z hz' => ?_
    have := hb z (pcut_mem hz')
    omega
  walk_at "m"
  refine W_ifD (fun h1 => ?_) (fun h1 => ?_)
  · walk_at "m"
    have := pcut_len l none (some (p : Int))
    refine ⟨hz _ (by omega), ?_⟩
    rw [pset_nat (by omega)]
    walk_at "m"
    exact hset _ (by omega)
  walk_at "m"
  refine W_ifD (fun h1 => ?_) (fun h1 => ?_)
  · walk_at "m"
    rw [pcut_to, pcut_from]
    refine ⟨hz _ (by omega), hz _ (by rw [List.length_take]; omega), hz _ (by omega), hz _ (by simp only [List.length_append, List.length_take, List.length_drop]; omega), ?_⟩
    rw [pset_nat (by omega)]
    walk_at "m"
    exact hset _ (by simp only [List.length_append, List.length_take, List.length_drop]; omega)
  · walk_at "m"
    obtain ⟨k, hk⟩ : ∃ k : Nat, x / 400 % 50 = (k : Int) := ⟨(x / 400 % 50).toNat, by omega⟩
    rw [hk, Int.toNat_natCast]
    obtain ⟨r1, r2⟩ := rep_flat [65] k
    have r1 : (List.replicate k [65]).flatten.length = k := by rw [r1]; exact Nat.mul_one k
    refine ⟨by omega, by omega, ⟨⟨by omega, by omega⟩, hz _ (by show 1 * k ≤ _; omega)⟩, hz _ (by omega), ?_⟩
    rw [pset_nat (by omega)]
    walk_at "m"
    exact hset _ (by rw [List.length_append]; omega)

end Lw
namespace Lw
open PySem PySem.Spec PyProof.Rows L2 Fw Mi
section
variable {P : Program} {w : World} {K : PySem.W.Frag} {mg : Str → Option Value} {base : Heap}
/-! ### steps as one tactic -/
local macro_rules | `(tactic| walk_at "sq") => `(tactic| first
  | with_reducible assumption
  | exact Own.ofH (by assumption) (by assumption)
  | exact Own.lst (by assumption) 0 | exact Own.lst (by assumption) 1 | exact Own.lst (by assumption) 2 | exact Own.lst (by assumption) 3 | exact Own.lst (by assumption) 4 | exact Own.lst (by assumption) 5
  | exact Own.tS (by assumption) 0 | exact Own.tS (by assumption) 1 | exact Own.tS (by assumption) 2 | exact Own.tS (by assumption) 3 | exact Own.tS (by assumption) 4 | exact Own.tS (by assumption) 5 | exact Own.tS (by assumption) 6 | exact Own.tS (by assumption) 7
  | exact .inl (.inl (Own.tO (by assumption) 0)) | exact .inl (.inl (Own.tO (by assumption) 1)) | exact .inl (.inl (Own.tO (by assumption) 2)) | exact .inl (.inl (Own.tO (by assumption) 3)) | exact .inl (.inl (Own.tO (by assumption) 4))
  | exact .inl (.inl (Own.tL (by assumption) 0)) | exact .inl (.inl (Own.tL (by assumption) 1)) | exact .inl (.inl (Own.tL (by assumption) 2)) | exact .inl (.inl (Own.tL (by assumption) 3)))
local macro_rules | `(tactic| walk_at "at") => `(tactic| first
  | with_reducible assumption
  | exact Own.ofHO (by assumption) (by assumption)
  | exact Own.at_ (by assumption) 0 | exact Own.at_ (by assumption) 1 | exact Own.at_ (by assumption) 2 | exact Own.at_ (by assumption) 3 | exact Own.at_ (by assumption) 4 | exact Own.at_ (by assumption) 5
  | exact Own.tO (by assumption) 0 | exact Own.tO (by assumption) 1 | exact Own.tO (by assumption) 2 | exact Own.tO (by assumption) 3 | exact Own.tO (by assumption) 4 | exact Own.tO (by assumption) 5
  | exact Own.tL (by assumption) 0 | exact Own.tL (by assumption) 1 | exact Own.tL (by assumption) 2 | exact Own.tL (by assumption) 3 | exact Own.tT (by assumption) 0 | exact Own.tT (by assumption) 1 | exact Own.tT (by assumption) 2 | exact Own.tT (by assumption) 3)
local macro_rules | `(tactic| walk_at "st") => `(tactic| first
  | with_reducible assumption
  | exact Own.ofHT (by assumption) (by assumption)
  | exact Own.tU (by assumption) 0 | exact Own.tU (by assumption) 1 | exact Own.tU (by assumption) 2 | exact Own.tU (by assumption) 3 | exact Own.tU (by assumption) 4 | exact Own.tU (by assumption) 5
  | exact .inl (.inl (Own.tO (by assumption) 0)) | exact .inl (.inl (Own.tO (by assumption) 1)) | exact .inl (.inl (Own.tO (by assumption) 2)) | exact .inl (.inl (Own.tO (by assumption) 3)) | exact .inl (.inl (Own.tO (by assumption) 4)) | exact .inl (.inl (Own.tO (by assumption) 5))
  | exact .inl (.inl (Own.tT (by assumption) 0)) | exact .inl (.inl (Own.tT (by assumption) 1)) | exact .inl (.inl (Own.tT (by assumption) 2)) | exact .inl (.inl (Own.tT (by assumption) 3)))
local macro_rules | `(tactic| walk_at "side") => `(tactic| first
  | with_reducible assumption
  | (with_reducible refine w_cdiv ?_ ?_ <;> omega)
  | (with_reducible refine w_cmul1 ?_ ?_ <;> first | omega | (simp only [List.length_append, List.length_cons, List.length_nil, List.length_map, List.length_reverse, List.length_range]; omega))
  | (with_reducible refine w_cmul2 ?_ ?_ <;> first | omega | (simp only [List.length_append, List.length_cons, List.length_nil, List.length_map, List.length_reverse, List.length_range]; omega))
  | (with_reducible refine And.intro ?_ ?_ <;> first | omega | (simp only [↓q_ckw, List.length_append, List.length_cons, List.length_nil, List.length_map, List.length_reverse, List.length_range]; omega))
  | (with_reducible refine w_size ?_; first | omega | (simp only [↓q_ckw, List.length_append, List.length_cons, List.length_nil, List.length_map, List.length_reverse, List.length_range]; omega))
  | (with_reducible refine w_sizel ?_; first | omega | (simp only [↓q_ckw, List.length_append, List.length_cons, List.length_nil, List.length_map, List.length_reverse, List.length_range]; omega))
  | with_reducible exact True.intro
  | with_reducible rfl
  | omega)
local macro_rules | `(tactic| walk_at "qs") => `(tactic| simp only [List.length_map, ↓q_inSg, ↓q_notInSg, ↓q_min2, ↓q_min3, ↓q_max2, ↓q_gsub, ↓q_asgG, ↓q_asgT, ↓q_gnil, ↓q_gcons, ↓q_par, ↓q_two, ↓q_chain, ↓q_m1, ↓q_isS, ↓q_augS, ↓q_ipI, ↓q_starts, decide_S, q_dec1, ↓q_iteNT, ↓q_iteNF, decide_true, decide_false, ↓q_wipe1, ↓q_wipe2, ↓q_wipe3, ↓q_wipe4, List.set_cons_succ, List.set_cons_zero, ↓q_ckw, ↓q_var0, ↓q_asg0, ↓q_gn0, ↓q_aug0, ↓q_var1, ↓q_asg1, ↓q_gn1, ↓q_aug1, ↓q_var2, ↓q_asg2, ↓q_gn2, ↓q_aug2, ↓q_var3, ↓q_asg3, ↓q_gn3, ↓q_aug3, ↓q_var4, ↓q_asg4, ↓q_gn4, ↓q_aug4, ↓q_var5, ↓q_asg5, ↓q_gn5, ↓q_aug5, ↓q_var6, ↓q_asg6, ↓q_gn6, ↓q_aug6, ↓q_var7, ↓q_asg7, ↓q_gn7, ↓q_aug7, ↓q_var8, ↓q_asg8, ↓q_gn8, ↓q_aug8, ↓q_var9, ↓q_asg9, ↓q_gn9, ↓q_aug9, ↓q_var10, ↓q_asg10, ↓q_gn10, ↓q_aug10, ↓q_var11, ↓q_asg11, ↓q_gn11, ↓q_aug11, ↓q_var12, ↓q_asg12, ↓q_gn12, ↓q_aug12, ↓q_var13, ↓q_asg13, ↓q_gn13, ↓q_aug13, ↓q_var14, ↓q_asg14, ↓q_gn14, ↓q_aug14, ↓q_var15, ↓q_asg15, ↓q_gn15, ↓q_aug15, ↓q_var16, ↓q_asg16, ↓q_gn16, ↓q_aug16, ↓q_var17, ↓q_asg17, ↓q_gn17, ↓q_aug17, ↓q_var18, ↓q_asg18, ↓q_gn18, ↓q_aug18, ↓q_var19, ↓q_asg19, ↓q_gn19, ↓q_aug19, ↓q_var20, ↓q_asg20, ↓q_gn20, ↓q_aug20, ↓q_var21, ↓q_asg21, ↓q_gn21, ↓q_aug21, ↓q_var22, ↓q_asg22, ↓q_gn22, ↓q_aug22, ↓q_var23, ↓q_asg23, ↓q_gn23, ↓q_aug23, ↓q_seq, ↓q_next, ↓q_brk, ↓q_cont, ↓q_ret, ↓q_retN, ↓q_drop, ↓q_if, ↓q_c, ↓q_op, ↓q_un, ↓q_cb, ↓q_nil, ↓q_cons, ↓q_call, ↓q_test, ↓q_tB, ↓q_bl, ↓q_int, ↓q_and, ↓q_or, ↓q_not, ↓q_andV, ↓q_orV, ↓q_notV, ↓q_ifE, ↓q_I0, ↓q_I, ↓q_U, ↓q_eqI, ↓q_neI, ↓q_eqS, ↓q_neS, ↓q_eqB, ↓q_neB, ↓q_abs, ↓q_toint, ↓q_tointB, ↓q_lenS, ↓q_addS, ↓q_slS, ↓q_sl, ↓q_noP, ↓q_part, ↓q_lst, ↓q_tup, ↓q_bm, ↓q_bm0, ↓q_for, ↓q_iRng1, ↓q_iRng2, ↓q_iRng3, ↓q_iList, ↓q_iTup, ↓q_iStr, ↓q_iRev, ↓q_iEnum, ↓q_yes, ↓q_lc, ↓q_iteT, ↓q_iteF])
local macro_rules | `(tactic| walk_at "h1") => `(tactic| first
  | ((with_reducible refine h_NewL ?_); first | refine w_newL (by assumption) (fun _ _ _ => ?_) ?_)
  | ((with_reducible refine h_NewT ?_); first | refine w_newT (by assumption) (fun _ _ _ _ => ?_) ?_)
  | ((with_reducible refine h_Ty ?_); first | refine w_tyL ?_ (by walk_at "sq"))
  | ((with_reducible refine h_App ?_); first | refine w_app0 (by assumption) (fun _ _ => ?_) ?_ | refine w_app1 (by assumption) (fun _ _ => ?_) ?_ | refine w_app2 (by assumption) (fun _ _ => ?_) ?_ | refine w_app3 (by assumption) (fun _ _ => ?_) ?_ | refine w_app4 (by assumption) (fun _ _ => ?_) ?_)
  | ((with_reducible refine h_Len ?_); first | refine w_lenL ?_ (by walk_at "sq") | refine w_lenT ?_ (by walk_at "st"))
  | ((with_reducible refine h_Ix ?_); first | refine w_ixN ?_ (by walk_at "sq") ?_)
  | ((with_reducible refine h_IxS ?_); first | refine w_ixC ?_ ?_ ?_)
  | ((with_reducible refine h_MulS ?_); first | refine w_mulS ?_ ?_ ?_)
  | ((with_reducible refine h_Isi ?_); first | with_reducible refine w_isiII ?_ | with_reducible refine w_isiIB ?_ | with_reducible refine w_isiBB ?_ | with_reducible refine w_isiSS ?_ | refine w_isiLL ?_ (by walk_at "at") | refine w_isiTT ?_ (by walk_at "at"))
  | ((with_reducible refine h_Set ?_); first | refine w_set0 (by assumption) (fun _ _ => ?_) ?_ | refine w_set1 (by assumption) (fun _ _ => ?_) ?_ | refine w_set2 (by assumption) (fun _ _ => ?_) ?_ | refine w_set3 (by assumption) (fun _ _ => ?_) ?_)
  | ((with_reducible refine h_Get ?_); first | refine w_getN ?_ (by walk_at "sq") ?_)
  | ((with_reducible refine h_ListQ ?_); first | refine w_listL (by assumption) (by walk_at "sq") (fun _ _ _ => ?_) ?_)
  | ((with_reducible refine h_ListS ?_); first | refine w_listS (by assumption) (fun _ _ _ => ?_) ?_)
  | ((with_reducible refine h_Rep ?_); first | refine w_rep (by assumption) (by walk_at "at") (fun _ _ _ => ?_) ?_ ?_)
  | ((with_reducible refine h_SlL ?_); first | refine w_slL (by assumption) (by walk_at "sq") (fun _ _ _ => ?_))
  | ((with_reducible refine h_Cat ?_); first | refine w_cat (by assumption) (by walk_at "at") (by walk_at "at") (fun _ _ _ => ?_) ?_)
  | ((with_reducible refine h_Ext ?_); first | refine w_ext0 (by assumption) (by walk_at "at") (fun _ _ => ?_) ?_ | refine w_ext1 (by assumption) (by walk_at "at") (fun _ _ => ?_) ?_)
  | ((with_reducible refine h_Rev ?_); first | refine w_rev0 (by assumption) (fun _ _ => ?_))
  | ((with_reducible refine h_Idx ?_); first | refine w_idxS ?_ ?_)
  | ((with_reducible refine h_Gtup ?_); first | refine w_gtup ?_ (by walk_at "st"))
  | ((with_reducible refine h_EqD ?_); first | refine w_eqDI ?_ (by walk_at "sq") (by walk_at "sq"))
  | ((with_reducible refine h_NeD ?_); first | refine w_neDI ?_ (by walk_at "sq") (by walk_at "sq"))
  | (with_reducible refine w_conj ?_ ?_))
local macro_rules | `(tactic| walk_at "1") => `(tactic| first | walk_at "qs" | walk_at "h1")
local macro_rules | `(tactic| walk_at "go") => `(tactic| ((repeat (walk_at "1")); (try (all_goals try (walk_at "side")))))
abbrev sp_InvalidLine___init (K : PySem.W.Frag) : Sp := spIL K
theorem ok_InvalidLine___init (T : Tx w K mg) : Dn P w K mg base 1 (He.ma K (He.ga K "InvalidLine") "__init__") ["self", "line", "column"] (sp_InvalidLine___init K) := by
  refine dn_mk T.d_InvalidLine___init sc_InvalidLine___init (fun _ _ _ _ _ _ us hl => match us, hl with | [_, _, _], _ => rfl) spIL_len fun cdv A outer s H vs Q E hr h => ?_
  refine ⟨_, (pss_cons (ps_expr (pe_oinit (by rfl) T.g_HomeError T.of.oi (pa_cons (pv 0) (pa_cons (pe_joined (.cons pe_str (.cons (pe_fmt (pv 1)) (.cons pe_str (.cons (pe_fmt (pv 2)) .nil))))) pa_nil))))
      (pss_cons (ps_ost (pv 0) (pv 1))
      (pss_cons (ps_ost (pv 0) (pv 2)) pss_nil))), ?_⟩
  obtain ⟨a, l, c, rfl, bl, bc, O, n1, n2, hH, q⟩ := h
  have t1 := int_text_len_1921 bl.small
  have t2 := int_text_len_1921 bc.small
  have ap : ∀ x y : Str, (x ++ y).length = x.length + y.length := fun x y => strLen_append x y
  have l0 : (Str.empty ++ Str.ofString "line ").length = 5 := rfl
  have l1 : (Str.ofString ", column ").length = 9 := rfl
  have hz : ∀ n, n ≤ 5000 → n ≤ sizeLine := fun n h => by rw [sizeLine_eq]; omega
  refine ⟨_, rfl, _, rfl, hz _ (by rw [l0]; decide), _, rfl, .inr ⟨_, rfl, bl.small, _, rfl, hz _ (by rw [ap, l0]; omega), _, rfl, hz _ (by rw [ap, ap, l0, l1]; omega), _, rfl, .inr ⟨_, rfl, bc.small, _, rfl, hz _ (by rw [ap, ap, ap, l0, l1]; omega), ?_⟩⟩⟩
  refine ⟨a, exC K 0, _, rfl, by show 1 ≤ 1000; decide, O, hH, ?_⟩
  refine ⟨_, rfl, _, rfl, a, exC K 0, rfl, O, n1, .inl ⟨hH, fun dx nd dne => ?_⟩⟩
  exact ⟨_, rfl, _, rfl, a, exC K 0, rfl, O, n2, .inr ⟨dx, _, upd_same, (upd_ne dne).trans upd_same, by show 1 ≤ 900; decide, q dx nd dne⟩⟩

end
end Lw
namespace Lw
open PySem PySem.Spec PyProof.Rows L2 Fw Mi
section
variable {P : Program} {w : World} {K : PySem.W.Frag} {mg : Str → Option Value} {base : Heap}
noncomputable def m_check_last (lines : (List (List Nat))) (index : Int) : Option (Except Exn Unit) := finNX (κ := Unit) (ρ := ((List (List Nat)) × Int × Unit)) (rb (if (decide ((lines.length : Int) ≤ index)) = true then (rb (ob (some ((lines.length : Int), (0 : Int), ())) fun z => (pck (PLn z.1 ∧ PLn z.2.1) (.ret (.error (0, z.1, z.2.1))))) fun γ => some (.nxt γ)) else (some (.nxt (lines, index, ())))) fun γ => let lines := γ.1; let index := γ.2.1; some (.nxt (lines, index, ())))
abbrev sp_check_last (K : PySem.W.Frag) : Sp := spX K (aC (jL jS) (aC jI aN)) (sF jN) (fun γ => m_check_last γ.1 γ.2.1)
theorem ok_check_last (T : Tx w K mg) : DnX P w K mg base 3 (He.ga K "check_last") ["lines", "index"] (sp_check_last K) := by
  obtain ⟨fd_InvalidLine___init, G_InvalidLine___init, b_InvalidLine___init, kp_InvalidLine___init, _⟩ := ok_InvalidLine___init (P := P) (w := w) (base := base) T
  refine dnx_mk T.d_check_last sc_check_last (fun _ _ _ _ _ _ us hl => match us, hl with | [_, _], _ => rfl) (spX_len (an_C (an_C an_0))) fun cdv A outer s H vs Q E hr h => ?_
  refine ⟨_, (pss_cons (ps_if (pt_cmpR op_ge (pv 1) (pe_callB (lenQ_ (K := K)) (by rfl) T.z_len (by decide +kernel) (pa_cons (pv 0) pa_nil)) (nomark _))
      (pss_cons (ps_raise rfl (takes_of rfl rfl rfl rfl) (pmk_oex T.of.oc T.m_InvalidLine___init.at_ (beq_iff_eq.mp T.m_InvalidLine___init.fn) G_InvalidLine___init (hr.mono (by decide)) b_InvalidLine___init .nil pass0 (by rfl) T.g_InvalidLine (pa_cons (pe_callB (lenQ_ (K := K)) (by rfl) T.z_len (by decide +kernel) (pa_cons (pv 0) pa_nil)) (pa_cons pe_int pa_nil))))
      pss_nil)
      pss_nil)
      pss_nil), ?_⟩
  refine finNX_runX (E := (eC (sF (jL jS)) (eC (sF jI) eN))) (E' := (eC (sF (jL jS)) (eC (sF jI) eN))) (ae_C (ae_C ae_0)) (an_C (an_C an_0)) rfl ?S h rfl rfl
  exact ⟨_, (ss_seq (ss_if (st_test (se_op (se_var (gS g0)) (se_cb (sa_cons (se_var g0) sa_nil) (sc_lenL (K := K))) (s2_C0 (f := fun i j => decide (j ≤ i))))) (ss_seq (ss_raiseL (K := K) T.of T.n_InvalidLine_line T.n_InvalidLine_column (sa_cons (se_cb (sa_cons (se_var g0) sa_nil) (sc_lenL (K := K))) (sa_cons se_int sa_nil))) ss_nil) ss_nil) ss_nil), by exact rfl⟩
end
end Lw
namespace Lw
open PySem PySem.Spec PyProof.Rows L2 Fw Mi
local macro_rules | `(tactic| walk_at "m") => `(tactic| simp only [pidx_one, pinS_one, pninS_one, W_some, W_none, W_ob, W_bind, W_pck, W_rb, W_fin, W_finN, W_T, W_F, W_Tr, W_Fa, Rw_nxt, Rw_ret, Rw_cnt, Rf_ret, Rf_nxt, RfN_ret, RfN_nxt, W_finU, RfU_nxt, W_obx, Xf_ok, Xf_er, W_rbx, Xr_ok, Xr_er, W_okx, W_finNX, RfNX_ret, RfNX_nxt, W_finUX, RfUX_nxt, RfUX_er, W_trx, Xt_ok, Xt_er, decide_true, decide_false, Bool.not_true, Bool.not_false])
theorem w_check {ls : List (List Nat)} {i : Nat} {Q : Except Exn Unit → Prop} (hl : ls.length ≤ 1000000) (h1 : ls.length ≤ i → Q (.error (0, (ls.length : Int), 0))) (h2 : i < ls.length → Q (.ok ())) : W (m_check_last ls (i : Int)) Q := by
  unfold m_check_last
  walk_at "m"
  refine W_ifD (fun h => ?_) (fun h => ?_)
  · walk_at "m"
    exact ⟨by unfold PLn; omega, h1 (by omega)⟩
  · walk_at "m"
    exact h2 (by omega)

end Lw
namespace Lw
open PySem PySem.Spec PyProof.Rows L2 Fw Mi
section
variable {P : Program} {w : World} {K : PySem.W.Frag} {mg : Str → Option Value} {base : Heap}
noncomputable def m_first_wrong (line : (List Nat)) (start : Int) (signs : (List Nat)) : Option Int := fin (κ := Unit) (ρ := Unit) (rb (ob (ob (ob (ob (pck (line.length ≤ sz) (line.length : Int)) fun x8 => some (x8, ())) fun r9 => some (start, r9)) fun z10 => (pck (-4611686018427387904 ≤ z10.1 ∧ z10.1 < 4611686018427387904 ∧ -4611686018427387904 ≤ z10.2.1 ∧ z10.2.1 < 4611686018427387904) (prange2 z10.1 z10.2.1))) fun xs11 => (forR (fun (x_ : Int) (γ : ((List Nat) × Int × (List Nat) × Unit)) => let column := x_; let line := γ.1; let start := γ.2.1; let signs := γ.2.2.1; rb ((ob (ob (pixS line column) fun x4 => (pninS x4 signs)) fun b5 => if b5 = true then (rb (some (.ret column)) fun γ => some (.nxt γ)) else (some (.nxt (line, start, signs, column, ()))))) fun γ => let line := γ.1; let start := γ.2.1; let signs := γ.2.2.1; some (.nxt (line, start, signs, ()))) xs11 (line, start, signs, ()))) fun γ => let line := γ.1; rb (ob (pck (line.length ≤ sz) (line.length : Int)) fun r7 => some (.ret r7)) fun γ => some (.nxt γ))
abbrev sp_first_wrong (K : PySem.W.Frag) : Sp := spM (aC jS (aC jI (aC jS aN))) (sF jI) (fun γ => m_first_wrong γ.1 γ.2.1 γ.2.2.1)
theorem ok_first_wrong (T : Tx w K mg) : Dn P w K mg base 1 (He.ga K "first_wrong") ["line", "start", "signs"] (sp_first_wrong K) := by
  refine dn_mk T.d_first_wrong sc_first_wrong (fun _ _ _ _ _ _ us hl => match us, hl with | [_, _, _], _ => rfl) (spM_len (an_C (an_C (an_C an_0)))) fun cdv A outer s H vs Q E hr h => ?_
  refine ⟨_, (pss_cons (ps_for PassesOwn.never rfl (pi_range2 (by rfl) T.z_range (pa_cons (pv 1) (pa_cons (pe_callB k_lenS (by rfl) T.z_len (by decide +kernel) (pa_cons (pv 0) pa_nil)) pa_nil))) (pg_name (i := 3) sc_first_wrong.nd rfl (.inl rfl))
      (pss_cons (ps_if (pt_cmpR k_notInS (pe_ix k_ixS (pv 0) (pv 3) (fun _ _ => rfl)) (pv 2) (by rfl))
      (pss_cons (ps_ret (pv 3))
      pss_nil)
      pss_nil)
      pss_nil))
      (pss_cons (ps_ret (pe_callB k_lenS (by rfl) T.z_len (by decide +kernel) (pa_cons (pv 0) pa_nil)))
      pss_nil)), ?_⟩
  refine fin_runX (E := (eC (sF jS) (eC (sF jI) (eC (sF jS) (eU eN))))) (E' := eN) (ae_C (ae_C (ae_C (ae_U rfl ae_0)))) (an_C (an_C (an_C an_0))) rfl ?S h rfl
  exact ⟨_, (ss_seq (ss_for (si_r2 (sa_cons (se_var (gS g0)) (sa_cons (se_cb (sa_cons (se_var g0) sa_nil) sc_lenS) sa_nil))) (sg_name (pS (pS (pS p0U)))) (ss_seq (ss_if (st_test (se_op (se_op (se_var g0) (se_var (gS (gS (gS g0)))) s2_ixS) (se_var (gS (gS g0))) (s2_notInS))) (ss_seq (ss_ret (se_var (gS (gS (gS g0))))) ss_nil) ss_nil) (ss_co (cK (cK (cK (cF cId))))))) (ss_seq (ss_ret (se_cb (sa_cons (se_var g0) sa_nil) sc_lenS)) ss_nil)), by exact rfl⟩
end
end Lw
namespace Lw
open PySem PySem.Spec PyProof.Rows L2 Fw Mi
local macro_rules | `(tactic| walk_at "m") => `(tactic| simp only [pidx_one, pinS_one, pninS_one, W_some, W_none, W_ob, W_bind, W_pck, W_rb, W_fin, W_finN, W_T, W_F, W_Tr, W_Fa, Rw_nxt, Rw_ret, Rw_cnt, Rf_ret, Rf_nxt, RfN_ret, RfN_nxt, W_finU, RfU_nxt, W_obx, Xf_ok, Xf_er, W_rbx, Xr_ok, Xr_er, W_okx, W_finNX, RfNX_ret, RfNX_nxt, W_finUX, RfUX_nxt, RfUX_er, W_trx, Xt_ok, Xt_er, decide_true, decide_false, Bool.not_true, Bool.not_false])
theorem m_first_eq {l s : List Nat} {k : Nat} (hk : k ≤ l.length) (hl : l.length ≤ 1000000) : m_first_wrong l (k : Int) s = some (Ln.fw l k s : Int) := by
  have hz : l.length ≤ sz := by unfold sz; omega
  refine W.eq ?_
  unfold m_first_wrong
  walk_at "m"
  refine ⟨hz, by omega, ?_⟩
  refine W_for (fun i γ => γ = (l, (k : Int), s, ()) ∧ Ln.fw l k s = Ln.fw l (k + i) s) ⟨rfl, rfl⟩ ?_ ?_
  · rintro i x γ hx ⟨rfl, hI⟩
    obtain ⟨rfl, hi⟩ := prange2_get hx
    have hlt : k + i < l.length := by omega
    walk_at "m"
    rw [show (k : Int) + (i : Int) = ((k + i : Nat) : Int) by omega, pixS_nat (List.getElem?_eq_getElem hlt) hz]
    walk_at "m"
    by_cases hc : l[k + i] ∈ s
    · rw [decide_eq_true hc]
      walk_at "m"
      exact ⟨trivial, by rw [hI, Ln.fw_in hlt hc]; rfl⟩
    · rw [decide_eq_false hc]
      walk_at "m"
      rw [hI, Ln.fw_out hlt hc]
  · rintro γ ⟨rfl, hI⟩
    rw [prange2_len] at hI
    walk_at "m"
    refine ⟨hz, ?_⟩
    rw [hI, show k + ((l.length : Int) - (k : Int)).toNat = l.length by omega, Ln.fw_end]

end Lw
namespace Lw
open PySem PySem.Spec PyProof.Rows L2 Fw Mi
section
variable {P : Program} {w : World} {K : PySem.W.Frag} {mg : Str → Option Value} {base : Heap}
noncomputable def m_name_in (lines : (List (List Nat))) (index : Int) (head : (List Nat)) : Option (Except Exn (List Nat)) := Mi.fin (κ := Unit) (ρ := Unit) (rbx (m_check_last lines index) fun _ => ob (pat lines index) fun line => rb (if (!(head.isPrefixOf line)) = true then (rb (ob (some (index, (0 : Int), ())) fun z => (pck (PLn z.1 ∧ PLn z.2.1) (.ret (.error (0, z.1, z.2.1))))) fun γ => some (.nxt γ)) else (some (.nxt (lines, index, head, line, ())))) fun γ => let lines := γ.1; let index := γ.2.1; let head := γ.2.2.1; let line := γ.2.2.2.1; ob (ob (ob (m_first_wrong line (1 : Int) ([48, 49, 50, 51, 52, 53, 54, 55, 56, 57, 65, 66, 67, 68, 69, 70, 71, 72, 73, 74, 75, 76, 77, 78, 79, 80, 81, 82, 83, 84, 85, 86, 87, 88, 89, 90, 97, 98, 99, 100, 101, 102, 103, 104, 105, 106, 107, 108, 109, 110, 111, 112, 113, 114, 115, 116, 117, 118, 119, 120, 121, 122] : List Nat)) fun x1 => some (x1, (((40 : Int) + (1 : Int)), ()))) fun z2 => some (min z2.1 z2.2.1)) fun wrong => rb ((ob ((ob (ob (pck (line.length ≤ sz) (line.length : Int)) fun y3 => some (decide (wrong < y3))) fun b5 => if b5 = true then some true else (ob (pck (line.length ≤ sz) (line.length : Int)) fun x4 => some (decide (x4 = (1 : Int)))))) fun b6 => if b6 = true then (rb (ob (some (index, wrong, ())) fun z => (pck (PLn z.1 ∧ PLn z.2.1) (.ret (.error (0, z.1, z.2.1))))) fun γ => some (.nxt γ)) else (some (.nxt (lines, index, head, line, wrong, ()))))) fun γ => let line := γ.2.2.2.1; rb (ob (pck (line.length ≤ sz) (pcut line (some (1 : Int)) none)) fun r8 => some (.ret (.ok r8))) fun γ => some (.nxt γ))
abbrev sp_name_in (K : PySem.W.Frag) : Sp := spX K (aC (jL jS) (aC jI (aC jS aN))) (sF jS) (fun γ => m_name_in γ.1 γ.2.1 γ.2.2.1)
theorem ok_name_in (T : Tx w K mg) : DnX P w K mg base 4 (He.ga K "name_in") ["lines", "index", "head"] (sp_name_in K) := by
  obtain ⟨fd_check_last, G_check_last, b_check_last, kp_check_last, _⟩ := ok_check_last (P := P) (w := w) (base := base) T
  obtain ⟨fd_InvalidLine___init, G_InvalidLine___init, b_InvalidLine___init, kp_InvalidLine___init, _⟩ := ok_InvalidLine___init (P := P) (w := w) (base := base) T
  obtain ⟨fd_first_wrong, G_first_wrong, b_first_wrong, kp_first_wrong, _⟩ := ok_first_wrong (P := P) (w := w) (base := base) T
  refine dnx_mk T.d_name_in sc_name_in (fun _ _ _ _ _ _ us hl => match us, hl with | [_, _, _], _ => rfl) (spX_len (an_C (an_C (an_C an_0)))) fun cdv A outer s H vs Q E hr h => ?_
  refine ⟨_, (pss_cons (ps_expr (pe_callS G_check_last (hr.mono (by decide)) (by rfl) T.g_check_last kp_check_last b_check_last (passAt (takes_of rfl rfl rfl rfl)) (pa_cons (pv 0) (pa_cons (pv 1) pa_nil))))
      (pss_cons (ps_set (i := 3) sc_name_in.nd rfl (.inl rfl) (pe_ix (ixL_ (K := K)) (pv 0) (pv 1) (fun _ _ => rfl)))
      (pss_cons (ps_if (pt_not (pt_val (pe_startsL (pv 3) (pv 2))))
      (pss_cons (ps_raise rfl (takes_of rfl rfl rfl rfl) (pmk_oex T.of.oc T.m_InvalidLine___init.at_ (beq_iff_eq.mp T.m_InvalidLine___init.fn) G_InvalidLine___init (hr.mono (by decide)) b_InvalidLine___init .nil pass0 (by rfl) T.g_InvalidLine (pa_cons (pv 1) (pa_cons pe_int pa_nil))))
      pss_nil)
      pss_nil)
      (pss_cons (ps_set (i := 4) sc_name_in.nd rfl (.inl rfl) (pe_callB (min2_ rfl) (by rfl) T.z_min (by decide +kernel) (pa_cons (pe_call G_first_wrong (hr.mono (by decide)) (by rfl) T.g_first_wrong kp_first_wrong b_first_wrong .nil pass0 (pa_cons (pv 3) (pa_cons pe_int (pa_cons (pe_globS (by rfl) T.k_NAME_SIGNS) pa_nil)))) (pa_cons (pe_op op_add (pe_globI (by rfl) T.k_LONGEST_NAME) pe_int) pa_nil))))
      (pss_cons (ps_if (PW.pt (pw_or (pt_cmpR op_lt (pv 4) (pe_callB k_lenS (by rfl) T.z_len (by decide +kernel) (pa_cons (pv 3) pa_nil)) (nomark _)) (pw_or1 (pt_cmpR op_eq (pe_callB k_lenS (by rfl) T.z_len (by decide +kernel) (pa_cons (pv 3) pa_nil)) pe_int (nomark _)))))
      (pss_cons (ps_raise rfl (takes_of rfl rfl rfl rfl) (pmk_oex T.of.oc T.m_InvalidLine___init.at_ (beq_iff_eq.mp T.m_InvalidLine___init.fn) G_InvalidLine___init (hr.mono (by decide)) b_InvalidLine___init .nil pass0 (by rfl) T.g_InvalidLine (pa_cons (pv 1) (pa_cons (pv 4) pa_nil))))
      pss_nil)
      pss_nil)
      (pss_cons (ps_ret (pe_slice k_slS (pv 3) (po_some pe_int) po_none))
      pss_nil)))))), ?_⟩
  refine finX_runX (E := (eC (sF (jL jS)) (eC (sF jI) (eC (sF jS) (eU (eU eN)))))) (E' := eN) (ae_C (ae_C (ae_C (ae_U rfl (ae_U rfl ae_0))))) (an_C (an_C (an_C an_0))) rfl ?S h rfl
  exact ⟨_, (ss_exprX (sx_call (K := K) (sa_cons (se_var g0) (sa_cons (se_var (gS g0)) sa_nil))) (ss_asg (se_op (se_var g0) (se_var (gS g0)) s2_ixL) (pS (pS (pS p0U))) (ss_seq (ss_if (st_not (st_B (se_m1 (se_var (gS (gS (gS g0)))) (se_var (gS (gS g0))) sm_starts))) (ss_seq (ss_raiseL (K := K) T.of T.n_InvalidLine_line T.n_InvalidLine_column (sa_cons (se_var (gS g0)) (sa_cons se_int sa_nil))) ss_nil) ss_nil) (ss_asg (se_cb (sa_cons (se_call (sa_cons (se_var (gS (gS (gS g0)))) (sa_cons se_int (sa_cons (se_str (l := [48, 49, 50, 51, 52, 53, 54, 55, 56, 57, 65, 66, 67, 68, 69, 70, 71, 72, 73, 74, 75, 76, 77, 78, 79, 80, 81, 82, 83, 84, 85, 86, 87, 88, 89, 90, 97, 98, 99, 100, 101, 102, 103, 104, 105, 106, 107, 108, 109, 110, 111, 112, 113, 114, 115, 116, 117, 118, 119, 120, 121, 122])) sa_nil)))) (sa_cons (se_op se_int se_int (s2_I0 (f := fun i j => i + j))) sa_nil)) sc_min2) (pS (pS (pS (pS p0U)))) (ss_seq (ss_if (st_or (st_test (se_op (se_var (gS (gS (gS (gS g0))))) (se_cb (sa_cons (se_var (gS (gS (gS g0)))) sa_nil) sc_lenS) (s2_C0 (f := fun i j => decide (i < j))))) (st_test (se_op (se_cb (sa_cons (se_var (gS (gS (gS g0)))) sa_nil) sc_lenS) se_int (s2_eqI)))) (ss_seq (ss_raiseL (K := K) T.of T.n_InvalidLine_line T.n_InvalidLine_column (sa_cons (se_var (gS g0)) (sa_cons (se_var (gS (gS (gS (gS g0))))) sa_nil))) ss_nil) ss_nil) (ss_seq (ss_retX (se_sl (se_var (gS (gS (gS g0)))) (sp_so se_int) sp_no s3_S)) ss_nil)))))), by exact rfl⟩
end
end Lw
namespace Lw
open PySem PySem.Spec PyProof.Rows L2 Fw Mi
local macro_rules | `(tactic| walk_at "m") => `(tactic| simp only [pidx_one, pinS_one, pninS_one, W_some, W_none, W_ob, W_bind, W_pck, W_rb, W_fin, W_finN, W_T, W_F, W_Tr, W_Fa, Rw_nxt, Rw_ret, Rw_cnt, Rf_ret, Rf_nxt, RfN_ret, RfN_nxt, W_finU, RfU_nxt, W_obx, Xf_ok, Xf_er, W_rbx, Xr_ok, Xr_er, W_okx, W_finNX, RfNX_ret, RfNX_nxt, W_finUX, RfUX_nxt, RfUX_er, W_trx, Xt_ok, Xt_er, decide_true, decide_false, Bool.not_true, Bool.not_false])
theorem w_name {ls : List (List Nat)} {i c : Nat} {Q : Except Exn (List Nat) → Prop} (hl : ls.length ≤ 1000000) (hi : i ≤ 1000000) (hb : ∀ l ∈ ls, l.length ≤ 1000000) (h1 : ls.length ≤ i → Q (.error (0, (ls.length : Int), 0)))
    (h2 : ∀ l, ls[i]? = some l → if 0 ≤ Ln.nf [c] l then Q (.error (0, (i : Int), Ln.nf [c] l)) else Q (.ok (l.drop 1))) : W (m_name_in ls (i : Int) [c]) Q := by
  unfold m_name_in
  walk_at "m"
  refine w_check hl h1 fun hlt => ?_
  walk_at "m"
  have hg : ls[i]? = some ls[i] := List.getElem?_eq_getElem hlt
  have hn := hb _ (List.getElem_mem hlt)
  have h2 := h2 _ hg
  rw [pat_nat hg]
  generalize ls[i] = l at hn h2
  have hz : l.length ≤ sz := by unfold sz; omega
  walk_at "m"
  rw [Ln.pf1]
  refine W_ifN (fun h => ?_) (fun h => ?_)
  · walk_at "m"
    have e0 : Ln.nf [c] l = 0 := by unfold Ln.nf; rw [if_pos h]
    rw [e0, if_pos (Int.le_refl _)] at h2
    exact ⟨by unfold PLn; omega, h2⟩
  · have e0 : Ln.nf [c] l = if l.length = 1 ∨ min 41 (Ln.fw l 1 Ln.NS) < l.length then ((min 41 (Ln.fw l 1 Ln.NS) : Nat) : Int) else -1 := by unfold Ln.nf; rw [if_neg (fun z => z h)]
    have hl1 : 1 ≤ l.length := by
      cases l with
      | nil => cases h
      | cons _ _ => exact Nat.succ_le_succ (Nat.zero_le _)
    walk_at "m"
    refine W_of (m_first_eq (k := 1) hl1 hn) ?_
    have e : min (Ln.fw l 1 Ln.NS : Int) ((40 : Int) + 1) = ((min 41 (Ln.fw l 1 Ln.NS) : Nat) : Int) := by omega
    rw [e]
    refine ⟨hz, ?_⟩
    refine W.mono (Q := fun b => b = true ↔ (l.length = 1 ∨ min 41 (Ln.fw l 1 Ln.NS) < l.length)) ?_ ?_
    · refine W_ifD (fun h2 => ?_) (fun h2 => ?_)
      · walk_at "m"
        exact ⟨fun _ => .inr (by omega), fun _ => by trivial⟩
      · walk_at "m"
        refine ⟨hz, ?_⟩
        rw [decide_eq_true_iff]
        omega
    intro b hb2
    refine W_ifB (fun h3 => ?_) (fun h3 => ?_)
    · rw [if_pos (hb2.mp h3)] at e0
      rw [e0, if_pos (by omega)] at h2
      walk_at "m"
      exact ⟨by unfold PLn; omega, h2⟩
    · rw [if_neg (fun z => by have := hb2.mpr z; rw [h3] at this; cases this)] at e0
      rw [e0, if_neg (by decide)] at h2
      walk_at "m"
      refine ⟨hz, ?_⟩
      rw [show (1 : Int) = ((1 : Nat) : Int) from rfl, pcut_from]
      exact h2

end Lw
namespace Lw
open PySem PySem.Spec PyProof.Rows L2 Fw Mi
section
variable {P : Program} {w : World} {K : PySem.W.Frag} {mg : Str → Option Value} {base : Heap}
noncomputable def m_letters_in (lines : (List (List Nat))) (index : Int) (room : Int) : Option (Except Exn (List Nat)) := Mi.fin (κ := Unit) (ρ := Unit) (rbx (m_check_last lines index) fun _ => ob (pat lines index) fun line => rb (if (decide (line = ([] : List Nat))) = true then (rb (ob (some (index, (0 : Int), ())) fun z => (pck (PLn z.1 ∧ PLn z.2.1) (.ret (.error (0, z.1, z.2.1))))) fun γ => some (.nxt γ)) else (some (.nxt (lines, index, room, line, ())))) fun γ => let lines := γ.1; let index := γ.2.1; let room := γ.2.2.1; let line := γ.2.2.2.1; ob (ob (ob (m_first_wrong line (0 : Int) ([65, 67, 71, 84, 78] : List Nat)) fun x1 => some (x1, (room, ()))) fun z2 => some (min z2.1 z2.2.1)) fun wrong => rb ((ob (ob (pck (line.length ≤ sz) (line.length : Int)) fun y3 => some (decide (wrong < y3))) fun b4 => if b4 = true then (rb (ob (some (index, wrong, ())) fun z => (pck (PLn z.1 ∧ PLn z.2.1) (.ret (.error (0, z.1, z.2.1))))) fun γ => some (.nxt γ)) else (some (.nxt (lines, index, room, line, wrong, ()))))) fun γ => let line := γ.2.2.2.1; rb (some (.ret (.ok line))) fun γ => some (.nxt γ))
abbrev sp_letters_in (K : PySem.W.Frag) : Sp := spX K (aC (jL jS) (aC jI (aC jI aN))) (sF jS) (fun γ => m_letters_in γ.1 γ.2.1 γ.2.2.1)
theorem ok_letters_in (T : Tx w K mg) : DnX P w K mg base 4 (He.ga K "letters_in") ["lines", "index", "room"] (sp_letters_in K) := by
  obtain ⟨fd_check_last, G_check_last, b_check_last, kp_check_last, _⟩ := ok_check_last (P := P) (w := w) (base := base) T
  obtain ⟨fd_InvalidLine___init, G_InvalidLine___init, b_InvalidLine___init, kp_InvalidLine___init, _⟩ := ok_InvalidLine___init (P := P) (w := w) (base := base) T
  obtain ⟨fd_first_wrong, G_first_wrong, b_first_wrong, kp_first_wrong, _⟩ := ok_first_wrong (P := P) (w := w) (base := base) T
  refine dnx_mk T.d_letters_in sc_letters_in (fun _ _ _ _ _ _ us hl => match us, hl with | [_, _, _], _ => rfl) (spX_len (an_C (an_C (an_C an_0)))) fun cdv A outer s H vs Q E hr h => ?_
  refine ⟨_, (pss_cons (ps_expr (pe_callS G_check_last (hr.mono (by decide)) (by rfl) T.g_check_last kp_check_last b_check_last (passAt (takes_of rfl rfl rfl rfl)) (pa_cons (pv 0) (pa_cons (pv 1) pa_nil))))
      (pss_cons (ps_set (i := 3) sc_letters_in.nd rfl (.inl rfl) (pe_ix (ixL_ (K := K)) (pv 0) (pv 1) (fun _ _ => rfl)))
      (pss_cons (ps_if (pt_cmpR op_eq (pv 3) (pe_strL (l := []) (by decide +kernel)) (nomark _))
      (pss_cons (ps_raise rfl (takes_of rfl rfl rfl rfl) (pmk_oex T.of.oc T.m_InvalidLine___init.at_ (beq_iff_eq.mp T.m_InvalidLine___init.fn) G_InvalidLine___init (hr.mono (by decide)) b_InvalidLine___init .nil pass0 (by rfl) T.g_InvalidLine (pa_cons (pv 1) (pa_cons pe_int pa_nil))))
      pss_nil)
      pss_nil)
      (pss_cons (ps_set (i := 4) sc_letters_in.nd rfl (.inl rfl) (pe_callB (min2_ rfl) (by rfl) T.z_min (by decide +kernel) (pa_cons (pe_call G_first_wrong (hr.mono (by decide)) (by rfl) T.g_first_wrong kp_first_wrong b_first_wrong .nil pass0 (pa_cons (pv 3) (pa_cons pe_int (pa_cons (pe_globS (by rfl) T.k_LETTERS) pa_nil)))) (pa_cons (pv 2) pa_nil))))
      (pss_cons (ps_if (pt_cmpR op_lt (pv 4) (pe_callB k_lenS (by rfl) T.z_len (by decide +kernel) (pa_cons (pv 3) pa_nil)) (nomark _))
      (pss_cons (ps_raise rfl (takes_of rfl rfl rfl rfl) (pmk_oex T.of.oc T.m_InvalidLine___init.at_ (beq_iff_eq.mp T.m_InvalidLine___init.fn) G_InvalidLine___init (hr.mono (by decide)) b_InvalidLine___init .nil pass0 (by rfl) T.g_InvalidLine (pa_cons (pv 1) (pa_cons (pv 4) pa_nil))))
      pss_nil)
      pss_nil)
      (pss_cons (ps_ret (pv 3))
      pss_nil)))))), ?_⟩
  refine finX_runX (E := (eC (sF (jL jS)) (eC (sF jI) (eC (sF jI) (eU (eU eN)))))) (E' := eN) (ae_C (ae_C (ae_C (ae_U rfl (ae_U rfl ae_0))))) (an_C (an_C (an_C an_0))) rfl ?S h rfl
  exact ⟨_, (ss_exprX (sx_call (K := K) (sa_cons (se_var g0) (sa_cons (se_var (gS g0)) sa_nil))) (ss_asg (se_op (se_var g0) (se_var (gS g0)) s2_ixL) (pS (pS (pS p0U))) (ss_seq (ss_if (st_test (se_op (se_var (gS (gS (gS g0)))) (se_str (l := [])) (s2_eqS))) (ss_seq (ss_raiseL (K := K) T.of T.n_InvalidLine_line T.n_InvalidLine_column (sa_cons (se_var (gS g0)) (sa_cons se_int sa_nil))) ss_nil) ss_nil) (ss_asg (se_cb (sa_cons (se_call (sa_cons (se_var (gS (gS (gS g0)))) (sa_cons se_int (sa_cons (se_str (l := [65, 67, 71, 84, 78])) sa_nil)))) (sa_cons (se_var (gS (gS g0))) sa_nil)) sc_min2) (pS (pS (pS (pS p0U)))) (ss_seq (ss_if (st_test (se_op (se_var (gS (gS (gS (gS g0))))) (se_cb (sa_cons (se_var (gS (gS (gS g0)))) sa_nil) sc_lenS) (s2_C0 (f := fun i j => decide (i < j))))) (ss_seq (ss_raiseL (K := K) T.of T.n_InvalidLine_line T.n_InvalidLine_column (sa_cons (se_var (gS g0)) (sa_cons (se_var (gS (gS (gS (gS g0))))) sa_nil))) ss_nil) ss_nil) (ss_seq (ss_retX (se_var (gS (gS (gS g0))))) ss_nil)))))), by exact rfl⟩
end
end Lw
namespace Lw
open PySem PySem.Spec PyProof.Rows L2 Fw Mi
local macro_rules | `(tactic| walk_at "m") => `(tactic| simp only [pidx_one, pinS_one, pninS_one, W_some, W_none, W_ob, W_bind, W_pck, W_rb, W_fin, W_finN, W_T, W_F, W_Tr, W_Fa, Rw_nxt, Rw_ret, Rw_cnt, Rf_ret, Rf_nxt, RfN_ret, RfN_nxt, W_finU, RfU_nxt, W_obx, Xf_ok, Xf_er, W_rbx, Xr_ok, Xr_er, W_okx, W_finNX, RfNX_ret, RfNX_nxt, W_finUX, RfUX_nxt, RfUX_er, W_trx, Xt_ok, Xt_er, decide_true, decide_false, Bool.not_true, Bool.not_false])
theorem w_letters {ls : List (List Nat)} {i : Nat} {room : Int} {Q : Except Exn (List Nat) → Prop} (hl : ls.length ≤ 1000000) (hi : i ≤ 1000000) (hb : ∀ l ∈ ls, l.length ≤ 1000000) (hr : 0 ≤ room ∧ room ≤ 1000000) (h1 : ls.length ≤ i → Q (.error (0, (ls.length : Int), 0)))
    (h2 : ∀ l, ls[i]? = some l → if 0 ≤ Ln.tf l room then Q (.error (0, (i : Int), Ln.tf l room)) else Q (.ok l)) : W (m_letters_in ls (i : Int) room) Q := by
  unfold m_letters_in
  walk_at "m"
  refine w_check hl h1 fun hlt => ?_
  walk_at "m"
  have hg : ls[i]? = some ls[i] := List.getElem?_eq_getElem hlt
  have hn := hb _ (List.getElem_mem hlt)
  have h2 := h2 _ hg
  rw [pat_nat hg]
  generalize ls[i] = l at hn h2
  have hz : l.length ≤ sz := by unfold sz; omega
  walk_at "m"
  refine W_ifD (fun h => ?_) (fun h => ?_)
  · walk_at "m"
    have e0 : Ln.tf l room = 0 := by unfold Ln.tf; rw [if_pos h]
    rw [e0, if_pos (Int.le_refl _)] at h2
    exact ⟨by unfold PLn; omega, h2⟩
  · have e0 : Ln.tf l room = if min room (Ln.fw l 0 Ln.LS : Int) < l.length then min room (Ln.fw l 0 Ln.LS : Int) else -1 := by unfold Ln.tf; rw [if_neg h]
    walk_at "m"
    refine W_of (m_first_eq (k := 0) (Nat.zero_le _) hn) ?_
    have hf := Ln.fw_le (s := Ln.LS) (Nat.zero_le l.length)
    rw [show min (Ln.fw l 0 Ln.LS : Int) room = min room (Ln.fw l 0 Ln.LS : Int) by omega]
    refine ⟨hz, ?_⟩
    refine W_ifD (fun h3 => ?_) (fun h3 => ?_)
    · rw [if_pos h3] at e0
      rw [e0, if_pos (by omega)] at h2
      walk_at "m"
      exact ⟨by unfold PLn; omega, h2⟩
    · rw [if_neg h3] at e0
      rw [e0, if_neg (by decide)] at h2
      walk_at "m"
      exact h2

end Lw
namespace Lw
open PySem PySem.Spec PyProof.Rows L2 Fw Mi
section
variable {P : Program} {w : World} {K : PySem.W.Frag} {mg : Str → Option Value} {base : Heap}
noncomputable def m_marks_in (lines : (List (List Nat))) (index : Int) (count : Int) : Option (Except Exn (List Int)) := Mi.fin (κ := Unit) (ρ := Unit) (rbx (m_check_last lines index) fun _ => ob (pat lines index) fun line => ob (ob (ob (m_first_wrong line (0 : Int) ([48, 49, 50, 51, 52, 53, 54, 55, 56, 57, 65, 66, 67, 68, 69, 70, 71, 72, 73, 74, 75, 76, 77, 78, 79, 80, 81, 82, 83, 84, 85, 86, 87, 88, 89, 90, 97, 98, 99, 100, 101] : List Nat)) fun x1 => some (x1, (count, ()))) fun z2 => some (min z2.1 z2.2.1)) fun wrong => rb ((ob ((ob (ob (pck (line.length ≤ sz) (line.length : Int)) fun y3 => some (decide (wrong < y3))) fun b5 => if b5 = true then some true else (ob (pck (line.length ≤ sz) (line.length : Int)) fun x4 => some (decide (x4 < count))))) fun b6 => if b6 = true then (rb (ob (some (index, wrong, ())) fun z => (pck (PLn z.1 ∧ PLn z.2.1) (.ret (.error (0, z.1, z.2.1))))) fun γ => some (.nxt γ)) else (some (.nxt (lines, index, count, line, wrong, ()))))) fun γ => let line := γ.2.2.2.1; rb (ob (ob (lcM (fun c9 => (pidx ([48, 49, 50, 51, 52, 53, 54, 55, 56, 57, 65, 66, 67, 68, 69, 70, 71, 72, 73, 74, 75, 76, 77, 78, 79, 80, 81, 82, 83, 84, 85, 86, 87, 88, 89, 90, 97, 98, 99, 100, 101] : List Nat) c9)) (line.map fun c => [c])) fun r => pck (r.length ≤ sz) r) fun r10 => some (.ret (.ok r10))) fun γ => some (.nxt γ))
abbrev sp_marks_in (K : PySem.W.Frag) : Sp := spX K (aC (jL jS) (aC jI (aC jI aN))) (sO jI) (fun γ => m_marks_in γ.1 γ.2.1 γ.2.2.1)
theorem ok_marks_in (T : Tx w K mg) : DnX P w K mg base 4 (He.ga K "marks_in") ["lines", "index", "count"] (sp_marks_in K) := by
  obtain ⟨fd_check_last, G_check_last, b_check_last, kp_check_last, _⟩ := ok_check_last (P := P) (w := w) (base := base) T
  obtain ⟨fd_first_wrong, G_first_wrong, b_first_wrong, kp_first_wrong, _⟩ := ok_first_wrong (P := P) (w := w) (base := base) T
  obtain ⟨fd_InvalidLine___init, G_InvalidLine___init, b_InvalidLine___init, kp_InvalidLine___init, _⟩ := ok_InvalidLine___init (P := P) (w := w) (base := base) T
  refine dnx_mk T.d_marks_in sc_marks_in (fun _ _ _ _ _ _ us hl => match us, hl with | [_, _, _], _ => rfl) (spX_len (an_C (an_C (an_C an_0)))) fun cdv A outer s H vs Q E hr h => ?_
  refine ⟨_, (pss_cons (ps_expr (pe_callS G_check_last (hr.mono (by decide)) (by rfl) T.g_check_last kp_check_last b_check_last (passAt (takes_of rfl rfl rfl rfl)) (pa_cons (pv 0) (pa_cons (pv 1) pa_nil))))
      (pss_cons (ps_set (i := 3) sc_marks_in.nd rfl (.inl rfl) (pe_ix (ixL_ (K := K)) (pv 0) (pv 1) (fun _ _ => rfl)))
      (pss_cons (ps_set (i := 4) sc_marks_in.nd rfl (.inl rfl) (pe_callB (min2_ rfl) (by rfl) T.z_min (by decide +kernel) (pa_cons (pe_call G_first_wrong (hr.mono (by decide)) (by rfl) T.g_first_wrong kp_first_wrong b_first_wrong .nil pass0 (pa_cons (pv 3) (pa_cons pe_int (pa_cons (pe_globS (by rfl) T.k_MARK_SIGNS) pa_nil)))) (pa_cons (pv 2) pa_nil))))
      (pss_cons (ps_if (PW.pt (pw_or (pt_cmpR op_lt (pv 4) (pe_callB k_lenS (by rfl) T.z_len (by decide +kernel) (pa_cons (pv 3) pa_nil)) (nomark _)) (pw_or1 (pt_cmpR op_lt (pe_callB k_lenS (by rfl) T.z_len (by decide +kernel) (pa_cons (pv 3) pa_nil)) (pv 2) (nomark _)))))
      (pss_cons (ps_raise rfl (takes_of rfl rfl rfl rfl) (pmk_oex T.of.oc T.m_InvalidLine___init.at_ (beq_iff_eq.mp T.m_InvalidLine___init.fn) G_InvalidLine___init (hr.mono (by decide)) b_InvalidLine___init .nil pass0 (by rfl) T.g_InvalidLine (pa_cons (pv 1) (pa_cons (pv 4) pa_nil))))
      pss_nil)
      pss_nil)
      (pss_cons (ps_ret (pe_lc (own := [("sign", 5)]) rfl sc_marks_in.nd (pi_str (pv 3)) (blkOk_by (own := [("sign", 5)]) (N := ["lines", "index", "count", "line", "wrong", "sign"]) (sc := defScope s_marks_in) (by decide +kernel)) (fun _ _ _ _ _ => (pg_name (i := 5) sc_marks_in.nd rfl (.inl rfl))) (fun _ _ _ _ _ => pts_nil) (fun _ _ _ _ _ => (pe_indexL (pe_globS (by rfl) T.k_MARK_SIGNS) (pv 5)))))
      pss_nil))))), ?_⟩
  refine finX_runX (E := (eC (sF (jL jS)) (eC (sF jI) (eC (sF jI) (eU (eU (eU eN))))))) (E' := eN) (ae_C (ae_C (ae_C (ae_U rfl (ae_U rfl (ae_U rfl ae_0)))))) (an_C (an_C (an_C an_0))) rfl ?S h rfl
  exact ⟨_, (ss_exprX (sx_call (K := K) (sa_cons (se_var g0) (sa_cons (se_var (gS g0)) sa_nil))) (ss_asg (se_op (se_var g0) (se_var (gS g0)) s2_ixL) (pS (pS (pS p0U))) (ss_asg (se_cb (sa_cons (se_call (sa_cons (se_var (gS (gS (gS g0)))) (sa_cons se_int (sa_cons (se_str (l := [48, 49, 50, 51, 52, 53, 54, 55, 56, 57, 65, 66, 67, 68, 69, 70, 71, 72, 73, 74, 75, 76, 77, 78, 79, 80, 81, 82, 83, 84, 85, 86, 87, 88, 89, 90, 97, 98, 99, 100, 101])) sa_nil)))) (sa_cons (se_var (gS (gS g0))) sa_nil)) sc_min2) (pS (pS (pS (pS p0U)))) (ss_seq (ss_if (st_or (st_test (se_op (se_var (gS (gS (gS (gS g0))))) (se_cb (sa_cons (se_var (gS (gS (gS g0)))) sa_nil) sc_lenS) (s2_C0 (f := fun i j => decide (i < j))))) (st_test (se_op (se_cb (sa_cons (se_var (gS (gS (gS g0)))) sa_nil) sc_lenS) (se_var (gS (gS g0))) (s2_C0 (f := fun i j => decide (i < j)))))) (ss_seq (ss_raiseL (K := K) T.of T.n_InvalidLine_line T.n_InvalidLine_column (sa_cons (se_var (gS g0)) (sa_cons (se_var (gS (gS (gS (gS g0))))) sa_nil))) ss_nil) ss_nil) (ss_seq (ss_retX (se_lc (si_str (se_var (gS (gS (gS g0))))) (wp_cons (nS (nS (nS (nS (nS n0))))) wp_nil) (sg_name (pS (pS (pS (pS (pS p0U)))))) (se_m1 (se_str (l := [48, 49, 50, 51, 52, 53, 54, 55, 56, 57, 65, 66, 67, 68, 69, 70, 71, 72, 73, 74, 75, 76, 77, 78, 79, 80, 81, 82, 83, 84, 85, 86, 87, 88, 89, 90, 97, 98, 99, 100, 101])) (se_var (gS (gS (gS (gS (gS g0)))))) sm_idx))) ss_nil))))), by exact rfl⟩
end
end Lw
namespace Lw
open PySem PySem.Spec PyProof.Rows L2 Fw Mi
local macro_rules | `(tactic| walk_at "m") => `(tactic| simp only [pidx_one, pinS_one, pninS_one, W_some, W_none, W_ob, W_bind, W_pck, W_rb, W_fin, W_finN, W_T, W_F, W_Tr, W_Fa, Rw_nxt, Rw_ret, Rw_cnt, Rf_ret, Rf_nxt, RfN_ret, RfN_nxt, W_finU, RfU_nxt, W_obx, Xf_ok, Xf_er, W_rbx, Xr_ok, Xr_er, W_okx, W_finNX, RfNX_ret, RfNX_nxt, W_finUX, RfUX_nxt, RfUX_er, W_trx, Xt_ok, Xt_er, decide_true, decide_false, Bool.not_true, Bool.not_false])
theorem w_marks {ls : List (List Nat)} {i n : Nat} {Q : Except Exn (List Int) → Prop} (hl : ls.length ≤ 1000000) (hi : i ≤ 1000000) (hb : ∀ l ∈ ls, l.length ≤ 1000000) (h1 : ls.length ≤ i → Q (.error (0, (ls.length : Int), 0)))
    (h2 : ∀ l, ls[i]? = some l → if 0 ≤ Ln.mf l n then Q (.error (0, (i : Int), Ln.mf l n)) else Q (.ok (Ln.ixs l))) : W (m_marks_in ls (i : Int) (n : Int)) Q := by
  unfold m_marks_in
  walk_at "m"
  refine w_check hl h1 fun hlt => ?_
  walk_at "m"
  have hg : ls[i]? = some ls[i] := List.getElem?_eq_getElem hlt
  have hn := hb _ (List.getElem_mem hlt)
  have h2 := h2 _ hg
  rw [pat_nat hg]
  generalize ls[i] = l at hn h2
  have hz : l.length ≤ sz := by unfold sz; omega
  walk_at "m"
  refine W_of (m_first_eq (k := 0) (Nat.zero_le _) hn) ?_
  have e : min (Ln.fw l 0 Ln.MS : Int) (n : Int) = ((min n (Ln.fw l 0 Ln.MS) : Nat) : Int) := by omega
  rw [e]
  refine ⟨hz, ?_⟩
  refine W.mono (Q := fun b => b = true ↔ (min n (Ln.fw l 0 Ln.MS) < l.length ∨ l.length < n)) ?_ ?_
  · refine W_ifD (fun h2 => ?_) (fun h2 => ?_)
    · walk_at "m"
      exact ⟨fun _ => .inl (by omega), fun _ => by trivial⟩
    · walk_at "m"
      refine ⟨hz, ?_⟩
      rw [decide_eq_true_iff]
      omega
  intro b hb2
  refine W_ifB (fun h3 => ?_) (fun h3 => ?_)
  · have e0 : Ln.mf l n = ((min n (Ln.fw l 0 Ln.MS) : Nat) : Int) := by unfold Ln.mf; rw [if_pos (hb2.mp h3)]
    rw [e0, if_pos (by omega)] at h2
    walk_at "m"
    have := Ln.fw_le (s := Ln.MS) (Nat.zero_le l.length)
    exact ⟨by unfold PLn; omega, h2⟩
  · have e0 : Ln.mf l n = -1 := by unfold Ln.mf; rw [if_neg (fun z => by have := hb2.mpr z; rw [h3] at this; cases this)]
    rw [e0, if_neg (by decide)] at h2
    have hall := (Ln.mf_ok (l := l) (n := n) (by rw [e0]; decide)).2
    walk_at "m"
    refine W_lcMap (g := fun c => (Ln.MS.idxOf (c.headD 0) : Int)) (fun c hc => ?_) ?_
    · obtain ⟨x, hx, rfl⟩ := List.mem_map.mp hc
      rw [pidx_one, pck_of (hall x hx)]
      rfl
    · have e1 : (l.map fun c => [c]).map (fun c => (Ln.MS.idxOf (c.headD 0) : Int)) = Ln.ixs l := by
        rw [List.map_map]
        rfl
      rw [e1]
      exact ⟨by unfold Ln.ixs; rw [List.length_map]; exact hz, h2⟩

end Lw
namespace Lw
open PySem PySem.Spec PyProof.Rows L2 Fw Mi
section
variable {P : Program} {w : World} {K : PySem.W.Frag} {mg : Str → Option Value} {base : Heap}
noncomputable def m_read_reads (lines : (List (List Nat))) : Option (Except Exn (List ((List Nat) × (List Nat) × (List Int)))) := Mi.fin (κ := Unit) (ρ := Unit) (ob (pck (([] : List ((List Nat) × (List Nat) × (List Int))).length ≤ sz) []) fun result => rb (whileR (fun (γ : ((List (List Nat)) × (List ((List Nat) × (List Nat) × (List Int))) × Int × Unit)) => let lines := γ.1; let index := γ.2.2.1; (some (decide (index < (lines.length : Int))))) (fun (γ : ((List (List Nat)) × (List ((List Nat) × (List Nat) × (List Int))) × Int × Unit)) => let lines := γ.1; let result := γ.2.1; let index := γ.2.2.1; rbx (m_name_in lines index ([64] : List Nat)) fun name => rbx (m_letters_in lines (index + (1 : Int)) (1000 : Int)) fun text => rbx (obx (obx (ob (ob (ob (ob (pck (text.length ≤ sz) (text.length : Int)) fun x3 => some (x3, ())) fun r4 => some ((index + (2 : Int)), r4)) fun r5 => some (lines, r5)) fun z6 => (m_marks_in z6.1 z6.2.1 z6.2.2.1)) fun y7 => some (.ok (text, y7))) fun y8 => some (.ok (name, y8))) fun y10 => ob (pck (result.length < sz) (result ++ [y10])) fun w9 => let index := index + (3 : Int); some (.nxt (lines, w9, index, ()))) (lines, result, (0 : Int), ())) fun γ => let result := γ.2.1; rb (some (.ret (.ok result))) fun γ => some (.nxt γ))
abbrev sp_read_reads (K : PySem.W.Frag) : Sp := spX K (aC (jL jS) aN) (sO (jT (yC jS (yC jS (y1 (jL jI)))))) (fun γ => m_read_reads γ.1)
theorem ok_read_reads (T : Tx w K mg) : DnX P w K mg base 5 (He.ga K "read_reads") ["lines"] (sp_read_reads K) := by
  obtain ⟨fd_name_in, G_name_in, b_name_in, kp_name_in, _⟩ := ok_name_in (P := P) (w := w) (base := base) T
  obtain ⟨fd_letters_in, G_letters_in, b_letters_in, kp_letters_in, _⟩ := ok_letters_in (P := P) (w := w) (base := base) T
  obtain ⟨fd_marks_in, G_marks_in, b_marks_in, kp_marks_in, _⟩ := ok_marks_in (P := P) (w := w) (base := base) T
  refine dnx_mk T.d_read_reads sc_read_reads (fun _ _ _ _ _ _ us hl => match us, hl with | [_], _ => rfl) (spX_len (an_C an_0)) fun cdv A outer s H vs Q E hr h => ?_
  refine ⟨_, (pss_cons (ps_set (i := 1) sc_read_reads.nd rfl (.inl rfl) (pe_lst pa_nil))
      (pss_cons (ps_set (i := 2) sc_read_reads.nd rfl (.inl rfl) pe_int)
      (pss_cons (ps_while (passes_of rfl) (pt_cmpR op_lt (pv 2) (pe_callB (lenQ_ (K := K)) (by rfl) T.z_len (by decide +kernel) (pa_cons (pv 0) pa_nil)) (nomark _))
      (pss_cons (ps_set (i := 3) sc_read_reads.nd rfl (.inl rfl) (pe_callS G_name_in (hr.mono (by decide)) (by rfl) T.g_name_in kp_name_in b_name_in (passAt (takes_of rfl rfl rfl rfl)) (pa_cons (pv 0) (pa_cons (pv 2) (pa_cons (pe_strL (l := [64]) (by decide +kernel)) pa_nil)))))
      (pss_cons (ps_set (i := 4) sc_read_reads.nd rfl (.inl rfl) (pe_callS G_letters_in (hr.mono (by decide)) (by rfl) T.g_letters_in kp_letters_in b_letters_in (passAt (takes_of rfl rfl rfl rfl)) (pa_cons (pv 0) (pa_cons (pe_op op_add (pv 2) pe_int) (pa_cons (pe_globI (by rfl) T.k_LONGEST_READ) pa_nil)))))
      (pss_cons (ps_expr (bm_ (K := K) PySem.F.plainAttrs_list PySem.F.slot_list_append PySem.F.type_list_append mt_append (pv 1) (pa_cons (pe_tup (pa_cons (pv 3) (pa_cons (pv 4) (pa_cons (pe_callS G_marks_in (hr.mono (by decide)) (by rfl) T.g_marks_in kp_marks_in b_marks_in (passAt (takes_of rfl rfl rfl rfl)) (pa_cons (pv 0) (pa_cons (pe_op op_add (pv 2) pe_int) (pa_cons (pe_callB k_lenS (by rfl) T.z_len (by decide +kernel) (pa_cons (pv 4) pa_nil)) pa_nil)))) pa_nil)))) pa_nil)))
      (pss_cons (ps_aug (i := 2) sc_read_reads.nd rfl (.inl rfl) pe_int ip_add)
      pss_nil)))))
      (pss_cons (ps_ret (pv 1))
      pss_nil)))), ?_⟩
  refine finX_runX (E := (eC (sF (jL jS)) (eU (eU (eU (eU eN)))))) (E' := eN) (ae_C (ae_U rfl (ae_U rfl (ae_U rfl (ae_U rfl ae_0))))) (an_C an_0) rfl ?S h rfl
  exact ⟨_, (ss_asg (se_lst (A := (jT (yC jS (yC jS (y1 (jL jI)))))) sl_nil) (pS p0U) (ss_asg se_int (pS (pS p0U)) (ss_seq (ss_while (st_test (se_op (se_var (gS (gS g0))) (se_cb (sa_cons (se_var g0) sa_nil) (sc_lenL (K := K))) (s2_C0 (f := fun i j => decide (i < j))))) (ss_asgX (sx_call (K := K) (sa_cons (se_var g0) (sa_cons (se_var (gS (gS g0))) (sa_cons (se_str (l := [64])) sa_nil)))) (pS (pS (pS p0U))) (ss_asgX (sx_call (K := K) (sa_cons (se_var g0) (sa_cons (se_op (se_var (gS (gS g0))) se_int (s2_I0 (f := fun i j => i + j))) (sa_cons se_int sa_nil)))) (pS (pS (pS (pS p0U)))) (ss_appX (K := K) (uS u0) (sx_tup (stXC (se_var (gS (gS (gS g0)))) (stXC (se_var (gS (gS (gS (gS g0))))) (stX1 (sx_fz (sx_call (K := K) (sa_cons (se_var g0) (sa_cons (se_op (se_var (gS (gS g0))) se_int (s2_I0 (f := fun i j => i + j))) (sa_cons (se_cb (sa_cons (se_var (gS (gS (gS (gS g0))))) sa_nil) sc_lenS) sa_nil)))))))) (tz (tz tz1))) (ss_aug (f := fun i j => i + j) (gS (gS g0)) se_int (pS (pS p0)) (ss_co (cK (cK (cK (cF (cF cId))))))))))) (ss_seq (ss_retOX (gS g0)) ss_nil)))), by exact rfl⟩
end
end Lw
namespace Lw
open PySem PySem.Spec PyProof.Rows L2 Fw Mi
local macro_rules | `(tactic| walk_at "m") => `(tactic| simp only [pidx_one, pinS_one, pninS_one, W_some, W_none, W_ob, W_bind, W_pck, W_rb, W_fin, W_finN, W_T, W_F, W_Tr, W_Fa, Rw_nxt, Rw_ret, Rw_cnt, Rf_ret, Rf_nxt, RfN_ret, RfN_nxt, W_finU, RfU_nxt, W_obx, Xf_ok, Xf_er, W_rbx, Xr_ok, Xr_er, W_okx, W_finNX, RfNX_ret, RfNX_nxt, W_finUX, RfUX_nxt, RfUX_er, W_trx, Xt_ok, Xt_er, decide_true, decide_false, Bool.not_true, Bool.not_false])
def toXr (z : List (List Nat × List Nat × List Int) × Option (Int × Int)) : Except Exn (List (List Nat × List Nat × List Int)) := match z.2 with
  | none => .ok z.1
  | some e => .error (0, e.1, e.2)
theorem m_readreads_eq {ls : List (List Nat)} (hl : ls.length ≤ 300) (hb : ∀ l ∈ ls, l.length ≤ 2000) : m_read_reads ls = some (toXr (Ln.rr ls.length ls 0 [])) := by
  have hz : ∀ k : Nat, k ≤ 16000000 → k ≤ sz := fun k h => by unfold sz; omega
  have hb' : ∀ l ∈ ls, l.length ≤ 1000000 := fun l h => by have := hb l h; omega
  refine W.eq ?_
  unfold m_read_reads
  walk_at "m"
  refine ⟨by unfold sz; decide, ?_⟩
  refine W_while (fun m γ => ∃ (a : Nat) (f : List (List Nat × List Nat × List Int)) (k : Nat), γ = (ls, f, (a : Int), ()) ∧ Ln.rr k (ls.drop a) a f = Ln.rr ls.length ls 0 [] ∧ ls.length ≤ a + k ∧ a ≤ ls.length ∧ m = ls.length - a ∧ f.length ≤ a) ls.length ⟨0, [], ls.length, rfl, rfl, by omega, by omega, by omega, Nat.le_refl _⟩ ?_
  rintro m γ ⟨a, f, k, rfl, hR, hk, ha, hm, hf⟩
  walk_at "m"
  by_cases hlt : a < ls.length
  · rw [if_pos (decide_eq_true (by omega))]
    obtain ⟨k, rfl⟩ : ∃ k', k = k' + 1 := ⟨k - 1, by omega⟩
    rw [List.drop_eq_getElem_cons hlt] at hR
    refine w_name (by omega) (by omega) hb' (fun z => absurd hlt (by omega)) fun l hg => ?_
    obtain ⟨_, hg⟩ := List.getElem?_eq_some_iff.mp hg
    rw [hg] at hR
    by_cases hn : 0 ≤ Ln.nf [64] l
    · rw [if_pos hn]
      rw [Ln.rr_bad hn] at hR
      walk_at "m"
      rw [← hR]
      rfl
    · rw [if_neg hn]
      walk_at "m"
      rw [show (a : Int) + 1 = ((a + 1 : Nat) : Int) by omega]
      refine w_letters (by omega) (by omega) hb' (by omega) (fun z => ?_) fun l2 hg2 => ?_
      · rw [List.drop_eq_nil_of_le z, Ln.rr_one hn] at hR
        walk_at "m"
        rw [← hR]
        show _ = Except.error (0, (a : Int) + 1, 0)
        rw [show (a : Int) + 1 = (ls.length : Int) by omega]
      · obtain ⟨hlt2, hg2⟩ := List.getElem?_eq_some_iff.mp hg2
        rw [List.drop_eq_getElem_cons hlt2, hg2] at hR
        by_cases ht : 0 ≤ Ln.tf l2 1000
        · rw [if_pos ht]
          rw [Ln.rr_bad2 hn ht] at hR
          walk_at "m"
          rw [← hR]
          rfl
        · rw [if_neg ht]
          walk_at "m"
          have hb2 := hb' _ (List.getElem_mem hlt2)
          rw [hg2] at hb2
          refine ⟨hz _ (by omega), ?_⟩
          rw [show (a : Int) + 2 = ((a + 2 : Nat) : Int) by omega]
          refine w_marks (by omega) (by omega) hb' (fun z => ?_) fun l3 hg3 => ?_
          · rw [List.drop_eq_nil_of_le (by omega), Ln.rr_two hn ht] at hR
            walk_at "m"
            rw [← hR]
            show _ = Except.error (0, (a : Int) + 2, 0)
            rw [show (a : Int) + 2 = (ls.length : Int) by omega]
          · obtain ⟨hlt3, hg3⟩ := List.getElem?_eq_some_iff.mp hg3
            rw [show a + 1 + 1 = a + 2 from rfl, List.drop_eq_getElem_cons hlt3, hg3] at hR
            by_cases hm3 : 0 ≤ Ln.mf l3 l2.length
            · rw [if_pos hm3]
              rw [Ln.rr_bad3 hn ht hm3] at hR
              walk_at "m"
              rw [← hR]
              rfl
            · rw [if_neg hm3]
              rw [Ln.rr_go hn ht hm3] at hR
              walk_at "m"
              refine ⟨by unfold sz; omega, _, ?_, a + 3, _, k, rfl, hR, by omega, by omega, rfl, by rw [List.length_append]; show _ + 1 ≤ _; omega⟩
              omega
  · rw [if_neg (fun z => hlt (by have := of_decide_eq_true z; omega))]
    rw [List.drop_eq_nil_of_le (by omega), Ln.rr_nil] at hR
    rw [← hR]
    rfl

end Lw
namespace Lw
open PySem PySem.Spec PyProof.Rows L2 Fw Mi
section
variable {P : Program} {w : World} {K : PySem.W.Frag} {mg : Str → Option Value} {base : Heap}
noncomputable def m_law (script : (List Int)) : Option Bool := fin (κ := Unit) (ρ := Unit) (let signs := ([48, 49, 50, 51, 52, 53, 54, 55, 56, 57, 65, 66, 67, 68, 69, 70, 71, 72, 73, 74, 75, 76, 77, 78, 79, 80, 81, 82, 83, 84, 85, 86, 87, 88, 89, 90, 97, 98, 99, 100, 101] : List Nat); ob (pck (([] : List (List Nat)).length ≤ sz) []) fun lines => rb (ob (ob (ob (ob (ob (ob (ob (some (script, (0 : Int), ())) fun z69 => (m_law_cell z69.1 z69.2.1)) fun x70 => (pck (PMod x70 (5 : Int)) (x70 % (5 : Int)))) fun x71 => some (x71, ())) fun r72 => some ((1 : Int), r72)) fun r73 => some (script, r73)) fun z74 => (m_law_references z74.1 z74.2.1 z74.2.2.1)) fun xs75 => (forR (fun (x_ : ((List Nat) × (List Nat))) (γ : ((List Int) × (List Nat) × (List (List Nat)) × Unit)) => let x7 := x_; let script := γ.1; let signs := γ.2.1; let lines := γ.2.2.1; rb ((ob ((ob (ob (ob (ob (ob (some (script, (0 : Int), ())) fun z8 => (m_law_cell z8.1 z8.2.1)) fun x9 => (pck (PDiv x9 (5 : Int)) (x9 / (5 : Int)))) fun x10 => (pck (PMod x10 (8 : Int)) (x10 % (8 : Int)))) fun x11 => some (decide (x11 = (1 : Int)))) fun b13 => if b13 = true then (ob (pck (([] : List (List Nat)).length ≤ sz) []) fun y12 => some (decide (lines = y12))) else some false)) fun b20 => if b20 = true then (ob (ob (pck ((0 ≤ (1000 : Int) ∧ (1000 : Int) < 1073741824) ∧ x7.2.length * ((1000 : Int)).toNat ≤ sz) (List.replicate ((1000 : Int)).toNat x7.2).flatten) fun x18 => (ob (ob (ob (ob (ob (ob (some (script, (0 : Int), ())) fun z14 => (m_law_cell z14.1 z14.2.1)) fun x15 => (pck (PDiv x15 (40 : Int)) (x15 / (40 : Int)))) fun x16 => (pck (PMod x16 (21 : Int)) (x16 % (21 : Int)))) fun y17 => some ((990 : Int) + y17)) fun x => some (some x)) fun h19 => (pck (x18.length ≤ sz) (pcut x18 none h19)))) fun text => some (.nxt (script, signs, lines, x7.1, text, ()))) else (some (.nxt (script, signs, lines, x7.1, x7.2, ()))))) fun γ => let script := γ.1; let signs := γ.2.1; let lines := γ.2.2.1; let name := γ.2.2.2.1; let text := γ.2.2.2.2.1; ob (ob (ob (ob (ob (some (script, (11 : Int), ())) fun z21 => (m_law_cell z21.1 z21.2.1)) fun x22 => (ob (pck (text.length ≤ sz) (text.length : Int)) fun y23 => some (x22 + y23))) fun x25 => (ob (ob (pck (text.length ≤ sz) (text.length : Int)) fun x24 => some (x24, ((41 : Int), ()))) fun r26 => some (x25, r26))) fun z27 => (m_law_row z27.1 z27.2.1 z27.2.2.1)) fun marks => ob (ob (ob (ob (pck (([64] : List Nat).length + name.length ≤ sz) (([64] : List Nat) ++ name)) fun x32 => (ob ((ob ((ob (ob (ob (lcM (fun c28 => (pixS signs c28)) marks) fun r => pck (r.length ≤ sz) r) fun y29 => (pck ((y29.map List.length).sum + y29.length * ([] : List Nat).length ≤ sz) (joinN ([] : List Nat) y29))) fun x30 => some (x30 :: []))) fun r31 => some (text :: r31))) fun r33 => some (x32 :: r33))) fun xs => pck (xs.length ≤ sz) xs) fun y34 => (pck (lines.length + y34.length ≤ sz) (lines ++ y34))) fun lines => some (.nxt (script, signs, lines, ()))) xs75 (script, signs, lines, ()))) fun γ => let script := γ.1; let signs := γ.2.1; let lines := γ.2.2.1; rb ((ob (ob (ob (ob (some (script, (12 : Int), ())) fun z35 => (m_law_cell z35.1 z35.2.1)) fun x36 => (pck (PMod x36 (8 : Int)) (x36 % (8 : Int)))) fun x37 => some (decide ((0 : Int) < x37))) fun b43 => if b43 = true then (ob (ob (ob (ob (ob (ob (some (script, (12 : Int), ())) fun z38 => (m_law_cell z38.1 z38.2.1)) fun x39 => (pck (PDiv x39 (8 : Int)) (x39 / (8 : Int)))) fun x40 => some (x40, ())) fun r41 => some (lines, r41)) fun z42 => (m_law_spoilt z42.1 z42.2.1)) fun lines => some (.nxt (script, signs, lines, ()))) else (some (.nxt (script, signs, lines, ()))))) fun γ => let script := γ.1; let signs := γ.2.1; let lines := γ.2.2.1; rb ((ob (ob (ob (ob (some (script, (13 : Int), ())) fun z44 => (m_law_cell z44.1 z44.2.1)) fun x45 => (pck (PMod x45 (3 : Int)) (x45 % (3 : Int)))) fun x46 => some (decide (x46 = (1 : Int)))) fun b52 => if b52 = true then (ob (ob (ob (ob (ob (ob (some (script, (13 : Int), ())) fun z47 => (m_law_cell z47.1 z47.2.1)) fun x48 => (pck (PDiv x48 (3 : Int)) (x48 / (3 : Int)))) fun x49 => some (x49, ())) fun r50 => some (lines, r50)) fun z51 => (m_law_spoilt z51.1 z51.2.1)) fun lines => some (.nxt (script, signs, lines, ()))) else (some (.nxt (script, signs, lines, ()))))) fun γ => let script := γ.1; let signs := γ.2.1; let lines := γ.2.2.1; ob (ob (some (lines, signs, ())) fun z53 => (m_law_due z53.1 z53.2.1)) fun q54 => ob (pck (lines.length ≤ sz) lines) fun handed => rb (ob (some (handed, ())) fun z => trx (m_read_reads z.1) (fun told => some (.nxt (script, signs, lines, q54.1, q54.2, handed, told, ()))) (fun er55 => ob (if (exIs er55.1 1) = true then some true else (if (exIs er55.1 2) = true then some true else (some (exIs er55.1 3)))) fun others => rb ((ob (if (!(exIs er55.1 0)) = true then some true else (if others = true then some true else (if (exIs er55.1 4) = true then some true else (some (!(exIs er55.1 6)))))) fun b56 => if b56 = true then (rb (some (.ret false)) fun γ => some (.nxt γ)) else (some (.nxt (script, signs, lines, q54.1, q54.2, handed, er55, others, ()))))) fun γ => let lines := γ.2.2.1; let fault := γ.2.2.2.2.1; let handed := γ.2.2.2.2.2.1; let error := γ.2.2.2.2.2.2.1; rb (ob ((ob (ob (ob (ob (pck (error.1 = 0) error.2.1) fun x62 => (ob (pck (error.1 = 0) error.2.2) fun r63 => some (x62, r63))) fun x => some (some x)) fun x64 => some (decide (x64 = fault))) fun b65 => if b65 = true then (some (decide (handed = lines))) else some false)) fun r66 => some (.ret r66)) fun γ => some (.nxt γ))) fun γ => let lines := γ.2.2.1; let found := γ.2.2.2.1; let fault := γ.2.2.2.2.1; let handed := γ.2.2.2.2.2.1; let told := γ.2.2.2.2.2.2.1; rb (ob (if (fault).isNone = true then (if (decide (told = found)) = true then (some (decide (handed = lines))) else some false) else some false) fun r68 => some (.ret r68)) fun γ => some (.nxt γ))
abbrev sp_law (K : PySem.W.Frag) : Sp := spM (aC (jQ K jI) aN) (sF jB) (fun γ => m_law γ.1)
theorem ok_law (T : Tx w K mg) : Dn P w K mg base 6 (He.ga K "law") ["_law_script"] (sp_law K) := by
  obtain ⟨fd_law_references, G_law_references, b_law_references, kp_law_references, _⟩ := ok_law_references (P := P) (w := w) (base := base) T
  obtain ⟨fd_law_due, G_law_due, b_law_due, kp_law_due, _⟩ := ok_law_due (P := P) (w := w) (base := base) T
  obtain ⟨fd_law_row, G_law_row, b_law_row, kp_law_row, _⟩ := ok_law_row (P := P) (w := w) (base := base) T
  obtain ⟨fd_law_spoilt, G_law_spoilt, b_law_spoilt, kp_law_spoilt, _⟩ := ok_law_spoilt (P := P) (w := w) (base := base) T
  obtain ⟨fd_read_reads, G_read_reads, b_read_reads, kp_read_reads, _⟩ := ok_read_reads (P := P) (w := w) (base := base) T
  obtain ⟨fd_law_cell, G_law_cell, b_law_cell, kp_law_cell, _⟩ := ok_law_cell (P := P) (w := w) (base := base) T
  refine dn_mk T.d_law sc_law (fun _ _ _ _ _ _ us hl => match us, hl with | [_], _ => rfl) (spM_len (an_C an_0)) fun cdv A outer s H vs Q E hr h => ?_
  refine ⟨_, (pss_cons (ps_set (i := 1) sc_law.nd rfl (.inr rfl) (pe_strL (l := [48, 49, 50, 51, 52, 53, 54, 55, 56, 57, 65, 66, 67, 68, 69, 70, 71, 72, 73, 74, 75, 76, 77, 78, 79, 80, 81, 82, 83, 84, 85, 86, 87, 88, 89, 90, 97, 98, 99, 100, 101]) (by decide +kernel)))
      (pss_cons (ps_set (i := 2) sc_law.nd rfl (.inl rfl) (pe_lst pa_nil))
      (pss_cons (ps_for PassesOwn.never rfl (iL_ (K := K) (pe_call G_law_references (hr.mono (by decide)) (by rfl) T.g_law_references kp_law_references b_law_references .nil pass0 (pa_cons (pv 0) (pa_cons pe_int (pa_cons (pe_op op_mod (pe_call G_law_cell (hr.mono (by decide)) (by rfl) T.g_law_cell kp_law_cell b_law_cell .nil pass0 (pa_cons (pv 0) (pa_cons pe_int pa_nil))) pe_int) pa_nil))))) (gt_ (K := K) (n := 2) (by rfl) (pgs_cons (pg_name (i := 3) sc_law.nd rfl (.inl rfl)) (pgs_cons (pg_name (i := 4) sc_law.nd rfl (.inl rfl)) pgs_nil)))
      (pss_cons (ps_if (PW.pt (pw_and (pt_cmpR op_eq (pe_op op_mod (pe_op op_fdiv (pe_call G_law_cell (hr.mono (by decide)) (by rfl) T.g_law_cell kp_law_cell b_law_cell .nil pass0 (pa_cons (pv 0) (pa_cons pe_int pa_nil))) pe_int) pe_int) pe_int (nomark _)) (pw_and1 (pt_cmpR (eqD_ (K := K) hr.units) (pv 2) (pe_lst pa_nil) (nomark _)))))
      (pss_cons (ps_set (i := 4) sc_law.nd rfl (.inl rfl) (pe_slice k_slS (pe_op k_mulS (pv 4) pe_int) po_none (po_some (pe_op op_add pe_int (pe_op op_mod (pe_op op_fdiv (pe_call G_law_cell (hr.mono (by decide)) (by rfl) T.g_law_cell kp_law_cell b_law_cell .nil pass0 (pa_cons (pv 0) (pa_cons pe_int pa_nil))) pe_int) pe_int)))))
      pss_nil)
      pss_nil)
      (pss_cons (ps_set (i := 5) sc_law.nd rfl (.inl rfl) (pe_call G_law_row (hr.mono (by decide)) (by rfl) T.g_law_row kp_law_row b_law_row .nil pass0 (pa_cons (pe_op op_add (pe_call G_law_cell (hr.mono (by decide)) (by rfl) T.g_law_cell kp_law_cell b_law_cell .nil pass0 (pa_cons (pv 0) (pa_cons pe_int pa_nil))) (pe_callB k_lenS (by rfl) T.z_len (by decide +kernel) (pa_cons (pv 4) pa_nil))) (pa_cons (pe_callB k_lenS (by rfl) T.z_len (by decide +kernel) (pa_cons (pv 4) pa_nil)) (pa_cons pe_int pa_nil)))))
      (pss_cons (ps_set (i := 2) sc_law.nd rfl (.inl rfl) (pe_op op_cat (pv 2) (pe_lst (pa_cons (pe_op k_addS (pe_strL (l := [64]) (by decide +kernel)) (pv 3)) (pa_cons (pv 4) (pa_cons (pe_joinL (K := K) (pe_strL (l := []) (by decide +kernel)) (pe_lc (own := [("_law_mark", 6)]) rfl sc_law.nd (iL_ (K := K) (pv 5)) (blkOk_by (own := [("_law_mark", 6)]) (N := ["_law_script", "_law_signs", "_law_lines", "_law_name", "_law_text_here", "_law_marks", "_law_mark", "_law_found", "_law_fault", "_law_handed", "_law_told", "error", "_law_others"]) (sc := defScope s_law) (by decide +kernel)) (fun _ _ _ _ _ => (pg_name (i := 6) sc_law.nd rfl (.inl rfl))) (fun _ _ _ _ _ => pts_nil) (fun _ _ _ _ _ => (pe_ix k_ixS (pv 1) (pv 6) (fun _ _ => rfl))))) pa_nil))))))
      pss_nil))))
      (pss_cons (ps_if (pt_cmpR op_gt (pe_op op_mod (pe_call G_law_cell (hr.mono (by decide)) (by rfl) T.g_law_cell kp_law_cell b_law_cell .nil pass0 (pa_cons (pv 0) (pa_cons pe_int pa_nil))) pe_int) pe_int (nomark _))
      (pss_cons (ps_set (i := 2) sc_law.nd rfl (.inl rfl) (pe_call G_law_spoilt (hr.mono (by decide)) (by rfl) T.g_law_spoilt kp_law_spoilt b_law_spoilt .nil pass0 (pa_cons (pv 2) (pa_cons (pe_op op_fdiv (pe_call G_law_cell (hr.mono (by decide)) (by rfl) T.g_law_cell kp_law_cell b_law_cell .nil pass0 (pa_cons (pv 0) (pa_cons pe_int pa_nil))) pe_int) pa_nil))))
      pss_nil)
      pss_nil)
      (pss_cons (ps_if (pt_cmpR op_eq (pe_op op_mod (pe_call G_law_cell (hr.mono (by decide)) (by rfl) T.g_law_cell kp_law_cell b_law_cell .nil pass0 (pa_cons (pv 0) (pa_cons pe_int pa_nil))) pe_int) pe_int (nomark _))
      (pss_cons (ps_set (i := 2) sc_law.nd rfl (.inl rfl) (pe_call G_law_spoilt (hr.mono (by decide)) (by rfl) T.g_law_spoilt kp_law_spoilt b_law_spoilt .nil pass0 (pa_cons (pv 2) (pa_cons (pe_op op_fdiv (pe_call G_law_cell (hr.mono (by decide)) (by rfl) T.g_law_cell kp_law_cell b_law_cell .nil pass0 (pa_cons (pv 0) (pa_cons pe_int pa_nil))) pe_int) pa_nil))))
      pss_nil)
      pss_nil)
      (pss_cons (ps_asg (pe_call G_law_due (hr.mono (by decide)) (by rfl) T.g_law_due kp_law_due b_law_due .nil pass0 (pa_cons (pv 2) (pa_cons (pv 1) pa_nil))) (gt_ (K := K) (n := 2) (by rfl) (pgs_cons (pg_name (i := 7) sc_law.nd rfl (.inl rfl)) (pgs_cons (pg_name (i := 8) sc_law.nd rfl (.inl rfl)) pgs_nil))))
      (pss_cons (ps_set (i := 9) sc_law.nd rfl (.inl rfl) (pe_callTy (listQ_ (K := K)) (by rfl) T.z_list (by decide +kernel) (pa_cons (pv 2) pa_nil)))
      (pss_cons (ps_try_as rfl rfl sc_law.nd (i := 11) rfl rfl ⟨by rfl, by decide, .inl T.g_HomeError⟩ takes0 (fun W pn xe tk pa => (pss_cons (ps_set (i := 10) sc_law.nd rfl (.inl rfl) (pe_callS G_read_reads (hr.mono (by decide)) (by rfl) T.g_read_reads kp_read_reads b_read_reads (passAt tk) (pa_cons (pv 9) pa_nil)))
      pss_nil)) (fun ea oe ecls ed pn hz hf => (pss_cons (ps_set (i := 12) sc_law.nd rfl (.inl rfl) (pe_or (pe_callB (isX_ (K := K) hz hf) (by rfl) T.z_isinstance (by decide +kernel) (pa_cons (pv 11) (pa_cons (pe_globR (by rfl) T.g_InvalidPack) pa_nil))) (pe_or (pe_callB (isX_ (K := K) hz hf) (by rfl) T.z_isinstance (by decide +kernel) (pa_cons (pv 11) (pa_cons (pe_globR (by rfl) T.g_NotAnIndex) pa_nil))) (pe_one (pe_callB (isX_ (K := K) hz hf) (by rfl) T.z_isinstance (by decide +kernel) (pa_cons (pv 11) (pa_cons (pe_globR (by rfl) T.g_Truncated) pa_nil)))))))
      (pss_cons (ps_if (PW.pt (pw_or (pt_not (pt_val (pe_callB (isX_ (K := K) hz hf) (by rfl) T.z_isinstance (by decide +kernel) (pa_cons (pv 11) (pa_cons (pe_globR (by rfl) T.g_InvalidLine) pa_nil))))) (pw_or (pt_val (pv 12)) (pw_or (pt_val (pe_callB (isX_ (K := K) hz hf) (by rfl) T.z_isinstance (by decide +kernel) (pa_cons (pv 11) (pa_cons (pe_globR (by rfl) T.g_Damaged) pa_nil)))) (pw_or1 (pt_not (pt_val (pe_callB (isX_ (K := K) hz hf) (by rfl) T.z_isinstance (by decide +kernel) (pa_cons (pv 11) (pa_cons (pe_bltn (v := .ty "ValueError") (by rfl) T.z_ValueError (by decide +kernel) rfl) pa_nil))))))))))
      (pss_cons (ps_ret pe_bl)
      pss_nil)
      pss_nil)
      (pss_cons (ps_ret (pe_and (pe_cmpR (eqD_ (K := K) hr.units) (pe_tup (pa_cons (pe_xf ⟨(T.xf.xc 0).hg, (T.xf.xc 0).hk, (T.xf.xc 0).hs, (T.xf.xc 0).hd⟩ T.n_InvalidLine_line hz hf (pv 11)) (pa_cons (pe_xf ⟨(T.xf.xc 0).hg, (T.xf.xc 0).hk, (T.xf.xc 0).hs, (T.xf.xc 0).hd⟩ T.n_InvalidLine_column hz hf (pv 11)) pa_nil))) (pv 8) (nomark _)) (pe_one (pe_cmpR (eqD_ (K := K) hr.units) (pv 9) (pv 2) (nomark _)))))
      pss_nil)))))
      (pss_cons (ps_ret (pe_and (pe_cmpR op_isN1 (pv 8) pe_non (nomark _)) (pe_and (pe_cmpR (eqD_ (K := K) hr.units) (pv 10) (pv 7) (nomark _)) (pe_one (pe_cmpR (eqD_ (K := K) hr.units) (pv 9) (pv 2) (nomark _))))))
      pss_nil))))))))), ?_⟩
  refine fin_runX (E := (eC (sF (jQ K jI)) (eU (eU (eU (eU (eU (eU (eU (eU (eU (eU (eU (eU eN)))))))))))))) (E' := eN) (ae_C (ae_U rfl (ae_U rfl (ae_U rfl (ae_U rfl (ae_U rfl (ae_U rfl (ae_U rfl (ae_U rfl (ae_U rfl (ae_U rfl (ae_U rfl (ae_U rfl ae_0))))))))))))) (an_C an_0) rfl ?S h rfl
  exact ⟨_, (ss_asg (se_str (l := [48, 49, 50, 51, 52, 53, 54, 55, 56, 57, 65, 66, 67, 68, 69, 70, 71, 72, 73, 74, 75, 76, 77, 78, 79, 80, 81, 82, 83, 84, 85, 86, 87, 88, 89, 90, 97, 98, 99, 100, 101])) (pS p0U) (ss_asg (se_lst (A := jS) sl_nil) (pS (pS p0U)) (ss_seq (ss_for (si_list (se_fz (se_call (sa_cons (se_var g0) (sa_cons se_int (sa_cons (se_op (se_call (sa_cons (se_var g0) (sa_cons se_int sa_nil))) se_int s2_mod) sa_nil)))))) (sg_tup (K := K) (sgs_C (sg_name (pS (pS (pS p0U)))) (sgs_1 (sg_name (pS (pS (pS (pS p0U))))))) (tz tz1)) (ss_seq (ss_if (st_and (st_test (se_op (se_op (se_op (se_call (sa_cons (se_var g0) (sa_cons se_int sa_nil))) se_int s2_div) se_int s2_mod) se_int (s2_eqI))) (st_test (se_opR (sr_var (gS (gS g0))) (sr_of (se_fz (se_lst (A := jS) sl_nil))) ((s2_eqD (K := K) (qL qS))) scB))) (ss_asg (se_sl (se_op (se_var (gS (gS (gS (gS g0))))) se_int s2_mulS) sp_no (sp_so (se_op se_int (se_op (se_op (se_call (sa_cons (se_var g0) (sa_cons se_int sa_nil))) se_int s2_div) se_int s2_mod) (s2_I0 (f := fun i j => i + j)))) s3_S) (pS (pS (pS (pS p0)))) ss_nil) ss_nil) (ss_asg (se_call (sa_cons (se_op (se_call (sa_cons (se_var g0) (sa_cons se_int sa_nil))) (se_cb (sa_cons (se_var (gS (gS (gS (gS g0))))) sa_nil) sc_lenS) (s2_I0 (f := fun i j => i + j))) (sa_cons (se_cb (sa_cons (se_var (gS (gS (gS (gS g0))))) sa_nil) sc_lenS) (sa_cons se_int sa_nil)))) (pS (pS (pS (pS (pS p0U))))) (ss_pre (cK (cK (cI cId))) (ss_pre (cK (cK (cK (cK (cK (cI cId)))))) (ss_asg (se_op (se_var (gS (gS g0))) (se_fz (se_lst (sl_cons (se_op (se_str (l := [64])) (se_var (gS (gS (gS g0)))) s2_addS) (sl_cons (se_var (gS (gS (gS (gS g0))))) (sl_cons (se_m1 (se_str (l := [])) (se_fz (se_lc (si_list (se_var (gS (gS (gS (gS (gS g0))))))) (wp_cons (nS (nS (nS (nS (nS (nS n0)))))) wp_nil) (sg_name (pS (pS (pS (pS (pS (pS p0U))))))) (se_op (se_var (gS g0)) (se_var (gS (gS (gS (gS (gS (gS g0))))))) s2_ixS))) (sm_join (K := K))) sl_nil))))) s2_cat) (pS (pS p0)) (ss_co (cK (cK (cK (cF (cF (cF cId))))))))))))) (ss_seq (ss_if (st_test (se_op (se_op (se_call (sa_cons (se_var g0) (sa_cons se_int sa_nil))) se_int s2_mod) se_int (s2_C0 (f := fun i j => decide (j < i))))) (ss_asg (se_callRS (sra_cons (sr_var (gS (gS g0))) (sra_cons (sr_of (se_op (se_call (sa_cons (se_var g0) (sa_cons se_int sa_nil))) se_int s2_div)) sra_nil)) (scsO scS)) (pS (pS p0)) ss_nil) ss_nil) (ss_seq (ss_if (st_test (se_op (se_op (se_call (sa_cons (se_var g0) (sa_cons se_int sa_nil))) se_int s2_mod) se_int (s2_eqI))) (ss_asg (se_callRS (sra_cons (sr_var (gS (gS g0))) (sra_cons (sr_of (se_op (se_call (sa_cons (se_var g0) (sa_cons se_int sa_nil))) se_int s2_div)) sra_nil)) (scsO scS)) (pS (pS p0)) ss_nil) ss_nil) (ss_pre (cK (cK (cI cId))) (ss_asgG (se_call (sa_cons (se_var (gS (gS g0))) (sa_cons (se_var (gS g0)) sa_nil))) (sg_tup (K := K) (sgs_C (sg_name (pS (pS (pS (pU (pU (pU (pU p0U)))))))) (sgs_1 (sg_name (pS (pS (pS (pU (pU (pU (pU (pS p0U))))))))))) (tz tz1)) (ss_asg (se_cb (sa_cons (se_var (gS (gS g0))) sa_nil) (sc_listL (K := K))) (pS (pS (pS (pU (pU (pU (pU (pS (pS p0U))))))))) (ss_pre (cK (cK (cK (cU (cU (cU (cU (cK (cK (cI cId)))))))))) (ss_seq (ss_tryN (K := K) (Wout := fun _ _ _ _ => False) (E2 := fun ea ecls ed => (eC (sF (jQ K jI)) (eC (sF jS) (eC (sF (jL jS)) (eU (eU (eU (eU (eC (sF (jL (jT (yC jS (yC jS (y1 (jL jI))))))) (eC (sF (jO (jT (yC jI (y1 jI))))) (eC (sF (jL jS)) (eU (eC (sE K ea ecls ed) (eU eN)))))))))))))) (E4 := fun _ _ _ => eN) T.xf (sa_cons (se_var (gS (gS (gS (gU (gU (gU (gU (gS (gS g0)))))))))) sa_nil) (pS (pS (pS (pU (pU (pU (pU (pS (pS (pS p0U)))))))))) ss_nil (fun ea ecls ed => (pS (pS (pS (pU (pU (pU (pU (pS (pS (pS (pU p0U)))))))))))) (fun ea ecls ed => (ss_asg (se_orV (se_isX T.xf (t := 1) (by decide) (gS (gS (gS (gU (gU (gU (gU (gS (gS (gS (gU g0))))))))))) (fun _ h => h)) (se_orV (se_isX T.xf (t := 2) (by decide) (gS (gS (gS (gU (gU (gU (gU (gS (gS (gS (gU g0))))))))))) (fun _ h => h)) (se_isX T.xf (t := 3) (by decide) (gS (gS (gS (gU (gU (gU (gU (gS (gS (gS (gU g0))))))))))) (fun _ h => h)))) (pS (pS (pS (pU (pU (pU (pU (pS (pS (pS (pU (pS p0U)))))))))))) (ss_seq (ss_if (st_or (st_not (st_B (se_isX T.xf (t := 0) (by decide) (gS (gS (gS (gU (gU (gU (gU (gS (gS (gS (gU g0))))))))))) (fun _ h => h)))) (st_or (st_B (se_var (gS (gS (gS (gU (gU (gU (gU (gS (gS (gS (gU (gS g0)))))))))))))) (st_or (st_B (se_isX T.xf (t := 4) (by decide) (gS (gS (gS (gU (gU (gU (gU (gS (gS (gS (gU g0))))))))))) (fun _ h => h))) (st_not (st_B (se_isX T.xf (t := 6) (by decide) (gS (gS (gS (gU (gU (gU (gU (gS (gS (gS (gU g0))))))))))) (fun _ h => h))))))) (ss_seq (ss_ret se_bl) ss_nil) ss_nil) (ss_seq (ss_ret (se_andV (se_op (se_toOp (se_tup (stC (se_line (gS (gS (gS (gU (gU (gU (gU (gS (gS (gS (gU g0)))))))))))) (st1 (se_column (gS (gS (gS (gU (gU (gU (gU (gS (gS (gS (gU g0)))))))))))))) (tz tz1))) (se_var (gS (gS (gS (gU (gU (gU (gU (gS g0))))))))) ((s2_eqD (K := K) (qO (nnT (qC qI (q1 qI))))))) (se_op (se_var (gS (gS (gS (gU (gU (gU (gU (gS (gS g0)))))))))) (se_var (gS (gS g0))) ((s2_eqD (K := K) (qL qS)))))) ss_nil))))) (ss_seq (ss_ret (se_andV (se_op (se_var (gS (gS (gS (gU (gU (gU (gU (gS g0))))))))) se_non (s2_isN oT)) (se_andV (se_opR (sr_var (gS (gS (gS (gU (gU (gU (gU (gS (gS (gS g0))))))))))) (sr_of (se_var (gS (gS (gS (gU (gU (gU (gU g0))))))))) ((s2_eqD (K := K) (qL (qT (qC qS (qC qS (q1 (qL qI)))))))) scB) (se_op (se_var (gS (gS (gS (gU (gU (gU (gU (gS (gS g0)))))))))) (se_var (gS (gS g0))) ((s2_eqD (K := K) (qL qS))))))) ss_nil))))))))))), by exact rfl⟩
end
end Lw
namespace Lw
open PySem PySem.Spec PyProof.Rows L2 Fw Mi
local macro_rules | `(tactic| walk_at "m") => `(tactic| simp only [pidx_one, pinS_one, pninS_one, W_some, W_none, W_ob, W_bind, W_pck, W_rb, W_fin, W_finN, W_T, W_F, W_Tr, W_Fa, Rw_nxt, Rw_ret, Rw_cnt, Rf_ret, Rf_nxt, RfN_ret, RfN_nxt, W_finU, RfU_nxt, W_obx, Xf_ok, Xf_er, W_rbx, Xr_ok, Xr_er, W_okx, W_finNX, RfNX_ret, RfNX_nxt, W_finUX, RfUX_nxt, RfUX_er, W_trx, Xt_ok, Xt_er, decide_true, decide_false, Bool.not_true, Bool.not_false])
theorem law_true (ns : List Int) (h : ns.length ≤ 63) : m_law ns = some true := by
  have hz : ∀ k : Nat, k ≤ 16000000 → k ≤ sz := fun k h => by unfold sz; omega
  refine W.eq ?_
  unfold m_law
  walk_at "m"
  refine ⟨hz _ (by show 0 ≤ _; omega), ?_⟩
  refine w_cell (by omega) fun c0 => ⟨by omega, ?_⟩
  refine w_refs (by omega) (by omega) fun refs hrl hr => ?_
  refine W_for (fun i γ => ∃ ls : List (List Nat), γ = (ns, Ln.MS, ls, ()) ∧ ls.length ≤ 3 * i ∧ ∀ l ∈ ls, l.length ≤ 1010) ⟨[], rfl, Nat.zero_le _, fun _ h => nomatch h⟩ ?_ ?_
  · rintro i r γ hx ⟨ls, rfl, hl, hb⟩
    have hi := (List.getElem?_eq_some_iff.mp hx).1
    obtain ⟨hr1, hr2⟩ := hr r (List.mem_of_getElem? hx)
    walk_at "m"
    refine w_cell (by omega) fun c1 => ⟨by omega, by omega, ?_⟩
    refine W.mono (Q := fun _ => True) ?_ fun b _ => ?_
    · refine W_ifD (fun h => ?_) (fun h => ?_)
      · walk_at "m"
        exact ⟨hz _ (by show 0 ≤ _; omega), trivial⟩
      · walk_at "m"
    refine W.mono (Q := fun z => ∃ t : List Nat, z = Res.nxt (ns, Ln.MS, ls, r.1, t, ()) ∧ t.length ≤ 1010) ?_ ?_
    · refine W_ifB (fun h => ?_) (fun h => ?_)
      · walk_at "m"
        have r1 := (rep_flat r.2 (1000 : Int).toNat).1
        rw [show (1000 : Int).toNat = 1000 from rfl] at r1 ⊢
        refine ⟨⟨by omega, hz _ (by omega)⟩, ?_⟩
        refine w_cell (by omega) fun c2 => ⟨by omega, by omega, hz _ (by rw [r1]; omega), ?_⟩
        obtain ⟨k, hk⟩ : ∃ k : Nat, (990 : Int) + c2 / 40 % 21 = (k : Int) := ⟨((990 : Int) + c2 / 40 % 21).toNat, by omega⟩
        rw [hk, pcut_to]
        exact ⟨_, rfl, by rw [List.length_take]; omega⟩
      · walk_at "m"
        exact ⟨_, rfl, by omega⟩
    rintro _ ⟨t, rfl, ht⟩
    rw [Rw_nxt]
    walk_at "m"
    refine w_cell (by omega) fun c3 => ⟨hz _ (by omega), hz _ (by omega), ?_⟩
    refine w_row (by omega) (by omega) fun ms hml hmb => ⟨hz _ (by show 1 + _ ≤ _; omega), ?_⟩
    refine W_lcMap (g := fun m => [Ln.MS.getD m.toNat 0]) (fun m hm => ?_) ?_
    · have := hmb m hm
      obtain ⟨k, rfl⟩ : ∃ k : Nat, m = (k : Int) := ⟨m.toNat, by omega⟩
      have hk : k < Ln.MS.length := by show k < 41; omega
      rw [pixS_nat (List.getElem?_eq_getElem hk) (by show 41 ≤ sz; exact hz _ (by omega)), Int.toNat_natCast, List.getD_eq_getElem?_getD, List.getElem?_eq_getElem hk]
      rfl
    have hml : ms.length = t.length := by omega
    have hj : ((ms.map fun m => [Ln.MS.getD m.toNat 0]).map List.length).sum = t.length := by
      rw [List.map_map, show (List.length ∘ fun m : Int => [Ln.MS.getD m.toNat 0]) = fun _ => 1 from rfl, List.map_const', hml]
      simp
    have hj2 : (joinN [] (ms.map fun m => [Ln.MS.getD m.toNat 0])).length = t.length := by rw [joinN_nil', List.length_flatten, hj]
    refine ⟨hz _ (by rw [List.length_map]; omega), hz _ (by rw [hj, List.length_nil, Nat.mul_zero]; omega), hz _ (by show 3 ≤ _; omega), hz _ (by show _ + 3 ≤ _; omega), _, rfl, by rw [List.length_append]; show _ + 3 ≤ _; omega, fun l hm => ?_⟩
    rcases List.mem_append.mp hm with h1 | h1
    · exact hb l h1
    · simp only [List.mem_cons, List.not_mem_nil, or_false] at h1
      rcases h1 with h1 | h1 | h1
      · rw [h1, List.length_append]; show 1 + _ ≤ _; omega
      · rw [h1]; exact ht
      · rw [h1, hj2]; exact ht
  · rintro γ ⟨ls, rfl, hl, hb⟩
    walk_at "m"
    refine w_cell (by omega) fun c4 => ⟨by omega, ?_⟩
    refine W.mono (Q := fun r => ∃ ls2 : List (List Nat), r = Res.nxt (ns, Ln.MS, ls2, ()) ∧ ls2.length ≤ 20 ∧ ∀ l ∈ ls2, l.length ≤ 1100) ?_ ?_
    · refine W_ifD (fun h => ?_) (fun h => ?_)
      · walk_at "m"
        refine w_cell (by omega) fun c5 => ⟨by omega, ?_⟩
        refine w_spoilt (n := 1010) (by omega) (by omega) hb fun ls2 hl2 hb2 => ?_
        exact ⟨ls2, rfl, by omega, fun l hm => by have := hb2 l hm; omega⟩
      · walk_at "m"
        exact ⟨ls, rfl, by omega, fun l hm => by have := hb l hm; omega⟩
    rintro _ ⟨ls1, rfl, hl1, hb1⟩
    rw [Rw_nxt]
    walk_at "m"
    refine w_cell (by omega) fun c6 => ⟨by omega, ?_⟩
    refine W.mono (Q := fun r => ∃ ls2 : List (List Nat), r = Res.nxt (ns, Ln.MS, ls2, ()) ∧ ls2.length ≤ 300 ∧ ∀ l ∈ ls2, l.length ≤ 2000) ?_ ?_
    · refine W_ifD (fun h => ?_) (fun h => ?_)
      · walk_at "m"
        refine w_cell (by omega) fun c7 => ⟨by omega, ?_⟩
        refine w_spoilt (n := 1100) (by omega) (by omega) hb1 fun ls2 hl2 hb2 => ?_
        exact ⟨ls2, rfl, by omega, fun l hm => by have := hb2 l hm; omega⟩
      · walk_at "m"
        exact ⟨ls1, rfl, by omega, fun l hm => by have := hb1 l hm; omega⟩
    rintro _ ⟨ls2, rfl, hl2, hb2⟩
    rw [Rw_nxt]
    walk_at "m"
    refine W_of (m_lawduer_eq hl2 hb2) ⟨hz _ (by omega), ?_⟩
    refine W_of (m_readreads_eq hl2 hb2) ?_
    generalize Ln.rr ls2.length ls2 0 [] = z
    obtain ⟨f, e⟩ := z
    cases e with
    | none =>
      show Xt _ _ _ (.ok f)
      walk_at "m"
      exact W_of (y := true) rfl rfl
    | some e =>
      show Xt _ _ _ (.error (0, e.1, e.2))
      walk_at "m"
      refine W_of (y := false) rfl ?_
      refine W_of (y := false) rfl ?_
      rw [if_neg (by decide), W_some, Rw_nxt]
      walk_at "m"
      exact ⟨trivial, trivial, trivial⟩

end Lw
namespace Lw
open PySem PySem.Spec PyProof.Rows L2 Fw Mi

theorem law_start {K : PySem.W.Frag} {H : Hp} {a : Addr} {ns : List Int} (hS : SqL K H a (ns.map V.int)) (hl : ns.length ≤ 63) : sp_law K [.ref a] H (fun v _ => v = .bl true) fun _ _ _ => False :=
  ⟨H, (ns, ()), true, Same.refl _, ⟨_, _, rfl, ⟨a, _, rfl, hS, Paired.mk (A := jI.r H) (f := V.int) (fun _ => rfl) ns⟩, rfl⟩, law_true ns hl, fun _ _ _ _ _ r => r.2⟩
/-! ### the head -/
def dd_InvalidLine___init : He.DefD := ⟨("InvalidLine", some "__init__"), "__init__", "InvalidLine.__init__", defArgs s_InvalidLine___init, defBody s_InvalidLine___init, defScope s_InvalidLine___init, [], []⟩
def dd_first_wrong : He.DefD := ⟨("first_wrong", none), "first_wrong", "first_wrong", defArgs s_first_wrong, defBody s_first_wrong, defScope s_first_wrong, [], []⟩
def dd_check_last : He.DefD := ⟨("check_last", none), "check_last", "check_last", defArgs s_check_last, defBody s_check_last, defScope s_check_last, [], []⟩
def dd_name_in : He.DefD := ⟨("name_in", none), "name_in", "name_in", defArgs s_name_in, defBody s_name_in, defScope s_name_in, [], []⟩
def dd_letters_in : He.DefD := ⟨("letters_in", none), "letters_in", "letters_in", defArgs s_letters_in, defBody s_letters_in, defScope s_letters_in, [], []⟩
def dd_marks_in : He.DefD := ⟨("marks_in", none), "marks_in", "marks_in", defArgs s_marks_in, defBody s_marks_in, defScope s_marks_in, [], []⟩
def dd_read_reads : He.DefD := ⟨("read_reads", none), "read_reads", "read_reads", defArgs s_read_reads, defBody s_read_reads, defScope s_read_reads, [], []⟩
def dd_law_cell : He.DefD := ⟨("_law_cell", none), "_law_cell", "_law_cell", defArgs s_law_cell, defBody s_law_cell, defScope s_law_cell, [], []⟩
def dd_law_row : He.DefD := ⟨("_law_row", none), "_law_row", "_law_row", defArgs s_law_row, defBody s_law_row, defScope s_law_row, [], []⟩
def dd_law_text : He.DefD := ⟨("_law_text", none), "_law_text", "_law_text", defArgs s_law_text, defBody s_law_text, defScope s_law_text, [], []⟩
def dd_law_references : He.DefD := ⟨("_law_references", none), "_law_references", "_law_references", defArgs s_law_references, defBody s_law_references, defScope s_law_references, [], []⟩
def dd_law_first : He.DefD := ⟨("_law_first", none), "_law_first", "_law_first", defArgs s_law_first, defBody s_law_first, defScope s_law_first, [], []⟩
def dd_law_name_fault : He.DefD := ⟨("_law_name_fault", none), "_law_name_fault", "_law_name_fault", defArgs s_law_name_fault, defBody s_law_name_fault, defScope s_law_name_fault, [], []⟩
def dd_law_text_fault : He.DefD := ⟨("_law_text_fault", none), "_law_text_fault", "_law_text_fault", defArgs s_law_text_fault, defBody s_law_text_fault, defScope s_law_text_fault, [], []⟩
def dd_law_spoilt : He.DefD := ⟨("_law_spoilt", none), "_law_spoilt", "_law_spoilt", defArgs s_law_spoilt, defBody s_law_spoilt, defScope s_law_spoilt, [], []⟩
def dd_law_marks_fault : He.DefD := ⟨("_law_marks_fault", none), "_law_marks_fault", "_law_marks_fault", defArgs s_law_marks_fault, defBody s_law_marks_fault, defScope s_law_marks_fault, [], []⟩
def dd_law_due : He.DefD := ⟨("_law_due", none), "_law_due", "_law_due", defArgs s_law_due, defBody s_law_due, defScope s_law_due, [], []⟩
def dd_law : He.DefD := ⟨("law", none), "law", "law", defArgs s_law, defBody s_law, defScope s_law, [], []⟩
def fn : List He.DefD := [dd_InvalidLine___init, dd_first_wrong, dd_check_last, dd_name_in, dd_letters_in, dd_marks_in, dd_read_reads, dd_law_cell, dd_law_row, dd_law_text, dd_law_references, dd_law_first, dd_law_name_fault, dd_law_text_fault, dd_law_spoilt, dd_law_marks_fault, dd_law_due, dd_law]
def fa : List He.Fa := [.meth "InvalidLine" "__init__", .glo "first_wrong", .glo "check_last", .glo "name_in", .glo "letters_in", .glo "marks_in", .glo "read_reads", .glo "_law_cell", .glo "_law_row", .glo "_law_text", .glo "_law_references", .glo "_law_first", .glo "_law_name_fault", .glo "_law_text_fault", .glo "_law_spoilt", .glo "_law_marks_fault", .glo "_law_due", .glo "law", .free "range", .free "len", .free "min", .free "int", .free "abs", .free "str", .free "list", .free "isinstance", .free "ValueError", .str "LETTERS" (S [65, 67, 71, 84, 78]), .str "NAME_SIGNS" (S [48, 49, 50, 51, 52, 53, 54, 55, 56, 57, 65, 66, 67, 68, 69, 70, 71, 72, 73, 74, 75, 76, 77, 78, 79, 80, 81, 82, 83, 84, 85, 86, 87, 88, 89, 90, 97, 98, 99, 100, 101, 102, 103, 104, 105, 106, 107, 108, 109, 110, 111, 112, 113, 114, 115, 116, 117, 118, 119, 120, 121, 122]), .str "MARK_SIGNS" (S [48, 49, 50, 51, 52, 53, 54, 55, 56, 57, 65, 66, 67, 68, 69, 70, 71, 72, 73, 74, 75, 76, 77, 78, 79, 80, 81, 82, 83, 84, 85, 86, 87, 88, 89, 90, 97, 98, 99, 100, 101]), .int "LONGEST_NAME" 40, .int "LONGEST_READ" 1000, .glo "HomeError", .exc "HomeError", .glo "InvalidLine", .noat "InvalidLine" "line", .noat "InvalidLine" "column", .glo "InvalidPack", .exc "InvalidPack", .glo "NotAnIndex", .exc "NotAnIndex", .glo "Truncated", .exc "Truncated", .glo "Damaged", .exc "Damaged"]
abbrev R : PySem.W.OpenRow := PySem.W.OpenLaw.row PySem.Challenge.rw_homereads_k05_faults_of_read_lines
def ex (K : PySem.W.Frag) : Bool := Mi.xB K && Mi.oB K
abbrev hk : PySem.W.Hook := Mi.hookY 4 fa fn ex
def ob (s : PySem.W.SharedT) : He.AlD × Bool := Mi.obsY 4 fa fn ex (HandSHeadRun.getT s)
theorem ob_eq (s : PySem.W.SharedT) : ob s = hk.obs s.abs := Mi.obsY_eq (HandSHeadRun.getT_eq s)
def names : List PySem.Str := (["HomeError", "InvalidLine", "InvalidPack", "NotAnIndex", "Truncated", "Damaged", "LETTERS", "NAME_SIGNS", "MARK_SIGNS", "LONGEST_NAME", "LONGEST_READ", "first_wrong", "check_last", "name_in", "letters_in", "marks_in", "read_reads", "_law_cell", "_law_row", "_law_integer", "_law_text", "_law_turned", "_law_read", "_law_references", "_law_first", "_law_name_fault", "_law_text_fault", "_law_spoilt", "_law_marks_fault", "_law_due"] : List PySem.Str)
theorem run (w : World) : HandSHeadRun.RunEq R (PySem.W.view R.prog [33]) hk ob 4000 names w := by
  refine PySem.W.byRow2 "special-get-raises" (P := fun w => HandSHeadRun.RunEq R (PySem.W.view R.prog [33]) hk ob 4000 names w) (fun w => ?_) (fun w => ?_) w
  · intro os
    kernel_rfl
  · intro os
    kernel_rfl
theorem tx {w : World} {K : PySem.W.Frag} {h : Heap} {mg : Str → Option Value} (X : K.In h) (G : h.Ns mainGlobals mg) (c : Mi.SaysY fa fn ex K) : Tx w K mg where
  xf := Mi.xB_ok ((He.ba c.more).1)
  of := Mi.oB_ok ((He.ba c.more).2)
  m_InvalidLine___init := He.meth_ok (c.d.fact 0 (f := .meth "InvalidLine" "__init__") rfl)
  g_first_wrong := He.glo_ok X G (c.d.fact 1 (f := .glo "first_wrong") rfl)
  g_check_last := He.glo_ok X G (c.d.fact 2 (f := .glo "check_last") rfl)
  g_name_in := He.glo_ok X G (c.d.fact 3 (f := .glo "name_in") rfl)
  g_letters_in := He.glo_ok X G (c.d.fact 4 (f := .glo "letters_in") rfl)
  g_marks_in := He.glo_ok X G (c.d.fact 5 (f := .glo "marks_in") rfl)
  g_read_reads := He.glo_ok X G (c.d.fact 6 (f := .glo "read_reads") rfl)
  g_law_cell := He.glo_ok X G (c.d.fact 7 (f := .glo "_law_cell") rfl)
  g_law_row := He.glo_ok X G (c.d.fact 8 (f := .glo "_law_row") rfl)
  g_law_text := He.glo_ok X G (c.d.fact 9 (f := .glo "_law_text") rfl)
  g_law_references := He.glo_ok X G (c.d.fact 10 (f := .glo "_law_references") rfl)
  g_law_first := He.glo_ok X G (c.d.fact 11 (f := .glo "_law_first") rfl)
  g_law_name_fault := He.glo_ok X G (c.d.fact 12 (f := .glo "_law_name_fault") rfl)
  g_law_text_fault := He.glo_ok X G (c.d.fact 13 (f := .glo "_law_text_fault") rfl)
  g_law_spoilt := He.glo_ok X G (c.d.fact 14 (f := .glo "_law_spoilt") rfl)
  g_law_marks_fault := He.glo_ok X G (c.d.fact 15 (f := .glo "_law_marks_fault") rfl)
  g_law_due := He.glo_ok X G (c.d.fact 16 (f := .glo "_law_due") rfl)
  g_law := He.glo_ok X G (c.d.fact 17 (f := .glo "law") rfl)
  z_range := He.free_ok X G (c.d.fact 18 (f := .free "range") rfl)
  z_len := He.free_ok X G (c.d.fact 19 (f := .free "len") rfl)
  z_min := He.free_ok X G (c.d.fact 20 (f := .free "min") rfl)
  z_int := He.free_ok X G (c.d.fact 21 (f := .free "int") rfl)
  z_abs := He.free_ok X G (c.d.fact 22 (f := .free "abs") rfl)
  z_str := He.free_ok X G (c.d.fact 23 (f := .free "str") rfl)
  z_list := He.free_ok X G (c.d.fact 24 (f := .free "list") rfl)
  z_isinstance := He.free_ok X G (c.d.fact 25 (f := .free "isinstance") rfl)
  z_ValueError := He.free_ok X G (c.d.fact 26 (f := .free "ValueError") rfl)
  k_LETTERS := He.str_ok X G (c.d.fact 27 (f := .str "LETTERS" (S [65, 67, 71, 84, 78])) rfl)
  k_NAME_SIGNS := He.str_ok X G (c.d.fact 28 (f := .str "NAME_SIGNS" (S [48, 49, 50, 51, 52, 53, 54, 55, 56, 57, 65, 66, 67, 68, 69, 70, 71, 72, 73, 74, 75, 76, 77, 78, 79, 80, 81, 82, 83, 84, 85, 86, 87, 88, 89, 90, 97, 98, 99, 100, 101, 102, 103, 104, 105, 106, 107, 108, 109, 110, 111, 112, 113, 114, 115, 116, 117, 118, 119, 120, 121, 122])) rfl)
  k_MARK_SIGNS := He.str_ok X G (c.d.fact 29 (f := .str "MARK_SIGNS" (S [48, 49, 50, 51, 52, 53, 54, 55, 56, 57, 65, 66, 67, 68, 69, 70, 71, 72, 73, 74, 75, 76, 77, 78, 79, 80, 81, 82, 83, 84, 85, 86, 87, 88, 89, 90, 97, 98, 99, 100, 101])) rfl)
  k_LONGEST_NAME := He.int_ok X G (c.d.fact 30 (f := .int "LONGEST_NAME" 40) rfl)
  k_LONGEST_READ := He.int_ok X G (c.d.fact 31 (f := .int "LONGEST_READ" 1000) rfl)
  g_HomeError := He.glo_ok X G (c.d.fact 32 (f := .glo "HomeError") rfl)
  e_HomeError := He.exc_ok (c.d.fact 33 (f := .exc "HomeError") rfl)
  g_InvalidLine := He.glo_ok X G (c.d.fact 34 (f := .glo "InvalidLine") rfl)
  n_InvalidLine_line := He.noat_ok (c.d.fact 35 (f := .noat "InvalidLine" "line") rfl)
  n_InvalidLine_column := He.noat_ok (c.d.fact 36 (f := .noat "InvalidLine" "column") rfl)
  g_InvalidPack := He.glo_ok X G (c.d.fact 37 (f := .glo "InvalidPack") rfl)
  e_InvalidPack := He.exc_ok (c.d.fact 38 (f := .exc "InvalidPack") rfl)
  g_NotAnIndex := He.glo_ok X G (c.d.fact 39 (f := .glo "NotAnIndex") rfl)
  e_NotAnIndex := He.exc_ok (c.d.fact 40 (f := .exc "NotAnIndex") rfl)
  g_Truncated := He.glo_ok X G (c.d.fact 41 (f := .glo "Truncated") rfl)
  e_Truncated := He.exc_ok (c.d.fact 42 (f := .exc "Truncated") rfl)
  g_Damaged := He.glo_ok X G (c.d.fact 43 (f := .glo "Damaged") rfl)
  e_Damaged := He.exc_ok (c.d.fact 44 (f := .exc "Damaged") rfl)
  d_InvalidLine___init := c.d.def_ 0 (d := dd_InvalidLine___init) rfl
  d_first_wrong := c.d.def_ 1 (d := dd_first_wrong) rfl
  d_check_last := c.d.def_ 2 (d := dd_check_last) rfl
  d_name_in := c.d.def_ 3 (d := dd_name_in) rfl
  d_letters_in := c.d.def_ 4 (d := dd_letters_in) rfl
  d_marks_in := c.d.def_ 5 (d := dd_marks_in) rfl
  d_read_reads := c.d.def_ 6 (d := dd_read_reads) rfl
  d_law_cell := c.d.def_ 7 (d := dd_law_cell) rfl
  d_law_row := c.d.def_ 8 (d := dd_law_row) rfl
  d_law_text := c.d.def_ 9 (d := dd_law_text) rfl
  d_law_references := c.d.def_ 10 (d := dd_law_references) rfl
  d_law_first := c.d.def_ 11 (d := dd_law_first) rfl
  d_law_name_fault := c.d.def_ 12 (d := dd_law_name_fault) rfl
  d_law_text_fault := c.d.def_ 13 (d := dd_law_text_fault) rfl
  d_law_spoilt := c.d.def_ 14 (d := dd_law_spoilt) rfl
  d_law_marks_fault := c.d.def_ 15 (d := dd_law_marks_fault) rfl
  d_law_due := c.d.def_ 16 (d := dd_law_due) rfl
  d_law := c.d.def_ 17 (d := dd_law) rfl
theorem facts {P : Program} {w : World} {K : PySem.W.Frag} {h : Heap} {mg : Str → Option Value} {f : Addr} (X : K.In h) (G : h.Ns mainGlobals mg) (hfa : mg ("law" : Str) = some (.ref f)) (c : Mi.SaysY fa fn ex K) :
    ∃ fd : FuncData, (∀ (s : Shared) (v : Value), BindsTo s fd ⟨[v], []⟩ [("_law_script", v)]) ∧ ∀ base : Heap, K.In base → base.Ns mainGlobals mg → FnOk P w K mg base CX0 6 f fd ["_law_script"] (sp_law K) := by
  have T := tx (w := w) X G c
  have e := hfa.symm.trans T.g_law
  cases e
  obtain ⟨fd, F⟩ := T.d_law
  have lF := lk_of F
  have b := FunD.bindsA (ps := ["_law_script"]) F fun _ _ _ _ _ _ us hl => match us, hl with | [_], _ => rfl
  refine ⟨fd, fun s v => b s [v] rfl, fun base _ _ => ?_⟩
  obtain ⟨fd2, G2, _, _, l2⟩ := ok_law (P := P) (w := w) (base := base) T
  rw [lk_same lF l2]
  exact G2
end Lw
open PySem PySem.W PySem.Calls PyProof.Rows
set_option maxHeartbeats 0 in
theorem PySem.Challenge.cw_homereads_k05_faults_of_read_lines_holds : PySem.Challenge.rw_homereads_k05_faults_of_read_lines.Holds := by
  w_on; o_law
  refine HandSHeadRun.head_any (r := OpenLaw.row PySem.Challenge.rw_homereads_k05_faults_of_read_lines) (q := view (OpenLaw.row PySem.Challenge.rw_homereads_k05_faults_of_read_lines).prog [33]) (H := Lw.hk) (ob := Lw.ob) (M := 4000) (loose := Lw.names) (d := HandSHeadRun.topDef (OpenLaw.row PySem.Challenge.rw_homereads_k05_faults_of_read_lines).prog 33) (kwd := []) Lw.ob_eq
    (by kernel_rfl) (fun s => by kernel_rfl) Lw.run (by kernel_rfl) (by kernel_rfl) (by kernel_rfl) (by rfl) (by first | assumption | decide +kernel) (by decide +kernel) ⟨rfl, rfl, rfl, rfl, rfl, by decide +kernel⟩ ?hw ?hc
  case hw => w_witness2
  case hc =>
    refine L2.walk_ofE (l := PySem.Challenge.rw_homereads_k05_faults_of_read_lines) (n := 63) (k := 6) (x := "_law_script") (CX := L2.CX0) rfl (by decide) (by kernel_rfl) ⟨rfl, by decide, by decide⟩ ?F (fun _ _ _ _ z => z)
    intro w mg fa h Y G hmg0
    obtain ⟨K, KX, c⟩ := Y
    have hmg : mg ("law" : PySem.Str) = some (.ref fa) := by
      have e : (HandSHeadRun.topDef (OpenLaw.row PySem.Challenge.rw_homereads_k05_faults_of_read_lines).prog 33).name = ("law" : PySem.Str) := by kernel_rfl
      rw [← e]
      exact hmg0
    obtain ⟨fd, hb, hF⟩ := Lw.facts (P := (PySem.Challenge.rw_homereads_k05_faults_of_read_lines).prog) (w := w) KX G hmg c
    exact ⟨K, fd, Lw.sp_law K, KX, hb, fun H a ns hl _ hS => Lw.law_start hS hl, hF⟩
