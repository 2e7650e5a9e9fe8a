import PyProof.Rows.All
import Wide.All
import OpenK.AllK
import Wide.FinOn
import HandS.ForMost
import HandS.Exc
import HandS.ExcOwn
import HandS.TryOnly
import HandS.ExcField
import HandS.Evl
import HandS.Conv
import HandS.Text
import KE.DatumOrd
import HandS.Walk
import HandS.ExcInit
import KE.KSuper
import KE.KExcSuper
import KE.GoesRaise
import HandS.WordsExc
import KE.SortData
import HandS.ForDict
import PyProof.Rows.StrRev
import HandS.Words
import HandS.More
import HandS.DictComp
import HandS.Style
import HandS.WordsDict
import HandS.Base
import HandS.Call
import HandS.Comp
import HandS.Codes
import HandS.Lambda
import KE.DatumMore
import HandS.HotCalls
import HandS.ExcInitHot
import HandS.EndTab
import HandS.Ends
import KE.RegKSuper
import PySem.Challenge.RW_sameinsameout_k15_whole_waves_of_machine
set_option Elab.async false
set_option linter.all false
set_option maxRecDepth 100000
set_option maxHeartbeats 2000000
/-! Helpers: a def of the text as one fact (Has); another view of what is tracked (retype). -/
namespace Mx
open PySem PySem.Spec PyProof.Rows L2

/-! ### a def as one fact -/
def Has (P : Program) (w : World) (K : PySem.W.Frag) (mg : Str → Option Value) (base : Heap) (CX : CXT) (k : Nat) (x : Str) (ps : List Str) (sp : Sp) : Prop :=
  ∃ (f : Addr) (fd : FuncData), mg x = some (.ref f) ∧ PySem.W.keepIn K (.ref f) = true ∧ Binds K fd ps [] ∧ FnOk P w K mg base CX k f fd ps sp
section
variable {X : Cx} {CX : CXT} {k : Nat} {x : Str} {ps : List Str} {sp : Sp} {p pos : Pos} {e : Expr} {es : List Expr} {t : TA}
theorem pe_h {j : Nat} (F : Has X.prog X.w X.K X.mg X.base CX k x ps sp) (hr : Room j X.A) (hg : Gl X x) {E : XK} (hx : Passes CX X E) (ha : PA X (e :: es) t) (hj : k ≤ j := by decide) (hdb : (x == ("__debug__" : Str)) = false := by decide +kernel)
    (he : starEach (e :: es) X.env = (false, eval e X.env) :: starEach es X.env := by rfl) (hpl : (backTo pos (starEach es X.env)).any (·.1) = false := by rfl) : PE X (.Call (.Name x p) (e :: es) [] pos) (tCall sp [] E t) := by
  obtain ⟨f, fd, hm, hk, hb, G⟩ := F
  exact pe_call G (hr.mono hj) hg hm hk hb .nil hx ha hdb he hpl
theorem pe_hS {j : Nat} {E : L2.St → XK} (F : Has X.prog X.w X.K X.mg X.base CX k x ps sp) (hr : Room j X.A) (hg : Gl X x) (hx : ∀ σ, PassesAt CX X σ (E σ)) (ha : PA X (e :: es) t) (hj : k ≤ j := by decide) (hdb : (x == ("__debug__" : Str)) = false := by decide +kernel)
    (he : starEach (e :: es) X.env = (false, eval e X.env) :: starEach es X.env := by rfl) (hpl : (backTo pos (starEach es X.env)).any (·.1) = false := by rfl) : PE X (.Call (.Name x p) (e :: es) [] pos) (tCallS sp E t) := by
  obtain ⟨f, fd, hm, hk, hb, G⟩ := F
  exact pe_callS G (hr.mono hj) hg hm hk hb hx ha hdb he hpl
end

/-! ### rules whose reading names the fragment, for use within a comprehension -/
section
variable {X : Cx} {K' : PySem.W.Frag} {a o e tg : Expr} {ta to te : TE} {p pos apos : Pos}
theorem pe_tupleK (hK : X.K = K') (hg : Gl X "tuple") (hm : X.mg "tuple" = none) (ha : PE X a ta) (na : starEach [a] X.env = (false, eval a X.env) :: starEach [] X.env := by rfl) :
    PE X (.Call (.Name "tuple" p) [a] [] pos) (tThen ta (kTup K')) := by
  subst hK
  exact pe_tupleOf hg hm ha na
abbrev rJoin (K : PySem.W.Frag) : V → List V → Hp → VK → Prop := fun x xs H Q => ∃ a p, ∃ ys : List Str, x = .str a ∧ xs = [.ref p] ∧ (SqL K H p (ys.map V.str) ∨ SqT K H p (ys.map V.str)) ∧
      (ys.map (·.length)).sum + ys.length * a.length ≤ 16777216 ∧ Q (.str (Txt.join a ys)) H
theorem pe_joinK (hK : X.K = K') (ho : PE X o to) (he : PE X e te) (hs : starEach [e] X.env = [(false, eval e X.env)] := by rfl) (hbase : attributeBase o "join" X.env (eval o X.env) = eval o X.env := by rfl) (hline : (apos.endLine == pos.line) = true := by rfl) :
    PE X (.Call (.Attribute o "join" apos) [e] [] pos) (tM1 (rJoin K') to te) := by
  subst hK
  exact pe_join ho he hs hbase hline
theorem pi_tupK (hK : X.K = K') (he : PE X e te) : PI X tg e (iTup K' te) := by
  subst hK
  exact pi_tup he
end

/-! ### another view of what is tracked -/
structure Compat (H H' : Hp) : Prop where
  none : ∀ b, H b = none ↔ H' b = none
  tup : ∀ b xs, H b = some (.tup xs) ↔ H' b = some (.tup xs)
  frz : ∀ b o u, H b = some (.frz o u) ↔ H' b = some (.frz o u)
  tbl : ∀ b ps, H b = some (.tbl ps) ↔ H' b = some (.tbl ps)
def plainO : HO → Bool
  | .lst _ => true
  | .dK _ => true
  | .dT _ => true
  | .set _ _ => true
  | .ext _ => true
  | _ => false
theorem Compat.upd {H : Hp} {p : Addr} {o1 o2 : HO} (h : H p = some o1) (h1 : plainO o1 = true) (h2 : plainO o2 = true) : Compat H (L2.upd H p o2) := by
  have key : ∀ (b : Addr) (o : HO), plainO o = false → (H b = some o ↔ L2.upd H p o2 b = some o) := fun b o ho => by
    by_cases e : b = p
    · rw [e, upd_same, h]
      constructor
      · intro q
        cases q
        rw [h1] at ho
        cases ho
      · intro q
        cases q
        rw [h2] at ho
        cases ho
    · rw [upd_ne e]
  refine ⟨fun b => ?_, fun b xs => key b _ rfl, fun b o u => key b _ rfl, fun b ps => key b _ rfl⟩
  by_cases e : b = p
  · rw [e, upd_same, h]
    constructor <;> intro q <;> cases q
  · rw [upd_ne e]
theorem Compat.refl (H : Hp) : Compat H H := ⟨fun _ => Iff.rfl, fun _ _ => Iff.rfl, fun _ _ _ => Iff.rfl, fun _ _ => Iff.rfl⟩
theorem HOk.retype {P : Program} {w : World} {H : Hp} {h : Heap} {p : Addr} {o1 o2 : HO} (ok : HOk P w H h) (hp : H p = some o1) (h1 : plainO o1 = true) (new : ObjOk P w (L2.upd H p o2) h p o2) : HOk P w (L2.upd H p o2) h := fun b o e => by
  by_cases hb : b = p
  · subst hb
    rw [upd_same] at e
    cases e
    exact new
  · rw [upd_ne hb] at e
    refine (ok b o e).stay (fun _ _ _ q => q) (fun c q => ?_) fun c xs q => ?_
    · rw [upd_ne (fun z => by rw [z, hp] at q; cases q; cases h1)]
      exact q
    · rw [upd_ne (fun z => by rw [z, hp] at q; cases q; cases h1)]
      exact q
theorem FnOk.retype {P : Program} {w : World} {K : PySem.W.Frag} {mg : Str → Option Value} {base : Heap} {k : Nat} {f : Addr} {fd : FuncData} {ps : List Str} {sp0 sp : Sp} (F : FnOk P w K mg base CX0 k f fd ps sp0)
    (len : ∀ vs H Q E, sp vs H Q E → vs.length = ps.length)
    (h : ∀ (vs : List V) (H : Hp) (Q : VK) (E : XK) (hp : Heap), HOk P w H hp → sp vs H Q E → ∃ H0, HOk P w H0 hp ∧ Compat H H0 ∧
      sp0 vs H0 (fun v H1 => ∀ h', HOk P w H1 h' → ∃ H', HOk P w H' h' ∧ Compat H1 H' ∧ Q v H') E) : FnOk P w K mg base CX0 k f fd ps sp := by
  refine ⟨len, fun A outer s H args us vs Q E hr e0 hb hv hs => ?_⟩
  obtain ⟨H0, ok0, c0, q0⟩ := h vs H Q E s.heap e0.hok hs
  have e1 : Env0 P w K mg base A outer s H0 := ⟨e0.frames, e0.mod, fun b o e => ⟨(e0.bs b o e).1, (c0.none b).mp (e0.bs b o e).2⟩, e0.bsz, e0.funs, fun b hb => (c0.none b).mp (e0.frf b hb), ok0, e0.bare⟩
  refine codeAny_mono (F.run A outer s H0 args us vs _ E hr e1 hb hv q0) fun r s' z => ?_
  cases r with
  | error e => exact z
  | ok fl =>
    cases fl with
    | ret u =>
      obtain ⟨v, H1, os, bare, un, ok1, rv, q⟩ := z
      obtain ⟨H', ok', c1, qv⟩ := q _ ok1
      refine ⟨v, H', os, bare, ⟨fun b o e n => un.keep b o e ((c0.none b).mp n), fun b o e n => un.slot b o e ((c0.none b).mp n), fun b o e n hx => (c1.none b).mp (un.free b o e ((c0.none b).mp n) hx), un.there,
        fun b xs e => (c1.tup b xs).mp (un.tups b xs ((c0.tup b xs).mp e)), fun b o u e => (c1.frz b o u).mp (un.frzs b o u ((c0.frz b o u).mp e)), fun b ps e => ?_⟩, ok', rv, qv⟩
      obtain ⟨more, e'⟩ := un.tbls b ps ((c0.tbl b ps).mp e)
      exact ⟨more, (c1.tbl b _).mp e'⟩
    | next => exact z
    | brk => exact z
    | cont => exact z
end Mx
set_option Elab.async false
set_option linter.all false
set_option maxRecDepth 100000
set_option maxHeartbeats 2000000
/-! Values of which a predicate is known, over growing heaps. -/
namespace Mx
open PySem PySem.Spec PyProof.Rows L2 Evl

def EvP (te : TE) (σ : L2.St) (H : Hp) (R : V → Hp → Prop) : Prop := ∀ H1, Ex H H1 → ∀ Q : VK, (∀ v H2, Ex H1 H2 → R v H2 → Q v H2) → te σ H1 Q
/-- a predicate that growing keeps -/
def Tx (H H' : Hp) : Prop := ∀ a xs, H a = some (.tup xs) → H' a = some (.tup xs)
theorem Tx.of {H H' : Hp} (e : Ex H H') : Tx H H' := fun a _ h => e a _ h
theorem Tx.trans {H H1 H2 : Hp} (a : Tx H H1) (b : Tx H1 H2) : Tx H H2 := fun c o h => b c o (a c o h)
theorem Tx.lst {H : Hp} {p : Addr} {xs : List V} {o : HO} (h : H p = some (.lst xs)) : Tx H (upd H p o) := fun a ys e => by
  rw [upd_ne (fun z => by rw [z, h] at e; cases e)]
  exact e
def Mono (R : V → Hp → Prop) : Prop := ∀ v H H', Tx H H' → R v H → R v H'
section
variable {σ : L2.St} {H H' : Hp} {te ta tb : TE} {R R1 RB : V → Hp → Prop} {v : V} {K : PySem.W.Frag}
theorem Ev.p (h : Ev te σ H v) : EvP te σ H (fun u _ => u = v) := fun H1 e Q q => h H1 e Q fun H2 e2 => q v H2 e2 rfl
theorem EvL.p {xs : List V} (h : EvL te σ H xs) : EvP te σ H (fun u H2 => ∃ p, u = .ref p ∧ H2 p = some (.lst xs)) := fun H1 e Q q => h H1 e Q fun p H2 _ e2 h2 => q _ H2 e2 ⟨p, rfl, h2⟩
theorem EvU.p {xs : List V} (h : EvU te σ H xs) : EvP te σ H (fun u H2 => ∃ p, u = .ref p ∧ H2 p = some (.tup xs)) := fun H1 e Q q => h H1 e Q fun p H2 _ e2 h2 => q _ H2 e2 ⟨p, rfl, h2⟩
theorem EvP.mono (e : Ex H H') (h : EvP te σ H R) : EvP te σ H' R := fun H1 a Q q => h H1 (e.trans a) Q q
theorem EvP.imp (h : EvP te σ H R) (hr : ∀ v H2, Ex H H2 → R v H2 → R1 v H2) : EvP te σ H R1 := fun H1 e Q q => h H1 e Q fun v H2 e2 r => q v H2 e2 (hr v H2 (e.trans e2) r)
theorem evp_op {r : R2} (ha : EvP ta σ H R1) (hb : ∀ v H1, Ex H H1 → R1 v H1 → EvP tb σ H1 RB)
    (hr : ∀ x y H1 H2, Ex H H1 → R1 x H1 → Ex H1 H2 → RB y H2 → ∀ Q : VK, (∀ z H3, Ex H2 H3 → R z H3 → Q z H3) → r x y H2 Q) : EvP (tOp r ta tb) σ H R := fun H1 e Q q =>
  ha H1 e _ fun x H2 e2 r1 => hb x H2 (e.trans e2) r1 H2 (Ex.refl H2) _ fun y H3 e3 r2 => hr x y H2 H3 (e.trans e2) r1 e3 r2 Q fun z H4 e4 => q z H4 ((e2.trans e3).trans e4)
/-- what a list at p is known of -/
def LstOf (n : Nat) (R : Nat → V → Hp → Prop) (v : V) (H : Hp) : Prop := ∃ p xs, v = .ref p ∧ H p = some (.lst xs) ∧ xs.length = n ∧ ∀ i x, xs[i]? = some x → R i x H
def TupOf (n : Nat) (R : Nat → V → Hp → Prop) (v : V) (H : Hp) : Prop := ∃ p xs, v = .ref p ∧ H p = some (.tup xs) ∧ xs.length = n ∧ ∀ i x, xs[i]? = some x → R i x H
theorem LstOf.ex {n : Nat} {R : Nat → V → Hp → Prop} (hm : ∀ i, Mono (R i)) {v : V} {H H' : Hp} (e : Ex H H') : LstOf n R v H → LstOf n R v H' := fun ⟨p, xs, a, b, c, d⟩ => ⟨p, xs, a, e _ _ b, c, fun i x hx => hm i _ _ _ (.of e) (d i x hx)⟩
theorem TupOf.mono {n : Nat} {R : Nat → V → Hp → Prop} (hm : ∀ i, Mono (R i)) : Mono (TupOf n R) := fun v H H' e ⟨p, xs, a, b, c, d⟩ => ⟨p, xs, a, e _ _ b, c, fun i x hx => hm i _ _ _ e (d i x hx)⟩
theorem get_snoc {α : Type} {xs : List α} {y x : α} {i : Nat} (h : (xs ++ [y])[i]? = some x) : (xs[i]? = some x) ∨ (i = xs.length ∧ x = y) := by
  rw [List.getElem?_append] at h
  split at h
  · exact .inl h
  · rename_i hn
    have : i - xs.length = 0 := by
      cases q : i - xs.length with
      | zero => rfl
      | succ m => rw [q] at h; simp at h
    rw [this] at h
    exact .inr ⟨by omega, (Option.some.inj h).symm⟩
/-- [elt for _ in range(n)]: n known by a predicate -/
theorem evp_lcR {N : Nat} {te0 : TE} {j : Nat} {vs : List Nat} {R : Nat → V → Hp → Prop} (hN : N ≤ 40000) (hm : ∀ i, Mono (R i)) (h : EvP te0 σ H (fun v _ => ∃ n : Nat, v = .int (n : Int) ∧ n ≤ N)) (hw : ∀ x, wipe ((wipe σ vs).set j (some x)) vs = wipe σ vs)
    (he : ∀ (i : Nat) H1, Ex H H1 → i < N → EvP te ((wipe σ vs).set j (some (.int (i : Int)))) H1 (R i)) : EvP (tLc (iRng1 (tCons te0 tNil)) (gName j) tYes te vs) σ H (fun v H2 => ∃ n, n ≤ N ∧ LstOf n R v H2) := fun H0 e Q q =>
  h H0 e _ fun v H1 e1 ⟨n, ev, hn⟩ => by
    subst ev
    refine ⟨(n : Int), rfl, by omega, by omega, fun D hD => ?_⟩
    rw [Int.toNat_natCast]
    refine lc_range (lo := 0) (n := n) (fun i H' => H1 D = none ∧ Ex H1 H' ∧ ∃ acc, H' D = some (.lst acc) ∧ acc.length = i ∧ ∀ k x, acc[k]? = some x → R k x H') ⟨hD, Ex.new hD, [], upd_same, rfl, fun k x z => by simp at z⟩ (fun i H' hi p => ?_) fun H' p => ?_
    · obtain ⟨p1, p2, acc, p3, p4, p5⟩ := p
      refine ⟨hw _, ?_⟩
      rw [Int.zero_add]
      refine he i H' ((e.trans e1).trans p2) (by omega) H' (Ex.refl H') _ fun y H4 e4 r => ⟨acc, e4 _ _ p3, sz_lt (by omega), p1, Ex.mut (p2.trans e4) p1, acc ++ [y], upd_same, by simp [p4], fun k x hx => ?_⟩
      have tx : Tx H4 (upd H4 D (.lst (acc ++ [y]))) := Tx.lst (e4 _ _ p3)
      rcases get_snoc hx with z | ⟨z1, z2⟩
      · exact hm k _ _ _ ((Tx.of e4).trans tx) (p5 k x z)
      · rw [z1, p4, z2]
        exact hm _ _ _ _ tx r
    · obtain ⟨p1, p2, acc, p3, p4, p5⟩ := p
      exact q _ H' (e1.trans p2) ⟨n, hn, D, acc, rfl, p3, p4, p5⟩
/-- [elt for _ in range(n)]: n known -/
theorem evp_lcRn {N : Nat} {te0 : TE} {j : Nat} {vs : List Nat} {R : Nat → V → Hp → Prop} (hN : N ≤ 40000) (hm : ∀ i, Mono (R i)) (h : Ev te0 σ H (.int (N : Int))) (hw : ∀ x, wipe ((wipe σ vs).set j (some x)) vs = wipe σ vs)
    (he : ∀ (i : Nat) H1, Ex H H1 → i < N → EvP te ((wipe σ vs).set j (some (.int (i : Int)))) H1 (R i)) : EvP (tLc (iRng1 (tCons te0 tNil)) (gName j) tYes te vs) σ H (LstOf N R) := fun H0 e Q q =>
  h H0 e _ fun H1 e1 => by
    refine ⟨(N : Int), rfl, by omega, by omega, fun D hD => ?_⟩
    rw [Int.toNat_natCast]
    refine lc_range (lo := 0) (n := N) (fun i H' => H1 D = none ∧ Ex H1 H' ∧ ∃ acc, H' D = some (.lst acc) ∧ acc.length = i ∧ ∀ k x, acc[k]? = some x → R k x H') ⟨hD, Ex.new hD, [], upd_same, rfl, fun k x z => by simp at z⟩ (fun i H' hi p => ?_) fun H' p => ?_
    · obtain ⟨p1, p2, acc, p3, p4, p5⟩ := p
      refine ⟨hw _, ?_⟩
      rw [Int.zero_add]
      refine he i H' ((e.trans e1).trans p2) (by omega) H' (Ex.refl H') _ fun y H4 e4 r => ⟨acc, e4 _ _ p3, sz_lt (by omega), p1, Ex.mut (p2.trans e4) p1, acc ++ [y], upd_same, by simp [p4], fun k x hx => ?_⟩
      have tx : Tx H4 (upd H4 D (.lst (acc ++ [y]))) := Tx.lst (e4 _ _ p3)
      rcases get_snoc hx with z | ⟨z1, z2⟩
      · exact hm k _ _ _ ((Tx.of e4).trans tx) (p5 k x z)
      · rw [z1, p4, z2]
        exact hm _ _ _ _ tx r
    · obtain ⟨p1, p2, acc, p3, p4, p5⟩ := p
      exact q _ H' (e1.trans p2) ⟨D, acc, rfl, p3, p4, p5⟩
/-- [elt for x in a list] -/
theorem evp_lcL {N : Nat} {tl : TE} {j : Nat} {vs : List Nat} {S R : Nat → V → Hp → Prop} (hN : N ≤ 40000) (hs : ∀ i, Mono (S i)) (hm : ∀ i, Mono (R i)) (h : EvP tl σ H (fun v H2 => ∃ n, n ≤ N ∧ LstOf n S v H2)) (hw : ∀ x, wipe ((wipe σ vs).set j (some x)) vs = wipe σ vs)
    (he : ∀ (i : Nat) (x : V) H1, Ex H H1 → i < N → S i x H1 → EvP te ((wipe σ vs).set j (some x)) H1 (R i)) : EvP (tLc (iList K tl) (gName j) tYes te vs) σ H (fun v H2 => ∃ n, n ≤ N ∧ LstOf n R v H2) := fun H0 e Q q =>
  h H0 e _ fun v H1 e1 ⟨n, hn, a, xs, ev, ha, hl, hx⟩ => by
    subst ev
    refine ⟨a, rfl, ⟨xs, sq_of ha⟩, fun D hD => ?_⟩
    refine lc_list (xs := xs) (fun i H' => H1 D = none ∧ Ex H1 H' ∧ ∃ acc, H' D = some (.lst acc) ∧ acc.length = i ∧ ∀ k x, acc[k]? = some x → R k x H') ⟨hD, Ex.new hD, [], upd_same, rfl, fun k x z => by simp at z⟩ (fun i H' _ p => sq_of (p.2.1 _ _ ha)) (fun i x H' hi p => ?_) fun H' p => ?_
    · obtain ⟨p1, p2, acc, p3, p4, p5⟩ := p
      have lt : i < xs.length := (List.getElem?_eq_some_iff.mp hi).1
      refine ⟨hw _, ?_⟩
      refine he i x H' ((e.trans e1).trans p2) (by omega) (hs i _ _ _ (.of p2) (hx i x hi)) H' (Ex.refl H') _ fun y H4 e4 r => ⟨acc, e4 _ _ p3, sz_lt (by omega), p1, Ex.mut (p2.trans e4) p1, acc ++ [y], upd_same, by simp [p4], fun k x hx => ?_⟩
      have tx : Tx H4 (upd H4 D (.lst (acc ++ [y]))) := Tx.lst (e4 _ _ p3)
      rcases get_snoc hx with z | ⟨z1, z2⟩
      · exact hm k _ _ _ ((Tx.of e4).trans tx) (p5 k x z)
      · rw [z1, p4, z2]
        exact hm _ _ _ _ tx r
    · obtain ⟨p1, p2, acc, p3, p4, p5⟩ := p
      exact q _ H' (e1.trans p2) ⟨n, hn, D, acc, rfl, p3, p4.trans hl, p5⟩
/-- tuple(a list) -/
theorem evp_tup {N : Nat} {R : Nat → V → Hp → Prop} (hm : ∀ i, Mono (R i)) (h : EvP te σ H (fun v H2 => ∃ n, n ≤ N ∧ LstOf n R v H2)) : EvP (tThen te (kTup K)) σ H (fun v H2 => ∃ n, n ≤ N ∧ TupOf n R v H2) := fun H0 e Q q =>
  h H0 e _ fun v H1 e1 ⟨n, hn, a, xs, ev, ha, hl, hx⟩ => by
    subst ev
    exact .inl ⟨a, xs, rfl, sq_of ha, fun p hp => q _ _ (e1.trans (Ex.new hp)) ⟨n, hn, p, xs, rfl, upd_same, hl, fun i x z => hm i _ _ _ (.of (Ex.new hp)) (hx i x z)⟩⟩
theorem evp_tupn {N : Nat} {R : Nat → V → Hp → Prop} (hm : ∀ i, Mono (R i)) (h : EvP te σ H (LstOf N R)) : EvP (tThen te (kTup K)) σ H (TupOf N R) := fun H0 e Q q =>
  h H0 e _ fun v H1 e1 ⟨a, xs, ev, ha, hl, hx⟩ => by
    subst ev
    exact .inl ⟨a, xs, rfl, sq_of ha, fun p hp => q _ _ (e1.trans (Ex.new hp)) ⟨p, xs, rfl, upd_same, hl, fun i x z => hm i _ _ _ (.of (Ex.new hp)) (hx i x z)⟩⟩
end
end Mx
set_option Elab.async false
set_option linter.all false
set_option maxRecDepth 100000
set_option maxHeartbeats 2000000
/-! Comparisons of data that a Lean type tells. -/
namespace Mx
open PySem PySem.Spec PyProof.Rows L2
open PySem.W (Datum DatumOrd Tup)

def Dt {α : Type} [DecidableEq α] [Datum α] (K : PySem.W.Frag) (H : Hp) (v : V) (x : α) : Prop := Dp K H v (Datum.toD x)
section
variable {α β : Type} [DecidableEq α] [DecidableEq β] {X : Cx} {K : PySem.W.Frag} {H : Hp}
theorem Dt.holds [Datum α] {pins : List (Addr × Obj)} {σ : L2.St} {s : Shared} {v : V} {u : Value} {x : α} (I : Inv X pins σ H s) (h : Dt X.K H v x) (r : RelV v u) : PySem.W.Holds s.heap u x := Dp.reads I _ v u h r
theorem dt_int {i : Int} : Dt K H (.int i) i := Dp.int i
theorem dt_str {x : Str} : Dt K H (.str x) x := Dp.str x
theorem dpAll_map [Datum α] {f : α → V} : ∀ {xs : List α}, (∀ x ∈ xs, Dt K H (f x) x) → DpAll K H (xs.map f) (xs.map Datum.toD)
  | [], _ => .nil
  | x :: xs, h => .cons (h x (List.mem_cons_self ..)) (dpAll_map fun y hy => h y (List.mem_cons_of_mem _ hy))
theorem dpAll_pair [Datum α] : ∀ {vs : List V} {xs : List α}, Paired (fun v x => Dt K H v x) vs xs → DpAll K H vs (xs.map Datum.toD)
  | _, _, .nil => .nil
  | _, _, .cons h t => .cons h (dpAll_pair t)
theorem dt_tup [Datum α] {a : Addr} {vs : List V} {xs : List α} (h : SqT K H a vs) (hp : DpAll K H vs (xs.map Datum.toD)) : Dt K H (.ref a) (Tup.mk xs) := Dp.tup h hp
theorem dt_lst [Datum α] {a : Addr} {vs : List V} {xs : List α} (h : SqL K H a vs) (hp : DpAll K H vs (xs.map Datum.toD)) : Dt K H (.ref a) xs := Dp.lst h hp
theorem dt_pair [Datum α] [Datum β] {a : Addr} {v u : V} {x : α} {y : β} (h : SqT K H a [v, u]) (hx : Dt K H v x) (hy : Dt K H u y) : Dt K H (.ref a) (x, y) := Dp.tup h (.cons hx (.cons hy .nil))
theorem dt_ints {a : Addr} {ns : List Int} (h : SqT K H a (ns.map V.int)) : Dt K H (.ref a) (Tup.mk ns) := dt_tup h (dpAll_map fun _ _ => dt_int)
/-- two data compared, the answer a Bool of them -/
def rDt (α : Type) [DecidableEq α] [Datum α] (K : PySem.W.Frag) (f : α → α → Bool) : R2 := fun x y H Q => ∃ a b : α, Dt K H x a ∧ Dt K H y b ∧ Q (.bl (f a b)) H
theorem op_eqT [Datum α] (hu : X.A.units + Datum.depth α < cLine) : OpR X (compareOp .Eq) (rDt α X.K fun a b => decide (a = b)) := by
  intro pins s σ H x y v u Q I rx ry h
  obtain ⟨a, b, ha, hb, q⟩ := h
  exact PySem.W.eq_datum (ha.holds I rx) (hb.holds I ry) hu ⟨.bl _, H, I, rfl, q⟩
theorem op_neT [Datum α] (hu : X.A.units + Datum.depth α < cLine) : OpR X (compareOp .NotEq) (rDt α X.K fun a b => decide (a ≠ b)) := by
  intro pins s σ H x y v u Q I rx ry h
  obtain ⟨a, b, ha, hb, q⟩ := h
  exact PySem.W.ne_datum (ha.holds I rx) (hb.holds I ry) hu ⟨.bl _, H, I, rfl, q⟩
theorem op_ltD [DatumOrd α] (hu : X.A.units + Datum.depth α < cLine) : OpR X (compareOp .Lt) (rDt α X.K fun a b => DatumOrd.lt a b) := by
  intro pins s σ H x y v u Q I rx ry h
  obtain ⟨a, b, ha, hb, q⟩ := h
  exact PySem.W.lt_datum (ha.holds I rx) (hb.holds I ry) hu ⟨.bl _, H, I, rfl, q⟩
theorem op_gtD [DatumOrd α] (hu : X.A.units + Datum.depth α < cLine) : OpR X (compareOp .Gt) (rDt α X.K fun a b => DatumOrd.lt b a) := by
  intro pins s σ H x y v u Q I rx ry h
  obtain ⟨a, b, ha, hb, q⟩ := h
  exact PySem.W.gt_datum (ha.holds I rx) (hb.holds I ry) hu ⟨.bl _, H, I, rfl, q⟩
theorem op_leD [DatumOrd α] (hu : X.A.units + Datum.depth α < cLine) : OpR X (compareOp .LtE) (rDt α X.K fun a b => !DatumOrd.lt b a) := by
  intro pins s σ H x y v u Q I rx ry h
  obtain ⟨a, b, ha, hb, q⟩ := h
  exact PySem.W.le_datum (ha.holds I rx) (hb.holds I ry) hu ⟨.bl _, H, I, rfl, q⟩
theorem op_geD [DatumOrd α] (hu : X.A.units + Datum.depth α < cLine) : OpR X (compareOp .GtE) (rDt α X.K fun a b => !DatumOrd.lt a b) := by
  intro pins s σ H x y v u Q I rx ry h
  obtain ⟨a, b, ha, hb, q⟩ := h
  exact PySem.W.ge_datum (ha.holds I rx) (hb.holds I ry) hu ⟨.bl _, H, I, rfl, q⟩
end
/-- tuples of numbers -/
abbrev TI := Tup Int
theorem uT {k : Nat} {A : Around} (r : Room k A) : A.units + Datum.depth TI < cLine := Nat.lt_of_le_of_lt (Nat.add_le_add_left (by decide : 1 ≤ 64) _) r.units
end Mx
set_option Elab.async false
set_option linter.all false
set_option maxRecDepth 100000
set_option maxHeartbeats 2000000
/-! More of what evaluates: texts walked, calls by values. -/
namespace Mx
open PySem PySem.Spec PyProof.Rows L2 Evl TL
open PySem.W (Datum DatumOrd Tup)
section
variable {σ : L2.St} {H H' : Hp} {te ta tb te0 : TE} {v : V} {K : PySem.W.Frag}
/-- data stays while the heap grows -/
theorem sqT_ex {a : Addr} {xs : List V} (e : Ex H H') (h : SqT K H a xs) : SqT K H' a xs := ex_t e h
mutual
theorem dp_ex (e : Ex H H') : ∀ (d : PyData) (v : V), Dp K H v d → Dp K H' v d
  | .none, _, h => by cases h; exact .non
  | .bool b, _, h => by cases h; exact .bl b
  | .int i, _, h => by cases h; exact .int i
  | .str x, _, h => by cases h; exact .str x
  | .list ds, _, h => by
    cases h with
    | lst hs ha => exact .lst (ex_l e hs) (dpAll_ex e ds _ ha)
  | .tuple ds, _, h => by
    cases h with
    | tup hs ha => exact .tup (ex_t e hs) (dpAll_ex e ds _ ha)
  | .dict _, _, h => by cases h
theorem dpAll_ex (e : Ex H H') : ∀ (ds : List PyData) (vs : List V), DpAll K H vs ds → DpAll K H' vs ds
  | [], _, h => by cases h; exact .nil
  | d :: ds, _, h => by
    cases h with
    | cons h1 h2 => exact .cons (dp_ex e d _ h1) (dpAll_ex e ds _ h2)
end
theorem Dt.ex {α : Type} [DecidableEq α] [Datum α] {x : α} (e : Ex H H') (h : Dt K H v x) : Dt K H' v x := dp_ex e _ _ h
theorem dt_tup_inv {α : Type} [DecidableEq α] [Datum α] {xs : List α} (h : Dt K H v (Tup.mk xs)) : ∃ a vs, v = .ref a ∧ SqT K H a vs ∧ DpAll K H vs (xs.map Datum.toD) := by
  have h' : Dp K H v (.tuple (xs.map Datum.toD)) := h
  cases h' with
  | tup hs ha => exact ⟨_, _, rfl, hs, ha⟩
theorem dpAll_int : ∀ {ns : List Int} {vs : List V}, DpAll K H vs (ns.map (Datum.toD (α := Int))) → vs = ns.map V.int
  | [], _, h => by cases h; rfl
  | n :: ns, _, h => by
    cases h with
    | cons h1 h2 =>
      have e : Dp K H _ (.int n) := h1
      cases e
      rw [dpAll_int h2]
      rfl
theorem dt_ti {ns : List Int} (h : Dt K H v (Tup.mk ns : TI)) : ∃ a, v = .ref a ∧ SqT K H a (ns.map V.int) := by
  obtain ⟨a, vs, e, hs, ha⟩ := dt_tup_inv h
  rw [dpAll_int ha] at hs
  exact ⟨a, e, hs⟩
theorem dpAll_at {α : Type} [DecidableEq α] [Datum α] : ∀ {xs : List α} {vs : List V}, DpAll K H vs (xs.map Datum.toD) → vs.length = xs.length ∧ ∀ (i : Nat) (v : V), vs[i]? = some v → ∃ x, xs[i]? = some x ∧ Dt K H v x
  | [], _, h => by
    cases h
    exact ⟨rfl, fun i v e => by simp at e⟩
  | x :: xs, _, h => by
    cases h with
    | cons h1 h2 =>
      obtain ⟨l, f⟩ := dpAll_at h2
      refine ⟨by simp [l], fun i v e => ?_⟩
      cases i with
      | zero =>
        rw [List.getElem?_cons_zero] at e
        cases e
        exact ⟨x, rfl, h1⟩
      | succ i =>
        rw [List.getElem?_cons_succ] at e
        exact f i v e
theorem dt_pair_inv {α β : Type} [DecidableEq α] [Datum α] [DecidableEq β] [Datum β] {x : α} {y : β} (h : Dt K H v (x, y)) : ∃ a u z, v = .ref a ∧ SqT K H a [u, z] ∧ Dt K H u x ∧ Dt K H z y := by
  have h' : Dp K H v (.tuple [Datum.toD x, Datum.toD y]) := h
  cases h' with
  | tup hs ha =>
    cases ha with
    | cons h1 h2 =>
      cases h2 with
      | cons h3 h4 =>
        cases h4
        exact ⟨_, _, _, rfl, hs, h1, h3⟩
theorem dt_str_inv {x : Str} (h : Dt K H v x) : v = .str x := by
  have h' : Dp K H v (.str x) := h
  cases h'
  rfl
/-- [elt for c in a text] -/
theorem el_lcS {x : Str} {j : Nat} {vs : List Nat} (g : Nat → V) (h : Ev te0 σ H (.str x)) (hz : (tl x).length ≤ 40000) (hw : ∀ x, wipe ((wipe σ vs).set j (some x)) vs = wipe σ vs)
    (he : ∀ (c : Nat) H1, Ex H H1 → c ∈ tl x → Ev te ((wipe σ vs).set j (some (.str ⟨#[c]⟩))) H1 (g c)) : EvL (tLc (iStr te0) (gName j) tYes te vs) σ H ((tl x).map g) := fun H0 e Q q =>
  h H0 e _ fun H1 e1 => ⟨x, rfl, fun D hD => by
    refine lc_it walk_str (fun i H' => H1 D = none ∧ Ex H1 H' ∧ H' D = some (.lst (((tl x).take i).map g))) ⟨hD, Ex.new hD, upd_same⟩ (fun _ _ _ _ => trivial) (fun i y H' H2 hi p ⟨e2, c, hc, ey⟩ => ?_) fun H' p => ?_
    · subst e2
      subst ey
      obtain ⟨p1, p2, p3⟩ := p
      have hc' : (tl x)[i]? = some c := by rw [Array.getElem?_toList]; exact hc
      have lt : i < (tl x).length := (List.getElem?_eq_some_iff.mp hc').1
      refine ⟨hw _, ?_⟩
      refine he c H2 ((e.trans e1).trans p2) (List.mem_of_getElem? hc') H2 (Ex.refl H2) _ fun H4 e4 => ⟨_, e4 _ _ p3, sz_lt (by rw [List.length_map, List.length_take]; omega), p1, Ex.mut (p2.trans e4) p1, ?_⟩
      rw [upd_same, List.take_succ, hc']
      simp
    · obtain ⟨p1, p2, p3⟩ := p
      rw [show x.cps.size = (tl x).length from by simp [tl], List.take_length] at p3
      exact q D H' (fresh_back e1 p1) (e1.trans p2) p3⟩
/-- [elt for x in a tuple] -/
theorem el_lcT {a : Addr} {xs : List V} {j : Nat} {vs : List Nat} {tt0 : TE} (g : Nat → V) (h : Ev tt0 σ H (.ref a)) (hx : SqT K H a xs) (hz : xs.length ≤ 40000) (hw : ∀ x, wipe ((wipe σ vs).set j (some x)) vs = wipe σ vs)
    (he : ∀ (i : Nat) (x : V) H1, Ex H H1 → xs[i]? = some x → Ev te ((wipe σ vs).set j (some x)) H1 (g i)) : EvL (tLc (iTup K tt0) (gName j) tYes te vs) σ H ((List.range xs.length).map g) := fun H0 e Q q =>
  h H0 e _ fun H1 e1 => ⟨a, rfl, ⟨xs, ex_t (e.trans e1) hx⟩, fun D hD => by
    refine lc_tup (xs := xs) (fun i H' => H1 D = none ∧ Ex H1 H' ∧ H' D = some (.lst ((List.range i).map g))) ⟨hD, Ex.new hD, upd_same⟩ (fun i H' _ p => ex_t ((e.trans e1).trans p.2.1) hx) (fun i y H' hi p => ?_) fun H' p => ?_
    · obtain ⟨p1, p2, p3⟩ := p
      have lt : i < xs.length := (List.getElem?_eq_some_iff.mp hi).1
      refine ⟨hw _, ?_⟩
      refine he i y H' ((e.trans e1).trans p2) hi H' (Ex.refl H') _ fun H4 e4 => ⟨_, e4 _ _ p3, sz_lt (by rw [List.length_map, List.length_range]; omega), p1, Ex.mut (p2.trans e4) p1, ?_⟩
      rw [upd_same, List.range_succ, List.map_append]
      rfl
    · obtain ⟨p1, p2, p3⟩ := p
      exact q D H' (fresh_back e1 p1) (e1.trans p2) p3⟩
theorem range_map {α : Type} (f : α → V) (d : α) : ∀ l : List α, (List.range l.length).map (fun i => f (l.getD i d)) = l.map f := fun l => by
  refine List.ext_getElem (by simp) fun i h1 h2 => ?_
  have hi : i < l.length := by simpa using h2
  simp [List.getElem?_eq_getElem hi]
theorem ev_lenS {x : Str} (h : Ev te σ H (.str x)) (hx : x.length ≤ 100000) : Ev (tCB (fun xs H Q => ∃ z, xs = [.str z] ∧ z.length ≤ sizeLine ∧ Q (.int z.length) H) (tCons te tNil)) σ H (.int (x.length : Nat)) := fun H1 e Q q =>
  h H1 e _ fun H2 e2 => ⟨x, rfl, sz_of hx, q H2 e2⟩
theorem ev_all {bs : List Bool} (h : EvL te σ H (bs.map V.bl)) : Ev (tCB (rAll K) (tCons te tNil)) σ H (.bl (bs.all id)) := fun H1 e Q q =>
  h H1 e _ fun p H2 _ e2 h2 => ⟨p, bs, rfl, sq_of h2, q H2 e2⟩
theorem rv_inS {c : Nat} {z : Str} : RV (fun x y H Q => ∃ (c : Nat) (z : Str), x = .str ⟨#[c]⟩ ∧ y = .str z ∧ Q (.bl (decide (c ∈ z.cps.toList))) H) (.str ⟨#[c]⟩) (.str z) H (.bl (decide (c ∈ tl z))) := fun H1 _ Q q => ⟨c, z, rfl, rfl, q H1 (Ex.refl H1)⟩
theorem str_eq (x y : Str) : decide (V.str x = V.str y) = decide (x = y) := by
  by_cases z : x = y
  · rw [z]
    simp
  · rw [decide_eq_false z, decide_eq_false (fun h => z (V.str.inj h))]
end
end Mx
set_option Elab.async false
set_option linter.all false
set_option maxRecDepth 100000
set_option maxHeartbeats 2000000
/-! An own exception's __init__ that says super().__init__(a text) and stores its fields: as a def that keeps a promise. -/
namespace Mx
open PySem PySem.Spec PyProof.Rows L2

/-- the frame's environment of a method that knows its class by a cell -/
abbrev senv (qual : Str) (scope : Scope) (L f : Addr) (cd : Value) (cc : Addr) : Env := PySem.W.ksEnv qual scope L f cd cc
abbrev cxS (CX : CXT) (P : Program) (w : World) (K : PySem.W.Frag) (mg : Str → Option Value) (base : Heap) (N : List Str) (qual : Str) (scope : Scope) (f : Addr) (cd : Value) (cc : Addr) (A : Around) (outer : List Env) (s : Shared) (H : Hp) (E : XK) : Cx where
  prog := P
  w := w
  K := K
  mg := mg
  base := base
  A := A.deeper (senv qual scope s.heap.objs.size f cd cc)
  N := N
  s_0 := s
  H_0 := H
  env := senv qual scope s.heap.objs.size f cd cc
  outer := outer
  stack := senv qual scope s.heap.objs.size f cd cc :: outer
  ex := []
  fn := fun _ => false
  calm := true
  pn := []
  xe := fun e s' => wpAny (model P w) (A.deeper (senv qual scope s.heap.objs.size f cd cc)) (leaving (senv qual scope s.heap.objs.size f cd cc) e) (fun _ s'' => CX outer H s E e s'') (fun e' s'' => CX outer H s E e' s'') s'

structure SScope (ps : List Str) (scope : Scope) : Prop where
  kind : scope.kind = .function
  co : scope.isCoroutine = false
  gen : scope.isGenerator = false
  nd : ps.Nodup
  par : ∀ p ∈ ps, scope.names.lookup p = some .local
  nocell : ∀ x ∈ scope.names, x.2 ≠ NameKind.cell
  free : ∀ x, scope.names.lookup x = some .free → x = ("__class__" : Str)
  fre : scope.names.lookup ("__class__" : Str) = some .free
  sup : scope.names.lookup ("super" : Str) = some .globalImplicit

theorem lookup_append {α : Type} (x : Str) : ∀ (l r : List (Str × α)), (l ++ r).lookup x = (l.lookup x).or (r.lookup x)
  | [], r => rfl
  | (y, v) :: l, r => by
    show List.lookup x ((y, v) :: (l ++ r)) = _
    rw [List.lookup_cons, List.lookup_cons]
    cases x == y with
    | true => rfl
    | false => exact lookup_append x l r
theorem zip_lookup {α : Type} : ∀ {ps : List Str} {us : List α} {i : Nat} {x : Str} {u : α}, ps.Nodup → ps[i]? = some x → us[i]? = some u → (ps.zip us).reverse.lookup x = some u
  | [], _, _, _, _, _, h, _ => by simp at h
  | _ :: _, [], _, _, _, _, _, h => by simp at h
  | p :: ps, v :: us, 0, x, u, nd, h1, h2 => by
    have e1 : p = x := by simpa using h1
    have e2 : v = u := by simpa using h2
    subst e1; subst e2
    rw [List.zip_cons_cons, List.reverse_cons, lookup_append]
    have hn : (ps.zip us).reverse.lookup p = none := by
      cases q : (ps.zip us).reverse.lookup p with
      | none => rfl
      | some z =>
        have m := PySem.mem_of_lookup q
        rw [List.mem_reverse] at m
        exact absurd (List.of_mem_zip m).1 (List.nodup_cons.mp nd).1
    rw [hn]
    simp
  | p :: ps, v :: us, i + 1, x, u, nd, h1, h2 => by
    rw [List.zip_cons_cons, List.reverse_cons, lookup_append, zip_lookup (List.nodup_cons.mp nd).2 (by simpa using h1) (by simpa using h2)]
    rfl

theorem inv_s {CX : CXT} {P : Program} {w : World} {K : PySem.W.Frag} {mg : Str → Option Value} {base : Heap} {ps : List Str} {qual : Str} {scope : Scope} {f cc : Addr} {cd : Value} {A : Around} {outer : List Env} {s : Shared} {h0 : Heap} {tk : Nat} {H : Hp} {E : XK} {us : List Value} {vs : List V} {oc : Obj} {vc : Option Value}
    (S : SScope ps scope) (hd : A.handled = none) (e0 : Env0 P w K mg base A outer s H) (hl : vs.length = ps.length) (r : Vals vs us) (hcc : K.lookup cc = some oc) (hcd : oc.data = .cell vc)
    (hn : h0.Ns s.heap.objs.size (fun x => (ps.zip us).reverse.lookup x)) (hk : ∀ b o, s.heap.get? b = some o → h0.get? b = some o) :
    Inv (cxS CX P w K mg base ps qual scope f cd cc A outer s H E) [] (L2.start ps vs) H { s with heap := h0, toks := tk } := by
  have noA : ∀ b : Addr, b ∉ (cxS CX P w K mg base ps qual scope f cd cc A outer s H E).ex := fun b z => absurd (show b ∈ ([] : List Addr) from z) (by simp)
  have cl : ∀ x c, (senv qual scope s.heap.objs.size f cd cc).cells.lookup x = some c → x = "__class__" ∧ c = cc := fun x c h => by
    have h' : List.lookup x [(("__class__" : Str), cc)] = some c := h
    rw [List.lookup_cons] at h'
    cases q : x == ("__class__" : Str) with
    | true =>
      rw [q] at h'
      exact ⟨beq_iff_eq.mp q, (Option.some.inj h').symm⟩
    | false =>
      rw [q] at h'
      cases h'
  have hb := e0.bs cc oc (e0.mod.kin _ _ hcc)
  refine ⟨⟨e0.mod, S.kind, rfl, rfl, Nat.le_refl _, fun y z c h1 h2 => (cl _ _ h1).1.trans (cl _ _ h2).1.symm, fun y hy => ?_, fun y c h _ => Bool.noConfusion h, fun _ => hd, Around.frames_deeper e0.frames, .inr ⟨rfl, rfl⟩, fun b z => absurd z (noA b), e0.bs, e0.bsz, fun b _ _ => noA b, fun b z => absurd z (noA b), e0.funs, e0.frf⟩,
    rfl, e0.bare, Un.kept hk, ⟨_, hn, fun i y v h1 h2 h3 => ?_⟩, fun y c h => ?_, e0.hok.fresh (Nat.le_refl _), fun y c h => ?_, fun p hp => absurd (show p ∈ ([] : List (Addr × Obj)) from hp) (by simp), e0.hok.kept hk, ?_⟩
  · have hy : scope.names.lookup y = some .cell ∨ scope.names.lookup y = some .free := hy
    rcases hy with hy | hy
    · exact absurd rfl (S.nocell _ (PySem.mem_of_lookup hy))
    · refine ⟨cc, ?_⟩
      rw [S.free y hy]
      show List.lookup _ [(("__class__" : Str), cc)] = some cc
      rw [List.lookup_cons, beq_self_eq_true]
  · have e : L2.start ps vs = vs.map some := by
      unfold L2.start
      rw [hl, Nat.sub_self]
      simp
    rw [e, List.getElem?_map] at h2
    cases q : vs[i]? with
    | none => rw [q] at h2; cases h2
    | some a =>
      rw [q] at h2
      cases h2
      obtain ⟨u, hu, rv⟩ := r.get q
      exact ⟨u, rv, .inl ⟨S.par y (List.mem_of_getElem? h1), zip_lookup S.nd h1 hu⟩⟩
  · obtain ⟨_, rfl⟩ := cl y c h
    exact ⟨vc, oc, hk _ _ hb.1, hcd⟩
  · obtain ⟨_, rfl⟩ := cl y c h
    exact hb.2
  · unfold L2.start
    show _ = ps.length
    rw [List.length_append, List.length_map, List.length_replicate]
    omega

/-- what the written part says of such a class and its __init__ -/
structure SupTxt (P : Program) (K : PySem.W.Frag) (mg : Str → Option Value) (C fI cc cda : Addr) (qual : Str) (ps : List Str) (st : Stmt) : Prop where
  T : OexC K C
  fn : ∃ (oc : Value) (od : Option Addr) (kV doc pm : Value) (an : Option Addr) (ct : Value) (osl : Array (Option Value)),
    K.lookup fI = some ⟨oc, od, .func (PySem.W.ksFn "__init__" qual (defArgs st) (defBody st) (defScope st) .none kV doc pm an (.ref cda) ct cc), osl⟩
  code : PySem.W.codeIn K (.ref cda) qual = true
  S : SScope ps (defScope st)
  hp : ∃ ar, ((defArgs st).posonlyargs ++ (defArgs st).args).head? = some ar ∧ ps[0]? = some ar.arg
  co : ∃ (c : Value) (dd : Option Addr) (vs : Array Value) (sl : Array (Option Value)) (file : Str) (tf : Tok), K.lookup cda = some ⟨c, dd, .fields vs, sl⟩ ∧ vs[2]? = some (.str file tf) ∧ ((P.main.file : Str) == file) = true
  cell : ∃ (cl : Value) (cld : Option Addr) (csl : Array (Option Value)), K.lookup cc = some ⟨cl, cld, .cell (some (.ref C)), csl⟩
  sub : PySem.W.mroIn K C (.ref C) = some true
  subV : PySem.W.subIn K (.ref C) (.type "ValueError") = some true
  sup : mg "super" = none
  along : PySem.W.ks_superIn K C C "__init__" = some (some (.builtin "ValueError.__init__"))
  opq : PySem.W.nsIn K cStatics "thirdparty.any" = some none
  top : (P.main.scope.names.lookup ("super" : Str)).isSome = false

section
variable {P : Program} {w : World} {K : PySem.W.Frag} {mg : Str → Option Value} {base : Heap} {C fI cc cda : Addr} {qual : Str} {ps : List Str} {st : Stmt}
/-- THE RULE: such an __init__ by what follows its first row -/
theorem fn_sup {CX : CXT} {k : Nat} {sp : Sp} {x : Str} {j : Nat} {p0 p1 p2 p3 p4 p5 : Pos} {rest : List Stmt} {fd : FuncData} (W : SupTxt P K mg C fI cc cda qual ps st) (hfd : ∃ oc od osl, K.lookup fI = some ⟨oc, od, .func fd, osl⟩)
    (hb : defBody st = .Expr (.Call (.Attribute (.Call (.Name "super" p0) [] [] p1) "__init__" p2) [.Constant (.str x) j p3] [] p4) p5 :: rest)
    (hev : ∀ env : Env, ∃ pl : Sem Bool, eval (.Call (.Attribute (.Call (.Name "super" p0) [] [] p1) "__init__" p2) [.Constant (.str x) j p3] [] p4) env = (do
      let ov ← attributeBase (.Call (.Name "super" p0) [] [] p1) "__init__" env (eval (.Call (.Name "super" p0) [] [] p1) env)
      standAt p2.atName
      let (f, first) ← holding [ov] (getMethod ov "__init__" pl)
      callWith p4 f first (backTo p4 (starEach [.Constant (.str x) j p3] env)) []))
    (len : ∀ vs H Q E, sp vs H Q E → vs.length = ps.length) (self : ∀ vs H Q E, sp vs H Q E → ∃ a, vs[0]? = some (.ref a) ∧ H a = some (exo a C none))
    (hbody : ∀ (A : Around) (outer : List Env) (s : Shared) (H : Hp) (vs : List V) (Q : VK) (E : XK), sp vs H Q E →
      ∃ t, PSs (cxS CX P w K mg base ps qual (defScope st) fI (.ref cda) cc A outer s H E) rest t ∧ t { nx := fun _ H' => Q .non H', rt := Q } (L2.start ps vs) H) :
    FnOk P w K mg base CX (k + 1) fI fd ps sp := by
  obtain ⟨oc, od, kV, doc, pm, an, ct, osl, lk⟩ := W.fn
  obtain ⟨oc', od', osl', lk'⟩ := hfd
  rw [lk] at lk'
  cases lk'
  obtain ⟨cl, cld, csl, hcell⟩ := W.cell
  refine ⟨len, fun A outer s H args us vs Q E hr e0 hbn r hsp => ?_⟩
  have hl := len _ _ _ _ hsp
  have KX : K.In s.heap := e0.mod.kin.keeps fun b o e => (e0.bs b o e).1
  have lim : s.heap.NoLimit := e0.mod.nolimit.keeps fun b o e => (e0.bs b o e).1
  refine PySem.ks_codeAny_call_defAt hr.depth (KX _ _ lk) rfl lim (PySem.W.codeRec_of KX W.code) rfl hbn W.S.nocell (fun y hy => W.S.par _ (List.of_mem_zip hy).1) (fun h0 hn hk => ?_) W.S.co W.S.gen W.S.kind
  have I0 : Inv (cxS CX P w K mg base ps qual (defScope st) fI (.ref cda) cc A outer s H E) [] (L2.start ps vs) H { s with heap := h0, toks := s.toks + (ps.zip us).length } := inv_s W.S hr.hd e0 hl r hcell rfl hn hk
  obtain ⟨t, ht, hq⟩ := hbody A outer s H vs Q E hsp
  obtain ⟨a, ha, hea⟩ := self _ _ _ _ hsp
  obtain ⟨ar, har, hps⟩ := W.hp
  obtain ⟨c1, dd1, vs1, sl1, file, tf, hcode, hvs, hfile⟩ := W.co
  have X0 : K.In h0 := KX.keeps hk
  have hself : (ps.zip us).reverse.lookup ar.arg = some (.ref a) := by
    obtain ⟨u, hu, rv⟩ := r.get ha
    have e : u = .ref a := rv
    rw [← e]
    exact zip_lookup W.S.nd hps hu
  obtain ⟨nm, q, N, bs, bm, sn, sub, ab, col, dd, k0, k1, k2, k3, k5, hC, hbm⟩ := W.T.cls
  obtain ⟨t1, ho⟩ := exo_at I0.hok hea
  have hC0 : h0.get? C = _ := X0 _ _ hC
  have hcl : PySem.W.clsIn K C = some { name := nm, bases := bs, mro := .ref C :: bm, ns := N, qualname := q, hasDict := true, slotNames := sn, subclasses := sub, abstract := ab, collection := col, hasDel := false } := by unfold PySem.W.clsIn; rw [hC] <;> rfl
  have hne : a ≠ C := PySem.W.ks_ne X0 (show PySem.W.InstAt h0 a _ C none from ⟨ho, rfl, rfl, trivial⟩) hcl
  have hint : interactive (senv qual (defScope st) s.heap.objs.size fI (.ref cda) cc) = false := by
    show (_ && _) = false
    simp [interactive, W.S.kind]
  obtain ⟨pl, hpl⟩ := hev (senv qual (defScope st) s.heap.objs.size fI (.ref cda) cc)
  show PySem.wpAt _ _ (.func (defBody st) _) (execs (defBody st) (senv qual (defScope st) s.heap.objs.size fI (.ref cda) cc)) _ _ _
  rw [hb]
  refine PySem.ks_wpAt_execs_cons (PySem.ks_wpAt_Expr_any (PySem.ks_wpAt_MethodCall
    (PySem.ks_wpAt_super_base W.S.sup W.S.fre (by decide +kernel) rfl (X0 _ _ lk) rfl har rfl (X0 _ _ hcode) rfl hvs hfile W.top ?_) hpl) hint (by rfl))
  all_goals clear hpl
  refine PySem.W.ks_loadName_global W.S.kind W.S.sup ?_
  obtain ⟨mb, hm1, hm2⟩ := e0.mod.blt
  have kb : ∀ b o, base.get? b = some o → h0.get? b = some o := fun b o e => hk b o (e0.bs b o e).1
  refine Calls.loadGlobal_builtin (env := senv qual (defScope st) s.heap.objs.size fI (.ref cda) cc) (e0.mod.glob.keeps kb) W.sup (hm1.keeps kb) ((hm2 "super" (by decide +kernel)).trans (by decide +kernel)) ⟨rfl, ?_⟩
  refine wpAny_loadName_free W.S.kind W.S.fre rfl ⟨_, X0 _ _ hcell, rfl⟩ ?_
  refine wpAny_loadName_local W.S.kind (W.S.par _ (List.mem_of_getElem? hps)) hn hself ?_
  refine PySem.ks_wpAny_isType_cls hC0 rfl ⟨rfl, ?_⟩
  refine PySem.ks_wpAny_call_super hC0 rfl ho rfl (fun c e => by cases e) (PySem.W.looks_mroIn X0 W.sub) (fun h1 e1 kk1 => ?_)
  have X1 : K.In h1 := X0.keeps kk1
  have ho1 := kk1 _ _ ho
  have hC1 := kk1 _ _ hC0
  have hal : PySem.W.alongIn K "__init__" (((Value.ref C :: bm).dropWhile (· != .ref C)).drop 1) = some (some (.builtin "ValueError.__init__")) := by
    have z := W.along
    unfold PySem.W.ks_superIn at z
    rw [hcl] at z
    exact z
  have IA : PySem.W.InstAt h1 a _ C none := ⟨ho1, rfl, rfl, trivial⟩
  refine PySem.W.kxs_getMethod PySem.W.kxs_ValueError e1 (PySem.W.looks_opaque X1 W.opq) (l₀ := Value.ref C :: bm) (fun A Q E s k q => wpAny_bind ((PySem.W.looks_clsIn X1 hcl) A _ E s k (wpAny_pure q))) rfl X1 hal (IA.type.andThen (PySem.W.looks_subIn X1 W.subV)) hne (by decide +kernel) ?_
  have kk2 : ∀ b o, h0.get? b = some o → (h1.push (PySem.W.kxs_mw "ValueError.__init__" a)).get? b = some o := fun b o e => Heap.get?_push_of_some _ (kk1 b o e)
  have I2 : Inv (cxS CX P w K mg base ps qual (defScope st) fI (.ref cda) cc A outer s H E) [] (L2.start ps vs) H { heap := h1.push (PySem.W.kxs_mw "ValueError.__init__" a), gens := s.gens, drawn := s.drawn, toks := s.toks + (ps.zip us).length + 1, os := s.os } := I0.kept (t' := s.toks + (ps.zip us).length + 1) kk2
  have hu2 : (h1.push (PySem.W.kxs_mw "ValueError.__init__" a)).get? h1.objs.size = some (PySem.W.kxs_mw "ValueError.__init__" a) := Heap.get?_push_at rfl rfl
  refine PySem.W.kxs_callWith (i := "ValueError.__init__") (x := a) (by rfl) (Calls.evalArgs_plain ?_)
  show wpAny _ _ (spliced ((false, eval (.Constant (.str x) j p3) (senv qual (defScope st) s.heap.objs.size fI (.ref cda) cc)) :: [])) _ _ _
  refine Calls.spliced_cons (Calls.Constant_str (k := j) (pos := p3) (Calls.spliced_nil ⟨hu2, ?_⟩))
  have I3 := I2.tok (s.toks + (ps.zip us).length + 1 + 1)
  have hC2 : (h1.push (PySem.W.kxs_mw "ValueError.__init__" a)).get? C = _ := Heap.get?_push_of_some _ hC1
  have ho2 : (h1.push (PySem.W.kxs_mw "ValueError.__init__" a)).get? a = _ := Heap.get?_push_of_some _ ho1
  refine wpAny_call (codeAny_of_tree ?_)
  show wpAny _ (Around.in1 _) (callAny (.ref h1.objs.size) ⟨_, []⟩) _ _ _
  simp only [callAny]
  refine wpAny_bind (wpAny_load hu2 ?_)
  simp only [PySem.W.kxs_mw, show (Value.type "method-wrapper" == Value.type "method" || Value.type "method-wrapper" == Value.type "builtin_function_or_method" || Value.type "method-wrapper" == Value.type "method-wrapper") = true by decide, if_true]
  refine PySem.W.KFB.if_so (by decide) ?_
  refine wpAny_bind (PySem.W.check_bound_init F.excBase_ValueError.toExcCallFacts hC2 ho2 rfl ?_)
  refine wpAny_bind (wpAny_pure (wpAny_pure ?_))
  refine ⟨PySem.plainId_quiet F.excBase_ValueError.init.plain _, codeAny_builtin F.excBase_ValueError.initEntry ?_⟩
  refine PySem.W.exc_init_tree (cls := .ref C) (t0 := t1) (dv := none) (c2 := .none) (c3 := .none) (b4 := .bool false) ho2 (by rw [sizeLine_eq]; exact (by decide : 1 ≤ 16777216)) (fun h3 k3 e3 _ => ?_)
  have J := I2.write (h' := h3) (t' := s.toks + (ps.zip us).length + 1 + 1) (x := a) (e := a) (o := exo a C none) (by rw [hea]; exact True.intro) (.inl rfl) k3 ⟨_, e3⟩ (exo_ok e3)
  have eu : upd H a (exo a C none) = H := by
    funext b
    by_cases hb : b = a
    · rw [hb, upd_same, hea]
    · rw [upd_ne hb]
  rw [eu] at J
  refine PySem.wpAt_of_wpAny (wpAny_mono (ht.run [] _ (L2.start ps vs) H _ J hq) (fun fl s' hs => ?_) fun e s' hs => hs)
  have fin : ∀ {σ' : L2.St} {H' : Hp} {v : V} {u : Value}, Inv (cxS CX P w K mg base ps qual (defScope st) fI (.ref cda) cc A outer s H E) [] σ' H' s' → RelV v u → Q v H' → CE outer P w H s Q u s' :=
    fun {σ' H' v u} J rv q => ⟨v, H', J.os, J.bare, J.base, J.hok, rv, q⟩
  cases fl with
  | ret u =>
    obtain ⟨v, σ', H', J, rv, q⟩ := hs
    exact fin J rv q
  | next =>
    obtain ⟨σ', H', J, q⟩ := hs
    exact fin (v := V.non) (u := Value.none) J rfl q
  | brk =>
    obtain ⟨_, _, _, q⟩ := hs
    exact False.elim q
  | cont =>
    obtain ⟨_, _, _, q⟩ := hs
    exact False.elim q

/-! ### two fields -/
/-- what an error with two fields holds, the last stored first -/
def two (f1 f2 : Str) (v1 v2 : V) : List (Str × V) := [(f2, v2), (f1, v1)]
def spTwo (C : Addr) (f1 f2 : Str) : Sp := fun vs H Q _ => ∃ (a : Addr) (v1 v2 : V), vs = [.ref a, v1, v2] ∧ H a = some (exo a C none) ∧
  ∀ dx, H dx = none → dx ≠ a → Q .non (upd (upd (upd H dx (exd dx [(f1, v1)])) a (exo a C (some dx))) dx (exd dx (two f1 f2 v1 v2)))
theorem ok_two {k : Nat} {s1 f1 f2 x : Str} {j : Nat} {p0 p1 p2 p3 p4 p5 q1 q2 q3 q4 q5 q6 q7 q8 : Pos} {fd : FuncData} (W : SupTxt P K mg C fI cc cda qual [s1, f1, f2] st) (hfd : ∃ oc od osl, K.lookup fI = some ⟨oc, od, .func fd, osl⟩)
    (hb : defBody st = [.Expr (.Call (.Attribute (.Call (.Name "super" p0) [] [] p1) "__init__" p2) [.Constant (.str x) j p3] [] p4) p5,
      .Assign [.Attribute (.Name s1 q1) f1 q2] (.Name f1 q3) q4, .Assign [.Attribute (.Name s1 q5) f2 q6] (.Name f2 q7) q8])
    (hev : ∀ env : Env, ∃ pl : Sem Bool, eval (.Call (.Attribute (.Call (.Name "super" p0) [] [] p1) "__init__" p2) [.Constant (.str x) j p3] [] p4) env = (do
      let ov ← attributeBase (.Call (.Name "super" p0) [] [] p1) "__init__" env (eval (.Call (.Name "super" p0) [] [] p1) env)
      standAt p2.atName
      let (f, first) ← holding [ov] (getMethod ov "__init__" pl)
      callWith p4 f first (backTo p4 (starEach [.Constant (.str x) j p3] env)) []))
    (n1 : PySem.W.findIn K (.ref C) f1 = some none) (n2 : PySem.W.findIn K (.ref C) f2 = some none)
    (d0 : (s1 == ("__debug__" : Str)) = false := by decide) (c0 : (s1 == ("__classdict__" : Str)) = false := by decide) (d1 : (f1 == ("__debug__" : Str)) = false := by decide) (c1 : (f1 == ("__classdict__" : Str)) = false := by decide) (d2 : (f2 == ("__debug__" : Str)) = false := by decide) (c2 : (f2 == ("__classdict__" : Str)) = false := by decide) :
    FnOk P w K mg base CX0 (k + 1) fI fd [s1, f1, f2] (spTwo C f1 f2) := by
  refine fn_sup W hfd hb hev (fun vs H Q E h => ?_) (fun vs H Q E h => ?_) (fun A outer s H vs Q E h => ?_)
  · obtain ⟨a, v1, v2, rfl, _⟩ := h
    rfl
  · obtain ⟨a, v1, v2, rfl, ha, _⟩ := h
    exact ⟨a, rfl, ha⟩
  · obtain ⟨a, v1, v2, rfl, ha, kk⟩ := h
    have v0 : Vis (defScope st) s1 := .inl (W.S.par _ (by simp))
    have w1 : Vis (defScope st) f1 := .inl (W.S.par _ (by simp))
    have w2 : Vis (defScope st) f2 := .inl (W.S.par _ (by simp))
    refine ⟨_, pss_cons (ps_ost (pe_var (i := 0) rfl v0 d0 c0) (pe_var (i := 1) rfl w1 d1 c1) (by rfl)) (pss_one (ps_ost (pe_var (i := 0) rfl v0 d0 c0) (pe_var (i := 2) rfl w2 d2 c2) (by rfl))), ?_⟩
    refine ⟨_, rfl, _, rfl, a, C, rfl, W.T, n1, .inl ⟨ha, fun dx hn hd => ?_⟩⟩
    refine ⟨_, rfl, _, rfl, a, C, rfl, W.T, n2, .inr ⟨dx, _, upd_same, by rw [upd_ne hd, upd_same], (by show 1 ≤ 900; decide), ?_⟩⟩
    exact kk dx hn hd
/-- the end of raise C(e1, e2) -/
theorem mk2 {C : Addr} {f1 f2 : Str} {v1 v2 : V} {H1 : Hp} {Q : XK} (h : ∀ d, H1 d = none → Q (.ref C) (some d) (upd H1 d (.xd (two f1 f2 v1 v2)))) :
    ([v1, v2] : List V).length ≤ 1000 ∧ ∀ a, H1 a = none → spTwo C f1 f2 (.ref a :: ([v1, v2] ++ [])) (upd H1 a (exo a C none))
      (fun v H2 => v = .non ∧ ∃ (d : Addr) (fs : List (Str × V)), H2 a = some (exo a C (some d)) ∧ H2 d = some (exd d fs) ∧ H1 d = none ∧ Q (.ref C) (some d) (upd (del H2 a) d (.xd fs))) (fun _ _ _ => False) := by
  refine ⟨by show 2 ≤ 1000; decide, fun a ha => ⟨a, v1, v2, rfl, upd_same, fun dx hd hne => ⟨rfl, dx, two f1 f2 v1 v2, ?_, upd_same, ?_, ?_⟩⟩⟩
  · rw [upd_ne (Ne.symm hne), upd_same]
  · rw [upd_ne hne] at hd
    exact hd
  · rw [upd_ne hne] at hd
    have e : upd (del (upd (upd (upd (upd H1 a (exo a C none)) dx (exd dx [(f1, v1)])) a (exo a C (some dx))) dx (exd dx (two f1 f2 v1 v2))) a) dx (.xd (two f1 f2 v1 v2)) = upd H1 dx (.xd (two f1 f2 v1 v2)) := by
      funext b
      by_cases hb : b = dx
      · rw [hb, upd_same, upd_same]
      · rw [upd_ne hb, upd_ne hb]
        by_cases hba : b = a
        · rw [hba, del_same, ha]
        · rw [del_ne hba, upd_ne hb, upd_ne hba, upd_ne hb, upd_ne hba]
    rw [e]
    exact h dx hd
/-! ### reading a field of such an error in an except suite -/
end
end Mx
set_option Elab.async false
set_option linter.all false
set_option maxRecDepth 100000
set_option maxHeartbeats 2000000
/-! A list comprehension whose element may raise by a call: the error flies out of the comprehension into the def's own frame. -/
namespace Mx
open PySem PySem.Spec PyProof.Rows L2

section
variable {X : Cx} {W : WX}
/-- what stands without the address C -/
theorem heldZ_less {B h h2 : Heap} {l : List Env} {a L C : Addr} {Z : Obj → Prop} {m m2 : Str → Option Value} (hh : HandSPX.HeldZ B l a Z L h) (hsb : Heap.SameBut C h h2) (hn : h.Ns C m) (hn2 : h2.Ns C m2)
    {B2 : Heap} (k1 : ∀ b, b ≠ C → B2.get? b = B.get? b) (k2 : B2.get? C = none) : HandSPX.HeldZ B2 l a Z L h2 := by
  obtain ⟨st, ba, fr, oe, vs, T, oT, ts, g1, gz, g2, g3, g4, g5, g6, g7, g8⟩ := hh
  obtain ⟨oC, es, ep, eC, dC, _⟩ := hn
  have noC : ∀ {b : Addr} {o : Obj} {us : Array Value}, h.get? b = some o → o.data = .fields us → b ≠ C := fun {b o us} e1 e2 z => by
    rw [z, eC] at e1
    cases e1
    rw [dC] at e2
    cases e2
  have aC := noC g1 g2
  have TC := noC g6 g7
  have fr2 : h2.FunFrames B l := Heap.FunFrames.sameBut hsb hn2 fr
  refine ⟨fun b o e => ?_, ?_, ?_, oe, vs, T, oT, ts, (hsb.2 a aC).trans g1, gz, g2, g3, ?_, g5, (hsb.2 T TC).trans g6, g7, g8⟩
  · have bC : b ≠ C := fun z => by rw [z, k2] at e; cases e
    rw [k1 b bC] at e
    exact (hsb.2 b bC).trans (st b o e)
  · rw [k1 a aC]
    exact ba
  · refine funFrames_none fr2 fun b hb => ?_
    by_cases z : b = C
    · rw [z]
      exact k2
    · rw [k1 b z]
      exact (fr2.mem hb).1
  · rw [k1 T TC]
    exact g4

theorem lcx_fly {pins pins1 : List (Addr × Obj)} {σ σ1 : L2.St} {H3 H1 : Hp} {s3 s1 s' : Shared} {scope : Scope} {ce : Env} {fp : List Addr} {u : Value}
    (hs : X.stack = X.env :: X.outer) (hf : X.env.frame = some X.env.locals) (tk : Takes X W) (I3 : Inv X pins σ H3 s3) (cL : ce.locals = s3.heap.objs.size) (cf : ce.frame = X.env.frame)
    (hfp : ∀ b ∈ fp, (b ∈ X.ex ∨ X.s_0.heap.objs.size ≤ b) ∧ b ≠ X.env.locals ∧ (∀ x c, X.env.cells.lookup x = some c → c ≠ b) ∧ ∀ p ∈ X.pn ++ pins, p.1 ≠ b)
    (I1 : Inv (X.blk s3 H3 scope ce fp) pins1 σ1 H1 s1) (c : L2.CX X.prog X.w X.stack H1 s1 (fun cls d H => W cls d σ H) u s') :
    notedBy (model X.prog X.w) X.A ce (CompFails (model X.prog X.w) X.A X.xe ce) u s' := by
  obtain ⟨a, B, H', cls, d, rfl, fl, hok, ub, na, hos, ag, w⟩ := c
  have hfr : X.A.frames = some (X.env :: X.outer) := by rw [I3.ok.frames, hs]
  -- the block's own names
  obtain ⟨m, hmn, _⟩ := I1.loc
  have hmn : s1.heap.Ns ce.locals m := hmn
  have fC : H1 ce.locals = none := I1.free
  have nst : ce.locals ∉ frs X.stack := fun hb => by
    obtain ⟨_, o, e, _⟩ := I3.stack.mem hb
    have := Heap.lt_size e
    rw [cL] at this
    exact absurd this (Nat.lt_irrefl _)
  have bkeep : ∀ b o, s1.heap.get? b = some o → H1 b = none → b ∉ frs X.stack → B.get? b = some o := ub.keep
  have nsB : ∀ h : Heap, B.StaysIn h → h.Ns ce.locals m := fun h st => by
    obtain ⟨o, es, ep, e, r⟩ := hmn
    exact ⟨o, es, ep, st _ _ (bkeep _ _ e fC nst), r⟩
  show wpAny _ _ (noteFrame (.ref a) ce) _ _ s'
  rw [noteFrame_env _ cf]
  rw [hs] at fl
  refine HandSPX.looks_onZ Zc.steady hfr hf fl fun h1 hh up1 => ?_
  refine ⟨m, nsB _ hh.1, fun h2 m2 hn2 hsb => ?_⟩
  obtain ⟨B2, r1, r2⟩ := restrict B fun b => decide (b ≠ ce.locals)
  have hh2 : HandSPX.HeldZ B2 (X.env :: X.outer) a (Zc cls d) X.env.locals h2 := heldZ_less hh hsb (nsB _ hh.1) hn2 (fun b hb => r1 b (decide_eq_true hb)) (r2 _ (by simp))
  unfold PySem.passOn
  obtain ⟨_, _, _, oe, vs, T, oT, ts, g1, gz, g2, g3, _⟩ := id hh2
  refine wpAny_bind (wpAny_field g1 g2 g3 ?_)
  rw [if_neg (show ¬ ((Value.ref T == Value.none) = true) from by simp), cf, hf]
  refine wpAny_bind (HandSPX.setFlight_onZ hh2 fun h4 hh4 up4 => wpAny_throw ?_)
  -- the state without the error
  obtain ⟨G, q1, q2⟩ := restrict h4 fun b => (B2.get? b).isSome || decide (b ∈ frs X.stack)
  have B2c : ∀ {b : Addr} {o : Obj}, B2.get? b = some o → b ≠ ce.locals ∧ B.get? b = some o := fun {b o} e => by
    by_cases z : b = ce.locals
    · rw [z, r2 _ (by simp)] at e
      cases e
    · rw [r1 b (decide_eq_true z)] at e
      exact ⟨z, e⟩
  have B2of : ∀ {b : Addr} {o : Obj}, b ≠ ce.locals → B.get? b = some o → B2.get? b = some o := fun {b o} z e => (r1 b (decide_eq_true z)).trans e
  have GB : ∀ {b : Addr} {o : Obj}, B2.get? b = some o → G.get? b = some o := fun {b o} e => (q1 b (by simp [e])).trans (hh4.1 b o e)
  have GF : ∀ {b : Addr}, b ∈ frs X.stack → G.get? b = h4.get? b := fun {b} hb => q1 b (by simp [hb])
  have Gof : ∀ {b : Addr} {o : Obj}, G.get? b = some o → h4.get? b = some o ∧ ((B2.get? b).isSome = true ∨ b ∈ frs X.stack) := fun {b o} e => by
    cases z : ((B2.get? b).isSome || decide (b ∈ frs X.stack)) with
    | false => rw [q2 b z] at e; cases e
    | true => exact ⟨(q1 b z).symm.trans e, by simpa [Bool.or_eq_true] using z⟩
  have up2 : h1.UpToSlots h2 → True := fun _ => trivial
  have frame4 : ∀ {b : Addr} {o : Obj}, b ∈ frs X.stack → s'.heap.get? b = some o → ∃ sl, h4.get? b = some { o with slots := sl } := fun {b o} hb e => by
    have nf : ∀ vs : Array Value, o.data ≠ .fields vs := by
      obtain ⟨_, o', e', hd⟩ := fl.2.2.1.mem (show b ∈ frs (X.env :: X.outer) from by rw [← hs]; exact hb)
      rw [e] at e'; cases e'
      exact hd
    obtain ⟨sl1, e1⟩ := up1 b o e nf
    have bc : b ≠ ce.locals := fun z => nst (z ▸ hb)
    have e2 := (hsb.2 b bc).trans e1
    obtain ⟨sl2, e3⟩ := up4 b _ e2 nf
    exact ⟨sl2, e3⟩
  have nC : H' ce.locals = none := by
    obtain ⟨o, _, _, e, _⟩ := hmn
    exact ub.free _ _ e fC
  have neC : ∀ {b : Addr} {o : Obj}, s3.heap.get? b = some o → b ≠ ce.locals := fun {b o} e => by
    rw [cL]
    exact Nat.ne_of_lt (Heap.lt_size e)
  have hokG : HOk X.prog X.w H' G := fun b o e => by
    have bC : ∀ {b : Addr} {o : HO}, H' b = some o → b ≠ ce.locals := fun {b o} e z => by rw [z, nC] at e; cases e
    refine (hok b o e).stay (fun c v hc q => ?_) (fun _ q => q) fun _ _ q => q
    rcases hc with rfl | hc
    · exact GB (B2of (bC e) q)
    · exact GB (B2of (bC hc) q)
  have un : Un (frs X.stack) fp H3 H' s3.heap G := {
    keep := fun b o e n hb hx => GB (B2of (neC e) (bkeep b o (I1.base.keep b o e n hb hx) (I1.base.free b o e n hx) hb))
    slot := fun b o e n hb hx => by
      obtain ⟨sl, e1⟩ := I1.base.slot b o e n hb hx
      obtain ⟨sl2, e2⟩ := ub.slot b _ e1 hb
      obtain ⟨sl3, e3⟩ := frame4 hb e2
      exact ⟨sl3, (GF hb).trans e3⟩
    free := fun b o e n hx => by
      obtain ⟨o', e1⟩ := I1.base.there b o e hx
      exact ub.free b o' e1 (I1.base.free b o e n hx)
    there := fun b o e hx => by
      obtain ⟨o', e1⟩ := I1.base.there b o e hx
      by_cases hb : b ∈ frs X.stack
      · obtain ⟨sl2, e2⟩ := ub.slot b _ e1 hb
        obtain ⟨sl3, e3⟩ := frame4 hb e2
        exact ⟨_, (GF hb).trans e3⟩
      · obtain ⟨o2, e2⟩ := ub.there b o' e1 hb
        exact ⟨o2, GB (B2of (neC e) e2)⟩
    tups := fun b xs e => ub.tups b xs (I1.base.tups b xs e)
    frzs := fun b o v e => ub.frzs b o v (I1.base.frzs b o v e)
    tbls := fun b ps e => by
      obtain ⟨m1, e1⟩ := I1.base.tbls b ps e
      obtain ⟨m2, e2⟩ := ub.tbls b _ e1
      exact ⟨m1 ++ m2, by rw [e2, Array.append_assoc]⟩ }
  have J : Inv X pins σ H' { s' with heap := G } := I3.call' (s' := { s' with heap := G }) (ch := fp) (hos.trans I1.os) un hokG ag hfp
  refine tk _ _ ⟨a, B2, { s' with heap := G }, pins, σ, H', cls, d, rfl, J, fun b o e hb => ?_, Heap.UpToSlots.of_keeps fun b o e => (Gof e).1, .inr (.inr (by rw [hs]; exact hh4)), na, rfl, ag, w⟩
  obtain ⟨e', z⟩ := Gof e
  rcases z with z | z
  · obtain ⟨o', e2⟩ := Option.isSome_iff_exists.mp z
    have e3 := hh4.1 b o' e2
    rw [e'] at e3
    cases e3
    exact e2
  · exact absurd z hb

/-- the block's context for an element that may raise by a call -/
abbrev blkX (X : Cx) (s : Shared) (H : Hp) (scope : Scope) (ce : Env) (fp : List Addr) (EW : XK) : Cx :=
  (X.blk s H scope ce fp).wish fun e s' => ∃ (pins : List (Addr × Obj)) (σ : L2.St) (H1 : Hp) (s1 : Shared), Inv (X.blk s H scope ce fp) pins σ H1 s1 ∧ L2.CX X.prog X.w X.stack H1 s1 EW e s'
theorem passB {s : Shared} {H : Hp} {scope : Scope} {ce : Env} {fp : List Addr} {EW : XK} : Passes (L2.CX X.prog X.w) (blkX X s H scope ce fp EW) EW :=
  fun pins σ H1 s1 _ _ I c => ⟨pins, σ, H1, s1, I.unwish, c⟩
def tLcX (W : WX) (wi : L2.TI) (g : TG) (te : XK → TE) (vs : List Nat) : TE := fun σ H Q => tLc wi g tYes (te fun cls d H => W cls d σ H) vs σ H Q

theorem pe_lcx {elt tg iter : Expr} {scope : Scope} {own : List (Str × Nat)} {pos : Pos} {wi : L2.TI} {g : TG} {te : XK → TE}
    (hs : X.stack = X.env :: X.outer) (hf : X.env.frame = some X.env.locals) (tk : Takes X W) (hc : X.calm = true) (hN : X.N.Nodup) (hi : PI X tg iter wi) (ok : BlkOk X.N X.env.scope scope own)
    (hg : ∀ (s : Shared) (H : Hp) (C : Addr) (cl : List (Str × Addr)) (fp : List Addr), PG (X.blk s H scope (compEnvC scope cl C X.env) fp) tg g)
    (he : ∀ (EW : XK) (s : Shared) (H : Hp) (C : Addr) (cl : List (Str × Addr)) (fp : List Addr), PE (blkX X s H scope (compEnvC scope cl C X.env) fp EW) elt (te EW))
    (hfs : ∀ x, foldedSetIterable iter X.env x = pure x := by intro _; rfl) : PE X (.ListComp elt [⟨tg, iter, [], 0⟩] scope pos) (tLcX W wi g te (own.map (·.2))) := by
  refine ⟨fun pins s σ H Q I h => ?_⟩
  rw [eval_ListComp]
  have hclos : closureFor scope X.env = pure (cloFrom X.env.cells scope.names []) := closure_ok fun y hy e => (ok.free y hy e).elim (fun z => I.ok.has _ (.inl z)) fun z => I.ok.has _ (.inr z)
  refine comprehension_at (g := ⟨tg, iter, [], 0⟩) (gs := []) rfl hfs hclos ok.kind (fun y hy e => (ok.uniq y hy).trans (congrArg some e)) ?_
  refine thn (hi.run pins s σ H _ I h) fun _ _ z => thn z fun _ s2 pie => ?_
  obtain ⟨it, fp, tn, J, H2, rfl, I2, T, st2, fp2, rd⟩ := pie
  refine wpAny_newObj_type (newEnv_comp ?_) (by show 0 ≤ sizeLine; decide)
  -- the new list at D
  obtain ⟨D, hD⟩ : ∃ D, D = s2.heap.objs.size := ⟨_, rfl⟩
  obtain ⟨s3, hs3⟩ : ∃ s3 : Shared, s3 = { s2 with heap := s2.heap.push { cls := .type "list", data := .seq ([] : List Value).toArray } } := ⟨_, rfl⟩
  have hh3 : s3.heap = s2.heap.push { cls := .type "list", data := .seq ([] : List Value).toArray } := by rw [hs3]
  rw [← hD, ← hs3]
  obtain ⟨Wv, ⟨m0, w0⟩, turn⟩ := rd D (I2.hok.fresh (Nat.le_of_eq hD.symm))
  have old3 : ∀ b o, s2.heap.get? b = some o → s3.heap.get? b = some o := fun b o e => by rw [hh3]; exact Heap.get?_push_of_some _ e
  have I3 : Inv X pins σ (upd H2 D (.lst [])) s3 := by
    have obj : ObjOk X.prog X.w (upd H2 D (.lst [])) s3.heap D (.lst []) := ⟨Nat.zero_le _, [], 0, .nil, by rw [hh3, hD]; exact Heap.get?_push_size _ rfl⟩
    have z := I2.laid (t' := s2.toks) (h' := s3.heap) old3 (Nat.le_of_eq hD.symm) obj
    rw [hs3] at z ⊢
    exact z
  obtain ⟨H3, hH3⟩ : ∃ H3, H3 = upd H2 D (.lst []) := ⟨_, rfl⟩
  rw [← hH3] at I3 w0
  have fpD : ∀ b ∈ fp, b < D := fun b hb => by
    obtain ⟨o, e, _⟩ := T.obj _ _ st2 b hb
    rw [hD]
    exact Heap.lt_size e
  have fp3 : ∀ b ∈ fp, FpOk X pins H3 b ∧ b < s3.heap.objs.size := fun b hb => by
    obtain ⟨z, r⟩ := fp2 b hb
    refine ⟨⟨?_, r⟩, ?_⟩
    · rw [hH3, upd_ne (Nat.ne_of_lt (fpD b hb))]
      exact z
    · rw [hh3, Heap.size_push]
      exact Nat.lt_succ_of_lt (hD ▸ fpD b hb)
  have st3 : tn 0 s3.heap := T.keep _ _ _ st2 fun b _ => old3 b
  -- the block
  obtain ⟨ce, hce⟩ : ∃ ce, ce = compEnvC scope (cellsFrom (s3.heap.objs.size + 1) scope.names (cloFrom X.env.cells scope.names [])) s3.heap.objs.size X.env := ⟨_, rfl⟩
  have cL : ce.locals = s3.heap.objs.size := by rw [hce]; rfl
  have cf : ce.frame = X.env.frame := by rw [hce]; rfl
  obtain ⟨s4, hs4⟩ : ∃ s4 : Shared, s4 = { s3 with heap := pushCells (s3.heap.push { cls := .type "dict", data := .dict #[] }) scope.names } := ⟨_, rfl⟩
  have I4 : Inv (X.blk s3 H3 scope ce fp) [] (wipe σ (own.map (·.2))) H3 s4 := by
    rw [hs4, hce]
    exact block_start I3 ok hN fp3
  have st4 : tn 0 s4.heap := T.keep _ _ _ st3 fun b _ o e => by rw [hs4]; exact pushCells_keeps _ _ _ _ (Heap.get?_push_of_some _ e)
  have pg := hg s3 H3 s3.heap.objs.size (cellsFrom (s3.heap.objs.size + 1) scope.names (cloFrom X.env.cells scope.names [])) fp
  have pe := he (fun cls d H => W cls d σ H) s3 H3 s3.heap.objs.size (cellsFrom (s3.heap.objs.size + 1) scope.names (cloFrom X.env.cells scope.names [])) fp
  rw [← hce] at pg pe
  have hch : ∀ b ∈ fp, (b ∈ X.ex ∨ X.s_0.heap.objs.size ≤ b) ∧ b ≠ X.env.locals ∧ (∀ x c, X.env.cells.lookup x = some c → c ≠ b) ∧ ∀ p ∈ X.pn ++ pins, p.1 ≠ b := fun b hb => by
    obtain ⟨⟨_, a2, _, a4, a5, a6⟩, _⟩ := fp3 b hb
    exact ⟨a4, a2, a5, a6⟩
  have nfp : ∀ b ∈ fp, H3 b = none := fun b hb => (fp3 b hb).1.1
  have stat : ∀ {σ' : L2.St} {H' : Hp} {s' : Shared}, Inv (X.blk s3 H3 scope ce fp) [] σ' H' s' → (∀ b ∈ fp, H' b = none) → ∀ b ∈ fp, FpOk (X.blk s3 H3 scope ce fp) [] H' b := fun {σ' H' s'} J hn b hb =>
    ⟨hn b hb, (J.ok.exf b hb).1, J.ok.exfs b hb, .inl hb, fun x c => (J.ok.exf b hb).2 x c, fun p hp => absurd (show p ∈ ([] : List (Addr × Obj)) ++ [] from hp) (by simp)⟩
  change codeAny _ _ (.compStart (.ListComp elt [⟨tg, iter, [], 0⟩] scope pos) 0 (.ref it) (.ref D) (compEnvC scope (cellsFrom (s3.heap.objs.size + 1) scope.names (cloFrom X.env.cells scope.names [])) s3.heap.objs.size X.env))
    (compEnds (model X.prog X.w) X.A X.xe none (EP X pins σ Q) (.ref D) (compEnvC scope (cellsFrom (s3.heap.objs.size + 1) scope.names (cloFrom X.env.cells scope.names [])) s3.heap.objs.size X.env))
    { s3 with heap := pushCells (s3.heap.push { cls := .type "dict", data := .dict #[] }) scope.names }
  rw [← hce, ← hs4]
  have fails : ∀ {u : Value} {s' : Shared} {pins1 : List (Addr × Obj)} {σ1 : L2.St} {H1 : Hp} {s1 : Shared}, Inv (X.blk s3 H3 scope ce fp) pins1 σ1 H1 s1 → L2.CX X.prog X.w X.stack H1 s1 (fun cls d H => W cls d σ H) u s' →
      notedBy (model X.prog X.w) X.A ce (fun e s'' => compEnds (model X.prog X.w) X.A X.xe none (EP X pins σ Q) (.ref D) ce (.error e) s'') u s' := fun I1 c => lcx_fly hs hf tk I3 cL cf hch I1 c
  have loop : codeAny (model X.prog X.w) X.A (.compLoop (.ListComp elt [⟨tg, iter, [], 0⟩] scope pos) 0 (.ref it) (.ref D) ce) (compEnds (model X.prog X.w) X.A X.xe none (EP X pins σ Q) (.ref D) ce) s4 := by
    refine compLoop_any (fun n s' => ∃ i H', Inv (X.blk s3 H3 scope ce fp) [] (wipe σ (own.map (·.2))) H' s' ∧ tn i s'.heap ∧ (∀ b ∈ fp, H' b = none) ∧ Wv i n H') (fun n s5 hI => ?_) m0 ⟨0, H3, I4, st4, nfp, w0⟩
    obtain ⟨i, H5, I5, st5, n5, w5⟩ := hI
    rcases turn i n H5 w5 with ⟨stop, qd⟩ | ⟨go, Nx, nxt, body⟩
    · refine thnF (T.done (X.blk s3 H3 scope ce fp) rfl rfl rfl hc i [] s5 _ H5 (fun _ _ => False) I5 (stat I5 n5) st5 stop) fun r s6 ⟨er, I6⟩ => ?_
      rw [er]
      obtain ⟨m, hn, _⟩ := I6.loc
      refine ⟨m, hn, fun h9 sb => ?_⟩
      have J : Inv X pins σ H5 s6 := I3.call' (ch := fp) I6.os I6.base I6.hok I6.bare hch
      have fC : H5 ce.locals = none := I6.free
      obtain ⟨b0, b1, _, b3, b4, b5⟩ := I3.fpOk (H' := H5) (b := ce.locals) (Nat.le_of_eq cL.symm) fC
      exact ⟨.ref D, H5, J.turned (t' := s6.toks) (fun b o hb e => (sb.2 b hb).trans e) b0 b1 b3 b4 b5, rfl, qd⟩
    · refine thnF (T.item (X.blk s3 H3 scope ce fp) rfl rfl rfl hc i [] s5 _ H5 (fun _ _ => False) I5 (stat I5 n5) st5 go) fun r s6 ⟨u, er, g6⟩ => ?_
      rw [er]
      refine thnF g6 fun _ s7 ⟨x, H7, I7, r7, y7, st7, n7⟩ => ?_
      refine thnF (pg.run _ s7 _ H7 x u _ (I7.pinned (stat I7 n7) (T.obj _ _ st7)) r7 (body x H7 y7)) fun _ s8 ⟨σ8, H8, I8, same, q8⟩ => ?_
      refine wpAny_tests_nil ?_
      simp only [if_true]
      have turned : ∀ {s' : Shared} {H' : Hp}, Inv (X.blk s3 H3 scope ce fp) ([] ++ pinsAt fp s7.heap) σ8 H' s' → Nx H' → ∃ m, m < n ∧ ∃ i H', Inv (X.blk s3 H3 scope ce fp) [] (wipe σ (own.map (·.2))) H' s' ∧ tn i s'.heap ∧ (∀ b ∈ fp, H' b = none) ∧ Wv i m H' := fun {s' H'} J nx => by
        obtain ⟨m', lt, w'⟩ := nxt H' nx
        have kept : ∀ {b : Addr} {o : Obj}, b ∈ fp → s7.heap.get? b = some o → s'.heap.get? b = some o ∧ H' b = none := fun {b o} hb e =>
          have z := J.pin (b, o) (List.mem_append_right _ (List.mem_append_right _ (mem_pinsAt hb e)))
          ⟨z.1, z.2.1⟩
        refine ⟨m', lt, i + 1, H', (J.unpinned (pins := [])).weak (by rw [← same, wipe_length]) (fun j v e => ?_), T.keep _ _ _ st7 fun b hb o e => (kept hb e).1, fun b hb => ?_, w'⟩
        · rw [← same] at e
          exact (wipe_some e).1
        · obtain ⟨o, e, _⟩ := T.obj _ _ st7 b hb
          exact (kept hb e).2
      refine wpAny_mono (pe.run _ s8 σ8 H8 _ (I8.wish _) q8) (fun z s10 ⟨yv, H10, I10, r10, acc, d10, l10, nx⟩ => ?_) fun u s' ⟨p1, σ1, H1, s1, J, c⟩ => fails J c
      exact app_ok (X := X.blk s3 H3 scope ce fp) I10.unwish d10 l10 r10 fun s11 I11 => turned I11 nx
  exact codeAny_compStart_list loop (T.self X.A 0 _ _ _ st4 loop)
end
end Mx
set_option Elab.async false
set_option linter.all false
set_option maxRecDepth 100000
set_option maxHeartbeats 2000000
/-! Data without lists stays while lists are written. -/
namespace Mx
open PySem PySem.Spec PyProof.Rows L2 Evl TL
open PySem.W (Datum DatumOrd Tup)
def firm : HO → Bool
  | .tup _ => true
  | .frz _ (.tup _) => true
  | _ => false
/-- what is firm stays -/
def Ux (H H' : Hp) : Prop := ∀ a u, H a = some u → firm u = true → H' a = some u
theorem Ux.of {H H' : Hp} (e : Ex H H') : Ux H H' := fun a u h _ => e a u h
theorem Ux.trans {H H1 H2 : Hp} (a : Ux H H1) (b : Ux H1 H2) : Ux H H2 := fun x u h f => b x u (a x u h f) f
theorem Ux.upd {H : Hp} {p : Addr} {o o' : HO} (h : H p = some o) (f : firm o = false) : Ux H (L2.upd H p o') := fun a u ha fa => by
  rw [upd_ne]
  · exact ha
  · intro e
    rw [e, h] at ha
    cases ha
    rw [f] at fa
    cases fa
theorem ux_t {K : PySem.W.Frag} {H H' : Hp} {a : Addr} {xs : List V} (e : Ux H H') (h : SqT K H a xs) : SqT K H' a xs := by
  rcases h with h | h
  · rcases h with h | ⟨o, h⟩
    · exact .inl (.inl (e _ _ h rfl))
    · exact .inl (.inr ⟨o, e _ _ h rfl⟩)
  · exact .inr h
mutual
def tupD : PyData → Bool
  | .list _ => false
  | .dict _ => false
  | .tuple ds => tupDs ds
  | _ => true
def tupDs : List PyData → Bool
  | [] => true
  | d :: ds => tupD d && tupDs ds
end
mutual
theorem dp_ux {K : PySem.W.Frag} {H H' : Hp} (e : Ux H H') : ∀ (d : PyData) (v : V), tupD d = true → Dp K H v d → Dp K H' v d
  | .none, _, _, h => by cases h; exact .non
  | .bool b, _, _, h => by cases h; exact .bl b
  | .int i, _, _, h => by cases h; exact .int i
  | .str x, _, _, h => by cases h; exact .str x
  | .list ds, _, f, _ => by cases f
  | .tuple ds, _, f, h => by
    cases h with
    | tup hs ha => exact .tup (ux_t e hs) (dpAll_ux e ds _ f ha)
  | .dict _, _, f, _ => by cases f
theorem dpAll_ux {K : PySem.W.Frag} {H H' : Hp} (e : Ux H H') : ∀ (ds : List PyData) (vs : List V), tupDs ds = true → DpAll K H vs ds → DpAll K H' vs ds
  | [], _, _, h => by cases h; exact .nil
  | d :: ds, _, f, h => by
    have f1 : tupD d = true := by
      have : (tupD d && tupDs ds) = true := f
      exact (Bool.and_eq_true_iff.mp this).1
    have f2 : tupDs ds = true := by
      have : (tupD d && tupDs ds) = true := f
      exact (Bool.and_eq_true_iff.mp this).2
    cases h with
    | cons h1 h2 => exact .cons (dp_ux e d _ f1 h1) (dpAll_ux e ds _ f2 h2)
end
/-- a type whose data hold no lists -/
class Firm (α : Type) [DecidableEq α] [Datum α] : Prop where
  firm : ∀ x : α, tupD (Datum.toD x) = true
instance : Firm Int := ⟨fun _ => rfl⟩
instance : Firm Str := ⟨fun _ => rfl⟩
instance : Firm Bool := ⟨fun _ => rfl⟩
theorem tupDs_map {α : Type} [DecidableEq α] [Datum α] [Firm α] : ∀ xs : List α, tupDs (xs.map Datum.toD) = true
  | [] => rfl
  | x :: r => by
    show (tupD (Datum.toD x) && tupDs (r.map Datum.toD)) = true
    rw [Firm.firm x, tupDs_map r]
    rfl
instance {α : Type} [DecidableEq α] [Datum α] [Firm α] : Firm (Tup α) := ⟨fun x => tupDs_map x.items⟩
instance {α β : Type} [DecidableEq α] [Datum α] [Firm α] [DecidableEq β] [Datum β] [Firm β] : Firm (α × β) := ⟨fun x => by
  show (tupD (Datum.toD x.1) && (tupD (Datum.toD x.2) && true)) = true
  rw [Firm.firm x.1, Firm.firm x.2]
  rfl⟩
theorem Dt.ux {α : Type} [DecidableEq α] [Datum α] [Firm α] {K : PySem.W.Frag} {H H' : Hp} {v : V} {x : α} (e : Ux H H') (h : Dt K H v x) : Dt K H' v x := dp_ux e _ _ (Firm.firm x) h
theorem dpAll_uxT {α : Type} [DecidableEq α] [Datum α] [Firm α] {K : PySem.W.Frag} {H H' : Hp} {vs : List V} {xs : List α} (e : Ux H H') (h : DpAll K H vs (xs.map Datum.toD)) : DpAll K H' vs (xs.map Datum.toD) := dpAll_ux e _ _ (tupDs_map xs) h
theorem dpAll_snoc {α : Type} [DecidableEq α] [Datum α] {K : PySem.W.Frag} {H : Hp} {v : V} {x : α} : ∀ {vs : List V} {xs : List α}, DpAll K H vs (xs.map Datum.toD) → Dt K H v x → DpAll K H (vs ++ [v]) ((xs ++ [x]).map Datum.toD)
  | _, [], h, hx => by cases h; exact .cons hx .nil
  | _, _ :: _, h, hx => by
    cases h with
    | cons h1 h2 => exact .cons h1 (dpAll_snoc h2 hx)
theorem dpAll_len {α : Type} [DecidableEq α] [Datum α] {K : PySem.W.Frag} {H : Hp} {vs : List V} {xs : List α} (h : DpAll K H vs (xs.map Datum.toD)) : vs.length = xs.length := (dpAll_at h).1
end Mx
set_option Elab.async false
set_option linter.all false
set_option maxRecDepth 100000
set_option maxHeartbeats 4000000
namespace Mx
open PySem PySem.Spec PyProof.Rows L2 Evl TL
open PySem.W (Datum DatumOrd Tup)
/-! ### an error class with two fields -/
structure Err2 (P : Program) (w : World) (K : PySem.W.Frag) (mg : Str → Option Value) (base : Heap) (x f1 f2 : Str) (C : Addr) : Prop where
  mgC : mg x = some (.ref C)
  T : OexC K C
  ini : ∃ (fI : Addr) (fd : FuncData) (s1 : Str), PySem.W.findIn K (.ref C) "__init__" = some (some (.ref fI)) ∧ PySem.W.typeIn K (.ref fI) = some (.type "function") ∧ FnOk P w K mg base CX0 1 fI fd [s1, f1, f2] (spTwo C f1 f2) ∧ Binds K fd [s1, f1, f2] []
  xf : XfC K C
  n1 : PySem.W.findIn K (.ref C) f1 = some none
  n2 : PySem.W.findIn K (.ref C) f2 = some none
  te : PySem.W.exmOne K (.ref C) (.ref C) = some true
theorem pmk_err {X : Cx} {x f1 f2 : Str} {C : Addr} {k : Nat} {p pos : Pos} {e : Expr} {es : List Expr} {ta : TA} (R : Err2 X.prog X.w X.K X.mg X.base x f1 f2 C) (hr : Room k X.A) (hg : Gl X x) (ha : PA X (e :: es) ta) (hk : 2 ≤ k := by decide) (hdb : (x == ("__debug__" : Str)) = false := by decide +kernel)
    (he : starEach (e :: es) X.env = (false, eval e X.env) :: starEach es X.env := by rfl) (hpl : (backTo pos (starEach es X.env)).any (·.1) = false := by rfl) : PMk X (.Call (.Name x p) (e :: es) [] pos) (tMkO C (spTwo C f1 f2) [] ta) := by
  obtain ⟨fI, fd, s1, iC, tI, F1, hb⟩ := R.ini
  exact pmk_oex R.T iC tI F1 (hr.mono hk) hb .nil pass0 hg R.mgC ha hdb he hpl
end Mx
set_option Elab.async false
set_option linter.all false
set_option maxRecDepth 100000
set_option maxHeartbeats 4000000
namespace Mx
open PySem PySem.Spec PyProof.Rows L2 Evl TL
open PySem.W (Datum DatumOrd Tup)
/-! ### values of which a type is known -/
section
variable {σ : L2.St} {H H' : Hp} {te ta tb : TE} {K : PySem.W.Frag} {α β : Type} [DecidableEq α] [Datum α] [DecidableEq β] [Datum β]
def EvD (te : TE) (K : PySem.W.Frag) (σ : L2.St) (H : Hp) (x : α) : Prop := EvP te σ H fun v H2 => Dt K H2 v x
theorem evd_int {i : Int} (h : Ev te σ H (.int i)) : EvD te K σ H i := fun H1 e Q q => h H1 e Q fun H2 e2 => q _ H2 e2 dt_int
theorem evd_str {s : Str} (h : Ev te σ H (.str s)) : EvD te K σ H s := fun H1 e Q q => h H1 e Q fun H2 e2 => q _ H2 e2 dt_str
theorem evd_v {v : V} {x : α} (h : Ev te σ H v) (d : Dt K H v x) : EvD te K σ H x := fun H1 e Q q => h H1 e Q fun H2 e2 => q _ H2 e2 (d.ex (e.trans e2))
theorem evd_pair {x : α} {y : β} (ha : EvD ta K σ H x) (hb : EvD tb K σ H y) : EvD (tTup (tCons ta (tCons tb tNil))) K σ H (x, y) := fun H1 e Q q =>
  ha H1 e _ fun v H2 e2 dv => hb H2 (e.trans e2) _ fun u H3 e3 du => ⟨by show 2 ≤ sizeLine; decide, fun p hp => q _ _ ((e2.trans e3).trans (Ex.new hp)) (dt_pair (st_of upd_same) ((dv.ex e3).ex (Ex.new hp)) (du.ex (Ex.new hp)))⟩
theorem evd_op {f : α → α → Bool} {x y : α} (ha : EvD ta K σ H x) (hb : EvD tb K σ H y) : Ev (tOp (rDt α K f) ta tb) σ H (.bl (f x y)) := fun H1 e Q q =>
  ha H1 e _ fun v H2 e2 dv => hb H2 (e.trans e2) _ fun u H3 e3 du => ⟨x, y, dv.ex e3, du, q H3 (e2.trans e3)⟩
end
section
variable {K : PySem.W.Frag}
theorem rv_dt {α : Type} [DecidableEq α] [Datum α] {H : Hp} {x y : V} {a b : α} {f : α → α → Bool} (hx : Dt K H x a) (hy : Dt K H y b) : RV (rDt α K f) x y H (.bl (f a b)) :=
  fun H1 e Q q => ⟨a, b, hx.ex e, hy.ex e, q H1 (Ex.refl H1)⟩
end
theorem q_asgP {te : TE} {i : Nat} {σ : L2.St} {H : Hp} {D : Ends} {tz : TS} {R : V → Hp → Prop} (h : EvP te σ H R) (k : ∀ v H1, Ex H H1 → R v H1 → tz D (σ.set i (some v)) H1) : tSeq (tAsg te (gName i)) tz D σ H := h H (Ex.refl H) _ fun v H1 e r => k v H1 e r
theorem dp_pick {α : Type} [DecidableEq α] [Datum α] {K : PySem.W.Frag} {H : Hp} {P : α → Prop} : ∀ {vs : List V}, (∀ v ∈ vs, ∃ x : α, Dt K H v x ∧ P x) → ∃ xs : List α, DpAll K H vs (xs.map Datum.toD) ∧ ∀ x ∈ xs, P x
  | [], _ => ⟨[], .nil, fun _ h => absurd h (by simp)⟩
  | v :: vs, h => by
    obtain ⟨x, d, p⟩ := h v (List.mem_cons_self ..)
    obtain ⟨xs, ds, ps⟩ := dp_pick (vs := vs) fun v hv => h v (List.mem_cons_of_mem _ hv)
    refine ⟨x :: xs, .cons d ds, fun y hy => ?_⟩
    rcases List.mem_cons.mp hy with rfl | hy
    · exact p
    · exact ps y hy
section
variable {σ : L2.St} {H H' : Hp} {te ta tb : TE} {K : PySem.W.Frag} {E : XK} {P : Program} {w : World}
abbrev rAddS : R2 := fun x y H Q => ∃ i j, x = .str i ∧ y = .str j ∧ i.length + j.length ≤ sizeLine ∧ Q (.str (i ++ j)) H
theorem ev_addS {x y : Str} (h : Ev ta σ H (.str x)) (h2 : Ev tb σ H (.str y)) (hz : x.length + y.length ≤ 100000) : Ev (tOp rAddS ta tb) σ H (.str (x ++ y)) := ev_op h h2 fun H1 _ Q q => ⟨x, y, rfl, rfl, sz_of hz, q H1 (Ex.refl H1)⟩
theorem ev_pairs : ∀ {trs : List (TE × TE)} {kvs : List (V × V)}, Paired (fun (t : TE × TE) (kv : V × V) => Ev t.1 σ H kv.1 ∧ Ev t.2 σ H kv.2) trs kvs → ∀ H1, Ex H H1 → ∀ Q : List (V × V) → Hp → Prop, (∀ H2, Ex H1 H2 → Q kvs H2) → tPairs trs σ H1 Q
  | _, _, .nil, H1, e, Q, q => q H1 (Ex.refl H1)
  | _, _, .cons h t, H1, e, Q, q => h.1 H1 e _ fun H2 e2 => h.2 H2 (e.trans e2) _ fun H3 e3 => ev_pairs t H3 ((e.trans e2).trans e3) _ fun H4 e4 => q H4 ((e2.trans e3).trans e4)
theorem ev_dispGet {trs : List (TE × TE)} {ty : TE} {kvs : List (Key × V)} {key : Key} {v : V} (h : Paired (fun (t : TE × TE) (kv : V × V) => Ev t.1 σ H kv.1 ∧ Ev t.2 σ H kv.2) trs (kvs.map fun kv => (kV kv.1, kv.2))) (hk : Ev ty σ H (kV key)) (h15 : kvs.length ≤ 15) (hv : valV (mergeK [] kvs) key = some v) :
    Ev (tDGet (tDisp trs) ty) σ H v := fun H1 e Q q p hp =>
  ev_pairs h (upd H1 p (.dK [])) (e.trans (Ex.new hp)) _ fun H2 e2 => ⟨e2 _ _ upd_same, kvs, rfl, h15, hk _ (Ex.mut ((e.trans (Ex.new hp)).trans e2) (fresh_back e hp)) _ fun H3 e3 => ⟨p, v, rfl, by
    have z := DGet.k (H := H3) (a := p) (k := key) (kvs := mergeK [] kvs) (e3 _ _ upd_same)
    rw [hv] at z
    exact z, q H3 ((Ex.mut ((Ex.new hp).trans e2) hp).trans e3)⟩⟩
theorem valV_look (s : Str) : ∀ l : List (Str × Bool), valV (l.map fun kb => ((Sum.inr kb.1 : Key), V.bl kb.2)) (Sum.inr s) = (l.lookup s).map V.bl
  | [] => rfl
  | (k, b) :: r => by
    by_cases h : k = s
    · rw [List.map_cons, valV_pos (by rw [h]), List.lookup_cons, h]
      simp
    · have h2 : ¬ (Sum.inr k : Key) = Sum.inr s := fun z => h (Sum.inr.inj z)
      have h3 : (s == k) = false := by simpa using fun z => h z.symm
      have z := valV_look s r
      rw [List.map_cons, List.lookup_cons, h3]
      unfold valV at z ⊢
      rw [List.find?_cons_of_neg (by simpa using h2)]
      exact z
theorem look_mem (s : Str) : ∀ l : List (Str × Bool), s ∈ l.map (·.1) → l.lookup s = some ((l.lookup s).getD false)
  | [], h => absurd h (by simp)
  | (k, b) :: r, h => by
    by_cases e : s = k
    · rw [List.lookup_cons, e]
      simp
    · have h3 : (s == k) = false := by simpa using e
      rw [List.lookup_cons, h3]
      refine look_mem s r ?_
      rcases List.mem_cons.mp h with z | z
      · exact absurd z e
      · exact z
theorem int_eq (i j : Int) : decide (V.int i = V.int j) = decide (i = j) := decide_eq_decide.mpr ⟨V.int.inj, fun h => by rw [h]⟩
section
variable {α : Type} [DecidableEq α] [Datum α]
def EvDA (ta : TA) (K : PySem.W.Frag) (σ : L2.St) (H : Hp) (xs : List α) : Prop := ∀ H1, Ex H H1 → ∀ Q : List V → Hp → Prop, (∀ vs H2, Ex H1 H2 → DpAll K H2 vs (xs.map Datum.toD) → Q vs H2) → ta σ H1 Q
theorem eda_nil : EvDA tNil K σ H ([] : List α) := fun H1 _ Q q => q [] H1 (Ex.refl H1) .nil
theorem eda_cons {tr : TA} {x : α} {xs : List α} (h : EvD te K σ H x) (hr : EvDA tr K σ H xs) : EvDA (tCons te tr) K σ H (x :: xs) := fun H1 e Q q =>
  h H1 e _ fun v H2 e2 d => hr H2 (e.trans e2) _ fun vs H3 e3 ds => q (v :: vs) H3 (e2.trans e3) (.cons (d.ex e3) ds)
theorem evd_tup {ta : TA} {xs : List α} (h : EvDA ta K σ H xs) (hl : xs.length ≤ 1000) : EvD (tTup ta) K σ H (Tup.mk xs) := fun H1 e Q q =>
  h H1 e _ fun vs H2 e2 ds => ⟨by rw [dpAll_len ds]; exact Nat.le_trans hl (by decide), fun p hp => q _ _ (e2.trans (Ex.new hp)) (dt_tup (st_of upd_same) (dpAll_ex (Ex.new hp) _ _ ds))⟩
/-- a loop over a tuple of which a type is known -/
theorem q_forD {tl : TE} {g : TG} {tu tz : TS} {D : Ends} {xs : List α} (h : EvD tl K σ H (Tup.mk xs)) (Pv : Nat → L2.St → Prop) (h0 : Pv 0 σ)
    (hs : ∀ H1 i x v σ' H', Ex H H1 → xs[i]? = some x → Dt K H' v x → Ex H1 H' → Pv i σ' → g v σ' H' fun σ2 H2 => tu { D with nx := fun σ'' H'' => Ex H1 H'' ∧ Pv (i + 1) σ'', ct := fun σ'' H'' => Ex H1 H'' ∧ Pv (i + 1) σ'', bk := tz D } σ2 H2)
    (hd : ∀ H1 σ' H', Ex H H1 → Ex H1 H' → Pv xs.length σ' → tz D σ' H') : tSeq (tFor (iTup K tl) g tu) tz D σ H :=
  h H (Ex.refl H) _ fun v H1 e d => by
    obtain ⟨a, vs, rfl, ha, da⟩ := dt_tup_inv d
    obtain ⟨lv, fv⟩ := dpAll_at da
    refine ⟨a, rfl, ⟨vs, ha⟩, for_tup (D := { D with nx := tz D }) (fun i σ'' H'' => Ex H1 H'' ∧ Pv i σ'') ⟨Ex.refl H1, h0⟩ (fun i σ'' H'' _ z => ex_t z.1 ha) (fun i y σ'' H'' hy z => ?_) fun σ'' H'' z => hd H1 σ'' H'' e z.1 (lv ▸ z.2)⟩
    obtain ⟨x, hx, dx⟩ := fv i y hy
    exact hs H1 i x y σ'' H'' e hx (dx.ex z.1) z.1 z.2
end
theorem ints_of {Pd : Int → Prop} : ∀ {vs : List V}, (∀ v ∈ vs, ∃ d : Int, v = .int d ∧ Pd d) → ∃ ns : List Int, vs = ns.map V.int ∧ ∀ n ∈ ns, Pd n
  | [], _ => ⟨[], rfl, fun _ h => absurd h (by simp)⟩
  | v :: vs, h => by
    obtain ⟨d, rfl, hd⟩ := h v (List.mem_cons_self ..)
    obtain ⟨ns, rfl, hl⟩ := ints_of (vs := vs) fun v hv => h v (List.mem_cons_of_mem _ hv)
    refine ⟨d :: ns, rfl, fun n hn => ?_⟩
    rcases List.mem_cons.mp hn with rfl | hn
    · exact hd
    · exact hl n hn
end
end Mx
set_option Elab.async false
set_option linter.all false
set_option maxRecDepth 100000
set_option maxHeartbeats 4000000
/-! sorted(xs) where the items are data of a type. -/
namespace Mx
open PySem PySem.Spec PyProof.Rows L2 Evl TL
open PySem.W (Datum DatumOrd Tup EachIs)
def sortD {α : Type} [DecidableEq α] [Datum α] (xs : List α) : List α := xs.mergeSort (PySem.W.dataLe false (Datum.toD (α := α)))
class Srt (α : Type) [DecidableEq α] [Datum α] : Prop where
  srt : ∀ xs : List α, PySem.W.Sortable (xs.map Datum.toD)
instance : Srt Int := ⟨fun _ => .others fun b => ⟨fun e => (by cases e), fun _ e => (by cases e)⟩⟩
instance : Srt Str := ⟨fun _ => .others fun b => ⟨fun e => (by cases e), fun _ e => (by cases e)⟩⟩
instance {α β : Type} [DecidableEq α] [Datum α] [DecidableEq β] [Datum β] : Srt (α × β) := ⟨fun _ => .tuples fun b => ⟨_, _, rfl⟩⟩
section
variable {X : Cx} {α : Type} [DecidableEq α] [DatumOrd α] [Srt α]
abbrev rSortedD (α : Type) [DecidableEq α] [Datum α] (K : PySem.W.Frag) : List V → Hp → VK → Prop := fun vs H Q => ∃ (a : Addr) (us : List V) (xs : List α), vs = [.ref a] ∧ SqL K H a us ∧ DpAll K H us (xs.map Datum.toD) ∧ xs.length ≤ 100000 ∧
  ∀ (us' : List V) (p : Addr), H p = none → DpAll K H us' ((sortD xs).map Datum.toD) → Q (.ref p) (upd H p (.lst us'))
theorem each_lift {R : Value → α → Prop} {S : V → Value → α → Prop} (hS : ∀ u b, R u b → ∃ v, RelV v u ∧ S v u b) : ∀ {us : List Value} {bs : List α}, EachIs R us bs → ∃ vs : List V, Vals vs us ∧ Paired (fun v b => ∃ u, S v u b) vs bs
  | _, _, .nil => ⟨[], .nil, .nil⟩
  | _, _, .cons h t => by
    obtain ⟨v, r, s⟩ := hS _ _ h
    obtain ⟨vs, rs, ps⟩ := each_lift hS t
    exact ⟨v :: vs, .cons r rs, .cons ⟨_, s⟩ ps⟩
theorem each_of {K : PySem.W.Frag} {H : Hp} : ∀ {vs : List V} {us : List Value} {xs : List α}, Vals vs us → DpAll K H vs (xs.map Datum.toD) → EachIs (fun u b => ∃ v, RelV v u ∧ Dt K H v b) us xs
  | _, _, [], r, h => by
    cases h
    cases r
    exact .nil
  | _, _, x :: xs, r, h => by
    cases h with
    | cons h1 h2 =>
      cases r with
      | cons r1 r2 => exact .cons ⟨_, r1, h1⟩ (each_of r2 h2)
theorem cr_sortedD (hu : X.A.units + 2 + Datum.depth α < cLine) : CallR X (.builtin "sorted") (rSortedD α X.K) := by
  intro pins s σ H vs us Q I r h
  obtain ⟨a, vs', xs, rfl, hs, hd, hl, q⟩ := h
  obtain ⟨its, rv, hlst, _⟩ := I.list hs
  rw [Vals.ref1 r]
  have e := each_of (α := α) rv hd
  refine PySem.W.sorted_data (enc := Datum.toD) hlst.isList e (e.mono fun u b ⟨v, rv, dv⟩ => dv.holds I rv) (PySem.W.AllAlike.of fun b b' => DatumOrd.alike b b') (Srt.srt xs) (by rw [sizeLine_eq]; omega)
    (fun b _ => Nat.lt_of_le_of_lt (Nat.add_le_add_left (Datum.depth_le b) _) hu) fun out ho eo => ?_
  obtain ⟨vs2, rv2, ps⟩ := each_lift (S := fun v u b => Dt X.K H v b) (fun u b ⟨v, r, d⟩ => ⟨v, r, d⟩) eo
  obtain ⟨ep, he'⟩ := PyProof.Rows.sortedAll_at s.heap its out.toArray
  have hlen : vs2.length ≤ sizeLine := by
    have := rv2.length
    rw [sizeLine_eq]
    omega
  refine ⟨.ref _, upd H (s.heap.objs.size + 1) (.lst vs2), I.laid (t' := s.toks) (fun _ _ => PyProof.Rows.sortedAll_old) (Nat.le_succ _) ⟨hlen, out, ep, rv2, he'⟩, rfl, q vs2 _ (I.hok.fresh (Nat.le_succ _)) ?_⟩
  refine dpAll_pair ?_
  have : ∀ {vs : List V} {bs : List α}, Paired (fun v b => ∃ u : Value, Dt X.K H v b) vs bs → Paired (fun v x => Dt X.K H v x) vs bs := fun p => by
    induction p with
    | nil => exact .nil
    | cons h _ ih => exact .cons (h.elim fun _ d => d) ih
  exact this ps
end
end Mx
set_option Elab.async false
set_option linter.all false
set_option maxRecDepth 100000
set_option maxHeartbeats 4000000
/-! Objects, dicts: methods as facts, what evaluates, statements. -/
namespace Mx
open PySem PySem.Spec PyProof.Rows L2 Evl TL
open PySem.W (Datum DatumOrd Tup)
/-! ### methods -/
def HasM (P : Program) (w : World) (K : PySem.W.Frag) (mg : Str → Option Value) (base : Heap) (CX : CXT) (k : Nat) (C : Addr) (m : Str) (ps : List Str) (sp : Sp) : Prop :=
  ∃ (f : Addr) (fd : FuncData), Meth K C m f ∧ Binds K fd ps [] ∧ FnOk P w K mg base CX k f fd ps sp
section
variable {X : Cx} {CX : CXT} {k : Nat} {C : Addr} {m : Str} {ps : List Str} {sp : Sp} {o e : Expr} {es : List Expr} {ta : TE} {t : TA} {apos pos : Pos}
theorem pe_m {pl : Sem Bool} {j : Nat} {E : XK} (he : PE X o ta) (c : Cls X.K C) (F : HasM X.prog X.w X.K X.mg X.base CX k C m ps sp) (hr : Room j X.A) (hx : Passes CX X E) (ha : PA X (e :: es) t) (hj : k ≤ j := by decide)
    (hst : starEach (e :: es) X.env = (false, eval e X.env) :: starEach es X.env := by rfl) (hpl : (backTo pos (starEach es X.env)).any (·.1) = false := by rfl)
    (ht : eval (.Call (.Attribute o m apos) (e :: es) [] pos) X.env = (do
      let ov ← eval o X.env
      standAt apos.atName
      let (f, first) ← holding [ov] (getMethod ov m pl)
      callWith pos f first (backTo pos (starEach (e :: es) X.env)) (backToKw pos (keywordEach [] X.env))) := by rfl) :
    PE X (.Call (.Attribute o m apos) (e :: es) [] pos) (tMeth C m sp [] E ta t) := by
  obtain ⟨f, fd, hm, hb, G⟩ := F
  exact pe_meth he c hm G (hr.mono hj) hb .nil hx ha hst hpl ht
theorem pe_m0' {pl : Sem Bool} {j : Nat} {E : XK} (he : PE X o ta) (c : Cls X.K C) (F : HasM X.prog X.w X.K X.mg X.base CX k C m ps sp) (hr : Room j X.A) (hx : Passes CX X E) (hj : k ≤ j := by decide)
    (ht : eval (.Call (.Attribute o m apos) [] [] pos) X.env = (do
      let ov ← eval o X.env
      standAt apos.atName
      let (f, first) ← holding [ov] (getMethod ov m pl)
      callWith pos f first (backTo pos (starEach [] X.env)) (backToKw pos (keywordEach [] X.env))) := by rfl) :
    PE X (.Call (.Attribute o m apos) [] [] pos) (tMeth C m sp [] E ta tNil) := by
  obtain ⟨f, fd, hm, hb, G⟩ := F
  exact pe_meth0 he c hm G (hr.mono hj) hb .nil hx ht
/-- in a try's body -/
def tMethT (C : Addr) (m : Str) (sp : Sp) (E : L2.St → XK) (ta : TE) (t : TA) : TE := fun σ H Q => ta σ H fun x H1 => ∃ a dx fs, x = .ref a ∧ H1 a = some (.ins C dx fs) ∧ fs.lookup m = none ∧
  t σ H1 fun vs H2 => sp (x :: vs) H2 Q (E σ)
theorem pe_mS {pl : Sem Bool} {j : Nat} {E : L2.St → XK} (he : PE X o ta) (c : Cls X.K C) (F : HasM X.prog X.w X.K X.mg X.base CX k C m ps sp) (hr : Room j X.A) (hx : ∀ σ, PassesAt CX X σ (E σ)) (ha : PA X (e :: es) t) (hj : k ≤ j := by decide)
    (hst : starEach (e :: es) X.env = (false, eval e X.env) :: starEach es X.env := by rfl) (hpl : (backTo pos (starEach es X.env)).any (·.1) = false := by rfl)
    (ht : eval (.Call (.Attribute o m apos) (e :: es) [] pos) X.env = (do
      let ov ← eval o X.env
      standAt apos.atName
      let (f, first) ← holding [ov] (getMethod ov m pl)
      callWith pos f first (backTo pos (starEach (e :: es) X.env)) (backToKw pos (keywordEach [] X.env))) := by rfl) :
    PE X (.Call (.Attribute o m apos) (e :: es) [] pos) (tMethT C m sp E ta t) := by
  obtain ⟨f, fd, hm, hb, G⟩ := F
  refine ⟨fun pins s σ H Q I h => ?_⟩
  refine PySem.W.methodCall_KW (pl := pl) (thn (he.run pins s σ H _ I h) fun u s1 ⟨x, H1, I1, rx, a, dx, fs, ex, ea, l, q⟩ => ?_) ht
  subst ex
  obtain rfl : u = Value.ref a := rx
  refine getmeth_ok I1 ea c hm l ?_
  refine PySem.W.callWith_K (first := [.ref a]) (h₀ := X.base) I.ok.mod.kin hm.kp (thn (ha.run pos pins s1 σ H1 _ I1 q) fun us s2 ⟨vs, H2, I2, r, q2⟩ => ⟨I2.kIn, ?_⟩) hst hpl
  exact run_fnS (us := .ref a :: us) (vs := .ref a :: vs) G (hr.mono hj) hb (hx σ) I2 (.cons rfl r) q2
end
/-! ### what evaluates -/
section
variable {σ : L2.St} {H H' : Hp} {te ta tb to td ty tx : TE} {v z : V} {K : PySem.W.Frag} {d x dx C : Addr} {kvs : List (Key × V)} {k : Key} {fs : List (Str × V)} {f : Str}
theorem rd_ex (e : Ex H H') {a : Addr} {u : HO} (h : Rd H a u) : Rd H' a u := ex_rd e h
theorem ev_fld (h : Ev to σ H (.ref x)) (hx : H x = some (.ins C dx fs)) (c : Cls K C) (n : NoAttr K C f) (l : fs.lookup f = some v) : Ev (tFld K to f) σ H v := fun H1 e Q q =>
  h H1 e _ fun H2 e2 => ⟨x, C, dx, fs, v, rfl, e2 _ _ (e _ _ hx), c, n, l, q H2 e2⟩
theorem dget_rd (h : Rd H d (.dK kvs)) : DGet H d (kV k) (valV kvs k) := .inl ⟨kvs, k, h, rfl, rfl⟩
theorem ev_dgetK (h : Ev td σ H (.ref d)) (hk : Ev ty σ H (kV k)) (hd : Rd H d (.dK kvs)) (hv : valV kvs k = some v) : Ev (tDGet td ty) σ H v := fun H1 e Q q =>
  h H1 e _ fun H2 e2 => hk H2 (e.trans e2) _ fun H3 e3 => ⟨d, v, rfl, hv ▸ dget_rd (rd_ex ((e.trans e2).trans e3) hd), q H3 (e2.trans e3)⟩
theorem ev_dget2K (h : Ev td σ H (.ref d)) (hk : Ev ty σ H (kV k)) (hz : Ev tx σ H z) (hd : Rd H d (.dK kvs)) : Ev (tDGet2 td ty tx) σ H ((valV kvs k).getD z) := fun H1 e Q q =>
  h H1 e _ fun H2 e2 => ⟨d, rfl, .inl ⟨kvs, rd_ex (e.trans e2) hd⟩, hk H2 (e.trans e2) _ fun H3 e3 => hz H3 ((e.trans e2).trans e3) _ fun H4 e4 => ⟨_, dget_rd (rd_ex (((e.trans e2).trans e3).trans e4) hd), q H4 ((e2.trans e3).trans e4)⟩⟩
theorem et_din (hk : Ev ty σ H (kV k)) (h : Ev td σ H (.ref d)) (hd : Rd H d (.dK kvs)) : EvT (tB (tDIn ty td)) σ H (valV kvs k).isSome := fun H1 e Q q =>
  hk H1 e _ fun H2 e2 => h H2 (e.trans e2) _ fun H3 e3 => ⟨d, _, rfl, dget_rd (rd_ex ((e.trans e2).trans e3) hd), _, rfl, q H3 (e2.trans e3)⟩
theorem et_dnin (hk : Ev ty σ H (kV k)) (h : Ev td σ H (.ref d)) (hd : Rd H d (.dK kvs)) : EvT (tB (tDNotIn ty td)) σ H (!(valV kvs k).isSome) := fun H1 e Q q =>
  hk H1 e _ fun H2 e2 => h H2 (e.trans e2) _ fun H3 e3 => ⟨d, _, rfl, dget_rd (rd_ex ((e.trans e2).trans e3) hd), _, rfl, q H3 (e2.trans e3)⟩
theorem ev_din (hk : Ev ty σ H (kV k)) (h : Ev td σ H (.ref d)) (hd : Rd H d (.dK kvs)) : Ev (tDIn ty td) σ H (.bl (valV kvs k).isSome) := fun H1 e Q q =>
  hk H1 e _ fun H2 e2 => h H2 (e.trans e2) _ fun H3 e3 => ⟨d, _, rfl, dget_rd (rd_ex ((e.trans e2).trans e3) hd), q H3 (e2.trans e3)⟩
/-! ### comprehensions over a dict -/
theorem ex_lock {u : HO} {o : Obj} (e : Ex (upd H d (.frz o u)) H') (hd : H d = some u) : Ex H (upd H' d u) := fun a w h => by
  by_cases c : a = d
  · rw [c] at h ⊢
    rw [upd_same]
    rw [hd] at h
    exact h
  · rw [upd_ne c]
    exact e a w (by rw [upd_ne c]; exact h)
/-- [e for k in d if t] : new list of what is given -/
theorem el_lcK {j : Nat} {vs : List Nat} {tt : TT} (f : Nat → Bool) (g : Nat → V) (h : ∀ o, Ev td σ (upd H d (.frz o (.dK kvs))) (.ref d)) (hd : H d = some (.dK kvs)) (hz : kvs.length ≤ 40000) (hw : ∀ x, wipe ((wipe σ vs).set j (some x)) vs = wipe σ vs)
    (ht : ∀ (i : Nat) (k : Key) (v : V) o H1, kvs[i]? = some (k, v) → Ex (upd H d (.frz o (.dK kvs))) H1 → EvT tt ((wipe σ vs).set j (some (kV k))) H1 (f i))
    (he : ∀ (i : Nat) (k : Key) (v : V) o H1, kvs[i]? = some (k, v) → f i = true → Ex (upd H d (.frz o (.dK kvs))) H1 → Ev te ((wipe σ vs).set j (some (kV k))) H1 (g i)) :
    EvL (tLockE (tLc (iKeys td) (gName j) tt te vs)) σ H (given kvs.length f g) := fun H1 e0 Q q => by
  have hd1 := e0 _ _ hd
  refine ⟨d, .dK kvs, hd1, trivial, fun o => ?_⟩
  have eL : Ex (upd H d (.frz o (.dK kvs))) (upd H1 d (.frz o (.dK kvs))) := fun a w z => by
    by_cases c : a = d
    · rw [c] at z ⊢
      rw [upd_same] at z ⊢
      exact z
    · rw [upd_ne c] at z ⊢
      exact e0 a w z
  refine h o _ eL _ fun H2 e2 => ⟨d, o, rfl, .inl ⟨kvs, e2 _ _ upd_same, fun D hD => ?_⟩⟩
  have base := eL.trans e2
  have hd2 : H2 d = some (.frz o (.dK kvs)) := e2 _ _ upd_same
  refine lc_it walk_keys (fun i H' => H2 D = none ∧ Ex H2 H' ∧ H' D = some (.lst (given i f g))) ⟨hD, Ex.new hD, upd_same⟩ (fun i H' _ p => p.2.1 _ _ hd2) (fun i x H' H'' hi p y => ?_) fun H' p => ?_
  · obtain ⟨p1, p2, p3⟩ := p
    obtain ⟨rfl, k, v, hk, rfl⟩ := y
    refine ⟨hw _, ?_⟩
    refine ht i k v o _ hk (base.trans p2) H'' (Ex.refl _) _ fun H3 e3 => ?_
    have gl := given_len i f g
    cases hf : f i with
    | true =>
      rw [if_pos rfl]
      refine he i k v o _ hk hf ((base.trans p2).trans e3) H3 (Ex.refl _) _ fun H4 e4 => ⟨_, e4 _ _ (e3 _ _ p3), sz_lt (by omega), p1, Ex.mut ((p2.trans e3).trans e4) p1, ?_⟩
      rw [upd_same, given_yes hf]
    | false =>
      rw [if_neg (by decide)]
      refine ⟨p1, p2.trans e3, ?_⟩
      rw [given_no hf]
      exact e3 _ _ p3
  · obtain ⟨p1, p2, p3⟩ := p
    have nD : D ≠ d := fun z => by rw [z, hd2] at p1; cases p1
    refine ⟨p2 _ _ hd2, q D _ ?_ (ex_lock (e2.trans p2) hd1) (by rw [upd_ne nD]; exact p3)⟩
    have := fresh_back e2 p1
    rw [upd_ne nD] at this
    exact this
/-- given over a list that maps: filter and map -/
theorem given_map {α : Type} (l : List α) (p : α → Bool) (gg : α → V) (f : Nat → Bool) (g : Nat → V) (hf : ∀ (i : Nat) x, l[i]? = some x → f i = p x) (hg : ∀ (i : Nat) x, l[i]? = some x → g i = gg x) : given l.length f g = (l.filter p).map gg := by
  have key : ∀ n, n ≤ l.length → given n f g = ((l.take n).filter p).map gg := fun n => by
    induction n with
    | zero => exact fun _ => rfl
    | succ n ih =>
      intro hn
      have hx : l[n]? = some l[n] := List.getElem?_eq_getElem (by omega)
      have ih := ih (by omega)
      rw [List.take_succ, hx, List.filter_append, List.map_append, ← ih]
      cases q : p l[n] with
      | true =>
        rw [given_yes ((hf n _ hx).trans q), hg n _ hx]
        simp [q]
      | false =>
        rw [given_no ((hf n _ hx).trans q)]
        simp [q]
  rw [key l.length (Nat.le_refl _), List.take_length]
/-! ### statements -/
theorem s_dput {tv : TE} {D : Ends} (hv : Ev tv σ H v) (hd : Ev td σ H (.ref d)) (hk : Ev ty σ H (kV k)) (h : H d = some (.dK kvs)) (hl : kvs.length ≤ 50000) (n : ∀ H1, Ex H H1 → D.nx σ (upd H1 d (.dK (putK kvs k v)))) : sDPut td ty tv D σ H :=
  hv H (Ex.refl H) _ fun H1 e1 => hd H1 e1 _ fun H2 e2 => hk H2 (e1.trans e2) _ fun H3 e3 => ⟨d, _, rfl, DPut.k (((e1.trans e2).trans e3) _ _ h) (sz_lt (by omega)), n H3 ((e1.trans e2).trans e3)⟩
theorem q_dput {tv : TE} {D : Ends} {tz : TS} (hv : Ev tv σ H v) (hd : Ev td σ H (.ref d)) (hk : Ev ty σ H (kV k)) (h : H d = some (.dK kvs)) (hl : kvs.length ≤ 50000) (n : ∀ H1, Ex H H1 → tz D σ (upd H1 d (.dK (putK kvs k v)))) : tSeq (sDPut td ty tv) tz D σ H :=
  s_dput (D := { D with nx := tz D }) hv hd hk h hl n
theorem s_fldaug {tv : TE} {rd : V → V → Hp → VK → Prop} {D : Ends} {y z : V} (h : Ev to σ H (.ref x)) (hx : H x = some (.ins C dx fs)) (c : Cls K C) (n : NoAttr K C f) (l : fs.lookup f = some v) (hv : Ev tv σ H y) (hr : RV rd v y H z) (hl : fs.length < 1000)
    (k : ∀ H1, Ex H H1 → D.nx σ (upd H1 x (.ins C dx (putF f z fs)))) : sFldAug K to tv rd f D σ H :=
  h H (Ex.refl H) _ fun H1 e1 => ⟨x, C, dx, fs, v, rfl, e1 _ _ hx, c, n, l, hv H1 e1 _ fun H2 e2 => hr H2 (e1.trans e2) _ fun H3 e3 => ⟨dx, fs, ((e1.trans e2).trans e3) _ _ hx, hl, k H3 ((e1.trans e2).trans e3)⟩⟩
theorem q_fldaug {tv : TE} {rd : V → V → Hp → VK → Prop} {D : Ends} {tz : TS} {y z : V} (h : Ev to σ H (.ref x)) (hx : H x = some (.ins C dx fs)) (c : Cls K C) (n : NoAttr K C f) (l : fs.lookup f = some v) (hv : Ev tv σ H y) (hr : RV rd v y H z) (hl : fs.length < 1000)
    (k : ∀ H1, Ex H H1 → tz D σ (upd H1 x (.ins C dx (putF f z fs)))) : tSeq (sFldAug K to tv rd f) tz D σ H := s_fldaug (D := { D with nx := tz D }) h hx c n l hv hr hl k
theorem s_fld {tv : TE} {D : Ends} {y : V} (hv : Ev tv σ H y) (h : Ev to σ H (.ref x)) (hx : H x = some (.ins C dx fs)) (c : Cls K C) (n : NoAttr K C f) (hl : fs.length < 1000)
    (k : ∀ H1, Ex H H1 → D.nx σ (upd H1 x (.ins C dx (putF f y fs)))) : sFld K to tv f D σ H :=
  hv H (Ex.refl H) _ fun H1 e1 => h H1 e1 _ fun H2 e2 => ⟨x, C, dx, fs, rfl, (e1.trans e2) _ _ hx, c, n, hl, k H2 (e1.trans e2)⟩
/-- d.pop(k) as a value -/
theorem t_dpop {Q : VK} (h : Ev td σ H (.ref d)) (hk : Ev ty σ H (kV k)) (hd : H d = some (.dK kvs)) (hv : valV kvs k = some v) (q : ∀ H1, Ex H H1 → Q v (upd H1 d (.dK (dropK kvs k)))) : tDPop1 td ty σ H Q :=
  h H (Ex.refl H) _ fun H1 e1 => ⟨d, rfl, .inl ⟨kvs, .inl (e1 _ _ hd)⟩, hk H1 e1 _ fun H2 e2 => ⟨kvs, k, v, (e1.trans e2) _ _ hd, rfl, hv, q H2 (e1.trans e2)⟩⟩
theorem q_dpop {D : Ends} {tz : TS} (h : Ev td σ H (.ref d)) (hk : Ev ty σ H (kV k)) (hd : H d = some (.dK kvs)) (hv : valV kvs k = some v) (q : ∀ H1, Ex H H1 → tz D σ (upd H1 d (.dK (dropK kvs k)))) : tSeq (tDrop (tDPop1 td ty)) tz D σ H := t_dpop h hk hd hv q
theorem s_dpop {D : Ends} (h : Ev td σ H (.ref d)) (hk : Ev ty σ H (kV k)) (hd : H d = some (.dK kvs)) (hv : valV kvs k = some v) (q : ∀ H1, Ex H H1 → D.nx σ (upd H1 d (.dK (dropK kvs k)))) : tDrop (tDPop1 td ty) D σ H := t_dpop h hk hd hv q
/-- a method's call -/
theorem t_meth {m : Str} {sp : Sp} {E : XK} {t : TA} {Q : VK} {vs : List V} (h : Ev to σ H (.ref x)) (hx : H x = some (.ins C dx fs)) (l : fs.lookup m = none) (ha : EvA t σ H vs) (q : ∀ H1, Ex H H1 → sp (.ref x :: vs) H1 Q E) : tMeth C m sp [] E to t σ H Q :=
  h H (Ex.refl H) _ fun H1 e1 => ⟨x, dx, fs, rfl, e1 _ _ hx, l, ha H1 e1 _ fun H2 e2 => by
    rw [List.append_nil]
    exact q H2 (e1.trans e2)⟩
theorem q_meth {m : Str} {sp : Sp} {E : XK} {t : TA} {D : Ends} {tz : TS} {vs : List V} (h : Ev to σ H (.ref x)) (hx : H x = some (.ins C dx fs)) (l : fs.lookup m = none) (ha : EvA t σ H vs) (q : ∀ H1, Ex H H1 → sp (.ref x :: vs) H1 (fun _ H2 => tz D σ H2) E) : tSeq (tDrop (tMeth C m sp [] E to t)) tz D σ H := t_meth h hx l ha q
theorem s_meth {m : Str} {sp : Sp} {E : XK} {t : TA} {D : Ends} {vs : List V} (h : Ev to σ H (.ref x)) (hx : H x = some (.ins C dx fs)) (l : fs.lookup m = none) (ha : EvA t σ H vs) (q : ∀ H1, Ex H H1 → sp (.ref x :: vs) H1 (fun _ H2 => D.nx σ H2) E) : tDrop (tMeth C m sp [] E to t) D σ H := t_meth h hx l ha q
/-- o.f -= len(o.g.pop(k)) -/
theorem q_augpop {D : Ends} {tz : TS} {u : Int} {t : Str} (h : Ev to σ H (.ref x)) (hx : H x = some (.ins C dx fs)) (c : Cls K C) (n : NoAttr K C f) (l : fs.lookup f = some (.int u)) (hl : fs.length < 1000) (hd : Ev td σ H (.ref d)) (hk : Ev ty σ H (kV k)) (hdd : H d = some (.dK kvs)) (hv : valV kvs k = some (.str t))
    (hz : t.length ≤ 100000) (ne : x ≠ d) (q : ∀ H1, Ex H H1 → tz D σ (upd (upd H1 d (.dK (dropK kvs k))) x (.ins C dx (putF f (.int (u - (t.length : Nat))) fs)))) :
    tSeq (sFldAug K to (tCB (fun xs H Q => ∃ z, xs = [.str z] ∧ z.length ≤ sizeLine ∧ Q (.int z.length) H) (tCons (tDPop1 td ty) tNil)) (rI0 fun i j => .int (i - j)) f) tz D σ H :=
  h H (Ex.refl H) _ fun H1 e1 => ⟨x, C, dx, fs, _, rfl, e1 _ _ hx, c, n, l, t_dpop (hd.mono e1) (hk.mono e1) (e1 _ _ hdd) hv fun H2 e2 => ⟨t, rfl, sz_of hz, u, _, rfl, rfl, dx, fs, by rw [upd_ne ne]; exact (e1.trans e2) _ _ hx, hl, q H2 (e1.trans e2)⟩⟩
end
end Mx
set_option Elab.async false
set_option linter.all false
set_option maxRecDepth 100000
set_option maxHeartbeats 4000000
/-! Comprehensions over dicts whose items are data of a type; sorted lists. -/
namespace Mx
open PySem PySem.Spec PyProof.Rows L2 Evl TL
open PySem.W (Datum DatumOrd Tup)
section
variable {σ : L2.St} {H H' : Hp} {te ta tb to td ty tx : TE} {v z : V} {K : PySem.W.Frag} {d : Addr} {kvs : List (Key × V)}
theorem dt_lst_inv {α : Type} [DecidableEq α] [Datum α] {xs : List α} (h : Dt K H v xs) : ∃ a vs, v = .ref a ∧ SqL K H a vs ∧ DpAll K H vs (xs.map Datum.toD) := by
  have h' : Dp K H v (.list (xs.map Datum.toD)) := h
  cases h' with
  | lst hs ha => exact ⟨_, _, rfl, hs, ha⟩
theorem lock_ex {o : Obj} {H1 : Hp} {u : HO} (e0 : Ex H H1) : Ex (upd H d (.frz o u)) (upd H1 d (.frz o u)) := fun a w z => by
  by_cases c : a = d
  · rw [c] at z ⊢
    rw [upd_same] at z ⊢
    exact z
  · rw [upd_ne c] at z ⊢
    exact e0 a w z
def pickI {β : Type} (n : Nat) (f : Nat → Bool) (g : Nat → β) : List β := ((List.range n).filter f).map g
theorem pickI_yes {β : Type} {n : Nat} {f : Nat → Bool} {g : Nat → β} (h : f n = true) : pickI (n + 1) f g = pickI n f g ++ [g n] := by
  unfold pickI
  rw [List.range_succ, List.filter_append, List.map_append]
  simp [h]
theorem pickI_no {β : Type} {n : Nat} {f : Nat → Bool} {g : Nat → β} (h : f n = false) : pickI (n + 1) f g = pickI n f g := by
  unfold pickI
  rw [List.range_succ, List.filter_append, List.map_append]
  simp [h]
theorem pickI_len {β : Type} (n : Nat) (f : Nat → Bool) (g : Nat → β) : (pickI n f g).length ≤ n := by
  unfold pickI
  rw [List.length_map]
  exact Nat.le_trans (List.length_filter_le _ _) (by rw [List.length_range]; exact Nat.le_refl _)
/-- picked over a list that maps: filter and map -/
theorem pickI_map {α β : Type} (l : List α) (p : α → Bool) (gg : α → β) (f : Nat → Bool) (g : Nat → β) (hf : ∀ (i : Nat) x, l[i]? = some x → f i = p x) (hg : ∀ (i : Nat) x, l[i]? = some x → g i = gg x) : pickI l.length f g = (l.filter p).map gg := by
  have key : ∀ n, n ≤ l.length → pickI n f g = ((l.take n).filter p).map gg := fun n => by
    induction n with
    | zero => exact fun _ => rfl
    | succ n ih =>
      intro hn
      have hx : l[n]? = some l[n] := List.getElem?_eq_getElem (by omega)
      have ih := ih (by omega)
      rw [List.take_succ, hx, List.filter_append, List.map_append, ← ih]
      cases q : p l[n] with
      | true =>
        rw [pickI_yes ((hf n _ hx).trans q), hg n _ hx]
        simp [q]
      | false =>
        rw [pickI_no ((hf n _ hx).trans q)]
        simp [q]
  rw [key l.length (Nat.le_refl _), List.take_length]
/-- [e for k in d if t], data of a type -/
theorem evd_lcK {β : Type} [DecidableEq β] [Datum β] [Firm β] {j : Nat} {vs : List Nat} {tt : TT} (f : Nat → Bool) (g : Nat → β) (h : ∀ o, Ev td σ (upd H d (.frz o (.dK kvs))) (.ref d)) (hd : H d = some (.dK kvs)) (hz : kvs.length ≤ 40000) (hw : ∀ x, wipe ((wipe σ vs).set j (some x)) vs = wipe σ vs)
    (ht : ∀ (i : Nat) (k : Key) (v : V) o H1, kvs[i]? = some (k, v) → Ex (upd H d (.frz o (.dK kvs))) H1 → EvT tt ((wipe σ vs).set j (some (kV k))) H1 (f i))
    (he : ∀ (i : Nat) (k : Key) (v : V) o H1, kvs[i]? = some (k, v) → f i = true → Ex (upd H d (.frz o (.dK kvs))) H1 → EvD te K ((wipe σ vs).set j (some (kV k))) H1 (g i)) :
    EvD (tLockE (tLc (iKeys td) (gName j) tt te vs)) K σ H (pickI kvs.length f g) := fun H1 e0 Q q => by
  have hd1 := e0 _ _ hd
  refine ⟨d, .dK kvs, hd1, trivial, fun o => ?_⟩
  refine h o _ (lock_ex e0) _ fun H2 e2 => ⟨d, o, rfl, .inl ⟨kvs, e2 _ _ upd_same, fun D hD => ?_⟩⟩
  have base := (lock_ex (d := d) (o := o) (u := .dK kvs) e0).trans e2
  have hd2 : H2 d = some (.frz o (.dK kvs)) := e2 _ _ upd_same
  refine lc_it walk_keys (fun i H' => H2 D = none ∧ Ex H2 H' ∧ ∃ acc, H' D = some (.lst acc) ∧ DpAll K H' acc ((pickI i f g).map Datum.toD)) ⟨hD, Ex.new hD, [], upd_same, .nil⟩ (fun i H' _ p => p.2.1 _ _ hd2) (fun i x H' H'' hi p y => ?_) fun H' p => ?_
  · obtain ⟨p1, p2, acc, p3, p4⟩ := p
    obtain ⟨rfl, k, v, hk, rfl⟩ := y
    refine ⟨hw _, ?_⟩
    refine ht i k v o _ hk (base.trans p2) H'' (Ex.refl _) _ fun H3 e3 => ?_
    have gl := pickI_len i f g
    have al := dpAll_len p4
    cases hf : f i with
    | true =>
      rw [if_pos rfl]
      refine he i k v o _ hk hf ((base.trans p2).trans e3) H3 (Ex.refl _) _ fun y H4 e4 dy => ⟨acc, e4 _ _ (e3 _ _ p3), sz_lt (by omega), p1, Ex.mut ((p2.trans e3).trans e4) p1, acc ++ [y], upd_same, ?_⟩
      have U : Ux H4 (upd H4 D (.lst (acc ++ [y]))) := Ux.upd (e4 _ _ (e3 _ _ p3)) rfl
      rw [pickI_yes hf]
      exact dpAll_snoc (dpAll_uxT ((Ux.of (e3.trans e4)).trans U) p4) (dy.ux U)
    | false =>
      rw [if_neg (by decide)]
      refine ⟨p1, p2.trans e3, acc, e3 _ _ p3, ?_⟩
      rw [pickI_no hf]
      exact dpAll_ex e3 _ _ p4
  · obtain ⟨p1, p2, acc, p3, p4⟩ := p
    have nD : D ≠ d := fun z => by rw [z, hd2] at p1; cases p1
    refine ⟨p2 _ _ hd2, q _ _ (ex_lock (e2.trans p2) hd1) (dt_lst (sq_of (by rw [upd_ne nD]; exact p3)) (dpAll_uxT (Ux.upd (p2 _ _ hd2) rfl) p4))⟩
/-- [e for k, v in d.items() if t], data of a type -/
theorem evd_lcI {β : Type} [DecidableEq β] [Datum β] [Firm β] {a1 j : Nat} {vs : List Nat} {tt : TT} (f : Nat → Bool) (g : Nat → β) (h : ∀ o, Ev td σ (upd H d (.frz o (.dK kvs))) (.ref d)) (hd : H d = some (.dK kvs)) (hz : kvs.length ≤ 40000) (hw : ∀ x y, wipe (((wipe σ vs).set a1 (some x)).set j (some y)) vs = wipe σ vs)
    (ht : ∀ (i : Nat) (k : Key) (v : V) o H1, kvs[i]? = some (k, v) → Ex (upd H d (.frz o (.dK kvs))) H1 → EvT tt (((wipe σ vs).set a1 (some (kV k))).set j (some v)) H1 (f i))
    (he : ∀ (i : Nat) (k : Key) (v : V) o H1, kvs[i]? = some (k, v) → f i = true → Ex (upd H d (.frz o (.dK kvs))) H1 → EvD te K (((wipe σ vs).set a1 (some (kV k))).set j (some v)) H1 (g i)) :
    EvD (tLockE (tLc (iItems td) (gTup K 2 (gCons (gName a1) (gCons (gName j) gNil))) tt te vs)) K σ H (pickI kvs.length f g) := fun H1 e0 Q q => by
  have hd1 := e0 _ _ hd
  refine ⟨d, .dK kvs, hd1, trivial, fun o => ?_⟩
  refine h o _ (lock_ex e0) _ fun H2 e2 => ⟨d, o, kvs, rfl, e2 _ _ upd_same, fun D hD => ?_⟩
  have base := (lock_ex (d := d) (o := o) (u := .dK kvs) e0).trans e2
  have hd2 : H2 d = some (.frz o (.dK kvs)) := e2 _ _ upd_same
  refine lc_it walk_items (fun i H' => H2 D = none ∧ Ex H2 H' ∧ ∃ acc, H' D = some (.lst acc) ∧ DpAll K H' acc ((pickI i f g).map Datum.toD)) ⟨hD, Ex.new hD, [], upd_same, .nil⟩ (fun i H' _ p => p.2.1 _ _ hd2) (fun i x H' H'' hi p y => ?_) fun H' p => ?_
  · obtain ⟨p1, p2, acc, p3, p4⟩ := p
    obtain ⟨TT, x1, y1, rfl, hT, rfl, hx1, hy1⟩ := y
    have hk0 : kvs[i]? = some kvs[i] := List.getElem?_eq_getElem hi
    obtain ⟨k, v, hk⟩ : ∃ k v, kvs[i]? = some (k, v) := ⟨_, _, hk0⟩
    have hx1 : (kvs[i]?.map fun kv => kV kv.1) = some x1 := hx1
    have hy1 : kvs[i]?.map Prod.snd = some y1 := hy1
    rw [hk] at hx1 hy1
    cases hx1
    cases hy1
    have p3 : upd H' TT (.tup [kV k, v]) D = some (.lst acc) := by rw [upd_ne (fun z => by rw [← z, p3] at hT; cases hT)]; exact p3
    have p2 := p2.trans (Ex.new (o := .tup [kV k, v]) hT)
    have p4 := dpAll_ex (Ex.new (o := .tup [kV k, v]) hT) _ _ p4
    refine ⟨TT, _, rfl, st_of upd_same, rfl, _, _, rfl, _, _, rfl, rfl, hw _ _, ?_⟩
    refine ht i k v o _ hk (base.trans p2) _ (Ex.refl _) _ fun H3 e3 => ?_
    have gl := pickI_len i f g
    have al := dpAll_len p4
    cases hf : f i with
    | true =>
      rw [if_pos rfl]
      refine he i k v o _ hk hf ((base.trans p2).trans e3) H3 (Ex.refl _) _ fun y H4 e4 dy => ⟨acc, e4 _ _ (e3 _ _ p3), sz_lt (by omega), p1, Ex.mut ((p2.trans e3).trans e4) p1, acc ++ [y], upd_same, ?_⟩
      have U : Ux H4 (upd H4 D (.lst (acc ++ [y]))) := Ux.upd (e4 _ _ (e3 _ _ p3)) rfl
      rw [pickI_yes hf]
      exact dpAll_snoc (dpAll_uxT ((Ux.of (e3.trans e4)).trans U) p4) (dy.ux U)
    | false =>
      rw [if_neg (by decide)]
      refine ⟨p1, p2.trans e3, acc, e3 _ _ p3, ?_⟩
      rw [pickI_no hf]
      exact dpAll_ex e3 _ _ p4
  · obtain ⟨p1, p2, acc, p3, p4⟩ := p
    have nD : D ≠ d := fun z => by rw [z, hd2] at p1; cases p1
    refine ⟨p2 _ _ hd2, q _ _ (ex_lock (e2.trans p2) hd1) (dt_lst (sq_of (by rw [upd_ne nD]; exact p3)) (dpAll_uxT (Ux.upd (p2 _ _ hd2) rfl) p4))⟩
/-- sorted(x), x a list of data -/
theorem evd_sorted {α : Type} [DecidableEq α] [Datum α] {xs : List α} (h : EvD ta K σ H xs) (hl : xs.length ≤ 100000) : EvP (tCB (rSortedD α K) (tCons ta tNil)) σ H (fun v H2 => ∃ (p : Addr) (vs : List V), v = .ref p ∧ H p = none ∧ H2 p = some (.lst vs) ∧ DpAll K H2 vs ((sortD xs).map Datum.toD)) := fun H1 e Q q =>
  h H1 e _ fun v H2 e2 d => by
    obtain ⟨a, us, rfl, hs, hd⟩ := dt_lst_inv d
    exact ⟨a, us, xs, rfl, hs, hd, hl, fun us' p hp hd' => q _ _ (e2.trans (Ex.new hp)) ⟨p, us', rfl, fresh_back (e.trans e2) hp, upd_same, dpAll_ex (Ex.new hp) _ _ hd'⟩⟩
theorem sortD_perm {α : Type} [DecidableEq α] [Datum α] (xs : List α) : (sortD xs).Perm xs := List.mergeSort_perm _ _
/-- xs.pop(0)[i], xs a list of tuples -/
theorem t_pop0 {Q : VK} {tl : TE} {p a : Addr} {i : Int} {vs ys : List V} {y : V} (hl : Ev tl σ H (.ref p)) (hp : H p = some (.lst (.ref a :: vs))) (ha : SqT K H a ys) (hy : atI ys i = some y) (q : ∀ H1, Ex H H1 → Q y (upd H1 p (.lst vs))) :
    tOp (rIxT K) (tBM K "list" rPopAt tl (tCons (tC (.int 0)) tNil)) (tC (.int i)) σ H Q :=
  hl H (Ex.refl H) _ fun H1 e1 => ⟨.inl ⟨rfl, _, sq_of (e1 _ _ hp)⟩, p, _, 0, 0, _, rfl, rfl, e1 _ _ hp, by decide, by decide, by simp [seqIndex?], rfl, a, ys, i, y, rfl, rfl, ux_t (Ux.upd (e1 _ _ hp) rfl) (ex_t e1 ha), hy, q H1 e1⟩
theorem s_methM {m : Str} {sp : Sp} {E : XK} {t : TA} {D : Ends} {x C dx : Addr} {fs : List (Str × V)} (h : Ev to σ H (.ref x)) (hx : H x = some (.ins C dx fs)) (l : fs.lookup m = none) (q : ∀ H1, Ex H H1 → t σ H1 fun vs H2 => sp (.ref x :: (vs ++ [])) H2 (fun _ H3 => D.nx σ H3) E) : tDrop (tMeth C m sp [] E to t) D σ H :=
  h H (Ex.refl H) _ fun H1 e1 => ⟨x, dx, fs, rfl, e1 _ _ hx, l, q H1 e1⟩
theorem et_truL {p : Addr} {vs : List V} (h : Ev ta σ H (.ref p)) (hp : H p = some (.lst vs)) : EvT (fun σ H Q => ta σ H fun x H' => ∃ k, TruV K x H' k ∧ Q k H') σ H (!vs.isEmpty) := fun H1 e Q q =>
  h H1 e _ fun H2 e2 => ⟨_, .inl ⟨vs, sq_of ((e.trans e2) _ _ hp), rfl⟩, q H2 e2⟩
theorem uS {k : Nat} {A : Around} (r : Room k A) {α : Type} [DecidableEq α] [Datum α] (h : Datum.depth α ≤ 60) : A.units + 2 + Datum.depth α < cLine := by
  have := r.units
  omega
end
/-! ### rules by an explicit fragment -/
section
variable {X : Cx} {K' : PySem.W.Frag} {e : Expr} {f : Str} {pos : Pos} {ta : TE}
theorem pe_fldK (hK : X.K = K') (he : PE X e ta) (hb : attributeBase e f X.env (eval e X.env) = eval e X.env) : PE X (.Attribute e f pos) (tFld K' ta f) := by
  subst hK
  exact pe_fld he hb
end
/-! ### d.update(e), e another dict -/
section
variable {X : Cx} {o e : Expr} {apos cpos : Pos} {td ty : TE}
/-- both are dicts with plain keys; the first takes what the other has -/
def tDUpd (td ty : TE) : TE := fun σ H Q => td σ H fun x H1 => ∃ a, x = .ref a ∧ IsD H1 a ∧ ty σ H1 fun y H2 => ∃ kvs b more, H2 a = some (.dK kvs) ∧ y = .ref b ∧ Rd H2 b (.dK more) ∧ a ≠ b ∧ kvs.length + more.length ≤ sizeLine ∧ Q .non (upd H2 a (.dK (mergeK kvs more)))
theorem merge_len : ∀ (more kvs : List (Key × V)), (mergeK kvs more).length ≤ kvs.length + more.length
  | [], kvs => by
    show kvs.length ≤ _
    omega
  | m :: r, kvs => by
    show (mergeK (putK kvs m.1 m.2) r).length ≤ _
    have h1 := merge_len r (putK kvs m.1 m.2)
    have h2 : (putK kvs m.1 m.2).length ≤ kvs.length + 1 := by
      unfold putK
      split
      · rw [List.length_map]; omega
      · rw [List.length_append]; exact Nat.le_refl _
    simp only [List.length_cons]
    omega
theorem pe_dupd (ho : PE X o td) (he : PE X e ty) (m : M1 X o "update" apos e cpos) : PE X (.Call (.Attribute o "update" apos) [e] [] cpos) (tDUpd td ty) := by
  refine ⟨fun pins s σ H Q I h => ?_⟩
  refine wpAny_Call_method m.base m.few m.line PySem.F.plainAttrs_dict PySem.F.slot_dict_update PySem.F.type_dict_update (thn (ho.run pins s σ H _ I h) fun u s1 ⟨x, H1, I1, rx, a, ex, d, q1⟩ => ?_)
  subst ex
  obtain rfl : u = Value.ref a := rx
  obtain ⟨t1, t2, _⟩ := isD_at I1 d
  refine ⟨t1, t2, ?_⟩
  rw [m.trees]
  refine Calls.callWith_builtin rfl (Calls.evalArgs_plain (Calls.spliced_cons (thn (he.run pins s1 σ H1 _ I1 q1) fun iv s2 ⟨y, H2, I2, ry, kvs, b, more, ea, ey, eb, ne, hz, q2⟩ => Calls.spliced_nil ?_)))
  subst ey
  obtain rfl : iv = Value.ref b := ry
  obtain ⟨z, hd, vs, rel, dd⟩ := dk_of I2.hok ea
  obtain ⟨z2, hd2, vs2, rel2, dd2⟩ := dk_rd I2.hok eb
  refine call_meetsIn PySem.F.slot_dict_update dd.typeIs PySem.F.entry_dict_update (PySem.F.args_dict_update_2 _ _) (meets_dict_update (mixKind X.prog X.w) a b ne hd2)
    ⟨vs, vs2, dd, dd2, by rw [← rel.length, ← rel2.length]; exact hz, fun h' dd' _ hs => ?_⟩
  have hq : ∃ q, h'.get? a = some q := let ⟨q, _, _, hq, _⟩ := dd'; ⟨q, hq⟩
  refine ⟨.non, _, I2.write (e := a) (t' := s2.toks) (by rw [ea]; trivial) (.inl rfl) (fun c u hb hu => (hs.2 c hb).trans hu) hq (dk_new (Nat.le_trans (merge_len _ _) hz) hd (KV.merge rel2 rel) dd'), rfl, q2⟩
end
end Mx
set_option Elab.async false
set_option linter.all false
set_option maxRecDepth 100000
set_option maxHeartbeats 4000000
/-! Comprehensions over lists and tuples of data. -/
namespace Mx
open PySem PySem.Spec PyProof.Rows L2 Evl TL
open PySem.W (Datum DatumOrd Tup)
section
variable {σ : L2.St} {H H' : Hp} {te : TE} {v : V} {K : PySem.W.Frag} {α β : Type} [DecidableEq α] [Datum α] [DecidableEq β] [Datum β] [Firm β]
/-- one turn's end: the list so far grows by an item -/
theorem dp_step {H2 H4 : Hp} {D : Addr} {acc : List V} {y : V} {l : List β} {x : β} (hD : H2 D = some (.lst acc)) (e : Ex H2 H4) (d : DpAll K H2 acc (l.map Datum.toD)) (dy : Dt K H4 y x) : DpAll K (upd H4 D (.lst (acc ++ [y]))) (acc ++ [y]) ((l ++ [x]).map Datum.toD) := by
  have U : Ux H4 (upd H4 D (.lst (acc ++ [y]))) := Ux.upd (e _ _ hD) rfl
  exact dpAll_snoc (dpAll_uxT ((Ux.of e).trans U) d) (dy.ux U)
/-- [e for x in xs if t], xs a list of data -/
theorem evd_lcLd {tl : TE} {tt : TT} {j : Nat} {vs : List Nat} {xs : List α} (p : α → Bool) (g : α → β) (h : EvP tl σ H fun v H2 => Dt K H2 v xs) (hz : xs.length ≤ 40000) (hw : ∀ x, wipe ((wipe σ vs).set j (some x)) vs = wipe σ vs)
    (ht : ∀ (x : α) (v : V) H1, x ∈ xs → Dt K H1 v x → Ex H H1 → EvT tt ((wipe σ vs).set j (some v)) H1 (p x))
    (he : ∀ (x : α) (v : V) H1, x ∈ xs → p x = true → Dt K H1 v x → Ex H H1 → EvD te K ((wipe σ vs).set j (some v)) H1 (g x)) : EvD (tLc (iList K tl) (gName j) tt te vs) K σ H ((xs.filter p).map g) := fun H0 e0 Q q =>
  h H0 e0 _ fun v H1 e1 d => by
    obtain ⟨a, us, rfl, hs, hd⟩ := dt_lst_inv d
    obtain ⟨lu, fu⟩ := dpAll_at hd
    refine ⟨a, rfl, ⟨us, hs⟩, fun D hD => ?_⟩
    have E := e0.trans e1
    refine lc_list (xs := us) (fun i H' => H1 D = none ∧ Ex H1 H' ∧ ∃ acc, H' D = some (.lst acc) ∧ DpAll K H' acc ((((xs.take i).filter p).map g).map Datum.toD)) ⟨hD, Ex.new hD, [], upd_same, .nil⟩ (fun i H' _ z => ex_l z.2.1 hs) (fun i y H' hi z => ?_) fun H' z => ?_
    · obtain ⟨p1, p2, acc, p3, p4⟩ := z
      obtain ⟨x, hx, dx⟩ := fu i y hi
      have mx := List.mem_of_getElem? hx
      refine ⟨hw _, ?_⟩
      refine ht x y H' mx (dx.ex p2) (E.trans p2) H' (Ex.refl _) _ fun H3 e3 => ?_
      have al := dpAll_len p4
      have lt : (((xs.take i).filter p).map g).length ≤ 40000 := by
        rw [List.length_map]
        refine Nat.le_trans (List.length_filter_le _ _) ?_
        rw [List.length_take]
        omega
      cases hf : p x with
      | true =>
        rw [if_pos rfl]
        refine he x y H3 mx hf (dx.ex (p2.trans e3)) (E.trans (p2.trans e3)) H3 (Ex.refl _) _ fun w H4 e4 dw => ⟨acc, e4 _ _ (e3 _ _ p3), sz_lt (by omega), p1, Ex.mut (p2.trans (e3.trans e4)) p1, acc ++ [w], upd_same, ?_⟩
        have z := dp_step (x := g x) p3 (e3.trans e4) p4 dw
        rw [List.take_succ, hx, List.filter_append, List.map_append]
        simpa [hf] using z
      | false =>
        rw [if_neg (by decide)]
        refine ⟨p1, p2.trans e3, acc, e3 _ _ p3, ?_⟩
        rw [List.take_succ, hx, List.filter_append, List.map_append]
        have z := dpAll_ex e3 _ _ p4
        simpa [hf] using z
    · obtain ⟨p1, p2, acc, p3, p4⟩ := z
      rw [lu, List.take_length] at p4
      exact q _ H' (e1.trans p2) (dt_lst (sq_of p3) p4)
/-- tuple(a list of data) -/
theorem evd_tupOf {tl : TE} {xs : List β} (h : EvD tl K σ H xs) : EvD (tThen tl (kTup K)) K σ H (Tup.mk xs) := fun H0 e0 Q q =>
  h H0 e0 _ fun v H1 e1 d => by
    obtain ⟨a, us, rfl, hs, hd⟩ := dt_lst_inv d
    exact .inl ⟨a, us, rfl, hs, fun p hp => q _ _ (e1.trans (Ex.new hp)) (dt_tup (st_of upd_same) (dpAll_ex (Ex.new hp) _ _ hd))⟩
/-- [e for a, b in t], t a tuple of pairs -/
theorem evd_lcTp {γ : Type} [DecidableEq γ] [Datum γ] {tl : TE} {a1 j : Nat} {vs : List Nat} {xs : List (α × γ)} (g : α × γ → β) (h : EvD tl K σ H (Tup.mk xs)) (hz : xs.length ≤ 40000) (hw : ∀ x y, wipe (((wipe σ vs).set a1 (some x)).set j (some y)) vs = wipe σ vs)
    (he : ∀ (x : α × γ) (v w : V) H1, x ∈ xs → Dt K H1 v x.1 → Dt K H1 w x.2 → Ex H H1 → EvD te K (((wipe σ vs).set a1 (some v)).set j (some w)) H1 (g x)) : EvD (tLc (iTup K tl) (gTup K 2 (gCons (gName a1) (gCons (gName j) gNil))) tYes te vs) K σ H (xs.map g) := fun H0 e0 Q q =>
  h H0 e0 _ fun v H1 e1 d => by
    obtain ⟨a, us, rfl, hs, hd⟩ := dt_tup_inv (xs := xs) d
    obtain ⟨lu, fu⟩ := dpAll_at hd
    refine ⟨a, rfl, ⟨us, hs⟩, fun D hD => ?_⟩
    have E := e0.trans e1
    refine lc_tup (xs := us) (fun i H' => H1 D = none ∧ Ex H1 H' ∧ ∃ acc, H' D = some (.lst acc) ∧ DpAll K H' acc (((xs.take i).map g).map Datum.toD)) ⟨hD, Ex.new hD, [], upd_same, .nil⟩ (fun i H' _ z => ex_t z.2.1 hs) (fun i y H' hi z => ?_) fun H' z => ?_
    · obtain ⟨p1, p2, acc, p3, p4⟩ := z
      obtain ⟨x, hx, dx⟩ := fu i y hi
      have mx := List.mem_of_getElem? hx
      obtain ⟨x1, x2⟩ := x
      obtain ⟨q1, u, z, rfl, hq, du, dz⟩ := dt_pair_inv dx
      have al := dpAll_len p4
      have lt : ((xs.take i).map g).length ≤ 40000 := by
        rw [List.length_map, List.length_take]
        omega
      refine ⟨q1, _, rfl, ex_t p2 hq, rfl, _, _, rfl, _, _, rfl, rfl, hw _ _, ?_⟩
      refine he (x1, x2) u z H' mx (du.ex p2) (dz.ex p2) (E.trans p2) H' (Ex.refl _) _ fun w H4 e4 dw => ⟨acc, e4 _ _ p3, sz_lt (by omega), p1, Ex.mut (p2.trans e4) p1, acc ++ [w], upd_same, ?_⟩
      have z := dp_step (x := g (x1, x2)) p3 e4 p4 dw
      rw [List.take_succ, hx, List.map_append]
      simpa using z
    · obtain ⟨p1, p2, acc, p3, p4⟩ := z
      rw [lu, List.take_length] at p4
      exact q _ H' (e1.trans p2) (dt_lst (sq_of p3) p4)
theorem dpAll_bools {H : Hp} : ∀ {bs : List Bool} {us : List V}, DpAll K H us (bs.map (Datum.toD (α := Bool))) → us = bs.map V.bl
  | [], _, h => by cases h; rfl
  | b :: bs, _, h => by
    cases h with
    | cons h1 h2 =>
      cases h1
      rw [dpAll_bools h2]
      rfl
theorem ev_allD {bs : List Bool} (h : EvD te K σ H bs) : Ev (tCB (rAll K) (tCons te tNil)) σ H (.bl (bs.all id)) := fun H1 e Q q =>
  h H1 e _ fun v H2 e2 d => by
    obtain ⟨a, us, rfl, hs, hd⟩ := dt_lst_inv d
    rw [dpAll_bools hd] at hs
    exact ⟨a, bs, rfl, hs, q H2 e2⟩
end
end Mx
set_option Elab.async false
set_option linter.all false
set_option maxRecDepth 100000
set_option maxHeartbeats 4000000
/-! Texts reversed and repeated; comprehensions over dicts and lists, more. -/
namespace Mx
open PySem PySem.Spec PyProof.Rows L2 Evl TL
open PySem.W (Datum DatumOrd Tup)
/-! ### s[::-1] -/
def revT (z : Str) : Str := ⟨(tl z).reverse.toArray⟩
theorem rev_picked (z : Str) : ((Builtin.Str.strSliceIndices none none (-1) z.length).filterMap (z.cps[·]?)) = (tl z).reverse := by
  rw [picked_rev, filterMap_get, List.map_map]
  · refine List.ext_getElem (by simp [tl, Str.length]) fun i h1 h2 => ?_
    have hi : i < z.cps.size := by simpa [Str.length] using h1
    have hj : z.cps.size - 1 - i < z.cps.size := by omega
    simp [tl, Str.length, List.getElem_reverse, Array.getD, hj]
  · intro i hi
    obtain ⟨k, hk, rfl⟩ := List.mem_map.mp hi
    have hk' : k < z.length := List.mem_range.mp hk
    show z.length - 1 - k < z.length
    omega
def tRevS (te : TE) : TE := fun σ H Q => te σ H fun x H1 => ∃ z, x = .str z ∧ z.length ≤ sizeLine ∧ Q (.str (revT z)) H1
section
variable {X : Cx}
theorem pe_revS {e : Expr} {te : TE} {k : Nat} {p1 p2 p3 pos : Pos} (he : PE X e te) : PE X (.Subscript e (.Slice none none (some (.UnaryOp .USub (.Constant (.int 1) k p1) p2)) p3) pos) (tRevS te) := by
  refine ⟨fun pins s σ H Q I h => ?_⟩
  refine Subscript_ (thn (he.run pins s σ H _ I h) fun v s1 ⟨x, H1, I1, r1, q1⟩ => ?_)
  obtain ⟨z, ex, hz, q⟩ := q1
  subst ex
  obtain ⟨t, rfl⟩ := r1
  have hst : PO X (some (.UnaryOp .USub (.Constant (.int 1) k p1) p2)) (tPart (tUn (rU fun i => .int (-i)) (tC (.int 1)))) := po_some (pe_un un_neg pe_int)
  refine wpAny_Slice (thn (po_none.run pins s1 σ H1 (fun o H2 => o = none ∧ H2 = H1) I1 ⟨rfl, rfl⟩) fun vl s2 ⟨l, H2, I2, pl, el, e2⟩ => ?_)
  subst el e2
  refine thn (po_none.run pins s2 σ H2 (fun o H3 => o = none ∧ H3 = H2) I2 ⟨rfl, rfl⟩) fun vu s3 ⟨u, H3, I3, pu, eu, e3⟩ => ?_
  subst eu e3
  refine thn (hst.run pins s3 σ H3 (fun o H4 => o = some (-1) ∧ H4 = H3) I3 ⟨1, rfl, -1, rfl, rfl, rfl⟩) fun vs s4 ⟨o, H4, I4, ps, eo, e4⟩ => ?_
  subst eo e4
  have I5 : Inv X pins σ H4 { s4 with heap := s4.heap.push { cls := .type "slice", data := .fields #[vl, vu, vs] } } := I4.kept (t' := s4.toks) fun b ob q => Heap.get?_push_of_some _ q
  show wpAny (model X.prog X.w) X.A (subscriptTail e (.Slice none none (some (.UnaryOp .USub (.Constant (.int 1) k p1) p2)) p3) (.str z t) (.ref s4.heap.objs.size)) (EP X pins σ Q) X.xe { s4 with heap := s4.heap.push { cls := .type "slice", data := .fields #[vl, vu, vs] } }
  refine tail_any (ops := [.str z t, .ref s4.heap.objs.size]) (typeIs_str _ _ _) (F.slot_str_getitem.lookup) ?_ (by with_unfolding_all rfl)
  obtain ⟨os, hos, hcs, hds⟩ := Heap.IsSliceOf.new s4.heap vl vu vs
  obtain ⟨l1, rfl, e1⟩ := IsPart.raw pl
  obtain ⟨u1, rfl, e2⟩ := IsPart.raw pu
  obtain ⟨t1, rfl, e3⟩ := IsPart.raw ps
  refine wpAny_getItem_str_slice (l := l1) (u := u1) (st := t1) ⟨os, hos, hcs, hds⟩ (by rw [e3]; rfl) ?_
  have hp : (slicePicked z l1 u1 t1).filterMap (z.cps[·]?) = (tl z).reverse := by
    unfold slicePicked
    rw [e1, e2, e3]
    exact rev_picked z
  unfold sliceMade
  rw [if_neg (by rw [e3]; simp), hp]
  have hl : (⟨(tl z).reverse.toArray⟩ : Str).length ≤ sizeLine := by
    show (tl z).reverse.toArray.size ≤ _
    rw [List.size_toArray, List.length_reverse]
    show z.cps.toList.length ≤ _
    rw [Array.length_toList]
    exact hz
  exact ⟨hl, .str _, H4, I5.tok _, ⟨_, rfl⟩, q⟩
/-! ### s * n -/
def rRepS : R2 := fun x y H Q => ∃ (z : Str) (n : Int), x = .str z ∧ y = .int n ∧ 0 ≤ n ∧ n ≤ 1000 ∧ z.length ≤ 1000 ∧ Q (.str (Txt.mul z n)) H
theorem op_repS : OpR X (binaryOp .Mult) rRepS := by
  intro pins s σ H x y v u Q I rx ry h
  obtain ⟨z, n, rfl, rfl, h0, h1, hz, q⟩ := h
  obtain ⟨t, rfl⟩ := rx
  obtain ⟨t', rfl⟩ := ry
  have hlen : z.length * n.toNat ≤ 1000000 := by
    have : z.length * n.toNat ≤ 1000 * 1000 := Nat.mul_le_mul hz (by omega)
    omega
  refine SB.mul ⟨?_, fun _ _ hh => ?_, fun _ _ => ?_⟩ fun t2 k => ⟨.str _, H, I.tok _, ⟨_, rfl⟩, q⟩
  · rw [decide_eq_false (by omega), decide_eq_false (by omega)]
    rfl
  · have hn : 0 < n := by omega
    have : (9007199254740991 : Int) ≤ (2 ^ 63 - 1) / n := by
      refine (Int.le_ediv_iff_mul_le hn).mpr ?_
      have : (9007199254740991 : Int) * n ≤ 9007199254740991 * 1000 := Int.mul_le_mul_of_nonneg_left h1 (by decide)
      omega
    omega
  · unfold Builtin.Str.tooLong
    exact decide_eq_false (by have : (1000000 : Nat) < sizeLine := by decide
                              omega)
end
section
variable {σ : L2.St} {H H' : Hp} {te ta tb td : TE} {v : V} {K : PySem.W.Frag} {d : Addr} {kvs : List (Key × V)}
theorem ev_revS {z : Str} (h : Ev te σ H (.str z)) (hz : z.length ≤ 100000) : Ev (tRevS te) σ H (.str (revT z)) := fun H1 e Q q => h H1 e _ fun H2 e2 => ⟨z, rfl, sz_of hz, q H2 e2⟩
theorem rv_repS {z : Str} {n : Int} (h0 : 0 ≤ n) (h1 : n ≤ 1000) (hz : z.length ≤ 1000) : RV rRepS (.str z) (.int n) H (.str (Txt.mul z n)) := fun H1 _ Q q => ⟨z, n, rfl, rfl, h0, h1, hz, q H1 (Ex.refl H1)⟩
theorem ev_slS {tl' th : TO} {z : Str} {lo hi : Option Int} (h : Ev te σ H (.str z)) (h1 : EvO tl' σ H lo) (h2 : EvO th σ H hi) (hz : z.length ≤ 100000) : Ev (tSl rSlS te tl' th) σ H (.str (cutS z lo hi)) := fun H1 e Q q =>
  h H1 e _ fun H2 e2 => h1 H2 (e.trans e2) _ fun H3 e3 => h2 H3 ((e.trans e2).trans e3) _ fun H4 e4 => ⟨z, rfl, sz_of hz, q H4 ((e2.trans e3).trans e4)⟩
theorem ev_sumL {ns : List Int} (h : EvL te σ H (ns.map V.int)) : Ev (tCB (rSum K) (tCons te tNil)) σ H (.int ns.sum) := fun H1 e Q q =>
  h H1 e _ fun p H2 _ e2 h2 => ⟨p, ns, rfl, sq_of h2, q H2 e2⟩
/-- x in a list of texts -/
theorem inV_str (x : Str) : ∀ xs : List Str, inV (.str x) (xs.map V.str) = decide (x ∈ xs)
  | [] => rfl
  | y :: ys => by
    have ih := inV_str x ys
    unfold inV at ih ⊢
    rw [List.map_cons, List.any_cons, ih]
    have e : eqV (V.str y) (V.str x) = decide (x = y) := by
      show decide (y = x) = _
      exact decide_eq_decide.mpr eq_comm
    rw [e]
    by_cases c : x = y
    · simp [c]
    · by_cases c2 : x ∈ ys <;> simp [c, c2]
theorem flat_strs : ∀ xs : List Str, (xs.map V.str).all flatV = true
  | [] => rfl
  | x :: xs => by
    rw [List.map_cons, List.all_cons, flat_strs xs]
    rfl
theorem ev_inS {neg : Bool} {x : Str} {p : Addr} {xs : List Str} (h : Ev ta σ H (.str x)) (h2 : Ev tb σ H (.ref p)) (hp : SqL K H p (xs.map V.str)) : Ev (tOp (rIn K neg) ta tb) σ H (.bl (if neg then !decide (x ∈ xs) else decide (x ∈ xs))) :=
  ev_is (ev_op h h2 (rv_inL hp rfl (flat_strs xs))) (by rw [inV_str])
/-- [x for x in texts if x != n] -/
theorem el_lcNe {a : Addr} {xs : List Str} {tl : TE} {tt : TT} {te : TE} {j : Nat} {vs : List Nat} {n : Str} (h : Ev tl σ H (.ref a)) (hx : SqL K H a (xs.map V.str)) (hz : xs.length ≤ 40000) (hw : ∀ x, wipe ((wipe σ vs).set j (some x)) vs = wipe σ vs)
    (ht : ∀ (m : Str) H1, EvT tt ((wipe σ vs).set j (some (.str m))) H1 (!decide (V.str m = V.str n))) (he : ∀ v H1, Ev te ((wipe σ vs).set j (some v)) H1 v) : EvL (tLc (iList K tl) (gName j) tt te vs) σ H ((xs.filter fun k => decide (k ≠ n)).map V.str) := by
  have at_ : ∀ (i : Nat) (x : V), (xs.map V.str)[i]? = some x → ∃ m, xs[i]? = some m ∧ x = .str m := fun i x hi => by
    rw [List.getElem?_map] at hi
    cases q : xs[i]? with
    | none => rw [q] at hi; cases hi
    | some m =>
      rw [q] at hi
      cases hi
      exact ⟨m, rfl, rfl⟩
  have gd : ∀ (i : Nat) (m : Str), xs[i]? = some m → xs.getD i "" = m := fun i m q => by rw [List.getD_eq_getElem?_getD, q]; rfl
  have key := el_lcL (K := K) (σ := σ) (H := H) (t := tt) (te := te) (tl := tl) (a := a) (xs := xs.map V.str) (fun i => decide (xs.getD i "" ≠ n)) (fun i => V.str (xs.getD i "")) h hx (by rw [List.length_map]; exact hz) hw
    (fun i x H1 e1 hi => by
      obtain ⟨m, q, rfl⟩ := at_ i x hi
      rw [gd i m q]
      refine et_is (ht m H1) ?_
      rw [str_eq]
      by_cases c : m = n <;> simp [c])
    (fun i x H1 e1 hi hf => by
      obtain ⟨m, q, rfl⟩ := at_ i x hi
      rw [gd i m q]
      exact he _ _)
  rw [List.length_map, given_map xs (fun k => decide (k ≠ n)) V.str _ _ (fun i m q => by rw [gd i m q]) (fun i m q => by rw [gd i m q])] at key
  exact key
/-- [e for a, b in xs], xs a list of pairs -/
theorem evd_lcLp {α β γ : Type} [DecidableEq α] [Datum α] [DecidableEq β] [Datum β] [Firm β] [DecidableEq γ] [Datum γ] {tl : TE} {a1 j : Nat} {vs : List Nat} {xs : List (α × γ)} (g : α × γ → β) (h : EvP tl σ H fun v H2 => Dt K H2 v xs) (hz : xs.length ≤ 40000) (hw : ∀ x y, wipe (((wipe σ vs).set a1 (some x)).set j (some y)) vs = wipe σ vs)
    (he : ∀ (x : α × γ) (v w : V) H1, x ∈ xs → Dt K H1 v x.1 → Dt K H1 w x.2 → Ex H H1 → EvD te K (((wipe σ vs).set a1 (some v)).set j (some w)) H1 (g x)) : EvD (tLc (iList K tl) (gTup K 2 (gCons (gName a1) (gCons (gName j) gNil))) tYes te vs) K σ H (xs.map g) := fun H0 e0 Q q =>
  h H0 e0 _ fun v H1 e1 d => by
    obtain ⟨a, us, rfl, hs, hd⟩ := dt_lst_inv (xs := xs) d
    obtain ⟨lu, fu⟩ := dpAll_at hd
    refine ⟨a, rfl, ⟨us, hs⟩, fun D hD => ?_⟩
    have E := e0.trans e1
    refine lc_list (xs := us) (fun i H' => H1 D = none ∧ Ex H1 H' ∧ ∃ acc, H' D = some (.lst acc) ∧ DpAll K H' acc (((xs.take i).map g).map Datum.toD)) ⟨hD, Ex.new hD, [], upd_same, .nil⟩ (fun i H' _ z => ex_l z.2.1 hs) (fun i y H' hi z => ?_) fun H' z => ?_
    · obtain ⟨p1, p2, acc, p3, p4⟩ := z
      obtain ⟨x, hx, dx⟩ := fu i y hi
      have mx := List.mem_of_getElem? hx
      obtain ⟨x1, x2⟩ := x
      obtain ⟨q1, u, z, rfl, hq, du, dz⟩ := dt_pair_inv dx
      have al := dpAll_len p4
      have lt : ((xs.take i).map g).length ≤ 40000 := by
        rw [List.length_map, List.length_take]
        omega
      refine ⟨q1, _, rfl, ex_t p2 hq, rfl, _, _, rfl, _, _, rfl, rfl, hw _ _, ?_⟩
      refine he (x1, x2) u z H' mx (du.ex p2) (dz.ex p2) (E.trans p2) H' (Ex.refl _) _ fun w H4 e4 dw => ⟨acc, e4 _ _ p3, sz_lt (by omega), p1, Ex.mut (p2.trans e4) p1, acc ++ [w], upd_same, ?_⟩
      have z := dp_step (x := g (x1, x2)) p3 e4 p4 dw
      rw [List.take_succ, hx, List.map_append]
      simpa using z
    · obtain ⟨p1, p2, acc, p3, p4⟩ := z
      rw [lu, List.take_length] at p4
      exact q _ H' (e1.trans p2) (dt_lst (sq_of p3) p4)
/-- [e for x in xs], a plain list of data -/
theorem evl_lcLd {α β : Type} [DecidableEq α] [Datum α] [DecidableEq β] [Datum β] [Firm β] {tl : TE} {j : Nat} {vs : List Nat} {xs : List α} (g : α → β) (h : EvP tl σ H fun v H2 => Dt K H2 v xs) (hz : xs.length ≤ 40000) (hw : ∀ x, wipe ((wipe σ vs).set j (some x)) vs = wipe σ vs)
    (he : ∀ (x : α) (v : V) H1, x ∈ xs → Dt K H1 v x → Ex H H1 → EvD te K ((wipe σ vs).set j (some v)) H1 (g x)) : EvP (tLc (iList K tl) (gName j) tYes te vs) σ H fun v H2 => ∃ a us, v = .ref a ∧ H2 a = some (.lst us) ∧ DpAll K H2 us ((xs.map g).map Datum.toD) := fun H0 e0 Q q =>
  h H0 e0 _ fun v H1 e1 d => by
    obtain ⟨a, us, rfl, hs, hd⟩ := dt_lst_inv d
    obtain ⟨lu, fu⟩ := dpAll_at hd
    refine ⟨a, rfl, ⟨us, hs⟩, fun D hD => ?_⟩
    have E := e0.trans e1
    refine lc_list (xs := us) (fun i H' => H1 D = none ∧ Ex H1 H' ∧ ∃ acc, H' D = some (.lst acc) ∧ DpAll K H' acc (((xs.take i).map g).map Datum.toD)) ⟨hD, Ex.new hD, [], upd_same, .nil⟩ (fun i H' _ z => ex_l z.2.1 hs) (fun i y H' hi z => ?_) fun H' z => ?_
    · obtain ⟨p1, p2, acc, p3, p4⟩ := z
      obtain ⟨x, hx, dx⟩ := fu i y hi
      have mx := List.mem_of_getElem? hx
      refine ⟨hw _, ?_⟩
      have al := dpAll_len p4
      have lt : ((xs.take i).map g).length ≤ 40000 := by
        rw [List.length_map, List.length_take]
        omega
      refine he x y H' mx (dx.ex p2) (E.trans p2) H' (Ex.refl _) _ fun w H4 e4 dw => ⟨acc, e4 _ _ p3, sz_lt (by omega), p1, Ex.mut (p2.trans e4) p1, acc ++ [w], upd_same, ?_⟩
      have z := dp_step (x := g x) p3 e4 p4 dw
      rw [List.take_succ, hx, List.map_append]
      simpa using z
    · obtain ⟨p1, p2, acc, p3, p4⟩ := z
      rw [lu, List.take_length] at p4
      exact q _ H' (e1.trans p2) ⟨D, acc, rfl, p3, p4⟩
/-- [k for k in d if t], whatever t answers -/
theorem evp_lcAny {j : Nat} {vs : List Nat} {tt : TT} {l : List (Str × Str)} (h : ∀ o, Ev td σ (upd H d (.frz o (.dK (l.map fun e => ((Sum.inr e.1 : Key), V.str e.2))))) (.ref d)) (hd : H d = some (.dK (l.map fun e => ((Sum.inr e.1 : Key), V.str e.2)))) (hz : l.length ≤ 40000) (hw : ∀ x, wipe ((wipe σ vs).set j (some x)) vs = wipe σ vs)
    (ht : ∀ (k : Str) o H1 (Q : Bool → Hp → Prop), Ex (upd H d (.frz o (.dK (l.map fun e => ((Sum.inr e.1 : Key), V.str e.2))))) H1 → (∀ b H2, Ex H1 H2 → Q b H2) → tt ((wipe σ vs).set j (some (.str k))) H1 Q)
    (he : ∀ v H1, Ev te ((wipe σ vs).set j (some v)) H1 v) :
    EvP (tLockE (tLc (iKeys td) (gName j) tt te vs)) σ H fun v H2 => ∃ (p : Addr) (ks : List Str), v = .ref p ∧ H2 p = some (.lst (ks.map V.str)) ∧ (∀ k ∈ ks, k ∈ l.map (·.1)) ∧ ks.length ≤ l.length := fun H1 e0 Q q => by
  have hd1 := e0 _ _ hd
  refine ⟨d, .dK _, hd1, trivial, fun o => ?_⟩
  refine h o _ (lock_ex e0) _ fun H2 e2 => ⟨d, o, rfl, .inl ⟨_, e2 _ _ upd_same, fun D hD => ?_⟩⟩
  have base := (lock_ex (d := d) (o := o) (u := .dK (l.map fun e => ((Sum.inr e.1 : Key), V.str e.2))) e0).trans e2
  have hd2 : H2 d = some (.frz o (.dK (l.map fun e => ((Sum.inr e.1 : Key), V.str e.2)))) := e2 _ _ upd_same
  refine lc_it walk_keys (fun i H' => H2 D = none ∧ Ex H2 H' ∧ ∃ ks : List Str, H' D = some (.lst (ks.map V.str)) ∧ (∀ k ∈ ks, k ∈ l.map (·.1)) ∧ ks.length ≤ i) ⟨hD, Ex.new hD, [], upd_same, fun _ z => absurd z (by simp), Nat.le_refl _⟩ (fun i H' _ p => p.2.1 _ _ hd2) (fun i x H' H'' hi p y => ?_) fun H' p => ?_
  · obtain ⟨p1, p2, ks, p3, p4, p5⟩ := p
    obtain ⟨rfl, k, v, hk, rfl⟩ := y
    rw [List.getElem?_map] at hk
    cases qe : l[i]? with
    | none => rw [qe] at hk; cases hk
    | some e =>
      rw [qe] at hk
      cases hk
      have me : e.1 ∈ l.map (·.1) := List.mem_map_of_mem (List.mem_of_getElem? qe)
      have hi' : i < l.length := (List.getElem?_eq_some_iff.mp qe).1
      refine ⟨hw _, ?_⟩
      refine ht e.1 o _ _ (base.trans p2) fun b H3 e3 => ?_
      cases b with
      | true =>
        rw [if_pos rfl]
        refine he _ _ H3 (Ex.refl _) _ fun H4 e4 => ⟨_, e4 _ _ (e3 _ _ p3), sz_lt (by rw [List.length_map]; omega), p1, Ex.mut ((p2.trans e3).trans e4) p1, ks ++ [e.1], ?_, ?_, ?_⟩
        · rw [upd_same, List.map_append]
          rfl
        · intro k' hk'
          rcases List.mem_append.mp hk' with z | z
          · exact p4 k' z
          · rw [List.mem_singleton.mp z]; exact me
        · rw [List.length_append]
          show ks.length + 1 ≤ i + 1
          omega
      | false =>
        rw [if_neg (by decide)]
        exact ⟨p1, p2.trans e3, ks, e3 _ _ p3, p4, by omega⟩
  · obtain ⟨p1, p2, ks, p3, p4, p5⟩ := p
    have nD : D ≠ d := fun z => by rw [z, hd2] at p1; cases p1
    refine ⟨p2 _ _ hd2, q _ _ (ex_lock (e2.trans p2) hd1) ⟨D, ks, rfl, by rw [upd_ne nD]; exact p3, p4, by rw [List.length_map] at p5; exact p5⟩⟩
end
end Mx
set_option Elab.async false
set_option linter.all false
set_option maxRecDepth 100000
set_option maxHeartbeats 4000000
namespace Mx
open PySem PySem.Spec PyProof.Rows L2 Evl TL
open PySem.W (Datum DatumOrd Tup)
/-! ### dicts with texts as keys -/
def dk {α : Type} (f : α → V) (l : List (Str × α)) : List (Key × V) := l.map fun e => ((Sum.inr e.1 : Key), f e.2)
def hasA {α : Type} (l : List (Str × α)) (n : Str) : Bool := l.any fun e => decide (e.1 = n)
def putA {α : Type} (l : List (Str × α)) (n : Str) (v : α) : List (Str × α) := if hasA l n = true then l.map (fun e => if e.1 = n then (e.1, v) else e) else l ++ [(n, v)]
def dropA {α : Type} (l : List (Str × α)) (n : Str) : List (Str × α) := l.filter fun e => decide (e.1 ≠ n)
section
variable {α : Type} {f : α → V} {n : Str} {v : α}
theorem inr_iff {a b : Str} : ((Sum.inr a : Key) = Sum.inr b) ↔ a = b := ⟨Sum.inr.inj, fun h => by rw [h]⟩
theorem valV_dk : ∀ l : List (Str × α), valV (dk f l) (Sum.inr n) = (l.lookup n).map f
  | [] => rfl
  | (k, b) :: r => by
    by_cases h : k = n
    · have e : dk f ((k, b) :: r) = ((Sum.inr k : Key), f b) :: dk f r := rfl
      rw [e, valV_pos (by rw [h]), List.lookup_cons, h]
      simp
    · have e : dk f ((k, b) :: r) = ((Sum.inr k : Key), f b) :: dk f r := rfl
      have h3 : (n == k) = false := by simpa using fun z => h z.symm
      have z := valV_dk r
      rw [e, List.lookup_cons, h3]
      unfold valV at z ⊢
      rw [List.find?_cons_of_neg (by simpa using h)]
      exact z
theorem any_dk (l : List (Str × α)) : ((dk f l).any fun kv => decide (kv.1 = (Sum.inr n : Key))) = hasA l n := by
  unfold dk hasA
  rw [List.any_map]
  congr 1
  funext e
  exact decide_eq_decide.mpr inr_iff
theorem putK_dk (l : List (Str × α)) : putK (dk f l) (Sum.inr n) (f v) = dk f (putA l n v) := by
  unfold putK putA
  rw [any_dk]
  split
  · unfold dk
    rw [List.map_map, List.map_map]
    refine List.map_congr_left fun e _ => ?_
    by_cases h : e.1 = n
    · simp [h]
    · simp [h]
  · unfold dk
    rw [List.map_append]
    rfl
theorem dropK_dk (l : List (Str × α)) : dropK (dk f l) (Sum.inr n) = dk f (dropA l n) := by
  unfold dropK dropA dk
  rw [List.filter_map]
  congr 1
  refine List.filter_congr fun e _ => ?_
  exact decide_eq_decide.mpr (not_congr inr_iff)
theorem hasA_look (l : List (Str × α)) : hasA l n = (l.lookup n).isSome := by
  induction l with
  | nil => rfl
  | cons a r ih =>
    obtain ⟨k, b⟩ := a
    by_cases h : k = n
    · have : (n == k) = true := by simpa using h.symm
      rw [List.lookup_cons, this]
      show (decide (k = n) || _) = _
      rw [decide_eq_true h]
      rfl
    · have : (n == k) = false := by simpa using fun z => h z.symm
      rw [List.lookup_cons, this, ← ih]
      show (decide (k = n) || _) = _
      rw [decide_eq_false h]
      rfl
theorem dk_len (l : List (Str × α)) : (dk f l).length = l.length := List.length_map _
end
theorem look_of_mem {α : Type} {l : List (Str × α)} (nd : (l.map (·.1)).Nodup) {e : Str × α} (h : e ∈ l) : l.lookup e.1 = some e.2 := by
  induction l with
  | nil => exact absurd h (by simp)
  | cons a r ih =>
    obtain ⟨k, b⟩ := a
    obtain ⟨n1, n2⟩ := List.nodup_cons.mp (show (k :: r.map (·.1)).Nodup from nd)
    rcases List.mem_cons.mp h with rfl | h
    · rw [List.lookup_cons]
      simp
    · have : e.1 ≠ k := fun z => n1 (z ▸ List.mem_map_of_mem h)
      have h3 : (e.1 == k) = false := by simpa using this
      rw [List.lookup_cons, h3]
      exact ih n2 h
theorem mem_of_look {α : Type} {l : List (Str × α)} {n : Str} {v : α} (h : l.lookup n = some v) : (n, v) ∈ l := by
  induction l with
  | nil => cases h
  | cons a r ih =>
    obtain ⟨k, b⟩ := a
    by_cases c : n = k
    · have h3 : (n == k) = true := by simpa using c
      rw [List.lookup_cons, h3] at h
      cases h
      rw [c]
      exact List.mem_cons_self ..
    · have h3 : (n == k) = false := by simpa using c
      rw [List.lookup_cons, h3] at h
      exact List.mem_cons_of_mem _ (ih h)
theorem hasA_mem {α : Type} {l : List (Str × α)} {n : Str} : hasA l n = true ↔ n ∈ l.map (·.1) := by
  unfold hasA
  rw [List.any_eq_true]
  constructor
  · rintro ⟨e, he, h⟩
    exact List.mem_map.mpr ⟨e, he, of_decide_eq_true h⟩
  · intro h
    obtain ⟨e, he, rfl⟩ := List.mem_map.mp h
    exact ⟨e, he, decide_eq_true rfl⟩
theorem dropA_keys {α : Type} (l : List (Str × α)) (n : Str) : (dropA l n).map (·.1) = (l.map (·.1)).filter fun k => decide (k ≠ n) := by
  unfold dropA
  rw [List.filter_map]
  rfl
theorem look_putA {α : Type} {l : List (Str × α)} {n : Str} {v : α} : (putA l n v).lookup n = some v := by
  unfold putA
  split
  · rename_i h
    induction l with
    | nil => cases h
    | cons a r ih =>
      obtain ⟨k, b⟩ := a
      by_cases e : k = n
      · rw [List.map_cons, if_pos e, List.lookup_cons, e]
        simp
      · have h3 : (n == k) = false := by simpa using fun z => e z.symm
        rw [List.map_cons, if_neg e, List.lookup_cons, h3]
        refine ih ?_
        have : (decide (k = n) || hasA r n) = true := h
        rw [decide_eq_false e] at this
        exact this
  · rename_i h
    have hn : l.lookup n = none := by
      cases q : l.lookup n with
      | none => rfl
      | some _ => exact absurd (by rw [hasA_look, q]; rfl) h
    rw [List.lookup_append, hn]
    simp
theorem hasA_putA {α : Type} {l : List (Str × α)} {n k : Str} {v : α} : hasA (putA l n v) k = (hasA l k || decide (n = k)) := by
  rw [Bool.eq_iff_iff, Bool.or_eq_true, hasA_mem, hasA_mem, decide_eq_true_eq]
  unfold putA
  split
  · rename_i h
    have hn := hasA_mem.mp h
    have e : (l.map (fun e => if e.1 = n then (e.1, v) else e)).map (·.1) = l.map (·.1) := by
      rw [List.map_map]
      refine List.map_congr_left fun e _ => ?_
      show (if e.1 = n then (e.1, v) else e).1 = e.1
      split <;> rfl
    rw [e]
    exact ⟨.inl, fun z => z.elim id fun z => z ▸ hn⟩
  · rw [List.map_append, List.mem_append]
    constructor
    · intro z
      rcases z with z | z
      · exact .inl z
      · exact .inr (by simpa using z : k = n).symm
    · intro z
      rcases z with z | z
      · exact .inl z
      · exact .inr (by simp [z])
theorem putA_len {α : Type} {l : List (Str × α)} {n : Str} {v : α} : (putA l n v).length ≤ l.length + 1 := by
  unfold putA
  split
  · rw [List.length_map]; omega
  · rw [List.length_append]; exact Nat.le_refl _
theorem nodup_take {α : Type} {n : α} : ∀ {l : List α} {i : Nat}, l.Nodup → l[i]? = some n → n ∉ l.take i
  | [], _, _, h => by simp at h
  | _ :: _, 0, _, _ => by simp
  | a :: r, i + 1, nd, h => by
    obtain ⟨n1, n2⟩ := List.nodup_cons.mp nd
    have h : r[i]? = some n := h
    rw [List.take_succ_cons, List.mem_cons, not_or]
    exact ⟨fun z => n1 (z ▸ List.mem_of_getElem? h), nodup_take n2 h⟩
theorem putA_keys {α : Type} {l : List (Str × α)} {n : Str} {v : α} (h : hasA l n = true) : (putA l n v).map (·.1) = l.map (·.1) := by
  unfold putA
  rw [if_pos h, List.map_map]
  refine List.map_congr_left fun e _ => ?_
  show (if e.1 = n then (e.1, v) else e).1 = e.1
  split <;> rfl
theorem putA_new {α : Type} {l : List (Str × α)} {n : Str} {v : α} (h : n ∉ l.map (·.1)) : putA l n v = l ++ [(n, v)] := by
  unfold putA
  rw [if_neg (fun z => h (hasA_mem.mp z))]
theorem mem_putA {α : Type} {l : List (Str × α)} {n : Str} {v : α} {e : Str × α} (h : e ∈ putA l n v) : e ∈ l ∨ e = (n, v) := by
  unfold putA at h
  split at h
  · obtain ⟨e', he', rfl⟩ := List.mem_map.mp h
    by_cases c : e'.1 = n
    · rw [if_pos c]
      exact .inr (by rw [c])
    · rw [if_neg c]
      exact .inl he'
  · rcases List.mem_append.mp h with z | z
    · exact .inl z
    · exact .inr (List.mem_singleton.mp z)
theorem nd_putA {α : Type} {l : List (Str × α)} {n : Str} {v : α} (h : (l.map (·.1)).Nodup) : ((putA l n v).map (·.1)).Nodup := by
  by_cases c : hasA l n = true
  · rw [putA_keys c]
    exact h
  · rw [putA_new (fun z => c (hasA_mem.mpr z)), List.map_append]
    refine List.nodup_append.mpr ⟨h, by simp, fun a ha b hb => ?_⟩
    have : b = n := by simpa using hb
    rw [this]
    exact fun z => c (hasA_mem.mpr (by rw [← z]; exact ha))
theorem str_le_antisymm {a b : Str} (h1 : a.cps.toList ≤ b.cps.toList) (h2 : b.cps.toList ≤ a.cps.toList) : a = b := by
  have := List.le_antisymm h1 h2
  obtain ⟨⟨x⟩⟩ := a
  obtain ⟨⟨y⟩⟩ := b
  have : x = y := this
  rw [this]
theorem sortD_one {l l' : List Str} (h : l.Perm l') : sortD l = sortD l' := by
  have e : (PySem.W.dataLe false (Datum.toD (α := Str))) = fun a b => decide (a.cps.toList ≤ b.cps.toList) := PySem.W.dataLe_str (fun x : Str => x)
  unfold sortD
  rw [e]
  have tr : ∀ a b c : Str, decide (a.cps.toList ≤ b.cps.toList) = true → decide (b.cps.toList ≤ c.cps.toList) = true → decide (a.cps.toList ≤ c.cps.toList) = true := fun a b c h1 h2 => decide_eq_true (List.le_trans (of_decide_eq_true h1) (of_decide_eq_true h2))
  have tt : ∀ a b : Str, (decide (a.cps.toList ≤ b.cps.toList) || decide (b.cps.toList ≤ a.cps.toList)) = true := fun a b => by
    rcases List.le_total (l₁ := a.cps.toList) (l₂ := b.cps.toList) with h | h <;> simp [h]
  refine List.Perm.eq_of_pairwise (le := fun a b : Str => decide (a.cps.toList ≤ b.cps.toList) = true) (fun a b _ _ h1 h2 => str_le_antisymm (of_decide_eq_true h1) (of_decide_eq_true h2)) (List.pairwise_mergeSort tr tt l) (List.pairwise_mergeSort tr tt l') ?_
  exact ((List.mergeSort_perm l _).trans h).trans (List.mergeSort_perm l' _).symm
theorem rising_all : ∀ (l : List Str) (p : Str), risingS p l = true → (∀ x ∈ l, p.cps.toList ≤ x.cps.toList) ∧ l.Pairwise fun a b => a.cps.toList ≤ b.cps.toList
  | [], _, _ => ⟨fun _ h => absurd h (by simp), .nil⟩
  | x :: r, p, h => by
    have h' : (!ltCps x.cps.toList p.cps.toList && risingS x r) = true := h
    obtain ⟨h1, h2⟩ := Bool.and_eq_true_iff.mp h'
    obtain ⟨r1, r2⟩ := rising_all r x h2
    have le : p.cps.toList ≤ x.cps.toList := by
      rw [ltCps_eq] at h1
      exact List.not_lt.mp (by simpa using h1)
    refine ⟨fun y hy => ?_, .cons r1 r2⟩
    rcases List.mem_cons.mp hy with rfl | hy
    · exact le
    · exact List.le_trans le (r1 y hy)
theorem sortedS_all : ∀ {l : List Str}, sortedS l = true → l.Pairwise fun a b => a.cps.toList ≤ b.cps.toList
  | [], _ => .nil
  | x :: r, h => by
    obtain ⟨r1, r2⟩ := rising_all r x h
    exact .cons r1 r2
theorem sortedS_one {l l' k : List Str} (h1 : sortedS l = true) (h2 : sortedS l' = true) (p1 : l.Perm k) (p2 : l'.Perm k) : l = l' :=
  List.Perm.eq_of_pairwise (fun a b _ _ h1 h2 => str_le_antisymm h1 h2) (sortedS_all h1) (sortedS_all h2) (p1.trans p2.symm)
theorem perm_of_mem {α : Type} [DecidableEq α] : ∀ {l m : List α}, l.Nodup → m.Nodup → (∀ x, x ∈ l ↔ x ∈ m) → l.Perm m
  | [], m, _, _, h => by
    cases m with
    | nil => exact .nil
    | cons a r => exact absurd ((h a).mpr (List.mem_cons_self ..)) (by simp)
  | a :: r, m, nl, nm, h => by
    obtain ⟨n1, n2⟩ := List.nodup_cons.mp nl
    have ma := (h a).mp (List.mem_cons_self ..)
    refine .trans (.cons a (perm_of_mem (l := r) (m := m.erase a) n2 (nm.erase a) fun x => ?_)) (List.perm_cons_erase ma).symm
    rw [nm.mem_erase_iff]
    constructor
    · intro hx
      exact ⟨fun e => n1 (by rw [← e]; exact hx), (h x).mp (List.mem_cons_of_mem _ hx)⟩
    · rintro ⟨ne, hx⟩
      rcases List.mem_cons.mp ((h x).mpr hx) with e | hx
      · exact absurd e ne
      · exact hx
theorem dpAll_strs {K : PySem.W.Frag} {H : Hp} : ∀ {ns : List Str} {us : List V}, DpAll K H us (ns.map (Datum.toD (α := Str))) → us = ns.map V.str
  | [], _, h => by cases h; rfl
  | n :: ns, _, h => by
    cases h with
    | cons h1 h2 =>
      cases h1
      rw [dpAll_strs h2]
      rfl
end Mx
set_option Elab.async false
set_option linter.all false
set_option maxRecDepth 100000
set_option maxHeartbeats 4000000
/-! General readings: pairs, calls whose heap changes, sorted dicts. -/
namespace Mx
open PySem PySem.Spec PyProof.Rows L2 Evl TL
open PySem.W (Datum DatumOrd Tup)
theorem uD {k : Nat} {A : Around} (r : Room k A) {α : Type} [DecidableEq α] [Datum α] (h : Datum.depth α ≤ 64) : A.units + Datum.depth α < cLine := Nat.lt_of_le_of_lt (Nat.add_le_add_left h _) r.units
theorem op_neTK {α : Type} [DecidableEq α] [Datum α] {X : Cx} {K' : PySem.W.Frag} (hK : X.K = K') (hu : X.A.units + Datum.depth α < cLine) : OpR X (compareOp .NotEq) (rDt α K' fun a b => decide (a ≠ b)) := by
  subst hK
  exact op_neT hu
theorem op_inK {X : Cx} {K' : PySem.W.Frag} (hK : X.K = K') : OpR X (compareOp .In) (rIn K' false) := by
  subst hK
  exact op_in_seq
theorem op_niK {X : Cx} {K' : PySem.W.Frag} (hK : X.K = K') : OpR X (compareOp .NotIn) (rIn K' true) := by
  subst hK
  exact op_notIn_seq
theorem op_eqTK {α : Type} [DecidableEq α] [Datum α] {X : Cx} {K' : PySem.W.Frag} (hK : X.K = K') (hu : X.A.units + Datum.depth α < cLine) : OpR X (compareOp .Eq) (rDt α K' fun a b => decide (a = b)) := by
  subst hK
  exact op_eqT hu
section
variable {σ : L2.St} {H H' : Hp} {te ta tb tc to td ty tx tS : TE} {u v x y z : V} {K : PySem.W.Frag}
theorem q_asg2 {i j : Nat} {D : Ends} {tz : TS} (ha : Ev ta σ H u) (hb : Ev tb σ H v) (k : ∀ H1, Ex H H1 → tz D ((σ.set i (some u)).set j (some v)) H1) : tSeq (tAsg (tTup (tCons ta (tCons tb tNil))) (gTup K 2 (gCons (gName i) (gCons (gName j) gNil)))) tz D σ H := by
  show tTup (tCons ta (tCons tb tNil)) σ H fun x H1 => gTup K 2 (gCons (gName i) (gCons (gName j) gNil)) x σ H1 (tz D)
  exact eu_tup (ea_cons ha (ea_cons hb ea_nil)) (by show 2 ≤ 100000; decide) H (Ex.refl H) _ fun p H1 _ e h1 => ⟨p, _, rfl, st_of h1, rfl, _, _, rfl, _, _, rfl, rfl, k H1 e⟩
theorem q_par {i j : Nat} {D : Ends} {tz : TS} (ha : Ev ta σ H u) (hb : Ev tb σ H v) (k : ∀ H1, Ex H H1 → tz D ((σ.set i (some u)).set j (some v)) H1) : tSeq (tPar i j (tCons ta (tCons tb tNil))) tz D σ H := by
  show tCons ta (tCons tb tNil) σ H fun vs H1 => ∃ v w, vs = [v, w] ∧ tz D ((σ.set i (Option.some v)).set j (Option.some w)) H1
  exact ea_cons ha (ea_cons hb ea_nil) H (Ex.refl H) _ fun H1 e => ⟨_, _, rfl, k H1 e⟩
theorem q_parL {i j : Nat} {D : Ends} {tz : TS} {xs : List V} (ha : EvL ta σ H xs) (hb : ∀ H1, Ev tb σ H1 v) (k : ∀ p H1, H p = none → Ex H H1 → H1 p = some (.lst xs) → tz D ((σ.set i (some (.ref p))).set j (some v)) H1) : tSeq (tPar i j (tCons ta (tCons tb tNil))) tz D σ H :=
  ha H (Ex.refl H) _ fun p H1 hp e h1 => hb H1 H1 (Ex.refl H1) _ fun H2 e2 => ⟨_, _, rfl, k p H2 hp (e.trans e2) (e2 _ _ h1)⟩
theorem t_methT {m : Str} {sp : Sp} {E : L2.St → XK} {t : TA} {Q : VK} {vs : List V} {C x dx : Addr} {fs : List (Str × V)} (h : Ev to σ H (.ref x)) (hx : H x = some (.ins C dx fs)) (l : fs.lookup m = none) (ha : EvA t σ H vs) (q : ∀ H1, Ex H H1 → sp (.ref x :: vs) H1 Q (E σ)) : tMethT C m sp E to t σ H Q :=
  h H (Ex.refl H) _ fun H1 e1 => ⟨x, dx, fs, rfl, e1 _ _ hx, l, ha H1 e1 _ fun H2 e2 => q H2 (e1.trans e2)⟩
theorem cutV_one {x : V} {xs : List V} : cutV (x :: xs) (some 1) none = xs := by
  unfold cutV
  rw [HT.sIx_none, show (some (1 : Int)) = some (((1 : Nat) : Int)) from rfl, HT.sIx_nat]
  have e : min 1 (x :: xs).length = 1 := by
    rw [List.length_cons]
    omega
  rw [e]
  simp
theorem evl_lcLp {α β γ : Type} [DecidableEq α] [Datum α] [DecidableEq β] [Datum β] [Firm β] [DecidableEq γ] [Datum γ] {tl : TE} {a1 j : Nat} {vs : List Nat} {xs : List (α × γ)} (g : α × γ → β) (h : EvP tl σ H fun v H2 => Dt K H2 v xs) (hz : xs.length ≤ 40000) (hw : ∀ x y, wipe (((wipe σ vs).set a1 (some x)).set j (some y)) vs = wipe σ vs)
    (he : ∀ (x : α × γ) (v w : V) H1, x ∈ xs → Dt K H1 v x.1 → Dt K H1 w x.2 → Ex H H1 → EvD te K (((wipe σ vs).set a1 (some v)).set j (some w)) H1 (g x)) : EvP (tLc (iList K tl) (gTup K 2 (gCons (gName a1) (gCons (gName j) gNil))) tYes te vs) σ H fun v H2 => ∃ a us, v = .ref a ∧ H a = none ∧ H2 a = some (.lst us) ∧ DpAll K H2 us ((xs.map g).map Datum.toD) := fun H0 e0 Q q =>
  h H0 e0 _ fun v H1 e1 d => by
    obtain ⟨a, us, rfl, hs, hd⟩ := dt_lst_inv (xs := xs) d
    obtain ⟨lu, fu⟩ := dpAll_at hd
    refine ⟨a, rfl, ⟨us, hs⟩, fun D hD => ?_⟩
    have E := e0.trans e1
    refine lc_list (xs := us) (fun i H' => H1 D = none ∧ Ex H1 H' ∧ ∃ acc, H' D = some (.lst acc) ∧ DpAll K H' acc (((xs.take i).map g).map Datum.toD)) ⟨hD, Ex.new hD, [], upd_same, .nil⟩ (fun i H' _ z => ex_l z.2.1 hs) (fun i y H' hi z => ?_) fun H' z => ?_
    · obtain ⟨p1, p2, acc, p3, p4⟩ := z
      obtain ⟨x, hx, dx⟩ := fu i y hi
      have mx := List.mem_of_getElem? hx
      obtain ⟨x1, x2⟩ := x
      obtain ⟨q1, u, z, rfl, hq, du, dz⟩ := dt_pair_inv dx
      have al := dpAll_len p4
      have lt : ((xs.take i).map g).length ≤ 40000 := by
        rw [List.length_map, List.length_take]
        omega
      refine ⟨q1, _, rfl, ex_t p2 hq, rfl, _, _, rfl, _, _, rfl, rfl, hw _ _, ?_⟩
      refine he (x1, x2) u z H' mx (du.ex p2) (dz.ex p2) (E.trans p2) H' (Ex.refl _) _ fun w H4 e4 dw => ⟨acc, e4 _ _ p3, sz_lt (by omega), p1, Ex.mut (p2.trans e4) p1, acc ++ [w], upd_same, ?_⟩
      have z := dp_step (x := g (x1, x2)) p3 e4 p4 dw
      rw [List.take_succ, hx, List.map_append]
      simpa using z
    · obtain ⟨p1, p2, acc, p3, p4⟩ := z
      rw [lu, List.take_length] at p4
      exact q _ H' (e1.trans p2) ⟨D, acc, rfl, fresh_back E p1, p3, p4⟩
theorem s_dputL {tv : TE} {D : Ends} {xs : List V} {d : Addr} {kvs : List (Key × V)} {k : Key} (hv : EvL tv σ H xs) (hd : Ev td σ H (.ref d)) (hk : Ev ty σ H (kV k)) (h : H d = some (.dK kvs)) (hl : kvs.length ≤ 50000) (n : ∀ p H1, H p = none → Ex H H1 → H1 p = some (.lst xs) → D.nx σ (upd H1 d (.dK (putK kvs k (.ref p))))) : sDPut td ty tv D σ H :=
  hv H (Ex.refl H) _ fun p H1 hp e1 h1 => hd H1 e1 _ fun H2 e2 => hk H2 (e1.trans e2) _ fun H3 e3 => ⟨d, _, rfl, DPut.k (((e1.trans e2).trans e3) _ _ h) (sz_lt (by omega)), n p H3 hp ((e1.trans e2).trans e3) (e3 _ _ (e2 _ _ h1))⟩
theorem evp_addI {r m : Int} (h : EvP te σ H fun v _ => ∃ d : Int, v = .int d ∧ 0 ≤ d ∧ d < m) : EvP (tOp (rI0 fun i j => .int (i + j)) (tC (.int r)) te) σ H (fun v _ => ∃ d : Int, v = .int d ∧ r ≤ d ∧ d < r + m) := fun H1 e Q q =>
  h H1 e _ fun v H2 e2 ⟨d, ev, d0, d1⟩ => by
    subst ev
    exact ⟨r, d, rfl, rfl, q _ H2 e2 ⟨r + d, rfl, by omega, by omega⟩⟩
theorem q_parP {i j : Nat} {D : Ends} {tz : TS} {R1 R2 : V → Prop} (ha : EvP ta σ H fun v _ => R1 v) (hb : EvP tb σ H fun v _ => R2 v) (k : ∀ u v H1, Ex H H1 → R1 u → R2 v → tz D ((σ.set i (some u)).set j (some v)) H1) : tSeq (tPar i j (tCons ta (tCons tb tNil))) tz D σ H := by
  show tCons ta (tCons tb tNil) σ H fun vs H1 => ∃ v w, vs = [v, w] ∧ tz D ((σ.set i (Option.some v)).set j (Option.some w)) H1
  exact ha H (Ex.refl H) _ fun u H1 e1 r1 => hb H1 e1 _ fun v H2 e2 r2 => ⟨_, _, rfl, k u v H2 (e1.trans e2) r1 r2⟩
theorem q_asg4 {i j k l : Nat} {D : Ends} {tz : TS} (ha : Ev ta σ H u) (hb : Ev tb σ H v) (hc : Ev tc σ H x) (hd : Ev td σ H y) (kk : ∀ H1, Ex H H1 → tz D ((((σ.set i (some u)).set j (some v)).set k (some x)).set l (some y)) H1) :
    tSeq (tAsg (tTup (tCons ta (tCons tb (tCons tc (tCons td tNil))))) (gTup K 4 (gCons (gName i) (gCons (gName j) (gCons (gName k) (gCons (gName l) gNil)))))) tz D σ H := by
  show tTup (tCons ta (tCons tb (tCons tc (tCons td tNil)))) σ H fun x H1 => gTup K 4 (gCons (gName i) (gCons (gName j) (gCons (gName k) (gCons (gName l) gNil)))) x σ H1 (tz D)
  exact eu_tup (ea_cons ha (ea_cons hb (ea_cons hc (ea_cons hd ea_nil)))) (by show 4 ≤ 100000; decide) H (Ex.refl H) _ fun p H1 _ e h1 => ⟨p, _, rfl, st_of h1, rfl, _, _, rfl, _, _, rfl, _, _, rfl, _, _, rfl, rfl, kk H1 e⟩
theorem t_callQ {sp : Sp} {dvs vs : List V} {E : XK} {t : TA} {Q : VK} (ha : EvA t σ H vs) (q : ∀ H1, Ex H H1 → sp (vs ++ dvs) H1 Q E) : tCall sp dvs E t σ H Q := ha H (Ex.refl H) _ fun H1 e1 => q H1 e1
theorem t_methM {m : Str} {sp : Sp} {E : XK} {t : TA} {Q : VK} {C x dx : Addr} {fs : List (Str × V)} (h : Ev to σ H (.ref x)) (hx : H x = some (.ins C dx fs)) (l : fs.lookup m = none) (q : ∀ H1, Ex H H1 → t σ H1 fun vs H2 => sp (.ref x :: (vs ++ [])) H2 Q E) : tMeth C m sp [] E to t σ H Q :=
  h H (Ex.refl H) _ fun H1 e1 => ⟨x, dx, fs, rfl, e1 _ _ hx, l, q H1 e1⟩
theorem t_methL {m : Str} {sp : Sp} {E : XK} {tl : TE} {Q : VK} {C x dx : Addr} {fs : List (Str × V)} {xs : List V} (h : Ev to σ H (.ref x)) (hx : H x = some (.ins C dx fs)) (l : fs.lookup m = none) (ha : EvL tl σ H xs) (q : ∀ p H1, H p = none → Ex H H1 → H1 p = some (.lst xs) → sp [.ref x, .ref p] H1 Q E) : tMeth C m sp [] E to (tCons tl tNil) σ H Q :=
  h H (Ex.refl H) _ fun H1 e1 => ⟨x, dx, fs, rfl, e1 _ _ hx, l, ha H1 e1 _ fun p H2 hp e2 h2 => q p H2 (fresh_back e1 hp) (e1.trans e2) h2⟩
theorem q_methL {m : Str} {sp : Sp} {E : XK} {tl : TE} {D : Ends} {tz : TS} {C x dx : Addr} {fs : List (Str × V)} {xs : List V} (h : Ev to σ H (.ref x)) (hx : H x = some (.ins C dx fs)) (l : fs.lookup m = none) (ha : EvL tl σ H xs) (q : ∀ p H1, H p = none → Ex H H1 → H1 p = some (.lst xs) → sp [.ref x, .ref p] H1 (fun _ H2 => tz D σ H2) E) : tSeq (tDrop (tMeth C m sp [] E to (tCons tl tNil))) tz D σ H := t_methL h hx l ha q
abbrev rSortD : List V → Hp → VK → Prop := fun xs H Q => ∃ (a : Addr) (kvs : List (Key × V)) (ks : List Str), xs = [.ref a] ∧ Rd H a (.dK kvs) ∧ kvs.map (·.1) = ks.map Sum.inr ∧ ks.length < 64 ∧
    ∀ ys p, ys.Perm ks → sortedS ys = true → H p = none → Q (.ref p) (upd H p (.lst (ys.map V.str)))
theorem evd_sortDk {α : Type} {f : α → V} {d : Addr} {l : List (Str × α)} (h : Ev te σ H (.ref d)) (hd : H d = some (.dK (dk f l))) (hl : l.length < 64) : EvP (tCB rSortD (tCons te tNil)) σ H fun v H2 => ∃ ys : List Str, Dt K H2 v ys ∧ ys.Perm (l.map (·.1)) ∧ sortedS ys = true := fun H1 e Q q =>
  h H1 e _ fun H2 e2 => ⟨d, _, l.map (·.1), rfl, .inl ((e.trans e2) _ _ hd), by unfold dk; rw [List.map_map, List.map_map]; rfl, by rw [List.length_map]; exact hl, fun ys p h1 h2 hp => q _ _ (e2.trans (Ex.new hp)) ⟨ys, dt_lst (sq_of upd_same) (dpAll_map fun _ _ => dt_str), h1, h2⟩⟩
theorem q_whenCall {r : R2} {tu tz : TS} {D : Ends} (h : ta σ H fun x H1 => tb σ H1 fun y H2 => r x y H2 fun z H3 => ∃ b : Bool, z = .bl b ∧ (if b = true then tu { D with nx := tz D } σ H3 else tz D σ H3)) : tSeq (tIfS (tTest (tOp r ta tb)) tu tNext) tz D σ H := h
theorem s_whenAny {t1 : TT} {b1 : Bool} {tu : TS} {D : Ends} (h1 : EvT t1 σ H b1) (h2 : EvP te σ H fun v _ => ∃ d : Int, v = .int d) (k1 : b1 = true → ∀ H1, Ex H H1 → tu D σ H1) (k2 : ∀ H1, Ex H H1 → D.nx σ H1) : tIfS (tAnd t1 (tTest (tOp rEq te (tC (.int 0))))) tu tNext D σ H := by
  refine h1 H (Ex.refl H) _ fun H1 e1 => ?_
  cases b1 with
  | false => exact k2 H1 e1
  | true =>
    refine h2 H1 e1 _ fun v H2 e2 ⟨d, ev⟩ => ?_
    subst ev
    refine ⟨rfl, _, rfl, ?_⟩
    by_cases c : decide (V.int d = V.int 0) = true
    · rw [c]
      exact k1 rfl H2 (e1.trans e2)
    · rw [Bool.not_eq_true] at c
      rw [c]
      exact k2 H2 (e1.trans e2)
theorem et_neP2 {α : Type} [DecidableEq α] [Datum α] {P1 P2 : α → Prop} (ha : EvP ta σ H fun v H2 => ∃ a, Dt K H2 v a ∧ P1 a) (hb : EvP tb σ H fun v H2 => ∃ a, Dt K H2 v a ∧ P2 a) (hp : ∀ a b, P1 a → P2 b → a = b) : EvT (tTest (tOp (rDt α K fun a b => decide (a ≠ b)) ta tb)) σ H false := fun H1 e Q q =>
  ha H1 e _ fun v H2 e2 ⟨a, da, pa⟩ => hb H2 (e.trans e2) _ fun u H3 e3 ⟨b, db, pb⟩ => by
    have ab := hp a b pa pb
    subst ab
    refine ⟨a, a, da.ex e3, db, false, ?_, q H3 (e2.trans e3)⟩
    show V.bl (decide (a ≠ a)) = V.bl false
    rw [decide_eq_false (fun h => h rfl)]
theorem evd_nilS {σ : L2.St} {H : Hp} : EvD (tLst tNil) K σ H ([] : List Str) := fun H1 e Q q =>
  el_lst ea_nil (by decide) H1 e _ fun p H2 _ e2 h2 => q _ H2 e2 (dt_lst (sq_of h2) .nil)
theorem dt_strs {H : Hp} {p : Addr} {xs : List Str} (h : SqL K H p (xs.map V.str)) : Dt K H (.ref p) xs := dt_lst h (dpAll_map fun _ _ => dt_str)
end
end Mx
set_option Elab.async false
set_option linter.all false
set_option maxRecDepth 100000
set_option maxHeartbeats 4000000
/-! Loops and comprehensions over dicts; texts cut and joined. -/
namespace Mx
open PySem PySem.Spec PyProof.Rows L2 Evl TL
open PySem.W (Datum DatumOrd Tup)
theorem tl_inj {x y : Str} (h : tl x = tl y) : x = y := by
  obtain ⟨⟨a⟩⟩ := x
  obtain ⟨⟨b⟩⟩ := y
  have : a = b := h
  rw [this]
theorem app_assoc (a b c : Str) : a ++ b ++ c = a ++ (b ++ c) := tl_inj (by simp only [tl_append, List.append_assoc])
theorem len_app (x y : Str) : (x ++ y).length = x.length + y.length := by rw [len_tl, tl_append, List.length_append, ← len_tl, ← len_tl]
theorem tl_nil : tl ("" : Str) = [] := by decide +kernel
theorem join_nil : ∀ (xs : List Str) (h : Str), Txt.join "" (h :: xs) = xs.foldl (· ++ ·) h := fun xs => by
  have key : ∀ (xs : List Str) (h : Str), tl (Txt.join "" (h :: xs)) = tl h ++ (xs.map tl).flatten := fun xs => by
    induction xs with
    | nil => intro h; rw [join_eq, tl_join]; simp [joinL]
    | cons x r ih =>
      intro h
      have := ih x
      rw [join_eq, tl_join] at this ⊢
      rw [List.map_cons, List.map_cons] at *
      rw [show joinL (tl "") (tl h :: tl x :: r.map tl) = tl h ++ (tl "" ++ joinL (tl "") (tl x :: r.map tl)) from by simp [joinL], this, tl_nil]
      simp
  intro h
  refine tl_inj ?_
  rw [key]
  have f : ∀ (xs : List Str) (h : Str), tl (xs.foldl (· ++ ·) h) = tl h ++ (xs.map tl).flatten := fun xs => by
    induction xs with
    | nil => intro h; simp
    | cons x r ih =>
      intro h
      rw [List.foldl_cons, ih, tl_append]
      simp
  rw [f]
theorem dropA_id {α : Type} {l : List (Str × α)} {n : Str} (h : n ∉ l.map (·.1)) : dropA l n = l := by
  unfold dropA
  exact List.filter_eq_self.mpr fun e he => decide_eq_true fun z => h (by rw [← z]; exact List.mem_map_of_mem he)
section
variable {σ : L2.St} {H H' : Hp} {te ta tb td to ty tx tk tv : TE} {tt : TT} {v z : V} {K : PySem.W.Frag} {d : Addr} {kvs : List (Key × V)}
theorem dk_at {α : Type} {f : α → V} {l : List (Str × α)} {i : Nat} {k : Key} {v : V} (h : (dk f l)[i]? = some (k, v)) : ∃ e, l[i]? = some e ∧ k = .inr e.1 ∧ v = f e.2 := by
  unfold dk at h
  rw [List.getElem?_map] at h
  cases q : l[i]? with
  | none => rw [q] at h; cases h
  | some e =>
    rw [q] at h
    cases h
    exact ⟨e, rfl, rfl, rfl⟩
/-- for k in d: the dict stays as it is -/
theorem q_forKeys {D : Ends} {tu tz : TS} {j : Nat} (Pv : Obj → Nat → L2.St → Hp → Prop) (h : ∀ o, Ev td σ (upd H d (.frz o (.dK kvs))) (.ref d)) (hd : H d = some (.dK kvs)) (h0 : ∀ o H1, Ex (upd H d (.frz o (.dK kvs))) H1 → Pv o 0 σ H1)
    (hl : ∀ o i σ' H', Pv o i σ' H' → H' d = some (.frz o (.dK kvs)))
    (hs : ∀ o i k v σ' H' rt bk, kvs[i]? = some (k, v) → Pv o i σ' H' → tu ⟨Pv o (i + 1), rt, bk, Pv o (i + 1)⟩ (σ'.set j (some (kV k))) H') (hd' : ∀ o σ' H', Pv o kvs.length σ' H' → tz D σ' (upd H' d (.dK kvs))) :
    tSeq (tLock (tFor (iKeys td) (gName j) tu)) tz D σ H := by
  refine ⟨d, .dK kvs, hd, trivial, fun o => ?_⟩
  refine h o _ (Ex.refl _) _ fun H2 e2 => ⟨d, o, rfl, .inl ⟨kvs, e2 _ _ upd_same, ?_⟩⟩
  refine for_it walk_keys (Pv o) (h0 o H2 e2) (fun i σ' H' _ p => hl o i σ' H' p) (fun i x σ' H' H'' hi p y => ?_) fun σ' H' p => ⟨hl o _ _ _ p, hd' o σ' H' p⟩
  obtain ⟨rfl, k, v, hk, rfl⟩ := y
  exact hs o i k v σ' H'' _ _ hk p
/-- {kx: v for k, v in d.items() if t} of a dict of texts -/
theorem evp_dcI {a1 j : Nat} {vs : List Nat} {l : List (Str × Str)} (p : Str → Bool) (g : Str → Str) (h : ∀ o, Ev td σ (upd H d (.frz o (.dK (dk V.str l)))) (.ref d)) (hd : H d = some (.dK (dk V.str l))) (hz : l.length ≤ 10000) (hnd : ((l.filter fun e => p e.1).map fun e => g e.1).Nodup)
    (hw : ∀ x y, wipe (((wipe σ vs).set a1 (some x)).set j (some y)) vs = wipe σ vs)
    (ht : ∀ (e : Str × Str) H1, e ∈ l → EvT tt (((wipe σ vs).set a1 (some (.str e.1))).set j (some (.str e.2))) H1 (p e.1))
    (hk : ∀ (e : Str × Str) H1, e ∈ l → p e.1 = true → Ev tk (((wipe σ vs).set a1 (some (.str e.1))).set j (some (.str e.2))) H1 (.str (g e.1)))
    (hv : ∀ (e : Str × Str) H1, Ev tv (((wipe σ vs).set a1 (some (.str e.1))).set j (some (.str e.2))) H1 (.str e.2)) :
    EvP (tLockE (tDc (iItems td) (gTup K 2 (gCons (gName a1) (gCons (gName j) gNil))) tt tk tv vs)) σ H fun v H2 => ∃ q, v = .ref q ∧ H q = none ∧ H2 q = some (.dK (dk V.str ((l.filter fun e => p e.1).map fun e => (g e.1, e.2)))) := fun H1 e0 Q q => by
  have hd1 := e0 _ _ hd
  refine ⟨d, .dK (dk V.str l), hd1, trivial, fun o => ?_⟩
  refine h o _ (lock_ex e0) _ fun H2 e2 => ⟨d, o, _, rfl, e2 _ _ upd_same, fun D hD => ?_⟩
  have hd2 : H2 d = some (.frz o (.dK (dk V.str l))) := e2 _ _ upd_same
  have nD : D ≠ d := fun z => by rw [z, hd2] at hD; cases hD
  have lenD : (dk V.str l).length = l.length := dk_len l
  refine ⟨fun i mm H' => mm = l.length - i ∧ i ≤ l.length ∧ Ex H2 H' ∧ H' D = some (.dK (dk V.str (((l.take i).filter fun e => p e.1).map fun e => (g e.1, e.2)))), ⟨l.length, by omega, Nat.zero_le _, Ex.new hD, upd_same⟩, fun i mm H' z => ?_⟩
  obtain ⟨rfl, hi, p2, p3⟩ := z
  by_cases lt : i < l.length
  · have hx : l[i]? = some l[i] := List.getElem?_eq_getElem lt
    refine .inr ⟨walk_items.goes i H' (by omega) (p2 _ _ hd2), fun H' => i + 1 ≤ l.length ∧ Ex H2 H' ∧ H' D = some (.dK (dk V.str (((l.take (i + 1)).filter fun e => p e.1).map fun e => (g e.1, e.2)))), fun H'' z => ⟨l.length - (i + 1), by omega, rfl, z⟩, fun x H'' y => ?_⟩
    obtain ⟨TT, k, w, y1, y2, y3, y4⟩ := y
    obtain ⟨e, he, rfl, rfl⟩ := dk_at y1
    subst y2 y4
    have me := List.mem_of_getElem? he
    have E3 : Ex H2 (upd H' TT (.tup [kV (.inr e.1), V.str e.2])) := p2.trans (Ex.new y3)
    have p3' : upd H' TT (.tup [kV (.inr e.1), V.str e.2]) D = some (.dK (dk V.str (((l.take i).filter fun e => p e.1).map fun e => (g e.1, e.2)))) := (Ex.new y3) _ _ p3
    refine ⟨TT, _, rfl, st_of upd_same, rfl, _, _, rfl, _, _, rfl, rfl, hw _ _, ?_⟩
    refine ht e _ me _ (Ex.refl _) _ fun H3 e3 => ?_
    cases hf : p e.1 with
    | true =>
      rw [if_pos rfl]
      refine hk e _ me hf H3 (Ex.refl _) _ fun H4 e4 => hv e _ H4 (Ex.refl _) _ fun H5 e5 => ⟨_, .inr (g e.1), rfl, (e3.trans (e4.trans e5)) _ _ p3', ?_, lt, ?_, ?_⟩
      · rw [dk_len, List.length_map]
        have := List.length_filter_le (fun e : Str × Str => p e.1) (l.take i)
        rw [List.length_take] at this
        exact sz_lt (by omega)
      · intro a w ha
        by_cases c : a = D
        · rw [c] at ha
          rw [hD] at ha
          cases ha
        · rw [upd_ne c]
          exact (e3.trans (e4.trans e5)) _ _ (E3 a w ha)
      · rw [upd_same, putK_dk, List.take_succ, he, List.filter_append, List.map_append]
        have nm : g e.1 ∉ (((l.take i).filter fun e => p e.1).map fun e => (g e.1, e.2)).map (·.1) := by
          rw [List.map_map]
          have spl : l = l.take i ++ e :: l.drop (i + 1) := by
            obtain ⟨h1, h2⟩ := List.getElem?_eq_some_iff.mp he
            conv => lhs; rw [← List.take_append_drop i l, List.drop_eq_getElem_cons h1, h2]
          have nd2 := hnd
          rw [spl, List.filter_append, List.map_append, List.filter_cons, if_pos hf, List.map_cons] at nd2
          have := (List.nodup_append.mp nd2).2.2
          intro m
          exact this (g e.1) m (g e.1) (List.mem_cons_self ..) rfl
        rw [putA_new nm]
        simp [hf]
    | false =>
      rw [if_neg (by decide)]
      refine ⟨lt, E3.trans e3, ?_⟩
      rw [List.take_succ, he, List.filter_append, List.map_append]
      simp only [Option.toList_some, List.filter_cons, hf, List.filter_nil, Bool.false_eq_true, if_false, List.map_nil, List.append_nil]
      exact e3 _ _ p3'
  · have e : i = l.length := by omega
    subst e
    rw [List.take_length] at p3
    have fr : H D = none := by
      cases z : H D with
      | none => rfl
      | some o2 =>
        have z2 := e0 _ _ z
        have z3 := e2 D o2 (by rw [upd_ne nD]; exact z2)
        rw [hD] at z3
        cases z3
    refine .inl ⟨?_, p2 _ _ hd2, q _ _ (ex_lock (e2.trans p2) hd1) ⟨D, rfl, fr, by rw [upd_ne nD]; exact p3⟩⟩
    have := (walk_items (d := d) (o := o) (kvs := dk V.str l)).stops H' (p2 _ _ hd2)
    rw [lenD] at this
    exact this
abbrev rPart : V → List V → Hp → VK → Prop := fun x xs H Q => ∃ a b, x = .str a ∧ xs = [.str b] ∧ (b.length == 0) = false ∧ a.length ≤ sizeLine ∧
      ∀ p, H p = none → Q (.ref p) (upd H p (.tup [.str (Txt.partition a b).1, .str (Txt.partition a b).2.1, .str (Txt.partition a b).2.2]))
theorem ev_part {a b : Str} (h : Ev te σ H (.str a)) (h2 : Ev ta σ H (.str b)) (hb : (b.length == 0) = false) (ha : a.length ≤ 100000) : Ev (tOp (rIxT K) (tM1 rPart te ta) (tC (.int 0))) σ H (.str (Txt.partition a b).1) := fun H1 e Q q =>
  h H1 e _ fun H2 e2 => ⟨⟨_, rfl⟩, h2 H2 (e.trans e2) _ fun H3 e3 => ⟨a, b, rfl, rfl, hb, sz_of ha, fun p hp => ⟨p, _, 0, _, rfl, rfl, st_of upd_same, atI_nat (j := 0) rfl, q _ ((e2.trans e3).trans (Ex.new hp))⟩⟩⟩
abbrev rStarts : V → List V → Hp → VK → Prop := fun x xs H Q => ∃ a b, x = .str a ∧ xs = [.str b] ∧ Q (.bl (Txt.startswith a b)) H
theorem ev_starts {a b : Str} (h : Ev te σ H (.str a)) (h2 : Ev ta σ H (.str b)) : Ev (tM1 rStarts te ta) σ H (.bl (Txt.startswith a b)) := fun H1 e Q q =>
  h H1 e _ fun H2 e2 => ⟨⟨_, rfl⟩, h2 H2 (e.trans e2) _ fun H3 e3 => ⟨a, b, rfl, rfl, q H3 (e2.trans e3)⟩⟩
abbrev rIsNn : R2 := fun x y H Q => y = .non ∧ Q (.bl (decide (x = .non))) H
abbrev rNotNn : R2 := fun x y H Q => y = .non ∧ Q (.bl (!decide (x = .non))) H
theorem ev_isN (h : Ev te σ H v) : Ev (tOp rIsNn te (tC .non)) σ H (.bl (decide (v = .non))) := ev_op h ev_c fun H1 _ Q q => ⟨rfl, q H1 (Ex.refl H1)⟩
theorem ev_notN (h : Ev te σ H v) : Ev (tOp rNotNn te (tC .non)) σ H (.bl (!decide (v = .non))) := ev_op h ev_c fun H1 _ Q q => ⟨rfl, q H1 (Ex.refl H1)⟩
abbrev rStrI : List V → Hp → VK → Prop := fun xs H Q => ∃ i, xs = [.int i] ∧ i.natAbs.log2 < 1920 ∧ Q (.str (toString i)) H
theorem ev_strI {i : Int} (h : Ev te σ H (.int i)) (hi : i.natAbs < 1920) : Ev (tCB rStrI (tCons te tNil)) σ H (.str (toString i)) := fun H1 e Q q =>
  h H1 e _ fun H2 e2 => ⟨i, rfl, Nat.lt_of_le_of_lt (Nat.log2_le_self _) hi, q H2 e2⟩
abbrev rIntS : List V → Hp → VK → Prop := fun xs H Q => ∃ a n, xs = [.str a] ∧ PySem.intText? a = some n ∧ a.length ≤ 640 ∧ Q (.int n) H
theorem ev_intS {a : Str} {n : Int} (h : Ev te σ H (.str a)) (hn : PySem.intText? a = some n) (ha : a.length ≤ 640) : Ev (tCB rIntS (tCons te tNil)) σ H (.int n) := fun H1 e Q q =>
  h H1 e _ fun H2 e2 => ⟨a, n, rfl, hn, ha, q H2 e2⟩
/-- sorted(d), the list new -/
theorem el_sortDk {α : Type} {f : α → V} {d : Addr} {l : List (Str × α)} {ks : List Str} (h : Ev te σ H (.ref d)) (hd : H d = some (.dK (dk f l))) (hp : (l.map (·.1)).Perm ks) (hs : sortedS ks = true) (hl : l.length < 64) : EvL (tCB rSortD (tCons te tNil)) σ H (ks.map V.str) := fun H1 e Q q =>
  h H1 e _ fun H2 e2 => ⟨d, _, l.map (·.1), rfl, .inl ((e.trans e2) _ _ hd), by unfold dk; rw [List.map_map, List.map_map]; rfl, by rw [List.length_map]; exact hl, fun ys p h1 h2 hpn => by
    have e3 : ys = ks := sortedS_one h2 hs h1 hp.symm
    rw [e3]
    exact q _ _ (fresh_back e2 hpn) (e2.trans (Ex.new hpn)) upd_same⟩
abbrev rLenD : List V → Hp → VK → Prop := fun xs H Q => ∃ a kvs, xs = [V.ref a] ∧ H a = some (.dK kvs) ∧ Q (.int kvs.length) H
theorem ev_lenD (h : Ev te σ H (.ref d)) (hd : H d = some (.dK kvs)) : Ev (tCB rLenD (tCons te tNil)) σ H (.int (kvs.length : Nat)) := fun H1 e Q q =>
  h H1 e _ fun H2 e2 => ⟨d, kvs, rfl, (e.trans e2) _ _ hd, q H2 e2⟩
abbrev rCopyD : List V → Hp → VK → Prop := fun xs H Q => ∃ (a : Addr) (kvs : List (Key × V)), xs = [.ref a] ∧ Rd H a (.dK kvs) ∧ ∀ p, H p = none → Q (.ref p) (upd H p (.dK kvs))
theorem evp_copyD (h : Ev te σ H (.ref d)) (hd : H d = some (.dK kvs)) : EvP (tCB rCopyD (tCons te tNil)) σ H fun v H2 => ∃ q, v = .ref q ∧ H q = none ∧ H2 q = some (.dK kvs) := fun H1 e Q q =>
  h H1 e _ fun H2 e2 => ⟨d, kvs, rfl, .inl ((e.trans e2) _ _ hd), fun p hp => q _ _ (e2.trans (Ex.new hp)) ⟨p, rfl, fresh_back (e.trans e2) hp, upd_same⟩⟩
/-- a for loop over a list that is known -/
theorem q_forP {tl : TE} {j : Nat} {tu tz : TS} {D : Ends} {xs : List V} (h : EvP tl σ H fun v H2 => ∃ p, v = .ref p ∧ SqL K H2 p xs) (Pv : Addr → Nat → L2.St → Hp → Prop) (h0 : ∀ p H1, Ex H H1 → SqL K H1 p xs → Pv p 0 σ H1) (hl : ∀ p i σ' H', i ≤ xs.length → Pv p i σ' H' → SqL K H' p xs)
    (hs : ∀ p i x σ' H', xs[i]? = some x → Pv p i σ' H' → tu { D with nx := Pv p (i + 1), ct := Pv p (i + 1), bk := tz D } (σ'.set j (some x)) H') (hd : ∀ p σ' H', Pv p xs.length σ' H' → tz D σ' H') : tSeq (tFor (iList K tl) (gName j) tu) tz D σ H :=
  h H (Ex.refl H) _ fun v H1 e ⟨p, ev, hp⟩ => by
    subst ev
    exact ⟨p, rfl, ⟨xs, hp⟩, for_list (D := { D with nx := tz D }) (Pv p) (h0 p H1 e hp) (hl p) (hs p) (hd p)⟩
end
/-! ### y = {k: v for ..} as a statement -/
section
variable {X : Cx}
theorem ps_setDc {i : Nat} {y : Str} {py : Pos} {kx vx tg iter : Expr} {ifs : List Expr} {scope : Scope} {own : List (Str × Nat)} {pos spos : Pos} {wi : L2.TI} {g : TG} {tt : TT} {tk tv : TE} (hc : X.calm = true) (hN : X.N.Nodup) (hy : X.N[i]? = some y) (hyl : X.env.scope.names.lookup y = some .local)
    (hsw : swapsWith (.DictComp kx vx [⟨tg, iter, ifs, 0⟩] scope pos) (some (.Name y py)) spos.line X.env = pure true) (hi : PI X tg iter wi) (ok : BlkOk X.N X.env.scope scope own)
    (hg : ∀ (s : Shared) (H : Hp) (C : Addr) (cl : List (Str × Addr)) (fp : List Addr), PG (X.blk s H scope (compEnvC scope cl C X.env) fp) tg g) (ht : ∀ (s : Shared) (H : Hp) (C : Addr) (cl : List (Str × Addr)) (fp : List Addr), PTs (X.blk s H scope (compEnvC scope cl C X.env) fp) ifs tt)
    (hk : ∀ (s : Shared) (H : Hp) (C : Addr) (cl : List (Str × Addr)) (fp : List Addr), PE (X.blk s H scope (compEnvC scope cl C X.env) fp) kx tk)
    (he : ∀ (s : Shared) (H : Hp) (C : Addr) (cl : List (Str × Addr)) (fp : List Addr), PE (X.blk s H scope (compEnvC scope cl C X.env) fp) vx tv) (hs : ∀ x, foldedSetIterable iter X.env x = pure x := by intro _; rfl) :
    PS X (.Assign [.Name y py] (.DictComp kx vx [⟨tg, iter, ifs, 0⟩] scope pos) spos) (tAsg (tDc wi g tt tk tv (own.map (·.2))) (gName i)) := by
  refine ⟨fun pins s σ H D I h => ?_⟩
  rw [exec_Assign_Name_used _ _ _ _ hsw]
  refine wpAny_bind (wpAny_standAt (wpAny_bind ?_))
  show wpAny _ X.A (do let _ ← comprehension (.DictComp kx vx [⟨tg, iter, ifs, 0⟩] scope pos) scope X.env (firstIterPos [⟨tg, iter, ifs, 0⟩] pos) newDict false (eval iter X.env) (some (assign (.Name y py) X.env))) _ _ s
  have h : tDc wi g tt tk tv (own.map (·.2)) σ H (fun x H1 => gName i x σ H1 D.nx) := h
  refine wpAny_bind (thn (dc_core (Qf := fun _ s' => SP X pins D .next s') hc hN I hi ok hg ht hk he hs h fun L C s' m H' I' q hn f => ?_) fun _ s' hq => wpAny_pure (wpAny_pure hq))
  show wpAny _ _ (assign (.Name y py) X.env (.ref L)) _ _ _
  refine wpAny_assign_Name (store_ok2 (v := V.ref L) I' hN hy (.inl hyl) rfl (fun s2 I2 ⟨a, sb, ha⟩ => ?_) (.inr hyl))
  obtain ⟨f0, f1, f2, f3, f4, f5⟩ := f
  have haC : C ≠ a := by
    rcases ha with z | z
    · rw [z]; exact f1
    · exact fun e => f4 y a z e.symm
  refine ⟨m, hn.sameBut sb haC, fun h3 sb3 => ?_⟩
  exact ⟨_, H', I2.turned (t' := s2.toks) (fun b o hb e => (sb3.2 b hb).trans e) f0 f1 f3 f4 f5, q⟩
theorem sw_trueD {kx vx : Expr} {gs : List Comprehension} {scope : Scope} {pos py : Pos} {y : Str} {l : Nat} {env : Env} (hk : env.scope.kind = .function) (hy : env.scope.names.lookup y = some .local) (hl : (py.line == pos.line) = true)
    (ha : (scope.names.any fun (n, k) => n == y && (k == .local || k == .cell)) = false) : swapsWith (.DictComp kx vx gs scope pos) (some (.Name y py)) l env = pure true := by
  have ky : env.kindOf y = some .local := hy
  have hb : env.blockKind = .function := by unfold Env.blockKind; rw [hk]; rfl
  unfold swapsWith
  simp only [hb, ky, ha, Expr.pos, hl]
  rfl
end
theorem q_asgPL {te : TE} {i : Nat} {σ : L2.St} {H : Hp} {D : Ends} {tz : TS} {R : V → Hp → Prop} (h : EvP (tLockE te) σ H R) (k : ∀ v H1, Ex H H1 → R v H1 → tz D (σ.set i (some v)) H1) : tSeq (tLock (tAsg te (gName i))) tz D σ H := q_asgP h k
end Mx
set_option Elab.async false
set_option linter.all false
set_option maxRecDepth 100000
set_option maxHeartbeats 1000000
/-! A lambda of two texts, handed to a method: what it captures stands frozen while the method runs. -/
namespace Mx
open PySem PySem.Spec PyProof.Rows L2 Evl TL LamX
def Tr : HO := .ext fun _ => True
theorem tr_ok {P : Program} {w : World} {H : Hp} {h : Heap} {a : Addr} {o : Obj} (e : h.get? a = some o) : ObjOk P w H h a (.frz o Tr) := ⟨e, trivial, ⟨o, e⟩, fun _ _ _ _ => trivial⟩
/-! ### what is frozen for a while -/
def addC (H : Hp) (cs : List (Addr × Obj)) : Hp := fun b => match cs.lookup b with
  | some o => some (.frz o ((H b).getD Tr))
  | none => H b
def backC (H : Hp) (cs : List (Addr × Obj)) (H' : Hp) : Hp := fun b => match cs.lookup b with
  | some _ => H b
  | none => H' b
theorem addC_in {H : Hp} {cs : List (Addr × Obj)} {b : Addr} {o : Obj} (h : cs.lookup b = some o) : addC H cs b = some (.frz o ((H b).getD Tr)) := by
  unfold addC
  rw [h]
theorem addC_out {H : Hp} {cs : List (Addr × Obj)} {b : Addr} (h : cs.lookup b = none) : addC H cs b = H b := by
  unfold addC
  rw [h]
theorem backC_in {H H' : Hp} {cs : List (Addr × Obj)} {b : Addr} {o : Obj} (h : cs.lookup b = some o) : backC H cs H' b = H b := by
  unfold backC
  rw [h]
theorem backC_out {H H' : Hp} {cs : List (Addr × Obj)} {b : Addr} (h : cs.lookup b = none) : backC H cs H' b = H' b := by
  unfold backC
  rw [h]
/-- what may be frozen: untracked things, and lists -/
def CsOk (base : Heap) (fs : List Addr) (H : Hp) (h : Heap) (cs : List (Addr × Obj)) : Prop := ∀ b o, cs.lookup b = some o → h.get? b = some o ∧ base.get? b = none ∧ b ∉ fs ∧ (H b = none ∨ ∃ xs, H b = some (.lst xs))
section
variable {P : Program} {w : World} {K : PySem.W.Frag} {mg : Str → Option Value} {base : Heap} {A : Around} {outer : List Env} {s s' : Shared} {H H' : Hp} {cs : List (Addr × Obj)}
theorem hok_add (hok : HOk P w H s.heap) (c : CsOk base (frs outer) H s.heap cs) : HOk P w (addC H cs) s.heap := fun a u e => by
  have ho : ∀ b x, H b = some (.own x) → addC H cs b = some (.own x) := fun b x hb => by
    cases q : cs.lookup b with
    | none => rw [addC_out q]; exact hb
    | some o =>
      rcases (c b o q).2.2.2 with z | ⟨xs, z⟩ <;> rw [z] at hb <;> cases hb
  have ht : ∀ b xs, H b = some (.tup xs) → addC H cs b = some (.tup xs) := fun b xs hb => by
    cases q : cs.lookup b with
    | none => rw [addC_out q]; exact hb
    | some o =>
      rcases (c b o q).2.2.2 with z | ⟨ys, z⟩ <;> rw [z] at hb <;> cases hb
  cases q : cs.lookup a with
  | none =>
    rw [addC_out q] at e
    exact (hok a u e).stay (fun _ _ _ h => h) (fun b => ho b a) ht
  | some o =>
    rw [addC_in q] at e
    cases e
    obtain ⟨c1, _, _, c4⟩ := c a o q
    rcases c4 with z | ⟨xs, z⟩
    · rw [z]
      exact tr_ok c1
    · rw [z]
      exact ⟨c1, (hok a _ z).stay (fun _ _ _ h => h) (fun b => ho b a) ht⟩
theorem env0_add (e0 : Env0 P w K mg base A outer s H) (c : CsOk base (frs outer) H s.heap cs) : Env0 P w K mg base A outer s (addC H cs) := by
  refine ⟨e0.frames, e0.mod, fun b o e => ⟨(e0.bs b o e).1, ?_⟩, e0.bsz, e0.funs, fun b hb => ?_, hok_add e0.hok c, e0.bare⟩
  · cases q : cs.lookup b with
    | none => rw [addC_out q]; exact (e0.bs b o e).2
    | some o' =>
      have := (c b o' q).2.1
      rw [this] at e
      cases e
  · cases q : cs.lookup b with
    | none => rw [addC_out q]; exact e0.frf b hb
    | some o' => exact absurd hb (c b o' q).2.2.1
theorem ce_back {Q : VK} {u : Value} (c : CsOk base (frs outer) H s.heap cs) (h : CE outer P w (addC H cs) s (fun v H' => Q v (backC H cs H')) u s') : CE outer P w H s Q u s' := by
  obtain ⟨v, H', os, bare, un, hok, rv, q⟩ := h
  have fz : ∀ b o, cs.lookup b = some o → H' b = some (.frz o ((H b).getD Tr)) := fun b o hb => un.frzs b _ _ (addC_in hb)
  refine ⟨v, backC H cs H', os, bare, ⟨fun b o e n hf hx => ?_, fun b o e n hf hx => ?_, fun b o e n hx => ?_, un.there, fun b xs e => ?_, fun b o x e => ?_, fun b ps e => ?_⟩, fun a x e => ?_, rv, q⟩
  · cases z : cs.lookup b with
    | none => exact un.keep b o e (by rw [addC_out z]; exact n) hf hx
    | some o' =>
      have e1 := (c b o' z).1
      rw [e] at e1
      cases e1
      exact (hok b _ (fz b o z)).1
  · cases z : cs.lookup b with
    | none => exact un.slot b o e (by rw [addC_out z]; exact n) hf hx
    | some o' => exact absurd hf (c b o' z).2.2.1
  · cases z : cs.lookup b with
    | none => rw [backC_out z]; exact un.free b o e (by rw [addC_out z]; exact n) hx
    | some o' => rw [backC_in z]; exact n
  · cases z : cs.lookup b with
    | none => rw [backC_out z]; exact un.tups b xs (by rw [addC_out z]; exact e)
    | some o' => rw [backC_in z]; exact e
  · cases z : cs.lookup b with
    | none => rw [backC_out z]; exact un.frzs b o x (by rw [addC_out z]; exact e)
    | some o' => rw [backC_in z]; exact e
  · cases z : cs.lookup b with
    | none => rw [backC_out z]; exact un.tbls b ps (by rw [addC_out z]; exact e)
    | some o' => rcases (c b o' z).2.2.2 with y | ⟨ys, y⟩ <;> rw [y] at e <;> cases e
  · have ho : ∀ b y, H' b = some (.own y) → backC H cs H' b = some (.own y) := fun b y hb => by
      cases z : cs.lookup b with
      | none => rw [backC_out z]; exact hb
      | some o => rw [fz b o z] at hb; cases hb
    have ht : ∀ b xs, H' b = some (.tup xs) → backC H cs H' b = some (.tup xs) := fun b xs hb => by
      cases z : cs.lookup b with
      | none => rw [backC_out z]; exact hb
      | some o => rw [fz b o z] at hb; cases hb
    cases z : cs.lookup a with
    | none =>
      rw [backC_out z] at e
      exact (hok a x e).stay (fun _ _ _ h => h) (fun b => ho b a) ht
    | some o =>
      rw [backC_in z] at e
      have k := hok a _ (fz a o z)
      rw [e] at k
      exact (show ObjOk P w H' s'.heap a x from k.2).stay (fun _ _ _ h => h) (fun b => ho b a) ht
end
/-! ### the body of such a lambda -/
abbrev lamE (q : Str) (scope : Scope) (L f c' : Addr) (clo : List (Str × Addr)) : Env := PySem.W.envX q scope L f (.ref c') clo
def lamC (P : Program) (w : World) (K : PySem.W.Frag) (mg : Str → Option Value) (base : Heap) (N : List Str) (A : Around) (outer : List Env) (s : Shared) (H : Hp) (q : Str) (scope : Scope) (f c' : Addr) (clo : List (Str × Addr)) : Cx where
  prog := P
  w := w
  K := K
  mg := mg
  base := base
  A := A.deeper (lamE q scope s.heap.objs.size f c' clo)
  N := N
  s_0 := s
  H_0 := H
  env := lamE q scope s.heap.objs.size f c' clo
  outer := outer
  stack := lamE q scope s.heap.objs.size f c' clo :: outer
  ex := []
  fn := fun _ => false
  calm := true
  pn := []
  xe := fun _ _ => False
structure LamSc (ps fv : List Str) (scope : Scope) : Prop where
  kind : scope.kind = .function
  co : scope.isCoroutine = false
  gen : scope.isGenerator = false
  cell : ∀ y ∈ scope.names, y.2 ≠ .cell
  par : ∀ x ∈ ps, scope.names.lookup x = some .local
  own : ∀ y ∈ scope.names, y.2 = .local → y.1 ∈ ps
  free : ∀ y ∈ scope.names, y.2 = .free → y.1 ∈ fv
def lamScB (ps fv : List Str) (scope : Scope) : Bool :=
  decide (scope.kind = .function) && !scope.isCoroutine && !scope.isGenerator && (ps.all fun x => decide (scope.names.lookup x = some .local)) && scope.names.all fun y => !decide (y.2 = .cell) && (!decide (y.2 = .local) || decide (y.1 ∈ ps)) && (!decide (y.2 = .free) || decide (y.1 ∈ fv))
theorem lamSc_by {ps fv : List Str} {scope : Scope} (h : lamScB ps fv scope = true) : LamSc ps fv scope := by
  unfold lamScB at h
  simp only [Bool.and_eq_true, Bool.or_eq_true, Bool.not_eq_true', decide_eq_true_eq, decide_eq_false_iff_not, List.all_eq_true] at h
  obtain ⟨⟨⟨⟨h1, h2⟩, h3⟩, h4⟩, h5⟩ := h
  exact ⟨h1, h2, h3, fun y hy => (h5 y hy).1.1, h4, fun y hy e => (h5 y hy).1.2.elim (fun n => absurd e n) id, fun y hy e => (h5 y hy).2.elim (fun n => absurd e n) id⟩
section
variable {P : Program} {w : World} {K : PySem.W.Frag} {mg : Str → Option Value} {base : Heap} {A : Around} {outer : List Env} {s : Shared} {H : Hp}
theorem lam_start {N ps fv : List Str} {q : Str} {scope : Scope} {f c' : Addr} {clo : List (Str × Addr)} {σ : L2.St} {binds : List (Str × Value)} {h₁ : Heap} {tk : Nat} (L : LamSc ps fv scope) (e0 : Env0 P w K mg base A outer s H) (hd : A.handled = none)
    (inj : ∀ x y c, clo.lookup x = some c → clo.lookup y = some c → x = y) (has : ∀ y, scope.names.lookup y = some .free → ∃ c, clo.lookup y = some c) (clf : ∀ y c, clo.lookup y = some c → H c = none ∧ ∃ v, s.heap.IsCell c v)
    (hloc : ∀ (i : Nat) y v, N[i]? = some y → σ[i]? = some (some v) → scope.names.lookup y = some .local → ∃ u, RelV v u ∧ binds.reverse.lookup y = some u)
    (hfr : ∀ (i : Nat) y v, N[i]? = some y → σ[i]? = some (some v) → scope.names.lookup y = some .free → ∃ u c, RelV v u ∧ clo.lookup y = some c ∧ s.heap.IsCell c (some u)) (hlen : σ.length = N.length)
    (hns : h₁.Ns s.heap.objs.size fun y => binds.reverse.lookup y) (kp : ∀ b o, s.heap.get? b = some o → h₁.get? b = some o) :
    Inv (lamC P w K mg base N A outer s H q scope f c' clo) [] σ H { s with heap := h₁, toks := tk } := by
  have noA : ∀ b : Addr, b ∉ (lamC P w K mg base N A outer s H q scope f c' clo).ex := fun b z => absurd (show b ∈ ([] : List Addr) from z) (by simp)
  have cellK : ∀ {c : Addr} {v : Option Value}, s.heap.IsCell c v → h₁.IsCell c v := fun ⟨o, ho, hdt⟩ => ⟨o, kp _ _ ho, hdt⟩
  refine ⟨⟨e0.mod, L.kind, rfl, rfl, Nat.le_refl _, fun y z c e1 e2 => inj y z c e1 e2, fun y hy => ?_, fun y c z _ => Bool.noConfusion (show false = true from z), fun _ => hd, Around.frames_deeper e0.frames, .inr ⟨rfl, rfl⟩, fun b z => absurd z (noA b), e0.bs, e0.bsz, fun b _ _ => noA b, fun b z => absurd z (noA b), e0.funs, e0.frf⟩,
    rfl, e0.bare, Un.kept kp, ⟨_, hns, fun i y v e1 e2 e3 => ?_⟩, fun y c e => ?_, e0.hok.fresh (Nat.le_refl _), fun y c e => (clf y c e).1, fun q hq => absurd (show q ∈ ([] : List (Addr × Obj)) ++ [] from hq) (by simp), e0.hok.kept kp, hlen⟩
  · have hy : scope.names.lookup y = some .cell ∨ scope.names.lookup y = some .free := hy
    rcases hy with hy | hy
    · exact absurd rfl (L.cell _ (PySem.mem_of_lookup hy))
    · exact has y hy
  · have e3 : Vis scope y := e3
    rcases e3 with k | k | k
    · obtain ⟨u, r, l⟩ := hloc i y v e1 e2 k
      exact ⟨u, r, .inl ⟨k, l⟩⟩
    · exact absurd rfl (L.cell _ (PySem.mem_of_lookup k))
    · obtain ⟨u, c, r, l, ic⟩ := hfr i y v e1 e2 k
      exact ⟨u, r, .inr ⟨.inr k, c, l, cellK ic⟩⟩
  · obtain ⟨_, v, ic⟩ := clf y c e
    exact ⟨v, cellK ic⟩
end
/-! ### its promise -/
def Fe (H0 H : Hp) : Prop := ∀ b u, H0 b = some u → ((∃ o t, u = .frz o t) ∨ (∃ φ, u = .ext φ)) → H b = some u
theorem Fe.refl {H : Hp} : Fe H H := fun _ _ h _ => h
theorem Fe.trans {H H1 H2 : Hp} (a : Fe H H1) (b : Fe H1 H2) : Fe H H2 := fun c u h f => b c u (a c u h f) f
theorem Fe.of {H H' : Hp} (e : Ex H H') : Fe H H' := fun b u h _ => e b u h
theorem Fe.upd {H : Hp} {p : Addr} {o o' : HO} (h : H p = some o) (f : ¬ ((∃ x t, o = .frz x t) ∨ (∃ φ, o = .ext φ))) : Fe H (L2.upd H p o') := fun b u hb hf => by
  rw [upd_ne]
  · exact hb
  · intro e
    rw [e, h] at hb
    cases hb
    exact f hf
/-- f is a lambda, frozen; called with two texts it tells g -/
structure CallP (P : Program) (w : World) (K : PySem.W.Frag) (mg : Str → Option Value) (base : Heap) (k : Nat) (f : Addr) (H0 : Hp) (g : Str → Str → Bool) : Prop where
  at_ : ∃ (oc : Value) (od : Option Addr) (fd : FuncData) (sl : Array (Option Value)) (t : HO), H0 f = some (.frz ⟨oc, od, .func fd, sl⟩ t)
  run : ∀ (A : Around) (outer : List Env) (s : Shared) (H : Hp) (us : List Value) (x y : Str), Room k A → Env0 P w K mg base A outer s H → Fe H0 H → Vals [.str x, .str y] us → ∀ Q : VK, Q (.bl (g x y)) H → codeAny (model P w) A (.call (.ref f) ⟨us, []⟩) (CR C8.CX0 outer P w H s Q C8.E0) s
theorem CallP.mono {P : Program} {w : World} {K : PySem.W.Frag} {mg : Str → Option Value} {base : Heap} {j k : Nat} {f : Addr} {H0 : Hp} {g : Str → Str → Bool} (c : CallP P w K mg base j f H0 g) (h : j ≤ k) : CallP P w K mg base k f H0 g :=
  ⟨c.at_, fun A outer s H us x y hr => c.run A outer s H us x y (hr.mono h)⟩
def tFc (P : Program) (w : World) (K : PySem.W.Frag) (mg : Str → Option Value) (base : Heap) (k i : Nat) (t : TA) : TE := fun σ H Q => ∃ (f : Addr) (H0 : Hp) (g : Str → Str → Bool), σ[i]? = some (some (.ref f)) ∧ CallP P w K mg base k f H0 g ∧ Fe H0 H ∧ t σ H fun vs H1 => Fe H0 H1 ∧ ∃ x y, vs = [.str x, .str y] ∧ Q (.bl (g x y)) H1
section
variable {X : Cx} {pins : List (Addr × Obj)} {σ : L2.St} {H : Hp} {s : Shared}
/-- n(a, b), n a name that bears the lambda -/
theorem pe_fc {P : Program} {w : World} {K : PySem.W.Frag} {mg : Str → Option Value} {base : Heap} {k j i : Nat} {n : Str} {a b : Expr} {t : TA} {p pos : Pos} (e1 : X.prog = P) (e2 : X.w = w) (e3 : X.K = K) (e4 : X.mg = mg) (e5 : X.base = base) (hr : Room j X.A) (ha : PA X [a, b] t) (hN : X.N[i]? = some n) (hv : Vis X.env.scope n) (hj : k ≤ j := by decide)
    (hd : (n == ("__debug__" : Str)) = false := by decide) (hcd : (n == ("__classdict__" : Str)) = false := by decide)
    (he : starEach [a, b] X.env = (false, eval a X.env) :: starEach [b] X.env := by rfl) (hpl : (backTo pos (starEach [b] X.env)).any (·.1) = false := by rfl) : PE X (.Call (.Name n p) [a, b] [] pos) (tFc P w K mg base k i t) := by
  subst e1 e2 e3 e4 e5
  refine ⟨fun pins s σ H Q I h => ?_⟩
  obtain ⟨f, H0, g, hs, c, fe, ht⟩ := h
  obtain ⟨oc, od, fd, sl, tt, hf⟩ := c.at_
  have fnAt : ∀ {pins σ H s}, Inv X pins σ H s → Fe H0 H → PySem.W.FnAt f s.heap := fun I1 fe1 => ⟨oc, od, fd, sl, (I1.hok f _ (fe1 f _ hf (.inl ⟨_, _, rfl⟩))).1⟩
  refine wpAny_Call_Name_kw (thn ((pe_var (pos := p) (i := i) hN hv hd hcd).run pins s σ H (fun v H1 => v = .ref f ∧ H1 = H) I ⟨.ref f, hs, rfl, rfl⟩) fun u s1 ⟨v, H1, I1, r1, q1⟩ => ?_)
  obtain ⟨ev, eH⟩ := q1
  subst ev
  rw [eH] at I1
  obtain rfl : u = Value.ref f := r1
  refine PySem.W.callWith_F (first := []) (fnAt I1 fe) (thn (ha.run pos pins s1 σ H _ I1 ht) fun us s2 ⟨vs, H2, I2, r, q2⟩ => ?_) he hpl
  obtain ⟨fe2, x, y, ev, q⟩ := q2
  subst ev
  refine ⟨fnAt I2 fe2, ?_⟩
  refine wpAny_call (codeAny_mono (c.run X.A X.stack s2 H2 us x y (hr.mono hj) I2.env0 fe2 r Q q) fun rr s' hq => ?_)
  cases rr with
  | error e => exact (show False from hq).elim
  | ok fl =>
    cases fl with
    | ret u => exact I2.after hq
    | next => exact False.elim hq
    | brk => exact False.elim hq
    | cont => exact False.elim hq
end
end Mx
set_option Elab.async false
set_option linter.all false
set_option maxRecDepth 100000
set_option maxHeartbeats 1000000
/-! Making such a lambda; handing it to a method. -/
namespace Mx
open PySem PySem.Spec PyProof.Rows L2 Evl TL LamX
abbrev lamO (q : Str) (params : Arguments) (body : Expr) (scope : Scope) (clo : List (Str × Addr)) (pm : Value) (c' : Addr) (ctv : Value) : Obj := PySem.W.kla_obj "<lambda>" q params body scope clo pm c' ctv
/-- f is that lambda -/
def LamAt (H : Hp) (f : Addr) (q : Str) (params : Arguments) (body : Expr) (scope : Scope) (clo : List (Str × Addr)) : Prop := ∃ (pm ctv : Value) (c' : Addr) (t : HO), H f = some (.frz (lamO q params body scope clo pm c' ctv) t) ∧ H c' = some (CodeO c' q)
theorem LamAt.ex {H H' : Hp} {f : Addr} {q : Str} {params : Arguments} {body : Expr} {scope : Scope} {clo : List (Str × Addr)} (h : LamAt H f q params body scope clo) (e : Ex H H') : LamAt H' f q params body scope clo := by
  obtain ⟨pm, ctv, c', t, h1, h2⟩ := h
  exact ⟨pm, ctv, c', t, e _ _ h1, e _ _ h2⟩
def tLamV (T : List (Addr × Str)) (q : Str) (params : Arguments) (body : Expr) (scope : Scope) (clo : List (Str × Addr)) : TE := fun σ H Q => Tabs T H ∧ ∀ (f : Addr) (H1 : Hp), ExtN H H1 → Tabs T H1 → LamAt H1 f q params body scope clo → Q (.ref f) H1
section
variable {X : Cx}
theorem pe_lamV {T : List (Addr × Str)} {c P : Addr} {params : Arguments} {body : Expr} {scope : Scope} {pos : Pos} (TB : TabB X.base X.mg c P) (hcode : X.env.code = .ref c) (hm : (P, X.env.qual ++ "<lambda>") ∈ T) (hu : ∀ p ∈ T, p.1 = P → p.2 = X.env.qual ++ "<lambda>") (hdef : defaultsOf params X.env = ([], []))
    (hsc : ∀ y ∈ scope.names, y.2 = .free → X.env.scope.names.lookup y.1 = some .cell ∨ X.env.scope.names.lookup y.1 = some .free) :
    PE X (.Lambda params body scope pos) (tLamV T (X.env.qual ++ "<lambda>") params body scope (cloFrom X.env.cells scope.names [])) := by
  refine ⟨fun pins s σ H Q I h => ?_⟩
  obtain ⟨hT, hq⟩ := h
  have hfree : ∀ y ∈ scope.names, y.2 = .free → ∃ c, X.env.cells.lookup y.1 = some c := fun y hy e => I.ok.has _ (hsc y hy e)
  obtain ⟨ps, hP, ht, ha⟩ := hT _ hm
  have bP : s.heap.BuiltinsAt X.mg P := TB.bm.keeps I.bk
  have hP' : s.heap.get? P = some { cls := .none, data := .fields ps } := I.hok P _ hP
  refine PySem.W.kla_eval hdef ?_
  -- the lambda laid behind what the making left
  have lay : ∀ {H1 : Hp} {h' : Heap} {tk : Tok} {c' : Addr} {pm ctv : Value}, Inv X pins σ H1 { s with heap := h', toks := tk } → ExtN H H1 → Tabs T H1 → H1 c' = some (CodeO c' (X.env.qual ++ "<lambda>")) →
      EP X pins σ Q (.ref h'.objs.size) { s with heap := h'.push (lamO (X.env.qual ++ "<lambda>") params body scope (cloFrom X.env.cells scope.names []) pm c' ctv), toks := tk } := fun {H1 h' tk c' pm ctv} I1 eN T1 hco => by
    have nf : H1 h'.objs.size = none := I1.hok.fresh (Nat.le_refl _)
    have E1 : Ex H1 (upd H1 h'.objs.size (.frz (lamO (X.env.qual ++ "<lambda>") params body scope (cloFrom X.env.cells scope.names []) pm c' ctv) Tr)) := Ex.new nf
    have I2 := I1.laid (t' := tk) (a := h'.objs.size) (o := .frz (lamO (X.env.qual ++ "<lambda>") params body scope (cloFrom X.env.cells scope.names []) pm c' ctv) Tr) (h' := h'.push (lamO (X.env.qual ++ "<lambda>") params body scope (cloFrom X.env.cells scope.names []) pm c' ctv))
      (fun b u e => Heap.get?_push_of_some _ e) (Nat.le_refl _) (tr_ok (Heap.get?_push_size _ rfl))
    exact ⟨.ref h'.objs.size, _, I2, rfl, hq _ _ (eN.trans (ExtN.of E1)) (T1.ext E1) ⟨pm, ctv, c', Tr, upd_same, E1 _ _ hco⟩⟩
  cases hc : codeAmong pos ps.toList with
  | some cv =>
    obtain ⟨c', e, hco⟩ := ha pos cv hc
    subst e
    exact PySem.W.kla_makeFunctionHit (mg := X.mg) (c := c) (P := P) (ps := ps) (closure_ok hfree) I.ok.glob (I.mod.glob.keeps I.bk) hcode (TB.code.keeps I.bk) hP' ht hc bP fun ctv h' tk hx _ => lay (I.kept hx) (ExtN.refl H) hT hco
  | none =>
    refine PySem.W.kla_makeFunction (mg := X.mg) (c := c) (P := P) (ps := ps) (closure_ok hfree) I.ok.glob (I.mod.glob.keeps I.bk) hcode (TB.code.keeps I.bk) hP' ht hc TB.gP bP fun c' ctv h' tk hx hge hlt hrec htb => ?_
    obtain ⟨c2, oc, vs, t, e2, hoc, hd, hv⟩ := hrec
    cases e2
    have nC : H c' = none := I.hok.fresh hge
    have eL : (ps ++ #[rawInt pos.line, rawInt pos.col, Value.ref c']).toList = ps.toList ++ [rawInt pos.line, rawInt pos.col, Value.ref c'] := by simp
    have I1 := inv_table (t' := tk) (more := #[rawInt pos.line, rawInt pos.col, .ref c']) (h' := h') I hP (fun b o hb e => hx b o hb e) htb hge ⟨oc, vs, t, hoc, hd, hv⟩
    have eN : ExtN H (upd (upd H P (.tbl (ps ++ #[rawInt pos.line, rawInt pos.col, .ref c']))) c' (CodeO c' (X.env.qual ++ "<lambda>"))) := fun b o e n => by
      rw [upd_ne (ne_of_none e nC), upd_ne (fun z => n ps (by rw [z, hP] at e; exact (Option.some.inj e).symm))]
      exact e
    refine lay I1 eN (fun p hp => ?_) upd_same
    by_cases hb : p.1 = P
    · rw [hu p hp hb, hb]
      refine ⟨_, by rw [upd_ne (ne_of_none hP nC), upd_same], by rw [eL]; exact PySem.TriplesOk_snoc _ _ _ _ ht, fun p' cv hcv => ?_⟩
      rw [eL] at hcv
      rcases among_app _ ht hcv with z | z
      · obtain ⟨c0, e1, e2⟩ := ha p' cv z
        exact ⟨c0, e1, eN _ _ e2 codeO_ne⟩
      · exact ⟨c', z, upd_same⟩
    · obtain ⟨qs, a1, a2, a3⟩ := hT p hp
      refine ⟨qs, by rw [upd_ne (ne_of_none a1 nC), upd_ne hb]; exact a1, a2, fun p' cv hcv => ?_⟩
      obtain ⟨c0, e1, e2⟩ := a3 p' cv hcv
      exact ⟨c0, e1, eN _ _ e2 codeO_ne⟩
end
/-! ### the promise, by the body -/
section
variable {P : Program} {w : World} {K : PySem.W.Frag} {mg : Str → Option Value} {base : Heap}
theorem callP_of {k : Nat} {H0 : Hp} {f : Addr} {q : Str} {params : Arguments} {body : Expr} {scope : Scope} {clo : List (Str × Addr)} {ps fv N : List Str} {σ : Str → Str → L2.St} {tb : TE} {g : Str → Str → Bool} (L : LamSc ps fv scope) (hf : LamAt H0 f q params body scope clo)
    (inj : ∀ x y c, clo.lookup x = some c → clo.lookup y = some c → x = y) (has : ∀ y, scope.names.lookup y = some .free → ∃ c, clo.lookup y = some c)
    (cells : ∀ y c, (y, c) ∈ clo → ∃ co v, H0 c = some (.frz co Tr) ∧ co.data = .cell v ∧ ∀ (a b : Str) (i : Nat) x, N[i]? = some y → (σ a b)[i]? = some (some x) → ∃ u, RelV x u ∧ v = some u)
    (hbind : ∀ (us : List Value) (pm cv ctv : Value), us.length = 2 → bindArgs (PySem.W.kla_fn "<lambda>" q params body scope clo pm cv ctv) ⟨us, []⟩ = pure (ps.zip us)) (ndp : ps.Nodup)
    (hloc : ∀ (a b : Str) (us : List Value), Vals [.str a, .str b] us → ∀ (i : Nat) y v, N[i]? = some y → (σ a b)[i]? = some (some v) → scope.names.lookup y = some .local → ∃ u, RelV v u ∧ (ps.zip us).reverse.lookup y = some u) (hlen : ∀ a b, (σ a b).length = N.length)
    (hbody : ∀ (A : Around) (outer : List Env) (s : Shared) (H : Hp) (f c' : Addr), Room k (A.deeper (lamE q scope s.heap.objs.size f c' clo)) → PE (lamC P w K mg base N A outer s H q scope f c' clo) body tb)
    (ht : ∀ (a b : Str) (H : Hp), (∀ b u, H0 b = some u → (∃ o t, u = .frz o t) → b ∉ clo.map (·.2) → H b = some u) → tb (σ a b) H (fun v H' => v = .bl (g a b) ∧ H' = H)) : CallP P w K mg base (k + 1) f H0 g := by
  obtain ⟨pm, ctv, c', t0, h1, h2⟩ := hf
  refine ⟨⟨_, _, _, _, t0, h1⟩, fun A outer s H us x y hr e0 fe rv Q hq => ?_⟩
  have of1 := (e0.hok f _ (fe f _ h1 (.inl ⟨_, _, rfl⟩))).1
  obtain ⟨⟨oc, vs, t, hoc, hdc, hvc⟩, _, _⟩ := e0.hok c' _ (fe c' _ h2 (.inr ⟨_, rfl⟩))
  have hul : us.length = 2 := rv.length.symm
  -- the heap without the cells
  have cf : ∀ y c, (y, c) ∈ clo → ∃ co v, H c = some (.frz co Tr) ∧ s.heap.get? c = some co ∧ co.data = .cell v ∧ ∀ (a b : Str) (i : Nat) x, N[i]? = some y → (σ a b)[i]? = some (some x) → ∃ u, RelV x u ∧ v = some u := fun y c e => by
    obtain ⟨co, v, e1, e2, e3⟩ := cells y c e
    have e4 := fe c _ e1 (.inl ⟨_, _, rfl⟩)
    exact ⟨co, v, e4, (e0.hok c _ e4).1, e2, e3⟩
  have inC : ∀ c ∈ clo.map (·.2), ∃ co v, H c = some (.frz co Tr) ∧ s.heap.get? c = some co ∧ co.data = .cell v ∧ c ∉ frs outer := fun c hc => by
    obtain ⟨⟨y, c2⟩, hm, rfl⟩ := List.mem_map.mp hc
    obtain ⟨co, v, e1, e2, e4, _⟩ := cf y c2 hm
    exact ⟨co, v, e1, e2, e4, fun hb => by have := e0.frf _ hb; rw [e1] at this; cases this⟩
  let HL : Hp := fun b => if b ∈ clo.map (·.2) then none else H b
  have hLout : ∀ b, b ∉ clo.map (·.2) → HL b = H b := fun b hb => if_neg hb
  have hLin : ∀ b, b ∈ clo.map (·.2) → HL b = none := fun b hb => if_pos hb
  have noneL : ∀ b, H b = none → HL b = none := fun b e => by
    by_cases z : b ∈ clo.map (·.2)
    · exact hLin b z
    · rw [hLout b z]; exact e
  have hokL : HOk P w HL s.heap := fun a u e => by
    by_cases z : a ∈ clo.map (·.2)
    · rw [hLin a z] at e; cases e
    · rw [hLout a z] at e
      refine (e0.hok a u e).stay (fun _ _ _ h => h) (fun b hb => ?_) fun b xs hb => ?_
      · rw [hLout b (fun y => by obtain ⟨_, _, e1, _⟩ := inC b y; rw [e1] at hb; cases hb)]; exact hb
      · rw [hLout b (fun y => by obtain ⟨_, _, e1, _⟩ := inC b y; rw [e1] at hb; cases hb)]; exact hb
  have eL : Env0 P w K mg base A outer s HL := ⟨e0.frames, e0.mod, fun b o e => ⟨(e0.bs b o e).1, noneL b (e0.bs b o e).2⟩, e0.bsz, e0.funs, fun b hb => noneL b (e0.frf b hb), hokL, e0.bare⟩
  have lim : s.heap.NoLimit := e0.mod.nolimit.keeps fun b o e => (e0.bs b o e).1
  refine PySem.W.kla_callFunE hr.depth of1 rfl L.co L.gen rfl ⟨c', oc, vs, t, rfl, hoc, hdc, hvc⟩ ?_
  rw [hbind us pm (.ref c') ctv hul]
  refine wpAny_pure (wpAny_newFunctionEnv (fun y hy => L.cell y hy) (fun b hb => L.par b.1 (List.of_mem_zip (show (b.1, b.2) ∈ ps.zip us from hb)).1) (fun h₁ hns hsb => ⟨lim.fresh _ hsb, ?_⟩) L.kind)
  show codeAny _ _ (.expr body (lamE q scope s.heap.objs.size f c' clo)) _ _
  have kp : ∀ b o, s.heap.get? b = some o → h₁.get? b = some o := fun b o e => hsb.extBut b o (Nat.ne_of_lt (Heap.lt_size e)) (Heap.get?_push_of_some _ e)
  have J : Inv (lamC P w K mg base N A outer s HL q scope f c' clo) [] (σ x y) HL { s with heap := h₁, toks := s.toks + (ps.zip us).length } :=
    lam_start L eL hr.hd inj has (fun y' c e => ⟨hLin c (List.mem_map.mpr ⟨(y', c), PySem.mem_of_lookup e, rfl⟩), by obtain ⟨co, v, _, e2, e3, _⟩ := cf y' c (PySem.mem_of_lookup e); exact ⟨v, co, e2, e3⟩⟩) (fun i y' v e1 e2 e3 => hloc x y us rv i y' v e1 e2 e3)
      (fun i y' v e1 e2 e3 => by
        obtain ⟨c, hc⟩ := has y' e3
        obtain ⟨co, v', _, g2, g3, g4⟩ := cf y' c (PySem.mem_of_lookup hc)
        obtain ⟨u, r, ev⟩ := g4 x y i v e1 e2
        exact ⟨u, c, r, hc, co, g2, by rw [g3, ev]⟩) (hlen x y) hns kp
  refine PySem.W.kla_codeExpr (wpAny_mono ((hbody A outer s HL f c' (hr.deeper _)).run [] _ _ HL (fun v H' => v = .bl (g x y) ∧ H' = HL) J (ht x y HL fun b u hb fz hn => by rw [hLout b hn]; exact fe b u hb (.inl fz))) (fun u s' hq' => ?_) fun _ _ z => False.elim z)
  obtain ⟨v', H', J', rv', ev, eH⟩ := hq'
  subst ev eH
  refine ⟨.bl (g x y), H, J'.os, J'.bare, ?_, fun a o e => ?_, rv', hq⟩
  · have un : Un (frs outer) [] HL HL s.heap s'.heap := J'.base
    refine ⟨fun b o e n hf hx => un.keep b o e (noneL b n) hf hx, fun b o e n hf hx => un.slot b o e (noneL b n) hf hx, fun b o e n hx => n, un.there, fun b xs e => e, fun b o u e => e, fun b ps e => ⟨#[], by simpa using e⟩⟩
  · by_cases z : a ∈ clo.map (·.2)
    · obtain ⟨co, v, e1, e2, e3, e4⟩ := inC a z
      rw [e1] at e
      cases e
      exact tr_ok ((show Un (frs outer) [] HL HL s.heap s'.heap from J'.base).keep a co e2 (hLin a z) e4 (by simp))
    · refine (J'.hok a o (by rw [hLout a z]; exact e)).stay (fun _ _ _ h => h) (fun b hb => ?_) fun b xs hb => ?_
      · by_cases y : b ∈ clo.map (·.2)
        · rw [hLin b y] at hb; cases hb
        · rw [hLout b y] at hb; exact hb
      · by_cases y : b ∈ clo.map (·.2)
        · rw [hLin b y] at hb; cases hb
        · rw [hLout b y] at hb; exact hb
end
end Mx
set_option Elab.async false
set_option linter.all false
set_option maxRecDepth 100000
set_option maxHeartbeats 1000000
/-! A method called while what a lambda captures stands frozen. -/
namespace Mx
open PySem PySem.Spec PyProof.Rows L2 Evl TL LamX
structure Frz (N fv : List Str) (cells : List (Str × Addr)) (σ : L2.St) (H : Hp) (lst : List Addr) (cs : List (Addr × Obj)) : Prop where
  dom : ∀ b o, cs.lookup b = some o → H b = none ∨ b ∈ lst
  lst : ∀ p ∈ lst, ∃ o, cs.lookup p = some o
  cell : ∀ y ∈ fv, ∃ c co v, cells.lookup y = some c ∧ cs.lookup c = some co ∧ co.data = .cell v ∧ H c = none ∧ ∀ (j : Nat) x, N[j]? = some y → σ[j]? = some (some x) → ∃ u, RelV x u ∧ v = some u
def tMethF (N fv : List Str) (cells : List (Str × Addr)) (C : Addr) (m : Str) (sp : Sp) (ta : TE) (t : TA) : TE := fun σ H Q => ta σ H fun x H1 => ∃ a dx fs, x = .ref a ∧ H1 a = some (.ins C dx fs) ∧ fs.lookup m = none ∧
  t σ H1 fun vs H2 => ∃ lst : List Addr, (∀ p ∈ lst, ∃ xs, H2 p = some (.lst xs)) ∧ ∀ cs, Frz N fv cells σ H2 lst cs → sp (x :: vs) (addC H2 cs) (fun v H' => Q v (backC H2 cs H')) C8.E0
theorem lookup_dom (g : Addr → Obj) (b : Addr) : ∀ l : List Addr, (l.map fun x => (x, g x)).lookup b = if b ∈ l then some (g b) else none
  | [] => rfl
  | x :: r => by
    rw [List.map_cons, List.lookup_cons]
    cases e : b == x with
    | true =>
      have e' : b = x := by simpa using e
      rw [if_pos (by rw [e']; exact List.mem_cons_self ..), e']
    | false =>
      have e' : b ≠ x := by simpa using e
      show (r.map fun x => (x, g x)).lookup b = _
      rw [lookup_dom g b r]
      by_cases z : b ∈ r
      · rw [if_pos z, if_pos (List.mem_cons_of_mem _ z)]
      · rw [if_neg z, if_neg (fun y => by
          rcases List.mem_cons.mp y with y | y
          · exact e' y
          · exact z y)]
def objAt (h : Heap) (b : Addr) : Obj := (h.get? b).getD { cls := .none, data := .plain }
theorem objAt_of {h : Heap} {b : Addr} {o : Obj} (e : h.get? b = some o) : objAt h b = o := by
  unfold objAt
  rw [e]
  rfl
section
variable {X : Cx} {pins : List (Addr × Obj)} {σ : L2.St} {H : Hp} {s : Shared}
theorem frz_ok {fv : List Str} {lst : List Addr} (I : Inv X pins σ H s) (hst : X.stack = X.env :: X.outer) (hfn : ∀ y, X.fn y = true) (hfv : ∀ y ∈ fv, X.env.scope.names.lookup y = some .cell) (hl : ∀ p ∈ lst, ∃ xs, H p = some (.lst xs)) :
    ∃ cs, CsOk X.base (frs X.stack) H s.heap cs ∧ Frz X.N fv X.env.cells σ H lst cs := by
  have hc : ∀ y ∈ fv, ∃ c, X.env.cells.lookup y = some c := fun y hy => I.ok.has _ (.inl (hfv y hy))
  have cellF : ∀ y c, X.env.cells.lookup y = some c → ∃ co v, s.heap.get? c = some co ∧ co.data = .cell v ∧ X.base.get? c = none ∧ c ∉ frs X.stack ∧ H c = none := fun y c e => by
    obtain ⟨v, co, e1, e2⟩ := I.cell y c e
    have ab := I.ok.cab y c (hfn y) e
    refine ⟨co, v, e1, e2, ?_, fun z => ?_, I.freeC y c e⟩
    · cases q : X.base.get? c with
      | none => rfl
      | some o => exact absurd (Nat.lt_of_lt_of_le (Heap.lt_size q) (Nat.le_trans I.ok.bsz ab)) (Nat.lt_irrefl _)
    · rcases List.mem_cons.mp (I.stkSub c z) with y' | y'
      · obtain ⟨m, hn, _⟩ := I.loc
        obtain ⟨o, es, ep, e3, e4, _⟩ := hn
        rw [← y', e1] at e3
        cases e3
        rw [e2] at e4
        cases e4
      · obtain ⟨_, o, e3, _⟩ := I.ok.funs.mem y'
        exact absurd (Nat.lt_of_lt_of_le (Heap.lt_size e3) ab) (Nat.lt_irrefl _)
  let dom : List Addr := fv.map (fun y => (X.env.cells.lookup y).getD 0) ++ lst
  have dm : ∀ b, b ∈ dom → (∃ y ∈ fv, X.env.cells.lookup y = some b) ∨ b ∈ lst := fun b hb => by
    rcases List.mem_append.mp hb with z | z
    · obtain ⟨y, hy, e⟩ := List.mem_map.mp z
      obtain ⟨c, h1⟩ := hc y hy
      rw [h1] at e
      exact .inl ⟨y, hy, by rw [h1]; exact congrArg some e⟩
    · exact .inr z
  have look : ∀ b o, (dom.map fun x => (x, objAt s.heap x)).lookup b = some o → b ∈ dom ∧ o = objAt s.heap b := fun b o e => by
    rw [lookup_dom] at e
    by_cases z : b ∈ dom
    · rw [if_pos z] at e
      exact ⟨z, (Option.some.inj e).symm⟩
    · rw [if_neg z] at e
      cases e
  have lin : ∀ b, b ∈ dom → (dom.map fun x => (x, objAt s.heap x)).lookup b = some (objAt s.heap b) := fun b z => by rw [lookup_dom, if_pos z]
  refine ⟨dom.map fun x => (x, objAt s.heap x), fun b o e => ?_, fun b o e => ?_, fun p hp => ⟨_, lin p (List.mem_append_right _ hp)⟩, fun y hy => ?_⟩
  · obtain ⟨z, rfl⟩ := look b o e
    rcases dm b z with ⟨y, _, h1⟩ | h1
    · obtain ⟨co, v, e1, e2, e3, e4, e5⟩ := cellF y b h1
      exact ⟨by rw [objAt_of e1]; exact e1, e3, e4, .inl e5⟩
    · obtain ⟨xs, h2⟩ := hl b h1
      obtain ⟨_, its, n, _, e1⟩ := (show ObjOk X.prog X.w H s.heap b (.lst xs) from I.hok b _ h2)
      refine ⟨by rw [objAt_of e1]; exact e1, ?_, fun z => ?_, .inr ⟨xs, h2⟩⟩
      · cases q : X.base.get? b with
        | none => rfl
        | some o => have := (I.bs b o q).2; rw [h2] at this; cases this
      · have := I.stkFree b z
        rw [h2] at this
        cases this
  · obtain ⟨z, rfl⟩ := look b o e
    rcases dm b z with ⟨y, _, h1⟩ | h1
    · exact .inl (I.freeC y b h1)
    · exact .inr h1
  · obtain ⟨c, h1⟩ := hc y hy
    obtain ⟨co, v, e1, e2, e3, e4, e5⟩ := cellF y c h1
    refine ⟨c, co, v, h1, by rw [lin c (List.mem_append_left _ (List.mem_map.mpr ⟨y, hy, by rw [h1]; rfl⟩)), objAt_of e1], e2, e5, fun j x hj hx => ?_⟩
    obtain ⟨m, _, hl⟩ := I.loc
    obtain ⟨u, r, q⟩ := hl j y x hj hx (.inr (.inl (hfv y hy)))
    refine ⟨u, r, ?_⟩
    rcases q with ⟨k, _⟩ | ⟨_, c3, e6, o3, e7, e8⟩
    · have k : X.env.scope.names.lookup y = some .local := k
      rw [hfv y hy] at k
      cases k
    · rw [h1] at e6
      cases e6
      rw [e1] at e7
      cases e7
      rw [e2] at e8
      cases e8
      rfl
theorem pe_methF {C : Addr} {m : Str} {o e : Expr} {es : List Expr} {ta : TE} {t : TA} {apos pos : Pos} {k j : Nat} {ps : List Str} {sp : Sp} {pl : Sem Bool} (fv : List Str) (he : PE X o ta) (c : Cls X.K C) (F : HasM X.prog X.w X.K X.mg X.base C8.CX0 k C m ps sp) (hr : Room j X.A) (hst' : X.stack = X.env :: X.outer) (hfn : ∀ y, X.fn y = true) (hfv : ∀ y ∈ fv, X.env.scope.names.lookup y = some .cell) (ha : PA X (e :: es) t) (hj : k ≤ j := by decide)
    (hst : starEach (e :: es) X.env = (false, eval e X.env) :: starEach es X.env := by rfl) (hpl : (backTo pos (starEach es X.env)).any (·.1) = false := by rfl)
    (ht : eval (.Call (.Attribute o m apos) (e :: es) [] pos) X.env = (do
      let ov ← eval o X.env
      standAt apos.atName
      let (f, first) ← holding [ov] (getMethod ov m pl)
      callWith pos f first (backTo pos (starEach (e :: es) X.env)) (backToKw pos (keywordEach [] X.env))) := by rfl) :
    PE X (.Call (.Attribute o m apos) (e :: es) [] pos) (tMethF X.N fv X.env.cells C m sp ta t) := by
  obtain ⟨f, fd, hm, hb, G⟩ := F
  refine ⟨fun pins s σ H Q I h => ?_⟩
  refine PySem.W.methodCall_KW (pl := pl) (thn (he.run pins s σ H _ I h) fun u s1 ⟨x, H1, I1, rx, a, dx, fs, ex, ea, l, q⟩ => ?_) ht
  subst ex
  obtain rfl : u = Value.ref a := rx
  refine getmeth_ok I1 ea c hm l ?_
  refine PySem.W.callWith_K (first := [.ref a]) (h₀ := X.base) I.ok.mod.kin hm.kp (thn (ha.run pos pins s1 σ H1 _ I1 q) fun us s2 ⟨vs, H2, I2, r, lst, hl, q2⟩ => ⟨I2.kIn, ?_⟩) hst hpl
  obtain ⟨cs, ok, fz⟩ := frz_ok I2 hst' hfn hfv hl
  have hsp := q2 cs fz
  have r2 : Vals (V.ref a :: vs) (Value.ref a :: us) := .cons rfl r
  have hlen : (Value.ref a :: us ++ []).length = ps.length := by rw [List.append_nil, ← r2.length]; exact G.len _ _ _ _ hsp
  have b2 := hb s2 (Value.ref a :: us) I2.kIn hlen
  rw [List.append_nil] at b2
  refine wpAny_call (codeAny_mono (G.run X.A X.stack s2 (addC H2 cs) ⟨Value.ref a :: us, []⟩ (Value.ref a :: us) (V.ref a :: vs) _ C8.E0 (hr.mono hj) (env0_add I2.env0 ok) b2 r2 hsp) fun rr s' hq => ?_)
  cases rr with
  | error er => exact (show False from hq).elim
  | ok fl =>
    cases fl with
    | ret u => exact I2.after (ce_back ok hq)
    | next => exact False.elim hq
    | brk => exact False.elim hq
    | cont => exact False.elim hq
end
end Mx
set_option Elab.async false
set_option linter.all false
set_option maxRecDepth 100000
set_option maxHeartbeats 4000000
/-! The law's tape: a dict that every draw changes; its promise says of a draw only where it lies. -/
namespace Mx
open PySem PySem.Spec PyProof.Rows L2
def top (i : Nat) : Stmt := PySem.Challenge.pw_sameinsameout_k15_whole_waves_of_machine.main.body.getD i (.Pass ⟨0, 0, 0, 0⟩)
abbrev sTape : Stmt := top 31
abbrev sTake : Stmt := top 32

def kvT (c : Addr) (a l sd st : Int) : List (Key × V) := [(.inr "cells", .ref c), (.inr "at", .int a), (.inr "left", .int l), (.inr "seed", .int sd), (.inr "salt", .int st)]
theorem vS {k : Str} {v : V} {r : List (Key × V)} : valV ((Sum.inr k, v) :: r) (Sum.inr k) = some v := valV_pos rfl
theorem vN {k j : Str} {v : V} {r : List (Key × V)} (h : ¬ k = j) : valV ((Sum.inr k, v) :: r) (Sum.inr j) = valV r (Sum.inr j) := valV_neg fun e => h (Sum.inr.inj e)
theorem pS {k : Str} {v x : V} {r : List (Key × V)} (h : ∀ q ∈ r, ¬ q.1 = Sum.inr k) : putK ((Sum.inr k, v) :: r) (Sum.inr k) x = (Sum.inr k, x) :: r := by
  have e1 : (((Sum.inr k : Key), v) :: r).any (fun kv => decide (kv.1 = Sum.inr k)) = true := by rw [List.any_cons]; simp
  have e2 : r.map (fun kv => if kv.1 = Sum.inr k then (kv.1, x) else kv) = r := by
    refine (List.map_congr_left fun q hq => ?_).trans (List.map_id r)
    rw [if_neg (h q hq)]
    rfl
  unfold putK
  rw [if_pos e1, List.map_cons, if_pos rfl, e2]
theorem pN {k j : Str} {v x : V} {r : List (Key × V)} (h : ¬ k = j) (hr : (valV r (Sum.inr j)).isSome = true) : putK ((Sum.inr k, v) :: r) (Sum.inr j) x = (Sum.inr k, v) :: putK r (Sum.inr j) x := by
  have hk : ¬ (Sum.inr k : Key) = Sum.inr j := fun e => h (Sum.inr.inj e)
  have e0 : r.any (fun kv => decide (kv.1 = Sum.inr j)) = true := by rw [valV_any]; exact hr
  have e1 : (((Sum.inr k : Key), v) :: r).any (fun kv => decide (kv.1 = Sum.inr j)) = true := by rw [List.any_cons, e0, Bool.or_true]
  unfold putK
  rw [if_pos e1, if_pos e0, List.map_cons, if_neg hk]
section
variable {c : Addr} {a l sd st x : Int}
theorem kvT_cells : valV (kvT c a l sd st) (.inr "cells") = some (.ref c) := vS
theorem kvT_at : valV (kvT c a l sd st) (.inr "at") = some (.int a) := (vN (by decide +kernel)).trans vS
theorem kvT_left : valV (kvT c a l sd st) (.inr "left") = some (.int l) := (vN (by decide +kernel)).trans ((vN (by decide +kernel)).trans vS)
theorem kvT_seed : valV (kvT c a l sd st) (.inr "seed") = some (.int sd) := (vN (by decide +kernel)).trans ((vN (by decide +kernel)).trans ((vN (by decide +kernel)).trans vS))
theorem kvT_salt : valV (kvT c a l sd st) (.inr "salt") = some (.int st) := (vN (by decide +kernel)).trans ((vN (by decide +kernel)).trans ((vN (by decide +kernel)).trans ((vN (by decide +kernel)).trans vS)))
theorem putT_at : putK (kvT c a l sd st) (.inr "at") (.int x) = kvT c x l sd st := by
  unfold kvT
  rw [pN (by decide +kernel) (by rw [vS]; rfl), pS]
  intro q hq
  simp only [List.mem_cons, List.mem_nil_iff, or_false] at hq
  rcases hq with rfl | rfl | rfl <;> (intro e; exact absurd (Sum.inr.inj e) (by decide +kernel))
theorem putT_left : putK (kvT c a l sd st) (.inr "left") (.int x) = kvT c a x sd st := by
  unfold kvT
  rw [pN (by decide +kernel) (by rw [vN (by decide +kernel), vS]; rfl), pN (by decide +kernel) (by rw [vS]; rfl), pS]
  intro q hq
  simp only [List.mem_cons, List.mem_nil_iff, or_false] at hq
  rcases hq with rfl | rfl <;> (intro e; exact absurd (Sum.inr.inj e) (by decide +kernel))
theorem putT_salt : putK (kvT c a l sd st) (.inr "salt") (.int x) = kvT c a l sd x := by
  unfold kvT
  rw [pN (by decide +kernel) (by rw [vN (by decide +kernel), vN (by decide +kernel), vN (by decide +kernel), vS]; rfl), pN (by decide +kernel) (by rw [vN (by decide +kernel), vN (by decide +kernel), vS]; rfl), pN (by decide +kernel) (by rw [vN (by decide +kernel), vS]; rfl), pN (by decide +kernel) (by rw [vS]; rfl), pS]
  intro q hq
  exact absurd hq (by simp)
end
/-- the tape's numbers -/
structure TapeOk (n : Nat) (a l sd : Int) : Prop where
  a0 : 0 ≤ a
  a1 : a ≤ n
  l0 : 0 ≤ l
  s0 : 0 ≤ sd
  s1 : sd < 2147483647
/-- take(tape, many), the dict told as it is -/
def spTake0 : Sp := fun vs H Q _ => ∃ (p c : Addr) (cs : List Int) (a l sd st m : Int), vs = [.ref p, .int m] ∧ H p = some (.dK (kvT c a l sd st)) ∧ H c = some (.lst (cs.map V.int)) ∧ (∀ z ∈ cs, 0 ≤ z) ∧ TapeOk cs.length a l sd ∧
  0 < m ∧ m < 1000000 ∧ ∀ d a' l' st' : Int, 0 ≤ d → d < m → TapeOk cs.length a' l' sd → Q (.int d) (upd H p (.dK (kvT c a' l' sd st')))
section
variable {P : Program} {w : World} {K : PySem.W.Frag} {mg : Str → Option Value} {base : Heap}
structure BtTake (mg : Str → Option Value) : Prop where
  int : mg "int" = none
  len : mg "len" = none
theorem scTake : FnScope ["tape", "many", "drawn", "mixed"] ["tape", "many"] (defScope sTake) := ⟨rfl, rfl, rfl, by decide +kernel, rfl, by decide +kernel, by decide +kernel⟩
theorem ok_take0 {f : Addr} {fd : FuncData} (F : Fun K "_law_take" "_law_take" sTake f fd) (B : BtTake mg) : FnOk P w K mg base CX0 1 f fd ["tape", "many"] spTake0 := by
  refine F.ok scTake (fun vs H Q E h => ?_) (fun cdv A outer s H vs Q E hr h => ?_)
  · obtain ⟨p, c, cs, a, l, sd, st, m, rfl, _⟩ := h
    rfl
  · obtain ⟨p, c, cs, a, l, sd, st, m, rfl, hp, hc, hnn, T, m0, m1, k⟩ := h
    have hu := hu_of hr
    have dg : ∀ {H' : Hp} {a l st : Int} {j : Str} {v : V}, H' = upd H p (.dK (kvT c a l sd st)) → valV (kvT c a l sd st) (.inr j) = some v → DGet H' p (.str j) (some v) := fun {H' a l st j v} e e2 => by
      have z := DGet.k (H := H') (a := p) (k := Sum.inr j) (kvs := kvT c a l sd st) (by rw [e, upd_same])
      rw [e2] at z
      exact z
    have dp : ∀ {H' : Hp} {a l st a' l' st' : Int} {j : Str} {v : V}, H' = upd H p (.dK (kvT c a l sd st)) → putK (kvT c a l sd st) (.inr j) v = kvT c a' l' sd st' → DPut H' p (.str j) v (upd H p (.dK (kvT c a' l' sd st'))) := fun {H' a l st a' l' st' j v} e e2 => by
      have z := DPut.k (H := H') (a := p) (k := Sum.inr j) (v := v) (kvs := kvT c a l sd st) (by rw [e, upd_same]) (by show 5 < sizeLine; decide)
      rw [e2, e, upd_upd] at z
      rw [e]
      exact z
    have h0 : H = upd H p (.dK (kvT c a l sd st)) := by
      funext b
      by_cases e : b = p
      · rw [e, upd_same, hp]
      · rw [upd_ne e]
    have npc : c ≠ p := ne_of hc hp (by intro z; cases z)
    have hcl : ∀ {H' : Hp} {o : HO}, H' = upd H p o → H' c = some (.lst (cs.map V.int)) := fun e => by rw [e, upd_ne npc, hc]
    refine ⟨_,
      Evl.pss_cut (ps_if (pw_and (pt_cmpR op_eq (pe_dget hu (pv 0) pe_str (fun _ _ => rfl)) pe_int (nomark _)) (pw_and1 (pt_cmpR op_lt (pe_dget hu (pv 0) pe_str (fun _ _ => rfl)) (pe_callB call_len_seq (by rfl) B.len PySem.boot_len (pa_cons (pe_dget hu (pv 0) pe_str (fun _ _ => rfl)) pa_nil)) (nomark _)))).pt
          (pss_cons (ps_dput hu (pv 0) pe_str (pe_ix ix_list (pe_dget hu (pv 0) pe_str (fun _ _ => rfl)) (pe_dget hu (pv 0) pe_str (fun _ _ => rfl)) (fun _ _ => rfl)) rfl)
          (pss_one (ps_dput hu (pv 0) pe_str (pe_op op_add (pe_dget hu (pv 0) pe_str (fun _ _ => rfl)) pe_int) rfl))) pss_nil)
      (pss_cons (ps_if (pt_cmpR op_gt (pe_dget hu (pv 0) pe_str (fun _ _ => rfl)) pe_int (nomark _))
          (pss_cons (ps_set (i := 2) scTake.nd rfl (Or.inl rfl) (pe_op op_mod (pe_callTy call_int1 (by rfl) B.int (by decide +kernel) (pa_cons (pe_dget hu (pv 0) pe_str (fun _ _ => rfl)) pa_nil)) (pv 1)))
          (pss_cons (ps_dput hu (pv 0) pe_str (pe_op op_fdiv (pe_dget hu (pv 0) pe_str (fun _ _ => rfl)) (pv 1)) rfl)
          (pss_one (ps_ret (pv 2))))) pss_nil)
      (pss_cons (ps_dput hu (pv 0) pe_str (pe_op op_add (pe_dget hu (pv 0) pe_str (fun _ _ => rfl)) pe_int) rfl)
      (pss_cons (ps_set (i := 3) scTake.nd rfl (Or.inl rfl) (pe_op op_mod (pe_callTy call_int1 (by rfl) B.int (by decide +kernel) (pa_cons (pe_op op_add (pe_op op_mul (pe_dget hu (pv 0) pe_str (fun _ _ => rfl)) pe_int) (pe_op op_mul (pe_dget hu (pv 0) pe_str (fun _ _ => rfl)) pe_int)) pa_nil)) pe_int))
      (pss_cons (ps_set (i := 3) scTake.nd rfl (Or.inl rfl) (pe_op op_mod (pe_callTy call_int1 (by rfl) B.int (by decide +kernel) (pa_cons (pe_op op_add (pe_op op_add (pe_op op_mul (pv 3) (pv 3)) (pe_op op_mul (pe_dget hu (pv 0) pe_str (fun _ _ => rfl)) pe_int)) pe_int) pa_nil)) pe_int))
      (pss_one (ps_ret (pe_op op_mod (pe_callTy call_int1 (by rfl) B.int (by decide +kernel) (pa_cons (pv 3) pa_nil)) (pv 1)))))))), ?_⟩
    refine ⟨fun σ' H' => ∃ a l : Int, σ' = [some (.ref p), some (.int m), none, none] ∧ TapeOk cs.length a l sd ∧ H' = upd H p (.dK (kvT c a l sd st)), ?_, ?_⟩
    · refine ⟨_, rfl, _, _, rfl, dg h0 kvT_left, rfl, _, rfl, ?_⟩
      refine ite2 (fun _ => ?_) fun _ => iteF ⟨a, l, rfl, T, h0⟩
      refine ⟨_, rfl, _, _, rfl, dg h0 kvT_at, _, rfl, _, _, rfl, dg h0 kvT_cells, c, _, rfl, .inl (SqL.of hc), _, _, rfl, rfl, _, rfl, ?_⟩
      refine ite2 (fun lt => ?_) fun _ => ⟨a, l, rfl, T, h0⟩
      have lt : a < (cs.length : Int) := by
        have z := of_decide_eq_true lt
        rw [List.length_map] at z
        exact z
      obtain ⟨j, rfl⟩ := Int.eq_ofNat_of_zero_le T.a0
      have hj : j < cs.length := by omega
      refine ⟨_, rfl, _, _, rfl, dg h0 kvT_cells, _, rfl, _, _, rfl, dg h0 kvT_at, c, _, _, V.int cs[j], rfl, rfl, SqL.of hc, ?_, ?_⟩
      · refine atI_nat ?_
        rw [List.getElem?_map, List.getElem?_eq_getElem hj]
        rfl
      refine ⟨_, rfl, p, _, rfl, dp h0 putT_left, ?_⟩
      refine ⟨_, rfl, _, _, rfl, dg rfl kvT_at, _, _, rfl, rfl, _, rfl, p, _, rfl, dp rfl putT_at, ?_⟩
      exact ⟨(j : Int) + 1, cs[j], rfl, ⟨by omega, by omega, hnn _ (List.getElem_mem hj), T.s0, T.s1⟩, rfl⟩
    · rintro _ H1 ⟨a1, l1, rfl, T1, e1⟩
      refine ⟨_, rfl, _, _, rfl, dg e1 kvT_left, _, _, rfl, rfl, _, rfl, ?_⟩
      refine ite2 (fun lt => ?_) fun _ => ?_
      · have lt : (0 : Int) < l1 := of_decide_eq_true lt
        refine ⟨_, rfl, _, _, rfl, dg e1 kvT_left, .inl ⟨_, rfl, _, rfl, _, _, rfl, rfl, m0, ?_⟩⟩
        refine ⟨_, rfl, _, _, rfl, dg e1 kvT_left, _, rfl, _, _, rfl, rfl, ⟨m0, by omega⟩, _, rfl, p, _, rfl, dp e1 putT_left, ?_⟩
        refine ⟨_, rfl, ?_⟩
        refine k (l1 % m) a1 (l1 / m) st (Int.emod_nonneg _ (by omega)) (Int.emod_lt_of_pos _ m0) ⟨T1.a0, T1.a1, Int.ediv_nonneg T1.l0 (by omega), T1.s0, T1.s1⟩
      · refine ⟨_, rfl, _, _, rfl, dg e1 kvT_salt, _, _, rfl, rfl, _, rfl, p, _, rfl, dp e1 putT_salt, ?_⟩
        refine ⟨_, rfl, _, _, rfl, dg rfl kvT_seed, _, _, rfl, rfl, .inr (by decide), _, rfl, _, _, rfl, dg rfl kvT_salt, _, _, rfl, rfl, .inr (by decide), _, _, rfl, rfl, .inl ⟨_, rfl, _, _, rfl, rfl, (by show (0 : Int) < 2147483647; decide), ?_⟩⟩
        generalize hx : (sd * 48271 + (st + 1) * 69621) % 2147483647 = x
        have x0 : 0 ≤ x := by rw [← hx]; exact Int.emod_nonneg _ (by decide)
        have x1 : x < 2147483647 := by rw [← hx]; exact Int.emod_lt_of_pos _ (by decide)
        refine ⟨_, rfl, _, rfl, _, _, rfl, rfl, .inl ⟨by omega, by omega⟩, _, rfl, _, _, rfl, dg rfl kvT_salt, _, _, rfl, rfl, .inr (by decide), _, _, rfl, rfl, _, _, rfl, rfl, .inl ⟨_, rfl, _, _, rfl, rfl, (by show (0 : Int) < 2147483399; decide), ?_⟩⟩
        refine ⟨_, rfl, .inl ⟨_, rfl, _, rfl, _, _, rfl, rfl, m0, ?_⟩⟩
        exact k _ a1 l1 (st + 1) (Int.emod_nonneg _ (by omega)) (Int.emod_lt_of_pos _ m0) T1
/-! ### the tape as one thing that stays -/
/-- at p: a tape over the cells at c -/
def TapeIs (P : Program) (w : World) (p c : Addr) (n : Nat) (h : Heap) : Prop := ∃ a l sd st : Int, TapeOk n a l sd ∧ ObjOk P w (fun _ => none) h p (.dK (kvT c a l sd st))
def tapeO (P : Program) (w : World) (p c : Addr) (n : Nat) : HO := .ext (TapeIs P w p c n)
theorem dK_any {P : Program} {w : World} {H H' : Hp} {h h' : Heap} {p : Addr} {kvs : List (Key × V)} (x : ObjOk P w H h p (.dK kvs)) (k : ∀ o, h.get? p = some o → h'.get? p = some o) : ObjOk P w H' h' p (.dK kvs) := by
  obtain ⟨z, y, vs, r, ob, es, ep, e, c⟩ := x
  exact ⟨z, y, vs, r, ob, es, ep, k _ e, c⟩
theorem dK_get {P : Program} {w : World} {H : Hp} {h : Heap} {p : Addr} {kvs : List (Key × V)} (x : ObjOk P w H h p (.dK kvs)) : ∃ o, h.get? p = some o := by
  obtain ⟨_, _, _, _, ob, _, _, e, _⟩ := x
  exact ⟨ob, e⟩
theorem tape_ok {H H' : Hp} {h : Heap} {p c : Addr} {n : Nat} {a l sd st : Int} (T : TapeOk n a l sd) (x : ObjOk P w H h p (.dK (kvT c a l sd st))) : ObjOk P w H' h p (tapeO P w p c n) :=
  ⟨⟨a, l, sd, st, T, dK_any x fun _ e => e⟩, dK_get x, fun _ _ ⟨a, l, sd, st, T, x⟩ k => ⟨a, l, sd, st, T, dK_any x k⟩⟩
/-- a tape stands at p over the cells at c -/
def TapeAt (P : Program) (w : World) (H : Hp) (p : Addr) : Prop := ∃ (c : Addr) (cs : List Int), H p = some (tapeO P w p c cs.length) ∧ H c = some (.lst (cs.map V.int)) ∧ ∀ z ∈ cs, 0 ≤ z
theorem TapeAt.ex {H H' : Hp} {p : Addr} (T : TapeAt P w H p) (e : Evl.Ex H H') : TapeAt P w H' p := by
  obtain ⟨c, cs, h1, h2, h3⟩ := T
  exact ⟨c, cs, e _ _ h1, e _ _ h2, h3⟩
/-- take(tape, many): a number below; nothing changes that is told -/
def spTake (P : Program) (w : World) : Sp := fun vs H Q _ => ∃ (p : Addr) (m : Int), vs = [.ref p, .int m] ∧ TapeAt P w H p ∧ 0 < m ∧ m < 1000000 ∧ ∀ d : Int, 0 ≤ d → d < m → Q (.int d) H
theorem ok_take {f : Addr} {fd : FuncData} (F : Fun K "_law_take" "_law_take" sTake f fd) (B : BtTake mg) : FnOk P w K mg base CX0 1 f fd ["tape", "many"] (spTake P w) := by
  refine FnOk.retype (ok_take0 F B) (fun vs H Q E h => ?_) (fun vs H Q E hp ok h => ?_)
  · obtain ⟨p, m, rfl, _⟩ := h
    rfl
  · obtain ⟨p, m, rfl, ⟨c, cs, h1, h2, h3⟩, m0, m1, k⟩ := h
    have npc : c ≠ p := ne_of h2 h1 (by intro z; cases z)
    obtain ⟨⟨a, l, sd, st, T, x⟩, _, _⟩ := ok p _ h1
    refine ⟨upd H p (.dK (kvT c a l sd st)), HOk.retype ok h1 rfl (dK_any x fun _ e => e), Compat.upd h1 rfl rfl, p, c, cs, a, l, sd, st, m, rfl, upd_same, by rw [upd_ne npc]; exact h2, h3, T, m0, m1, ?_⟩
    intro d a' l' st' d0 d1 T' h' ok'
    have e1 : upd (upd H p (.dK (kvT c a l sd st))) p (.dK (kvT c a' l' sd st')) p = some (.dK (kvT c a' l' sd st')) := upd_same
    have e2 : upd (upd (upd H p (.dK (kvT c a l sd st))) p (.dK (kvT c a' l' sd st'))) p (tapeO P w p c cs.length) = H := by
      rw [upd_upd, upd_upd]
      funext b
      by_cases e : b = p
      · rw [e, upd_same, h1]
      · rw [upd_ne e]
    have z := HOk.retype ok' e1 rfl (tape_ok T' (ok' p _ e1))
    have z2 := Compat.upd (o2 := tapeO P w p c cs.length) e1 rfl rfl
    rw [e2] at z z2
    exact ⟨H, z, z2, k d d0 d1⟩
/-! ### law_tape(script) -/
structure BtTape (mg : Str → Option Value) : Prop where
  int : mg "int" = none
  abs : mg "abs" = none
/-- a new tape -/
def spTape0 (K : PySem.W.Frag) : Sp := fun vs H Q _ => ∃ (a : Addr) (ns : List Int), vs = [.ref a] ∧ SqL K H a (ns.map V.int) ∧ ns.length ≤ 63 ∧
  ∀ (p c : Addr) (cs : List Int) (sd : Int) (H' : Hp), Evl.Ex H H' → H p = none → H' p = some (.dK (kvT c 0 0 sd 0)) → H' c = some (.lst (cs.map V.int)) → (∀ z ∈ cs, 0 ≤ z) → 0 ≤ sd → sd < 2147483647 → Q (.ref p) H'
theorem scTape : FnScope ["script", "cells", "seed", "cell"] ["script"] (defScope sTape) := ⟨rfl, rfl, rfl, by decide +kernel, rfl, by decide +kernel, by decide +kernel⟩
theorem valV_new {kvs : List (Key × V)} {k : Key} (h : ¬ k ∈ kvs.map (·.1)) : valV kvs k = none := by
  cases e : valV kvs k with
  | none => rfl
  | some v => exact absurd (valV_in e) h
theorem merge_new : ∀ (more acc : List (Key × V)), (∀ kv ∈ more, ¬ kv.1 ∈ acc.map (·.1)) → (more.map (·.1)).Nodup → mergeK acc more = acc ++ more
  | [], acc, _, _ => (List.append_nil acc).symm
  | kv :: r, acc, h, nd => by
    obtain ⟨n1, n2⟩ := List.nodup_cons.mp (show (kv.1 :: r.map (·.1)).Nodup from nd)
    show mergeK (putK acc kv.1 kv.2) r = acc ++ kv :: r
    rw [putK_new kv.2 (valV_new (h kv (List.mem_cons_self ..))), merge_new r (acc ++ [(kv.1, kv.2)]) (fun q hq m => ?_) n2, List.append_assoc]
    · rfl
    · rw [List.map_append, List.mem_append] at m
      rcases m with m | m
      · exact h q (List.mem_cons_of_mem _ hq) m
      · have e : q.1 = kv.1 := by simpa using m
        exact n1 (e ▸ List.mem_map_of_mem hq)
theorem mergeT {c : Addr} {sd : Int} : mergeK [] (kvT c 0 0 sd 0) = kvT c 0 0 sd 0 :=
  merge_new _ _ (fun _ _ m => absurd m (by simp)) (show ([.inr "cells", .inr "at", .inr "left", .inr "seed", .inr "salt"] : List Key).Nodup by decide +kernel)
theorem ok_tape0 {f : Addr} {fd : FuncData} (F : Fun K "_law_tape" "_law_tape" sTape f fd) (B : BtTape mg) : FnOk P w K mg base CX0 1 f fd ["script"] (spTape0 K) := by
  refine F.ok scTape (fun vs H Q E h => ?_) (fun cdv A outer s H vs Q E hr h => ?_)
  · obtain ⟨a, ns, rfl, _⟩ := h
    rfl
  · obtain ⟨a, ns, rfl, hS, hlen, k⟩ := h
    have hu := hu_of hr
    refine ⟨_,
      pss_cons (ps_setLc (i := 1) (own := [("cell", 3)]) (g := gName 3) (tt := tYes) rfl scTape.nd rfl rfl (sw_true rfl rfl rfl (by decide +kernel)) (pi_list (pv 0)) (blkOk_by (N := ["script", "cells", "seed", "cell"]) (sc := defScope sTape) (by decide +kernel))
        (fun _ _ _ _ _ => pg_name (i := 3) scTape.nd rfl (Or.inl rfl)) (fun _ _ _ _ _ => pts_nil) (fun _ _ _ _ _ => pe_callB call_abs (by rfl) B.abs (by decide +kernel) (pa_cons (pe_callTy call_int1 (by rfl) B.int (by decide +kernel) (pa_cons (pv 3) pa_nil)) pa_nil)))
      (pss_cons (ps_set (i := 2) scTape.nd rfl (Or.inl rfl) pe_int)
      (pss_cons (ps_for PassesOwn.never rfl (pi_list (pv 1)) (pg_name (i := 3) scTape.nd rfl (Or.inl rfl))
        (pss_one (ps_set (i := 2) scTape.nd rfl (Or.inl rfl) (pe_op op_mod (pe_callTy call_int1 (by rfl) B.int (by decide +kernel) (pa_cons (pe_op op_add (pe_op op_mul (pv 2) pe_int) (pv 3)) pa_nil)) pe_int))))
      (pss_one (ps_ret (pe_disp (pps_cons pe_str (pv 1) (pps_cons pe_str pe_int (pps_cons pe_str pe_int (pps_cons pe_str (pv 2) (pps_cons pe_str pe_int pps_nil))))) (by rfl) (by rfl) (fun z => by cases z) (by decide)))))), ?_⟩
    refine Evl.q_asgL (Evl.el_lcL (fun _ => true) (fun i => V.int (if ns.getD i 0 < 0 then -(ns.getD i 0) else ns.getD i 0)) (Evl.ev_var rfl) hS (by rw [List.length_map]; omega) (fun _ => rfl) (fun i x H1 _ _ => ?_) (fun i x H1 e hx _ => ?_)) (fun c H1 hc e1 h1 => ?_)
    · exact fun H2 _ Q q => q H2 (Evl.Ex.refl H2)
    · rw [List.getElem?_map] at hx
      cases q : ns[i]? with
      | none => rw [q] at hx; cases hx
      | some z =>
        rw [q] at hx
        cases hx
        have ez : ns.getD i 0 = z := by rw [List.getD_eq_getElem?_getD, q]; rfl
        rw [ez]
        exact fun H2 _ Q q2 => ⟨_, rfl, .inl ⟨z, rfl, z, rfl, q2 H2 (Evl.Ex.refl H2)⟩⟩
    generalize hcs : Evl.given (ns.map V.int).length (fun _ => true) (fun i => V.int (if ns.getD i 0 < 0 then -(ns.getD i 0) else ns.getD i 0)) = l at h1
    obtain ⟨cs, rfl, hnn⟩ : ∃ cs : List Int, l = cs.map V.int ∧ ∀ z ∈ cs, 0 ≤ z := by
      refine ⟨((List.range (ns.map V.int).length).filter fun _ => true).map (fun i => if ns.getD i 0 < 0 then -(ns.getD i 0) else ns.getD i 0), ?_, fun z hz => ?_⟩
      · rw [← hcs, List.map_map]
        rfl
      · obtain ⟨i, _, rfl⟩ := List.mem_map.mp hz
        split <;> omega
    refine Evl.q_asg Evl.ev_c fun H2 e2 => ?_
    refine Evl.q_forL (Evl.ev_var rfl) (Evl.sq_of (e2 _ _ h1)) (fun i σ' H' => ∃ (sd : Int) (v : Option V), σ' = [some (.ref a), some (.ref c), some (.int sd), v] ∧ Evl.Ex H2 H' ∧ 0 ≤ sd ∧ sd < 2147483647) (fun H3 e3 => ⟨7, none, rfl, e3, by decide, by decide⟩)
      (fun i σ' H' _ ⟨_, _, _, e, _⟩ => Evl.sq_of (e _ _ (e2 _ _ h1))) (fun i x σ' H' hx ⟨sd, v, es, e, s0, s1⟩ => ?_) (fun σ' H' ⟨sd, v, es, e, s0, s1⟩ => ?_)
    · subst es
      rw [List.getElem?_map] at hx
      cases q : cs[i]? with
      | none => rw [q] at hx; cases hx
      | some z =>
        rw [q] at hx
        cases hx
        refine ⟨_, rfl, _, _, rfl, rfl, .inr (by decide), _, rfl, _, _, rfl, rfl, .inl ⟨_, rfl, _, _, rfl, rfl, (by show (0 : Int) < 2147483647; decide), ?_⟩⟩
        exact ⟨_, _, rfl, e, Int.emod_nonneg _ (by decide), Int.emod_lt_of_pos _ (by decide)⟩
    · subst es
      intro p hp
      refine ⟨_, rfl, _, rfl, upd_same, kvT c 0 0 sd 0, rfl, (by show 5 ≤ 15; decide), ?_⟩
      rw [mergeT, upd_upd]
      have nc : c ≠ p := ne_of_none (e _ _ (e2 _ _ h1)) hp
      have ee : Evl.Ex H H' := (e1.trans e2).trans e
      exact k p c cs sd _ (ee.trans (Evl.Ex.new hp)) (Evl.fresh_back ee hp) upd_same (by rw [upd_ne nc]; exact e _ _ (e2 _ _ h1)) hnn s0 s1
def spTape (P : Program) (w : World) (K : PySem.W.Frag) : Sp := fun vs H Q _ => ∃ (a : Addr) (ns : List Int), vs = [.ref a] ∧ SqL K H a (ns.map V.int) ∧ ns.length ≤ 63 ∧ ∀ (p : Addr) (H' : Hp), Evl.Ex H H' → TapeAt P w H' p → Q (.ref p) H'
theorem ok_tape {f : Addr} {fd : FuncData} (F : Fun K "_law_tape" "_law_tape" sTape f fd) (B : BtTape mg) : FnOk P w K mg base CX0 1 f fd ["script"] (spTape P w K) := by
  refine FnOk.retype (ok_tape0 F B) (fun vs H Q E h => ?_) (fun vs H Q E hp ok h => ?_)
  · obtain ⟨a, ns, rfl, _⟩ := h
    rfl
  · obtain ⟨a, ns, rfl, hS, hl, k⟩ := h
    refine ⟨H, ok, Compat.refl H, a, ns, rfl, hS, hl, fun p c cs sd H' e np h1 h2 h3 s0 s1 h' ok' => ?_⟩
    have npc : c ≠ p := ne_of h2 h1 (by intro z; cases z)
    refine ⟨upd H' p (tapeO P w p c cs.length), HOk.retype ok' h1 rfl (tape_ok ⟨Int.le_refl 0, by omega, Int.le_refl 0, s0, s1⟩ (ok' p _ h1)), Compat.upd h1 rfl rfl, ?_⟩
    exact k p _ (Evl.Ex.mut e np) ⟨c, cs, upd_same, by rw [upd_ne npc]; exact h2, h3⟩
end
end Mx
set_option Elab.async false
set_option linter.all false
set_option maxRecDepth 100000
set_option maxHeartbeats 4000000
/-! Names of texts: number_of, digest, signed, is_signed. -/
namespace Mx
open PySem PySem.Spec PyProof.Rows L2 TL
abbrev topD (i : Nat) : Stmt := PySem.Challenge.pw_sameinsameout_k15_whole_waves_of_machine.main.body.getD i (.Pass ⟨0, 0, 0, 0⟩)
abbrev sNum : Stmt := topD 8
abbrev sDig : Stmt := topD 9
/-! ### the plain functions -/
def prime : Nat := 2305843009213693951
def numN (l : List Nat) : Nat := l.foldl (fun n c => (n * 2000003 + c) % prime) (l.length + 7)
def sg (d : Nat) : Nat := [48, 49, 50, 51, 52, 53, 54, 55, 56, 57, 97, 98, 99, 100, 101, 102].getD d 0
def hexIt : Nat → Nat → List Nat → List Nat
  | 0, _, acc => acc
  | k + 1, n, acc => hexIt k (n / 16) (sg (n % 16) :: acc)
def hexL (n : Nat) : List Nat := hexIt 16 n []
def digS (x : Str) : Str := ⟨(hexL (numN (tl x))).toArray⟩
theorem signs_at : ∀ d : Nat, d < 16 → atI (Str.ofString "0123456789abcdef").cps.toList (d : Int) = some (sg d) := by decide +kernel
theorem hexIt_snoc : ∀ (k n : Nat) (acc : List Nat), hexIt (k + 1) n acc = sg (n / 16 ^ k % 16) :: hexIt k n acc
  | 0, n, acc => by simp [hexIt]
  | k + 1, n, acc => by
    show hexIt (k + 1) (n / 16) (sg (n % 16) :: acc) = _
    rw [hexIt_snoc k (n / 16) _, Nat.div_div_eq_div_mul, Nat.pow_succ', Nat.mul_comm]
    rfl
theorem len_pos (l : List Nat) : 0 < l.length + 7 := by omega
structure BtDig (mg : Str → Option Value) : Prop where
  len : mg "len" = none
  ord : mg "ord" = none
  range : mg "range" = none
  gP : ∃ t, mg "PRIME" = some (.int 2305843009213693951 t)
  gB : ∃ t, mg "BASE" = some (.int 2000003 t)
  gS : ∃ t, mg "SIGNS" = some (.str "0123456789abcdef" t)
def spNum : Sp := fun vs H Q _ => ∃ x : Str, vs = [.str x] ∧ x.length ≤ 1000000 ∧ Q (.int (numN (tl x) : Int)) H
def spDig : Sp := fun vs H Q _ => ∃ x : Str, vs = [.str x] ∧ x.length ≤ 1000000 ∧ Q (.str (digS x)) H
section
variable {P : Program} {w : World} {K : PySem.W.Frag} {mg : Str → Option Value} {base : Heap}
theorem scNum : FnScope ["text", "found", "char"] ["text"] (defScope sNum) := ⟨rfl, rfl, rfl, by decide +kernel, rfl, by decide +kernel, by decide +kernel⟩
theorem take_snoc {l : List Nat} {i c : Nat} (h : l[i]? = some c) : l.take (i + 1) = l.take i ++ [c] := by
  rw [List.take_succ, h]
  rfl
theorem ok_num {f : Addr} {fd : FuncData} (F : Fun K "number_of" "number_of" sNum f fd) (B : BtDig mg) : FnOk P w K mg base CX0 1 f fd ["text"] spNum := by
  refine F.ok scNum (fun vs H Q E h => ?_) (fun cdv A outer s H vs Q E hr h => ?_)
  · obtain ⟨x, rfl, _⟩ := h
    rfl
  · obtain ⟨x, rfl, hx, k⟩ := h
    obtain ⟨t1, g1⟩ := B.gP
    obtain ⟨t2, g2⟩ := B.gB
    refine ⟨_,
      pss_cons (ps_set (i := 1) scNum.nd rfl (Or.inl rfl) (pe_op op_add (pe_callB call_len_str (by rfl) B.len PySem.boot_len (pa_cons (pv 0) pa_nil)) pe_int))
      (pss_cons (ps_for PassesOwn.never rfl (pi_str (pv 0)) (pg_name (i := 2) scNum.nd rfl (Or.inl rfl))
        (pss_one (ps_set (i := 1) scNum.nd rfl (Or.inl rfl) (pe_op op_mod (pe_op op_add (pe_op op_mul (pv 1) (pe_glob (v := .int 2000003) rfl g2 ⟨t2, rfl⟩)) (pe_callB call_ord (by rfl) B.ord (by decide +kernel) (pa_cons (pv 2) pa_nil))) (pe_glob (v := .int 2305843009213693951) rfl g1 ⟨t1, rfl⟩)))))
      (pss_one (ps_ret (pv 1)))), ?_⟩
    refine ⟨_, rfl, x, rfl, by rw [sizeLine_eq]; omega, _, _, rfl, rfl, ?_⟩
    refine ⟨_, rfl, x, rfl, for_it walk_str (fun i σ H' => H' = H ∧ ∃ (n : Nat) (v : Option V), n < prime ∧ σ = [some (.str x), some (.int (n : Int)), v] ∧ n = ((tl x).take i).foldl (fun n c => (n * 2000003 + c) % prime) ((tl x).length + 7))
      ⟨rfl, (tl x).length + 7, none, ?_, ?_, rfl⟩ (fun _ _ _ _ _ => trivial) ?_ ?_⟩
    · have := len_tl x
      show _ < 2305843009213693951
      omega
    · rw [len_tl x]
      rfl
    · rintro i y σ H1 H2 hi ⟨rfl, n, v, hn, rfl, en⟩ ⟨rfl, c, hc, rfl⟩
      have hc' : (tl x)[i]? = some c := by rw [Array.getElem?_toList]; exact hc
      refine ⟨_, rfl, _, _, rfl, rfl, .inr (by decide), _, rfl, _, rfl, rfl, _, _, rfl, rfl, _, _, rfl, rfl, (by show (0 : Int) < 2305843009213693951; decide), ?_⟩
      refine ⟨rfl, (n * 2000003 + c) % prime, some (.str ⟨#[c]⟩), Nat.mod_lt _ (by decide), ?_, ?_⟩
      · have e1 : ((n : Int) * 2000003 + ((#[c] : Array Nat).getD 0 0 : Nat)) % 2305843009213693951 = (((n * 2000003 + c) % prime : Nat) : Int) := by
          show ((n : Int) * 2000003 + (c : Int)) % 2305843009213693951 = (((n * 2000003 + c) % 2305843009213693951 : Nat) : Int)
          omega
        exact congrArg (fun z => [some (V.str x), some (V.int z), some (V.str ⟨#[c]⟩)]) e1
      · rw [take_snoc hc', List.foldl_append, ← en, List.foldl_cons, List.foldl_nil]
    · rintro σ H1 ⟨rfl, n, v, hn, rfl, en⟩
      refine ⟨_, rfl, ?_⟩
      have e2 : n = numN (tl x) := by
        rw [en, show x.cps.size = (tl x).length from by simp [tl], List.take_length]
        rfl
      rw [e2]
      exact k
theorem scDig : FnScope ["text", "number", "found", "_"] ["text"] (defScope sDig) := ⟨rfl, rfl, rfl, by decide +kernel, rfl, by decide +kernel, by decide +kernel⟩
theorem ok_dig {f : Addr} {fd : FuncData} (F : Fun K "digest" "digest" sDig f fd) (B : BtDig mg) (hN : Has P w K mg base CX0 1 "number_of" ["text"] spNum) : FnOk P w K mg base CX0 2 f fd ["text"] spDig := by
  refine F.ok scDig (fun vs H Q E h => ?_) (fun cdv A outer s H vs Q E hr h => ?_)
  · obtain ⟨x, rfl, _⟩ := h
    rfl
  · obtain ⟨x, rfl, hx, k⟩ := h
    obtain ⟨t3, g3⟩ := B.gS
    refine ⟨_,
      pss_cons (ps_par (i := 1) (j := 2) rfl scDig.nd rfl rfl (by decide) rfl rfl (pa_cons (pe_h hN hr (by rfl) pass0 (pa_cons (pv 0) pa_nil)) (pa_cons pe_str pa_nil)) (by rfl))
      (pss_cons (ps_for PassesOwn.never rfl (pi_range1 rfl B.range (pa_cons pe_int pa_nil)) (pg_name (i := 3) scDig.nd rfl (Or.inl rfl))
        (pss_cons (ps_set (i := 2) scDig.nd rfl (Or.inl rfl) (pe_op op_add_str (pe_ix ix_str (pe_glob (v := .str "0123456789abcdef") rfl g3 ⟨t3, rfl⟩) (pe_op op_mod (pv 1) pe_int) (fun _ _ => rfl)) (pv 2)))
        (pss_one (ps_aug (i := 1) scDig.nd rfl (Or.inl rfl) pe_int iop_fdiv))))
      (pss_one (ps_ret (pv 2)))), ?_⟩
    refine ⟨_, rfl, x, rfl, hx, _, _, rfl, ?_⟩
    refine ⟨16, rfl, by decide, by decide, for_range (lo := 0) (n := 16) (fun i σ H' => H' = H ∧ ∃ (n : Nat) (acc : List Nat) (v : Option V), acc.length = i ∧ σ = [some (.str x), some (.int (n : Int)), some (.str ⟨acc.toArray⟩), v] ∧ hexIt (16 - i) n acc = hexL (numN (tl x)))
      ⟨rfl, numN (tl x), [], none, rfl, rfl, rfl⟩ ?_ ?_⟩
    · rintro i σ H1 hi ⟨rfl, n, acc, v, hl, rfl, en⟩
      refine ⟨_, rfl, _, _, rfl, rfl, (by show (0 : Int) < 16; decide), _, _, sg (n % 16), rfl, rfl, by decide +kernel, ?_, ?_⟩
      · have z := signs_at (n % 16) (Nat.mod_lt _ (by decide))
        rw [show (n : Int) % 16 = ((n % 16 : Nat) : Int) from by omega]
        exact z
      refine ⟨_, rfl, _, _, rfl, rfl, ?_, ?_⟩
      · show 1 + acc.toArray.size ≤ sizeLine
        rw [sizeLine_eq]
        simp
        omega
      refine ⟨_, rfl, _, _, rfl, rfl, ⟨by decide, by decide⟩, ?_⟩
      refine ⟨rfl, n / 16, sg (n % 16) :: acc, some (.int (0 + (i : Int))), by simp [hl], ?_, ?_⟩
      · have e1 : (⟨#[sg (n % 16)]⟩ : Str) ++ ⟨acc.toArray⟩ = ⟨(sg (n % 16) :: acc).toArray⟩ := by
          refine ext_tl ?_
          rw [tl_append]
          simp [tl]
        have e2 : (n : Int) / 16 = ((n / 16 : Nat) : Int) := by omega
        show [some (V.str x), some (V.int ((n : Int) / 16)), some (V.str ((⟨#[sg (n % 16)]⟩ : Str) ++ ⟨acc.toArray⟩)), some (V.int (0 + (i : Int)))] = _
        rw [e1, e2]
      · have e3 : 16 - i = (16 - (i + 1)) + 1 := by omega
        rw [e3] at en
        exact en
    · rintro σ H1 ⟨rfl, n, acc, v, hl, rfl, en⟩
      refine ⟨_, rfl, ?_⟩
      have e : acc = hexL (numN (tl x)) := en
      show Q (.str ⟨acc.toArray⟩) _
      rw [e]
      exact k
end
end Mx
set_option Elab.async false
set_option linter.all false
set_option maxRecDepth 100000
set_option maxHeartbeats 4000000
namespace Mx
open PySem PySem.Spec PyProof.Rows L2 Evl TL
open PySem.W (Datum DatumOrd Tup)
/-! ### disks: 29 places, by numbers: 0 is "current", 4 n the mark of generation n, 4 n + 1 + j its file j -/
def numI (i : Int) : Str := (toString i : Str)
def pth (j : Nat) : Str := if j = 0 then "a/o" else if j = 1 then "b/o" else "c/o"
def kst (i : Nat) : Str := if i = 0 then "current" else if i % 4 = 0 then "g" ++ numI ((i / 4 : Nat) : Int) ++ "/done" else "g" ++ numI ((i / 4 : Nat) : Int) ++ "/f/" ++ pth (i % 4 - 1)
def ids : List Nat := 0 :: (List.range 28).map (· + 4)
theorem kst_nodup : (ids.map kst).Nodup := by decide +kernel
theorem ids_nodup : ids.Nodup := by decide +kernel
theorem kst_inj {i j : Nat} (hi : i ∈ ids) (hj : j ∈ ids) (h : kst i = kst j) : i = j := by
  have key : ∀ (l : List Nat), (l.map kst).Nodup → ∀ i ∈ l, ∀ j ∈ l, kst i = kst j → i = j := fun l => by
    induction l with
    | nil => exact fun _ i h => absurd h (by simp)
    | cons a r ih =>
      intro nd i hi j hj e
      obtain ⟨n1, n2⟩ := List.nodup_cons.mp (show (kst a :: r.map kst).Nodup from nd)
      rcases List.mem_cons.mp hi with z1 | hi2
      · rcases List.mem_cons.mp hj with z2 | hj2
        · rw [z1, z2]
        · exact absurd (by rw [← z1, e]; exact List.mem_map_of_mem hj2) n1
      · rcases List.mem_cons.mp hj with z2 | hj2
        · exact absurd (by rw [← z2, ← e]; exact List.mem_map_of_mem hi2) n1
        · exact ih n2 i hi2 j hj2 e
  exact key ids kst_nodup i hi j hj h
abbrev Dm := Nat → Option Str
def Dm.set (D : Dm) (i : Nat) (v : Option Str) : Dm := fun j => if j = i then v else D j
structure Dsk (l : List (Str × Str)) (D : Dm) : Prop where
  nd : (l.map (·.1)).Nodup
  mem : ∀ k t, (k, t) ∈ l ↔ ∃ i ∈ ids, k = kst i ∧ D i = some t
section
variable {l : List (Str × Str)} {D : Dm} {i : Nat}
theorem Dsk.look (h : Dsk l D) (hi : i ∈ ids) : l.lookup (kst i) = D i := by
  cases q : D i with
  | none =>
    cases q2 : l.lookup (kst i) with
    | none => rfl
    | some t =>
      obtain ⟨j, hj, e, hd⟩ := (h.mem _ _).mp (mem_of_look q2)
      rw [kst_inj hi hj e, hd] at q
      cases q
  | some t => exact look_of_mem h.nd ((h.mem (kst i) t).mpr ⟨i, hi, rfl, q⟩)
theorem Dsk.none_key (h : Dsk l D) {k : Str} (hk : ∀ i ∈ ids, D i ≠ none → k ≠ kst i) : l.lookup k = none := by
  cases q : l.lookup k with
  | none => rfl
  | some t =>
    obtain ⟨j, hj, e, hd⟩ := (h.mem _ _).mp (mem_of_look q)
    exact absurd e (hk j hj (by rw [hd]; simp))
theorem Dsk.has (h : Dsk l D) (hi : i ∈ ids) : hasA l (kst i) = (D i).isSome := by rw [hasA_look, h.look hi]
theorem Dsk.put (h : Dsk l D) (hi : i ∈ ids) (v : Str) : Dsk (putA l (kst i) v) (D.set i (some v)) where
  nd := nd_putA h.nd
  mem k t := by
    constructor
    · intro m
      have lk := look_of_mem (nd_putA h.nd) m
      by_cases e : k = kst i
      · have lk' : (putA l (kst i) v).lookup k = some t := lk
        rw [e, look_putA] at lk'
        refine ⟨i, hi, e, ?_⟩
        unfold Dm.set
        rw [if_pos rfl]
        exact lk'
      · rcases mem_putA m with z | z
        · obtain ⟨j, hj, e2, hd⟩ := (h.mem _ _).mp z
          refine ⟨j, hj, e2, ?_⟩
          unfold Dm.set
          rw [if_neg (fun z => e (by rw [e2, z]))]
          exact hd
        · exact absurd (congrArg Prod.fst z) e
    · rintro ⟨j, hj, rfl, hd⟩
      unfold Dm.set at hd
      by_cases e : j = i
      · rw [if_pos e] at hd
        rw [e]
        cases hd
        exact mem_of_look look_putA
      · rw [if_neg e] at hd
        have m := (h.mem (kst j) t).mpr ⟨j, hj, rfl, hd⟩
        have ne : kst j ≠ kst i := fun z => e (kst_inj hj hi z)
        unfold putA
        split
        · exact List.mem_map.mpr ⟨_, m, by rw [if_neg ne]⟩
        · exact List.mem_append_left _ m
theorem Dsk.drop (h : Dsk l D) (hi : i ∈ ids) : Dsk (dropA l (kst i)) (D.set i none) where
  nd := by
    rw [dropA_keys]
    exact h.nd.filter _
  mem k t := by
    unfold dropA
    rw [List.mem_filter]
    constructor
    · rintro ⟨m, ne⟩
      obtain ⟨j, hj, e2, hd⟩ := (h.mem _ _).mp m
      have ne : k ≠ kst i := of_decide_eq_true ne
      refine ⟨j, hj, e2, ?_⟩
      unfold Dm.set
      rw [if_neg (fun z => ne (by rw [e2, z]))]
      exact hd
    · rintro ⟨j, hj, rfl, hd⟩
      unfold Dm.set at hd
      by_cases e : j = i
      · rw [if_pos e] at hd
        cases hd
      · rw [if_neg e] at hd
        exact ⟨(h.mem _ _).mpr ⟨j, hj, rfl, hd⟩, decide_eq_true fun z => e (kst_inj hj hi z)⟩
theorem Dsk.len (h : Dsk l D) : l.length ≤ 29 := by
  have e : l.length = (l.map (·.1)).length := by rw [List.length_map]
  have e2 : ids.length = 29 := by decide +kernel
  rw [e]
  have key : ∀ (a b : List Str), a.Nodup → (∀ x ∈ a, x ∈ b) → a.length ≤ b.length := fun a => by
    induction a with
    | nil => exact fun _ _ _ => Nat.zero_le _
    | cons x r ih =>
      intro b nd h
      obtain ⟨n1, n2⟩ := List.nodup_cons.mp nd
      have mx := h x (List.mem_cons_self ..)
      have := ih (b.erase x) n2 fun y hy => (List.mem_erase_of_ne (fun e : y = x => n1 (by rw [← e]; exact hy))).mpr (h y (List.mem_cons_of_mem _ hy))
      rw [List.length_erase_of_mem mx] at this
      have := List.length_pos_of_mem mx
      show r.length + 1 ≤ _
      omega
  have := key (l.map (·.1)) (ids.map kst) h.nd fun x hx => by
    obtain ⟨e, he, rfl⟩ := List.mem_map.mp hx
    obtain ⟨j, hj, e2, _⟩ := (h.mem e.1 e.2).mp he
    rw [e2]
    exact List.mem_map_of_mem hj
  simp only [List.length_map] at this ⊢
  omega
/-- the same disk, whatever the order -/
theorem Dsk.perm (h : Dsk l D) {l' : List (Str × Str)} (h' : Dsk l' D) : l.Perm l' := by
  have nd1 : l.Nodup := (List.pairwise_map.mp h.nd).imp fun n e => n (by rw [e])
  have nd2 : l'.Nodup := (List.pairwise_map.mp h'.nd).imp fun n e => n (by rw [e])
  exact perm_of_mem nd1 nd2 fun ⟨k, t⟩ => by rw [h.mem, h'.mem]
end
theorem Dsk.empty : Dsk [] (fun _ => none) := ⟨by simp, fun k t => by simp⟩
theorem Dsk.congr {l : List (Str × Str)} {D D' : Dm} (h : Dsk l D) (e : ∀ i ∈ ids, D i = D' i) : Dsk l D' := ⟨h.nd, fun k t => by
  rw [h.mem]
  constructor
  · rintro ⟨i, hi, a, b⟩
    exact ⟨i, hi, a, by rw [← e i hi]; exact b⟩
  · rintro ⟨i, hi, a, b⟩
    exact ⟨i, hi, a, by rw [e i hi]; exact b⟩⟩
/-! ### images -/
def val (d : Nat) : Str := if d = 0 then "old0" else if d = 1 then "old1" else if d = 2 then "new" else "more"
def filesL (ds : List Nat) : List (Str × Str) := (List.range ds.length).map fun j => (pth j, val (ds.getD j 0))
def chunk (e : Str × Str) : Str := e.1 ++ " " ++ numI (e.2.length : Nat) ++ "\n" ++ e.2 ++ "\n"
def imgT (fl : List (Str × Str)) : Str := fl.foldl (fun a e => a ++ chunk e) ("image " ++ numI (fl.length : Nat) ++ "\n")
def imgS (ds : List Nat) : Str := imgT (filesL ds)
def Imgs : List (List Nat) := [[0], [1], [2, 3]]
def dgI (ds : List Nat) : Str := digS (imgS ds)
/-- spoilt: the first file's text with a sign more -/
def spoL : List (Str × Str) → List (Str × Str)
  | [] => []
  | e :: r => (e.1, e.2 ++ "!") :: r
/-! ### what the functions tell of a disk -/
def nums (D : Dm) : List Nat := (List.range' 1 7).filter fun n => (List.range 4).any fun j => (D (4 * n + j)).isSome
def flD (D : Dm) (n : Nat) : List (Str × Str) := (List.range 3).filterMap fun j => (D (4 * n + 1 + j)).map fun t => (pth j, t)
def wholeB (D : Dm) (n : Nat) : Bool := match D (4 * n) with
  | none => false
  | some dg => decide (digS (imgT (flD D n)) = dg)
def wholes (D : Dm) : List Nat := (nums D).filter (wholeB D)
abbrev Wr := Nat × Option Str
def delF (D : Dm) (n : Nat) : List Wr := ((List.range 3).filter fun j => (D (4 * n + 1 + j)).isSome).map fun j => (4 * n + 1 + j, none)
def recD (D : Dm) : List Wr := (nums D).flatMap fun n => if (D (4 * n)).isNone then delF D n else []
def keptD (D : Dm) (c count : Nat) : List Nat := (((wholes D).filter fun n => decide (n ≠ c)).reverse.take count) ++ [c]
def cleanD (D : Dm) (c count : Nat) : List Wr := (nums D).flatMap fun n => if n ∈ keptD D c count then [] else (4 * n, none) :: delF D n
def nextN (D : Dm) : Nat := (nums D).getLastD 0 + 1
def putF (m : Nat) (ds : List Nat) : List Wr := (List.range ds.length).map fun j => (4 * m + 1 + j, some (val (ds.getD j 0)))
def instD (m : Nat) (ds : List Nat) : List Wr := putF m ds ++ [(4 * m, some (dgI ds)), (0, some (numI (m : Nat)))]
def appW : List Wr → Dm → Dm
  | [], D => D
  | w :: r, D => appW r (D.set w.1 w.2)
def wrS (w : Wr) : Str × Option Str := (kst w.1, w.2)
theorem appW_append : ∀ (a b : List Wr) (D : Dm), appW (a ++ b) D = appW b (appW a D)
  | [], _, _ => rfl
  | w :: r, b, D => appW_append r b (D.set w.1 w.2)
/-- one write of a list's dict -/
def putW (l : List (Str × Str)) (w : Str × Option Str) : List (Str × Str) := match w.2 with
  | some t => putA l w.1 t
  | none => dropA l w.1
theorem Dsk.putW {l : List (Str × Str)} {D : Dm} (h : Dsk l D) {w : Wr} (hi : w.1 ∈ ids) : Dsk (Mx.putW l (wrS w)) (D.set w.1 w.2) := by
  obtain ⟨i, o⟩ := w
  cases o with
  | none => exact h.drop hi
  | some t => exact h.put hi t
def putWs (ws : List (Str × Option Str)) (l : List (Str × Str)) : List (Str × Str) := ws.foldl putW l
theorem Dsk.putWs : ∀ {ws : List Wr} {l : List (Str × Str)} {D : Dm}, Dsk l D → (∀ w ∈ ws, w.1 ∈ ids) → Dsk (Mx.putWs (ws.map wrS) l) (appW ws D)
  | [], _, _, h, _ => h
  | w :: r, l, D, h, hi => Dsk.putWs (ws := r) (h.putW (hi w (List.mem_cons_self ..))) fun w' hw => hi w' (List.mem_cons_of_mem _ hw)
end Mx
set_option Elab.async false
set_option linter.all false
set_option maxRecDepth 100000
set_option maxHeartbeats 4000000
namespace Mx
open PySem PySem.Spec PyProof.Rows L2 Evl TL
open PySem.W (Datum DatumOrd Tup)
/-! ### facts of the 155 images -/
theorem img_spo : ∀ ds ∈ Imgs, digS (imgT (spoL (filesL ds))) ≠ dgI ds := by decide +kernel
theorem img_len : ∀ ds ∈ Imgs, 1 ≤ ds.length ∧ ds.length ≤ 3 ∧ (imgS ds).length ≤ 60 := by decide +kernel
end Mx
set_option Elab.async false
set_option linter.all false
set_option maxRecDepth 100000
set_option maxHeartbeats 4000000
namespace Mx
open PySem PySem.Spec PyProof.Rows L2 Evl TL
open PySem.W (Datum DatumOrd Tup)
/-! ### what read_image meets in an image -/
def natF (x : Str) (a d : Nat) : Bool := decide ((tl x)[a]? = some (48 + d)) && (decide (d < 10) && (decide ((tl x)[a + 1]? = some 10) && (decide (PySem.intText? (cutS x (some (a : Int)) (some ((a + 1 : Nat) : Int))) = some (d : Int)) && decide (cutS x (some ((a + 1 : Nat) : Int)) (some ((a + 1 : Nat) + 1 : Int)) = "\n"))))
def posL (ds : List Nat) (i : Nat) : Nat := ((filesL ds).take i).foldl (fun a e => a + (7 + e.2.length)) 8
def rowF (x : Str) (ds : List Nat) (j : Nat) : Bool := decide ((Txt.partition (cutS x (some ((posL ds j : Nat) : Int)) none) " ").1 = pth j) && (natF x (posL ds j + 4) (val (ds.getD j 0)).length && (decide (cutS x (some ((posL ds j + 6 : Nat) : Int)) (some ((posL ds j + 6 + (val (ds.getD j 0)).length : Nat) : Int)) = val (ds.getD j 0)) && (decide (cutS x (some ((posL ds j + 6 + (val (ds.getD j 0)).length : Nat) : Int)) (some ((posL ds j + 7 + (val (ds.getD j 0)).length : Nat) : Int)) = "\n") && (decide (posL ds (j + 1) = posL ds j + 7 + (val (ds.getD j 0)).length) && decide (posL ds (j + 1) ≤ 60)))))
def rdF (x : Str) (ds : List Nat) : Bool := Txt.startswith x "image " && (natF x 6 ds.length && ((List.range ds.length).all (fun j => rowF x ds j) && (decide (x.length = posL ds ds.length) && decide (ds.length ≤ 3))))
theorem rd_facts : ∀ ds ∈ Imgs, rdF (imgS ds) ds = true := by decide +kernel
theorem fl_facts : ∀ ds ∈ Imgs, sortedS ((filesL ds).map (·.1)) = true ∧ ((filesL ds).map (·.1)).Nodup ∧ ∀ e ∈ filesL ds, e.1.length ≤ 20 ∧ e.2.length ≤ 4 := by decide +kernel
end Mx
set_option Elab.async false
set_option linter.all false
set_option maxRecDepth 100000
set_option maxHeartbeats 4000000
namespace Mx
open PySem PySem.Spec PyProof.Rows L2 Evl TL
open PySem.W (Datum DatumOrd Tup SomeDatum)
/-! ### put, write_image -/
abbrev topM (i : Nat) : Stmt := PySem.Challenge.pw_sameinsameout_k15_whole_waves_of_machine.main.body.getD i (.Pass ⟨0, 0, 0, 0⟩)
abbrev sPut : Stmt := topM 18
abbrev sWim : Stmt := topM 12
abbrev sNums : Stmt := topM 19
structure BtM (mg : Str → Option Value) : Prop where
  len : mg "len" = none
  str : mg "str" = none
  sorted : mg "sorted" = none
  all : mg "all" = none
  int : mg "int" = none
  dict : mg "dict" = none
  range : mg "range" = none
  any : mg "any" = none
  dgI : ∃ t, mg "DIGITS_images" = some (.str "0123456789" t)
  dgM : ∃ t, mg "DIGITS_machines" = some (.str "0123456789" t)
instance {α : Type} [DecidableEq α] [Datum α] [SomeDatum α] [Firm α] : Firm (Option α) := ⟨fun o => match o with
  | none => rfl
  | some a => Firm.firm a⟩
/-- a write upon a dict -/
def spPut (K : PySem.W.Frag) : Sp := fun vs H Q _ => ∃ (d : Addr) (v : V) (l : List (Str × Str)) (p : Str × Option Str), vs = [.ref d, v] ∧ H d = some (.dK (dk V.str l)) ∧ l.length ≤ 1000 ∧ Dt K H v p ∧ ∀ H', (∀ a u, a ≠ d → H a = some u → H' a = some u) → H' d = some (.dK (dk V.str (putW l p))) → Q .non H'
/-- a dict of texts, its paths ascending in fl -/
def spWim : Sp := fun vs H Q _ => ∃ (d : Addr) (l fl : List (Str × Str)), vs = [.ref d] ∧ H d = some (.dK (dk V.str l)) ∧ l.Perm fl ∧ (l.map (·.1)).Nodup ∧ sortedS (fl.map (·.1)) = true ∧ fl.length ≤ 10 ∧ (∀ e ∈ fl, e.1.length ≤ 100 ∧ e.2.length ≤ 100) ∧ ∀ H', Ex H H' → Q (.str (imgT fl)) H'
def spNums : Sp := fun vs H Q _ => ∃ (d : Addr) (l : List (Str × Str)) (D : Dm), vs = [.ref d] ∧ H d = some (.dK (dk V.str l)) ∧ Dsk l D ∧ ∀ p H', H p = none → Ex H H' → H' p = some (.lst ((nums D).map fun n => V.int ((n : Nat) : Int))) → Q (.ref p) H'
section
variable {P : Program} {w : World} {K : PySem.W.Frag} {mg : Str → Option Value} {base : Heap}
theorem q_asgT2 {te : TE} {i j : Nat} {σ : L2.St} {H : Hp} {D : Ends} {tz : TS} {a : Addr} {u v : V} (h : Ev te σ H (.ref a)) (ha : SqT K H a [u, v]) (k : ∀ H1, Ex H H1 → tz D ((σ.set i (some u)).set j (some v)) H1) : tSeq (tAsg te (gTup K 2 (gCons (gName i) (gCons (gName j) gNil)))) tz D σ H := by
  show te σ H fun x H1 => gTup K 2 (gCons (gName i) (gCons (gName j) gNil)) x σ H1 (tz D)
  exact h H (Ex.refl H) _ fun H1 e => ⟨a, _, rfl, ex_t e ha, rfl, _, _, rfl, _, _, rfl, rfl, k H1 e⟩
theorem scPut : FnScope ["disk", "write", "path", "text"] ["disk", "write"] (defScope sPut) := ⟨rfl, rfl, rfl, by decide +kernel, rfl, by decide +kernel, by decide +kernel⟩
theorem ok_put {f : Addr} {fd : FuncData} (F : Fun K "put" "put" sPut f fd) : FnOk P w K mg base CX0 1 f fd ["disk", "write"] (spPut K) := by
  refine F.ok scPut (fun vs H Q E h => ?_) (fun cdv Ar outer s H vs Q E hr h => ?_)
  · obtain ⟨d, v, l, p, rfl, _⟩ := h
    rfl
  · obtain ⟨d, v, l, ⟨p, o⟩, rfl, hd, hl, dv, k⟩ := h
    have hu := hu_of hr
    refine ⟨_,
      (pss_cons (ps_asg (pv 1) (pg_tup rfl (pgs_cons (pg_name (i := 2) scPut.nd rfl (Or.inl rfl)) (pgs_cons (pg_name (i := 3) scPut.nd rfl (Or.inl rfl)) pgs_nil))))
      (pss_one (ps_if (pt_cmpR (op_isN) (pv 3) (pe_non) (nomark _)) (pss_one (ps_expr (pe_dpop2 (pv 0) (pv 2) pe_non ⟨rfl, rfl, rfl, rfl⟩))) (pss_one (ps_dput hu (pv 0) (pv 2) (pv 3) rfl))))), ?_⟩
    obtain ⟨a, x1, x2, rfl, ha, d1, d2⟩ := dt_pair_inv dv
    have e1 := dt_str_inv d1
    subst e1
    refine q_asgT2 (ev_var rfl) ha fun H1 e1 => ?_
    have hd1 := e1 _ _ hd
    cases o with
    | none =>
      have e2 : x2 = .non := by
        have h' : Dp K H x2 .none := d2
        cases h'
        rfl
      subst e2
      refine s_if (b := true) (et_is (et_test (ev_isN (ev_var (v := .non) rfl))) (decide_eq_true rfl)) (fun _ H2 e2 => ?_) (fun hb => nomatch hb)
      refine ⟨_, rfl, d, rfl, .inl ⟨_, .inl (e2 _ _ hd1)⟩, _, rfl, _, .inr p, e2 _ _ hd1, rfl, fun v hv => ?_, fun hv => ?_⟩
      · rw [dropK_dk]
        exact k _ (fun a u n hu => by rw [upd_ne n]; exact e2 _ _ (e1 _ _ hu)) upd_same
      · have nm : p ∉ l.map (·.1) := fun m => by
          rw [valV_dk] at hv
          have := hasA_mem.mpr m
          rw [hasA_look] at this
          cases q : l.lookup p with
          | none => rw [q] at this; cases this
          | some t => rw [q] at hv; cases hv
        refine k _ (fun a u n hu => e2 _ _ (e1 _ _ hu)) ?_
        show H2 d = some (.dK (dk V.str (dropA l p)))
        rw [dropA_id nm]
        exact e2 _ _ hd1
    | some t =>
      have e2 : x2 = .str t := dt_str_inv (show Dt K H x2 t from d2)
      subst e2
      refine s_if (b := false) (et_is (et_test (ev_isN (ev_var (v := .str t) rfl))) (decide_eq_false fun z => nomatch z)) (fun hb => nomatch hb) (fun _ H2 e2 => ?_)
      refine s_dput (k := .inr p) (v := .str t) (ev_var rfl) (ev_var rfl) (ev_var rfl) (e2 _ _ hd1) (by rw [dk_len]; omega) fun H3 e3 => ?_
      rw [putK_dk]
      exact k _ (fun a u n hu => by rw [upd_ne n]; exact e3 _ _ (e2 _ _ (e1 _ _ hu))) upd_same
theorem num_len : ∀ n : Nat, n < 101 → (numI (n : Int)).length ≤ 3 := by decide +kernel
theorem foldl_map' {α β γ : Type} (f : γ → β → γ) (g : α → β) : ∀ (l : List α) (x : γ), (l.map g).foldl f x = l.foldl (fun a e => f a (g e)) x
  | [], _ => rfl
  | a :: r, x => foldl_map' f g r _
theorem scWim : FnScope ["files", "parts", "path"] ["files"] (defScope sWim) := ⟨rfl, rfl, rfl, by decide +kernel, rfl, by decide +kernel, by decide +kernel⟩
theorem ok_wim {f : Addr} {fd : FuncData} (F : Fun K "write_image" "write_image" sWim f fd) (B : BtM mg) : FnOk P w K mg base CX0 1 f fd ["files"] spWim := by
  refine F.ok scWim (fun vs H Q E h => ?_) (fun cdv Ar outer s H vs Q E hr h => ?_)
  · obtain ⟨d, l, fl, rfl, _⟩ := h
    rfl
  · obtain ⟨d, l, fl, rfl, hd, pm, nd, so, few, sz, k⟩ := h
    have hu := hu_of hr
    refine ⟨_,
      (pss_cons (ps_set (i := 1) scWim.nd rfl (Or.inl rfl) (pe_lst (pa_cons (pe_op op_add_str (pe_op op_add_str (pe_str) (pe_callTy (call_str_int) (by rfl) B.str (by decide +kernel) (pa_cons (pe_callB (call_lenD) (by rfl) B.len (PySem.boot_len) (pa_cons (pv 0) pa_nil)) pa_nil))) (pe_str)) pa_nil)))
      (pss_cons (ps_for PassesOwn.never rfl (pi_list (pe_callB (call_sortedD rfl) (by rfl) B.sorted (by decide +kernel) (pa_cons (pv 0) pa_nil))) (pg_name (i := 2) scWim.nd rfl (Or.inl rfl)) (pss_one (ps_expr (pe_bm PySem.F.plainAttrs_list PySem.F.slot_list_append PySem.F.type_list_append mt_append (pv 1) (pa_cons (pe_op op_add_str (pe_op op_add_str (pe_op op_add_str (pe_op op_add_str (pe_op op_add_str (pv 2) (pe_str)) (pe_callTy (call_str_int) (by rfl) B.str (by decide +kernel) (pa_cons (pe_callB (call_len_str) (by rfl) B.len (PySem.boot_len) (pa_cons (pe_dget hu (pv 0) (pv 2) (fun _ _ => rfl)) pa_nil)) pa_nil))) (pe_str)) (pe_dget hu (pv 0) (pv 2) (fun _ _ => rfl))) (pe_str)) pa_nil)))))
      (pss_one (ps_ret (pe_join pe_str (pv 1)))))), ?_⟩
    have ll : l.length = fl.length := pm.length_eq
    have s1 : (" " : Str).length = 1 := by decide +kernel
    have s2 : ("\n" : Str).length = 1 := by decide +kernel
    have s3 : ("image " : Str).length = 6 := by decide +kernel
    have n0 := num_len fl.length (by omega)
    refine q_asgL (xs := [.str ("image " ++ numI (fl.length : Nat) ++ "\n")]) (el_lst (ea_cons (ev_addS (ev_addS ev_c (ev_is (ev_strI (i := (fl.length : Nat)) (ev_is (ev_lenD (ev_var rfl) hd) (by rw [dk_len, ll])) (by omega)) rfl) (by show ("image " : Str).length + (numI (fl.length : Nat)).length ≤ 100000; omega)) ev_c (by show ("image " ++ numI (fl.length : Nat)).length + ("\n" : Str).length ≤ 100000; simp only [len_app]; omega)) ea_nil) (by show 1 ≤ 100000; decide)) fun pp H1 npp e1 hpp => ?_
    refine q_forNLn (el_sortDk (ks := fl.map (·.1)) (ev_var rfl) (e1 _ _ hd) (pm.map _) so (by omega)) (fun p i σ' H' => ∃ v2, σ' = [some (.ref d), some (.ref pp), v2] ∧ Ex H H' ∧ H' p = some (.lst ((fl.map (·.1)).map V.str)) ∧ p ≠ pp ∧ H' pp = some (.lst ((("image " ++ numI (fl.length : Nat) ++ "\n") :: (fl.take i).map chunk).map V.str)))
      (fun p H2 np e2 hp => ⟨none, rfl, e1.trans e2, hp, fun z => (by rw [z, hpp] at np; cases np), e2 _ _ hpp⟩) (fun p i σ' H' _ ⟨_, _, _, z, _⟩ => sq_of z) (fun p i x σ' H' hx ⟨v2, es, e2, hp, ne, hq⟩ => ?_) (fun p σ' H' ⟨v2, es, e2, hp, ne, hq⟩ => ?_)
    · subst es
      rw [List.getElem?_map, List.getElem?_map] at hx
      cases q : fl[i]? with
      | none => rw [q] at hx; cases hx
      | some e =>
        rw [q] at hx
        cases hx
        have me := List.mem_of_getElem? q
        obtain ⟨z1, z2⟩ := sz e me
        have n1 := num_len e.2.length (by omega)
        have hi : i < fl.length := (List.getElem?_eq_some_iff.mp q).1
        have lk : l.lookup e.1 = some e.2 := look_of_mem nd (pm.mem_iff.mpr me)
        have gt : ∀ {H2 : Hp}, Ex H' H2 → Ev (tDGet (tVar 0) (tVar 2)) [some (.ref d), some (.ref pp), some (.str e.1)] H2 (.str e.2) := fun {H2} e3 => ev_dgetK (k := .inr e.1) (ev_var rfl) (ev_var rfl) (.inl (e3 _ _ (e2 _ _ hd))) (by rw [valV_dk, lk]; rfl)
        refine s_app hq (ev_var rfl) (v := .str (chunk e)) (ev_addS (ev_addS (ev_addS (ev_addS (ev_addS (ev_var rfl) ev_c (by omega)) (ev_strI (i := (e.2.length : Nat)) (ev_lenS (gt (Ex.refl _)) (by omega)) (by omega)) ?_) ev_c ?_) (gt (Ex.refl _)) ?_) ev_c ?_) (by rw [List.length_map, List.length_cons, List.length_map, List.length_take]; omega) fun H3 e3 => ?_
        · show (e.1 ++ " ").length + (numI (e.2.length : Nat)).length ≤ 100000
          simp only [len_app]; omega
        · show (e.1 ++ " " ++ numI (e.2.length : Nat)).length + ("\n" : Str).length ≤ 100000
          simp only [len_app]; omega
        · show (e.1 ++ " " ++ numI (e.2.length : Nat) ++ "\n").length + e.2.length ≤ 100000
          simp only [len_app]; omega
        · show (e.1 ++ " " ++ numI (e.2.length : Nat) ++ "\n" ++ e.2).length + ("\n" : Str).length ≤ 100000
          simp only [len_app]; omega
        · refine ⟨_, rfl, Ex.mut (e2.trans e3) npp, by rw [upd_ne ne]; exact e3 _ _ hp, ne, ?_⟩
          rw [upd_same, List.take_succ, q, List.map_append]
          simp
    · subst es
      rw [List.length_map, List.length_map, List.take_length] at hq
      have ej := join_nil (fl.map chunk) ("image " ++ numI (fl.length : Nat) ++ "\n")
      refine s_ret (v := .str (imgT fl)) (fun H3 e3 Q q => ⟨⟨_, rfl⟩, ⟨_, rfl, "", pp, ("image " ++ numI (fl.length : Nat) ++ "\n") :: fl.map chunk, rfl, rfl, .inl (sq_of (e3 _ _ hq)), ?_, ?_⟩⟩) fun H3 e3 => k H3 (e2.trans e3)
      · have : ∀ r : List (Str × Str), (∀ e ∈ r, e.1.length ≤ 100 ∧ e.2.length ≤ 100) → ((r.map chunk).map (·.length)).sum ≤ r.length * 300 := fun r => by
          induction r with
          | nil => intro _; simp
          | cons e r ih =>
            intro hz
            have ih := ih fun e' h => hz e' (List.mem_cons_of_mem _ h)
            obtain ⟨z1, z2⟩ := hz e (List.mem_cons_self ..)
            have n1 := num_len e.2.length (by omega)
            have c1 : (chunk e).length ≤ 300 := by
              unfold chunk
              simp only [len_app]
              omega
            rw [List.map_cons, List.map_cons, List.sum_cons, List.length_cons]
            omega
        have z := this fl sz
        rw [List.map_cons, List.sum_cons, List.length_cons, List.length_map]
        simp only [len_app]
        have e0 : ("" : Str).length = 0 := by decide +kernel
        rw [e0, Nat.mul_zero]
        omega
      · rw [ej, foldl_map']
        exact q H3 (Ex.refl H3)
end
end Mx
set_option Elab.async false
set_option linter.all false
set_option maxRecDepth 100000
set_option maxHeartbeats 4000000
namespace Mx
open PySem PySem.Spec PyProof.Rows L2 Evl TL
open PySem.W (Datum DatumOrd Tup SomeDatum)
section
variable {P : Program} {w : World} {K : PySem.W.Frag} {mg : Str → Option Value} {base : Heap}
/-! ### numbers -/
def hdK (i : Nat) : Str := (Txt.partition (kst i) "/").1
def nmK (i : Nat) : Str := cutS (hdK i) (some 1) none
def isK (i : Nat) : Bool := decide (cutS (hdK i) none (some 1) = "g") && (!decide (nmK i = "") && ((tl (nmK i)).map fun c => decide (c ∈ tl "0123456789")).all id)
theorem key_facts : ∀ i ∈ ids, isK i = decide (i ≠ 0) ∧ (i ≠ 0 → PySem.intText? (nmK i) = some ((i / 4 : Nat) : Int)) ∧ (kst i).length ≤ 20 ∧ (hdK i).length ≤ 20 ∧ (nmK i).length ≤ 20 ∧ (i ≠ 0 → i / 4 ∈ List.range' 1 7) := by decide +kernel
def nK (ns : List Nat) : List (Key × V) := ns.map fun n => ((Sum.inl ((n : Nat) : Int) : Key), V.bl true)
theorem inl_iff {a b : Nat} : ((Sum.inl (a : Int) : Key) = Sum.inl (b : Int)) ↔ a = b := ⟨fun h => by have := Sum.inl.inj h; omega, fun h => by rw [h]⟩
theorem putK_nK (ns : List Nat) (n : Nat) : putK (nK ns) (Sum.inl (n : Int)) (V.bl true) = nK (if n ∈ ns then ns else ns ++ [n]) := by
  have e : ((nK ns).any fun kv => decide (kv.1 = (Sum.inl (n : Int) : Key))) = decide (n ∈ ns) := by
    unfold nK
    rw [List.any_map]
    rw [Bool.eq_iff_iff, List.any_eq_true, decide_eq_true_eq]
    constructor
    · rintro ⟨x, hx, h⟩
      have := inl_iff.mp (of_decide_eq_true h)
      rw [← this]
      exact hx
    · intro h
      exact ⟨n, h, decide_eq_true rfl⟩
  unfold putK
  rw [e]
  by_cases c : n ∈ ns
  · rw [if_pos (decide_eq_true c), if_pos c]
    unfold nK
    rw [List.map_map]
    refine List.map_congr_left fun x _ => ?_
    show (if (Sum.inl ((x : Nat) : Int) : Key) = Sum.inl (n : Int) then _ else _) = _
    split
    · rfl
    · rfl
  · rw [if_neg (by simpa using c), if_neg c]
    unfold nK
    rw [List.map_append]
    rfl
theorem nums_mem {l : List (Str × Str)} {D : Dm} (h : Dsk l D) (n : Nat) : n ∈ nums D ↔ ∃ e ∈ l, ∃ i ∈ ids, e.1 = kst i ∧ i ≠ 0 ∧ n = i / 4 := by
  unfold nums
  rw [List.mem_filter, List.any_eq_true]
  constructor
  · rintro ⟨hn, j, hj, hd⟩
    have hn' : 1 ≤ n ∧ n < 8 := by
      have := List.mem_range'.mp hn
      omega
    have hj' : j < 4 := List.mem_range.mp hj
    obtain ⟨t, ht⟩ := Option.isSome_iff_exists.mp hd
    have hi : 4 * n + j ∈ ids := by
      unfold ids
      refine List.mem_cons_of_mem _ (List.mem_map.mpr ⟨4 * n + j - 4, List.mem_range.mpr (by omega), by omega⟩)
    exact ⟨(kst (4 * n + j), t), (h.mem _ _).mpr ⟨_, hi, rfl, ht⟩, _, hi, rfl, by omega, by omega⟩
  · rintro ⟨⟨k, t⟩, he, i, hi, ek, i0, rfl⟩
    obtain ⟨i', hi', ek', hd⟩ := (h.mem _ _).mp he
    have : i = i' := kst_inj hi hi' (by rw [← ek', ← ek])
    subst this
    refine ⟨(key_facts i hi).2.2.2.2.2 i0, i % 4, List.mem_range.mpr (Nat.mod_lt _ (by decide)), ?_⟩
    rw [show 4 * (i / 4) + i % 4 = i by omega, hd]
    rfl
theorem nums_sorted (D : Dm) : ((nums D).map fun n => ((n : Nat) : Int)).Pairwise (· ≤ ·) := by
  refine List.pairwise_map.mpr (List.Pairwise.imp (fun h => by omega) (List.Pairwise.filter _ (List.pairwise_lt_range' (s := 1) (n := 7))))
theorem nums_nodup (D : Dm) : (nums D).Nodup := List.Nodup.sublist List.filter_sublist (List.nodup_range' (s := 1) (n := 7))
abbrev rSortDI : List V → Hp → VK → Prop := fun xs H Q => ∃ (a : Addr) (kvs : List (Key × V)) (ks : List Int), xs = [.ref a] ∧ Rd H a (.dK kvs) ∧ kvs.map (·.1) = ks.map Sum.inl ∧ ks.length < 64 ∧
    ∀ (ys : List Int) (p : Addr), ys.Perm ks → ys.Pairwise (· ≤ ·) → H p = none → Q (.ref p) (upd H p (.lst (ys.map V.int)))
theorem scNums : FnScope ["disk", "found", "path", "head", "char"] ["disk"] (defScope sNums) := ⟨rfl, rfl, rfl, by decide +kernel, rfl, by decide +kernel, by decide +kernel⟩
theorem ok_nums {f : Addr} {fd : FuncData} (F : Fun K "numbers" "numbers" sNums f fd) (B : BtM mg) : FnOk P w K mg base CX0 1 f fd ["disk"] spNums := by
  refine F.ok scNums (fun vs H Q E h => ?_) (fun cdv Ar outer s H vs Q E hr h => ?_)
  · obtain ⟨d, l, D, rfl, _⟩ := h
    rfl
  · obtain ⟨d, l, D, rfl, hd, hD, k⟩ := h
    have hu := hu_of hr
    obtain ⟨tD, gD⟩ := B.dgM
    refine ⟨_,
      (pss_cons (ps_set (i := 1) scNums.nd rfl (Or.inl rfl) (pe_dnewK))
      (pss_cons (ps_lock (ps_for PassesOwn.never rfl (pi_keys (pv 0)) (pg_name (i := 2) scNums.nd rfl (Or.inl rfl)) (pss_cons (ps_set (i := 3) scNums.nd rfl (Or.inl rfl) (pe_ix ix_tup (pe_partition (pv 2) pe_str) pe_int (fun _ _ => rfl)))
      (pss_one (ps_if (PW.pt (pw_and (pt_cmpR (op_eq) (pe_slice sl_str (pv 3) po_none (po_some (pe_int))) (pe_str) (nomark _)) (pw_and (pt_cmpR (op_ne) (pe_slice sl_str (pv 3) (po_some (pe_int)) po_none) (pe_str) (nomark _)) (pw_and1 (pt_val (pe_callB (cr_all rfl) (by rfl) B.all (by decide +kernel) (pa_cons (pe_lc (own := [("char", 4)]) (g := gName 4) (tt := tYes) rfl scNums.nd (pi_str (pe_slice sl_str (pv 3) (po_some (pe_int)) po_none)) (blkOk_by (N := ["disk", "found", "path", "head", "char"]) (sc := defScope sNums) (by decide +kernel)) (fun _ _ _ _ _ => pg_name (i := 4) scNums.nd rfl (Or.inl rfl)) (fun _ _ _ _ _ => pts_nil) (fun _ _ _ _ _ => pe_cmpR op_in_sign (pv 4) (pe_glob (v := .str "0123456789") (by rfl) gD ⟨tD, rfl⟩) rfl)) pa_nil))))))) (pss_one (ps_dput hu (pv 1) (pe_callTy (call_int_str) (by rfl) B.int (by decide +kernel) (pa_cons (pe_slice sl_str (pv 3) (po_some (pe_int)) po_none) pa_nil)) (pe_bl) rfl)) pss_nil)))))
      (pss_one (ps_ret (pe_callB (call_sortedDI rfl) (by rfl) B.sorted (by decide +kernel) (pa_cons (pv 1) pa_nil)))))), ?_⟩
    have ll := hD.len
    intro pf hpf
    have npd : d ≠ pf := ne_of_none hd hpf
    refine q_forKeys (fun o i σ' H' => ∃ (ns : List Nat) (v2 v3 : Option V), σ' = [some (.ref d), some (.ref pf), v2, v3, none] ∧ (∀ a u, a ≠ d → H a = some u → H' a = some u) ∧ H' d = some (.frz o (.dK (dk V.str l))) ∧ H' pf = some (.dK (nK ns)) ∧ ns.Nodup ∧ ns.length ≤ i ∧ (∀ n, n ∈ ns ↔ ∃ e ∈ l.take i, ∃ id ∈ ids, e.1 = kst id ∧ id ≠ 0 ∧ n = id / 4))
      (fun o => ev_var rfl) (Ex.new hpf _ _ hd) (fun o H1 e1 => ⟨[], none, none, rfl, fun a u n ha => e1 _ _ (by rw [upd_ne n]; exact Ex.new hpf _ _ ha), e1 _ _ upd_same, e1 _ _ (by rw [upd_ne npd.symm]; exact upd_same), List.nodup_nil, Nat.le_refl _, fun n => by simp⟩)
      (fun o i σ' H' z => by obtain ⟨_, _, _, _, _, z, _⟩ := z; exact z) (fun o i kk v σ' H' rt bk hk z => ?_) (fun o σ' H' z => ?_)
    · obtain ⟨ns, v2, v3, es, kp, hdf, hpf', nn, nl, nm⟩ := z
      subst es
      obtain ⟨e, he, rfl, rfl⟩ := dk_at hk
      have me := List.mem_of_getElem? he
      obtain ⟨id, hid, ek, hdi⟩ := (hD.mem e.1 e.2).mp me
      obtain ⟨k1, k2, k3, k4, k5, k6⟩ := key_facts id hid
      have hi : i < l.length := (List.getElem?_eq_some_iff.mp he).1
      refine q_asg (v := .str (hdK id)) (ev_is (ev_part (a := kst id) (b := "/") (ev_var (by rw [← ek]; rfl)) ev_c (by decide +kernel) (by omega)) rfl) fun H1 e1 => ?_
      refine s_when (b := isK id) (et_is (et_and (et_test (ev_op (ev_slS (ev_var rfl) eo_none (eo_some ev_c) (by omega)) ev_c (rv_eq rfl))) fun _ => et_and (et_test (ev_op (ev_slS (ev_var rfl) (eo_some ev_c) eo_none (by omega)) ev_c (rv_ne rfl))) fun _ => et_B (ev_all (bs := (tl (nmK id)).map fun c => decide (c ∈ tl "0123456789")) ?_)) ?_) (fun hb H2 e2 => ?_) (fun hb H2 e2 => ?_)
      · rw [List.map_map]
        refine el_lcS (x := nmK id) (fun c => V.bl (decide (c ∈ tl "0123456789"))) (ev_slS (ev_var rfl) (eo_some ev_c) eo_none (by omega)) (by have := len_tl (nmK id); omega) (fun _ => rfl) fun c H2 e2 hc => ?_
        exact ev_op (ev_var rfl) ev_c rv_inS
      · rw [str_eq, str_eq]
        rfl
      · rw [k1] at hb
        have i0 := of_decide_eq_true hb
        refine s_dput (k := .inl ((id / 4 : Nat) : Int)) (v := .bl true) ev_c (ev_var rfl) (ev_intS (ev_slS (ev_var rfl) (eo_some ev_c) eo_none (by omega)) (k2 i0) (by show (nmK id).length ≤ 640; omega)) ((e1.trans e2) _ _ hpf') (by unfold nK; rw [List.length_map]; omega) fun H3 e3 => ?_
        rw [putK_nK]
        have npf : ∀ a u, a ≠ d → H a = some u → a ≠ pf := fun a u _ ha => ne_of_none ha hpf
        refine ⟨if id / 4 ∈ ns then ns else ns ++ [id / 4], _, _, rfl, fun a u n ha => by rw [upd_ne (npf a u n ha)]; exact (e1.trans (e2.trans e3)) _ _ (kp a u n ha), by rw [upd_ne npd]; exact (e1.trans (e2.trans e3)) _ _ hdf, upd_same, ?_, ?_, fun n => ?_⟩
        · split
          · exact nn
          · rename_i c
            exact List.nodup_append.mpr ⟨nn, by simp, fun a ha b hb => by
              have : b = id / 4 := by simpa using hb
              rw [this]
              exact fun z => c (by rw [← z]; exact ha)⟩
        · split
          · omega
          · rw [List.length_append]
            show ns.length + 1 ≤ i + 1
            omega
        · have hsplit : (n ∈ if id / 4 ∈ ns then ns else ns ++ [id / 4]) ↔ n ∈ ns ∨ n = id / 4 := by
            split
            · rename_i c
              exact ⟨.inl, fun z => z.elim (fun z => z) fun z => by rw [z]; exact c⟩
            · simp
          rw [hsplit, nm n, List.take_succ, he]
          constructor
          · rintro (⟨e', he', rest⟩ | z)
            · exact ⟨e', List.mem_append_left _ he', rest⟩
            · exact ⟨e, List.mem_append_right _ (by simp), id, hid, ek, i0, z⟩
          · rintro ⟨e', he', id', hid', ek', i0', z⟩
            rcases List.mem_append.mp he' with he' | he'
            · exact .inl ⟨e', he', id', hid', ek', i0', z⟩
            · have : e' = e := by simpa using he'
              subst this
              have : id' = id := kst_inj hid' hid (by rw [← ek', ← ek])
              subst this
              exact .inr z
      · rw [k1] at hb
        have i0 : id = 0 := by simpa using hb
        refine ⟨ns, _, _, rfl, fun a u n ha => (e1.trans e2) _ _ (kp a u n ha), (e1.trans e2) _ _ hdf, (e1.trans e2) _ _ hpf', nn, by omega, fun n => ?_⟩
        rw [nm n, List.take_succ, he]
        constructor
        · rintro ⟨e', he', rest⟩
          exact ⟨e', List.mem_append_left _ he', rest⟩
        · rintro ⟨e', he', id', hid', ek', i0', z⟩
          rcases List.mem_append.mp he' with he' | he'
          · exact ⟨e', he', id', hid', ek', i0', z⟩
          · have : e' = e := by simpa using he'
            subst this
            exact absurd (kst_inj hid' hid (by rw [← ek', ← ek])) (by rw [i0]; exact i0')
    · obtain ⟨ns, v2, v3, es, kp, hdf, hpf', nn, nl, nm⟩ := z
      subst es
      rw [dk_len] at nl nm
      rw [List.take_length] at nm
      have pm : ns.Perm (nums D) := perm_of_mem nn (nums_nodup D) fun n => by rw [nm n, nums_mem hD]
      have hE : Ex H (upd H' d (.dK (dk V.str l))) := fun a u ha => by
        by_cases c : a = d
        · rw [c] at ha ⊢
          rw [upd_same, ← ha, hd]
        · rw [upd_ne c]
          exact kp a u c ha
      refine ⟨_, rfl, pf, nK ns, ns.map fun n => ((n : Nat) : Int), rfl, .inl (by rw [upd_ne npd.symm]; exact hpf'), (by unfold nK; rw [List.map_map, List.map_map]; rfl), (by rw [List.length_map]; omega), fun ys p hy hs hp => ?_⟩
      have ey : ys = (nums D).map fun n => ((n : Nat) : Int) := List.Perm.eq_of_pairwise (fun a b _ _ h1 h2 => Int.le_antisymm h1 h2) hs (nums_sorted D) (hy.trans (pm.map _))
      rw [ey]
      refine k p _ (fresh_back hE hp) (hE.trans (Ex.new hp)) ?_
      rw [upd_same, List.map_map]
      rfl
end
end Mx
set_option Elab.async false
set_option linter.all false
set_option maxRecDepth 100000
set_option maxHeartbeats 4000000
namespace Mx
open PySem PySem.Spec PyProof.Rows L2 Evl TL
open PySem.W (Datum DatumOrd Tup SomeDatum)
/-! ### files_of, whole_numbers -/
abbrev sFo : Stmt := topM 21
abbrev sWhl : Stmt := topM 20
def bsN (n : Nat) : Str := "g" ++ numI (n : Int) ++ "/"
def hdF (n : Nat) : Str := bsN n ++ "f/"
theorem bs_facts : ∀ n ∈ List.range' 1 7, bsN n ++ "done" = kst (4 * n) ∧ (hdF n).length ≤ 20 ∧ 4 * n ∈ ids ∧ (numI (n : Int)).length ≤ 3 ∧ (bsN n).length ≤ 10 := by decide +kernel
theorem bs99 : (∀ i ∈ ids, bsN 99 ++ "done" ≠ kst i) ∧ (numI ((99 : Nat) : Int)).length ≤ 3 ∧ (bsN 99).length ≤ 10 := by decide +kernel
theorem hd_facts : ∀ n ∈ List.range' 1 7, ∀ i ∈ ids, Txt.startswith (kst i) (hdF n) = decide (i / 4 = n ∧ i % 4 ≠ 0) ∧ (i / 4 = n ∧ i % 4 ≠ 0 → cutS (kst i) (some ((hdF n).length : Nat)) none = pth (i % 4 - 1)) := by decide +kernel
theorem pth_facts : ∀ j ∈ List.range 3, (pth j).length ≤ 20 ∧ ∀ k ∈ List.range 3, pth j = pth k → j = k := by decide +kernel
theorem imgT_len : ∀ (fl : List (Str × Str)) (h : Str), (∀ e ∈ fl, e.1.length ≤ 100 ∧ e.2.length ≤ 100) → (fl.foldl (fun a e => a ++ chunk e) h).length ≤ h.length + fl.length * 300
  | [], h, _ => by show h.length ≤ h.length + 0 * 300; omega
  | e :: r, h, sz => by
    have ih := imgT_len r (h ++ chunk e) fun e' h => sz e' (List.mem_cons_of_mem _ h)
    obtain ⟨z1, z2⟩ := sz e (List.mem_cons_self ..)
    have n1 := num_len e.2.length (by omega)
    have c1 : (chunk e).length ≤ 300 := by
      unfold chunk
      have s1 : (" " : Str).length = 1 := by decide +kernel
      have s2 : ("\n" : Str).length = 1 := by decide +kernel
      simp only [len_app]
      omega
    rw [len_app] at ih
    show (r.foldl (fun a e => a ++ chunk e) (h ++ chunk e)).length ≤ _
    rw [List.length_cons]
    omega
theorem flD_mem {D : Dm} {n : Nat} {e : Str × Str} : e ∈ flD D n ↔ ∃ j, j < 3 ∧ D (4 * n + 1 + j) = some e.2 ∧ e.1 = pth j := by
  unfold flD
  rw [List.mem_filterMap]
  constructor
  · rintro ⟨j, hj, h⟩
    cases q : D (4 * n + 1 + j) with
    | none => rw [q] at h; cases h
    | some t =>
      rw [q] at h
      cases h
      exact ⟨j, List.mem_range.mp hj, q, rfl⟩
  · rintro ⟨j, hj, h1, h2⟩
    refine ⟨j, List.mem_range.mpr hj, ?_⟩
    rw [h1]
    obtain ⟨a, b⟩ := e
    show some (pth j, b) = some (a, b)
    rw [show a = pth j from h2]
theorem flD_keys (D : Dm) (n : Nat) : (flD D n).map (·.1) = ((List.range 3).filter fun j => (D (4 * n + 1 + j)).isSome).map pth := by
  unfold flD
  generalize List.range 3 = r
  induction r with
  | nil => rfl
  | cons j r ih =>
    rw [List.filterMap_cons, List.filter_cons]
    cases q : D (4 * n + 1 + j) with
    | none => exact ih
    | some t =>
      show pth j :: _ = _
      rw [ih]
      rfl
theorem sub3 : ∀ b0 b1 b2 : Bool, sortedS (([0, 1, 2].filter fun j => [b0, b1, b2].getD j false).map pth) = true ∧ (([0, 1, 2].filter fun j => [b0, b1, b2].getD j false).map pth).Nodup := by decide +kernel
theorem flD_sorted (D : Dm) (n : Nat) : sortedS ((flD D n).map (·.1)) = true ∧ ((flD D n).map (·.1)).Nodup := by
  rw [flD_keys]
  have e : ((List.range 3).filter fun j => (D (4 * n + 1 + j)).isSome) = [0, 1, 2].filter fun j => [(D (4 * n + 1 + 0)).isSome, (D (4 * n + 1 + 1)).isSome, (D (4 * n + 1 + 2)).isSome].getD j false := by
    refine List.filter_congr fun j hj => ?_
    have : j = 0 ∨ j = 1 ∨ j = 2 := by
      have := List.mem_range.mp hj
      omega
    rcases this with rfl | rfl | rfl <;> rfl
  rw [e]
  exact sub3 _ _ _
theorem flD_len (D : Dm) (n : Nat) : (flD D n).length ≤ 3 := Nat.le_trans (List.length_filterMap_le _ _) (by rw [List.length_range]; exact Nat.le_refl _)
/-- the texts are small -/
def Dm.Sm (D : Dm) : Prop := ∀ i ∈ ids, ∀ t, D i = some t → t.length ≤ 100
theorem file_id {n j : Nat} (hn : n ∈ List.range' 1 7) (hj : j < 3) : 4 * n + 1 + j ∈ ids := by
  have := List.mem_range'.mp hn
  unfold ids
  exact List.mem_cons_of_mem _ (List.mem_map.mpr ⟨4 * n + 1 + j - 4, List.mem_range.mpr (by omega), by omega⟩)
theorem flD_size {D : Dm} (h : D.Sm) {n : Nat} (hn : n ∈ List.range' 1 7) : ∀ e ∈ flD D n, e.1.length ≤ 100 ∧ e.2.length ≤ 100 := fun e he => by
  obtain ⟨j, hj, hd, ek⟩ := flD_mem.mp he
  have := (pth_facts j (List.mem_range.mpr hj)).1
  exact ⟨by rw [ek]; omega, h _ (file_id hn hj) _ hd⟩
def spFo : Sp := fun vs H Q _ => ∃ (d : Addr) (l : List (Str × Str)) (D : Dm) (n : Nat), vs = [.ref d, .int (n : Int)] ∧ H d = some (.dK (dk V.str l)) ∧ Dsk l D ∧ D.Sm ∧ ((n = 99 ∧ ∀ H', Ex H H' → Q .non H') ∨ (n ∈ List.range' 1 7 ∧
  (wholeB D n = false → ∀ H', Ex H H' → Q .non H') ∧ (wholeB D n = true → ∀ p H' fl, H p = none → Ex H H' → H' p = some (.dK (dk V.str fl)) → fl.Perm (flD D n) → Q (.ref p) H')))
def spWhl : Sp := fun vs H Q _ => ∃ (d : Addr) (l : List (Str × Str)) (D : Dm), vs = [.ref d] ∧ H d = some (.dK (dk V.str l)) ∧ Dsk l D ∧ D.Sm ∧ ∀ p H', H p = none → Ex H H' → H' p = some (.lst ((wholes D).map fun n => V.int ((n : Nat) : Int))) → Q (.ref p) H'
section
variable {P : Program} {w : World} {K : PySem.W.Frag} {mg : Str → Option Value} {base : Heap}
theorem scFo : FnScope ["disk", "number", "base", "head", "files", "path", "text"] ["disk", "number"] (defScope sFo) := ⟨rfl, rfl, rfl, by decide +kernel, rfl, by decide +kernel, by decide +kernel⟩
theorem ok_fo {f : Addr} {fd : FuncData} (F : Fun K "files_of" "files_of" sFo f fd) (B : BtM mg) (hD : Has P w K mg base CX0 2 "digest" ["text"] spDig) (hWim : Has P w K mg base CX0 1 "write_image" ["files"] spWim) : FnOk P w K mg base CX0 3 f fd ["disk", "number"] spFo := by
  refine F.ok scFo (fun vs H Q E h => ?_) (fun cdv Ar outer s H vs Q E hr h => ?_)
  · obtain ⟨d, l, D, n, rfl, _⟩ := h
    rfl
  · obtain ⟨d, l, D, n, rfl, hd, hD', sm, k⟩ := h
    have hu := hu_of hr
    refine ⟨_,
      (pss_cons (ps_set (i := 2) scFo.nd rfl (Or.inl rfl) (pe_op op_add_str (pe_op op_add_str (pe_str) (pe_callTy (call_str_int) (by rfl) B.str (by decide +kernel) (pa_cons (pv 1) pa_nil))) (pe_str)))
      (pss_cons (ps_if (pt_cmp (pc_dnotin hu (pe_op op_add_str (pv 2) (pe_str)) (pv 0))) (pss_one (ps_ret (pe_non))) pss_nil)
      (pss_cons (ps_set (i := 3) scFo.nd rfl (Or.inr rfl) (pe_op op_add_str (pv 2) (pe_str)))
      (pss_cons (ps_lock (ps_setDc (i := 4) (own := [("path", 5), ("text", 6)]) (g := gTup K 2 (gCons (gName 5) (gCons (gName 6) gNil))) (by rfl) scFo.nd rfl rfl (sw_trueD rfl rfl rfl (by decide +kernel)) (pi_items (pv 0)) (blkOk_by (N := ["disk", "number", "base", "head", "files", "path", "text"]) (sc := defScope sFo) (by decide +kernel)) (fun _ _ _ _ _ => pg_tup rfl (pgs_cons (pg_name (i := 5) scFo.nd rfl (Or.inl rfl)) (pgs_cons (pg_name (i := 6) scFo.nd rfl (Or.inl rfl)) pgs_nil))) (fun _ _ _ _ _ => pts_one (pt_val (pe_m1 PySem.F.slot_str_startswith PySem.F.type_str_startswith mt_startswith (pv 5) (pv 3)))) (fun _ _ _ _ _ => pe_slice sl_str (pv 5) (po_some (pe_callB (call_len_str) (by rfl) B.len (PySem.boot_len) (pa_cons (pv 3) pa_nil))) po_none) (fun _ _ _ _ _ => pv 6)))
      (pss_one (ps_ret (pe_ifExp (pt_cmpR (op_eq) (pe_h hD hr (by rfl) pass0 (pa_cons (pe_h hWim hr (by rfl) pass0 (pa_cons (pv 4) pa_nil)) pa_nil)) (pe_dget hu (pv 0) (pe_op op_add_str (pv 2) (pe_str)) (fun _ _ => rfl)) (nomark _)) (pv 4) pe_non))))))), ?_⟩
    have s1 : ("g" : Str).length = 1 := by decide +kernel
    have s2 : ("/" : Str).length = 1 := by decide +kernel
    have s4 : ("done" : Str).length = 4 := by decide +kernel
    have s5 : ("f/" : Str).length = 2 := by decide +kernel
    have nl : (numI (n : Int)).length ≤ 3 ∧ (bsN n).length ≤ 10 ∧ n ≤ 99 := by
      rcases k with ⟨rfl, _⟩ | ⟨hn, _⟩
      · exact ⟨bs99.2.1, bs99.2.2, Nat.le_refl _⟩
      · have := List.mem_range'.mp hn
        exact ⟨(bs_facts n hn).2.2.2.1, (bs_facts n hn).2.2.2.2, by omega⟩
    refine q_asg (v := .str (bsN n)) (ev_addS (ev_addS ev_c (ev_strI (i := (n : Int)) (ev_var rfl) (by omega)) (by show ("g" : Str).length + (numI (n : Int)).length ≤ 100000; omega)) ev_c (by show ("g" ++ numI (n : Int)).length + ("/" : Str).length ≤ 100000; simp only [len_app]; omega)) fun H1 e1 => ?_
    have hd1 := e1 _ _ hd
    have kd : ∀ {H2 : Hp} {σ : L2.St}, σ[2]? = some (some (.str (bsN n))) → Ev (tOp rAddS (tVar 2) (tC (.str "done"))) σ H2 (.str (bsN n ++ "done")) := fun {H2 σ} g => ev_addS (ev_var g) ev_c (by omega)
    have nt := et_dnin (k := .inr (bsN n ++ "done")) (σ := [some (.ref d), some (.int (n : Int)), some (.str (bsN n)), none, none, none, none]) (H := H1) (kd rfl) (ev_var (i := 0) rfl) (.inl hd1)
    rw [valV_dk] at nt
    rcases k with ⟨e99, k⟩ | ⟨hn, k1, k2⟩
    · subst e99
      have nk : l.lookup (bsN 99 ++ "done") = none := hD'.none_key fun i hi _ => bs99.1 i hi
      rw [nk] at nt
      refine q_when (b := true) nt (fun _ H2 e2 => ?_) (fun hb => nomatch hb)
      exact s_ret ev_c fun H3 e3 => k H3 (e1.trans (e2.trans e3))
    · obtain ⟨b1, b2, b3, b4, b5⟩ := bs_facts n hn
      rw [b1, hD'.look b3] at nt
      cases q4 : D (4 * n) with
      | none =>
        rw [q4] at nt
        refine q_when (b := true) nt (fun _ H2 e2 => ?_) (fun hb => nomatch hb)
        refine s_ret ev_c fun H3 e3 => k1 ?_ H3 (e1.trans (e2.trans e3))
        unfold wholeB
        rw [q4]
      | some dg =>
        rw [q4] at nt
        refine q_when (b := false) nt (fun hb => nomatch hb) fun _ H2 e2 => ?_
        refine q_asg (v := .str (hdF n)) (ev_addS (ev_var rfl) ev_c (by omega)) fun H3 e3 => ?_
        have hd3 := (e2.trans e3) _ _ hd1
        have lk : ∀ e ∈ l, ∃ i ∈ ids, e.1 = kst i ∧ D i = some e.2 := fun e he => (hD'.mem e.1 e.2).mp he
        have hst : ∀ e ∈ l, ∀ i ∈ ids, e.1 = kst i → (Txt.startswith e.1 (hdF n) = decide (i / 4 = n ∧ i % 4 ≠ 0)) := fun e _ i hi ek => by rw [ek]; exact (hd_facts n hn i hi).1
        have ndf : ((l.filter fun e => Txt.startswith e.1 (hdF n)).map fun e => cutS e.1 (some ((hdF n).length : Nat)) none).Nodup := by
          refine List.pairwise_map.mpr (List.Pairwise.imp_of_mem (fun {a b} ha hb hab => ?_) (List.Pairwise.filter _ (List.pairwise_map.mp hD'.nd)))
          obtain ⟨ha1, ha2⟩ := List.mem_filter.mp ha
          obtain ⟨hb1, hb2⟩ := List.mem_filter.mp hb
          obtain ⟨i, hi, ei, _⟩ := lk a ha1
          obtain ⟨j, hj, ej, _⟩ := lk b hb1
          rw [hst a ha1 i hi ei] at ha2
          rw [hst b hb1 j hj ej] at hb2
          have ca := of_decide_eq_true ha2
          have cb := of_decide_eq_true hb2
          rw [ei, ej, (hd_facts n hn i hi).2 ca, (hd_facts n hn j hj).2 cb]
          intro z
          have := (pth_facts (i % 4 - 1) (List.mem_range.mpr (by omega))).2 (j % 4 - 1) (List.mem_range.mpr (by omega)) z
          have : i = j := by omega
          exact hab (by rw [ei, ej, this])
        refine q_asgPL (evp_dcI (fun k => Txt.startswith k (hdF n)) (fun k => cutS k (some ((hdF n).length : Nat)) none) (fun o => ev_var rfl) hd3 (by have := hD'.len; omega) ndf (fun _ _ => rfl) (fun e H4 _ => et_B (ev_starts (ev_var rfl) (ev_var rfl)))
          (fun e H4 he hp => ?_) (fun e H4 => ev_var rfl)) fun v H4 e4 ⟨q, ev, nq, hq⟩ => ?_
        · obtain ⟨i, hi, ei, _⟩ := lk e he
          have := (key_facts i hi).2.2.1
          exact ev_slS (ev_var rfl) (eo_some (ev_lenS (ev_var rfl) (by omega))) eo_none (by rw [ei]; omega)
        · subst ev
          have pm : ((l.filter fun e => Txt.startswith e.1 (hdF n)).map fun e => (cutS e.1 (some ((hdF n).length : Nat)) none, e.2)).Perm (flD D n) := by
            have n1 : ((l.filter fun e => Txt.startswith e.1 (hdF n)).map fun e => (cutS e.1 (some ((hdF n).length : Nat)) none, e.2)).Nodup := by
              have := ndf
              rw [show (fun e : Str × Str => cutS e.1 (some ((hdF n).length : Nat)) none) = (·.1) ∘ (fun e : Str × Str => (cutS e.1 (some ((hdF n).length : Nat)) none, e.2)) from rfl, ← List.map_map] at this
              exact (List.pairwise_map.mp this).imp fun n e => n (by rw [e])
            have n2 : (flD D n).Nodup := (List.pairwise_map.mp (flD_sorted D n).2).imp fun n e => n (by rw [e])
            refine perm_of_mem n1 n2 fun e => ?_
            rw [flD_mem, List.mem_map]
            constructor
            · rintro ⟨x, hx, rfl⟩
              obtain ⟨hx1, hx2⟩ := List.mem_filter.mp hx
              obtain ⟨i, hi, ei, hdi⟩ := lk x hx1
              rw [hst x hx1 i hi ei] at hx2
              have c := of_decide_eq_true hx2
              refine ⟨i % 4 - 1, by omega, ?_, ?_⟩
              · rw [show 4 * n + 1 + (i % 4 - 1) = i by omega]
                exact hdi
              · show cutS x.1 _ none = _
                rw [ei, (hd_facts n hn i hi).2 c]
            · rintro ⟨j, hj, hdj, ek⟩
              have hid := file_id hn hj
              have mm : (4 * n + 1 + j) / 4 = n ∧ (4 * n + 1 + j) % 4 ≠ 0 := by omega
              refine ⟨(kst (4 * n + 1 + j), e.2), List.mem_filter.mpr ⟨(hD'.mem _ _).mpr ⟨_, hid, rfl, hdj⟩, ?_⟩, ?_⟩
              · rw [(hd_facts n hn _ hid).1]
                exact decide_eq_true mm
              · show (cutS (kst (4 * n + 1 + j)) _ none, e.2) = e
                rw [(hd_facts n hn _ hid).2 mm, show (4 * n + 1 + j) % 4 - 1 = j by omega, ← ek]
          have fr : H q = none := fresh_back ((e1.trans e2).trans e3) nq
          have nd' : (((l.filter fun e => Txt.startswith e.1 (hdF n)).map fun e => (cutS e.1 (some ((hdF n).length : Nat)) none, e.2)).map (·.1)).Nodup := by
            rw [List.map_map]
            exact ndf
          have tst : ∀ (σ : L2.St), σ[4]? = some (some (.ref q)) → σ[0]? = some (some (.ref d)) → σ[2]? = some (some (.str (bsN n))) → EvT (tTest (tOp rEq (tCall spDig [] E0 (tCons (tCall spWim [] E0 (tCons (tVar 4) tNil)) tNil)) (tDGet (tVar 0) (tOp rAddS (tVar 2) (tC (.str "done")))))) σ H4 (wholeB D n) := fun σ g1 g2 g3 => by
            have il := imgT_len (flD D n) ("image " ++ numI ((flD D n).length : Nat) ++ "\n") (flD_size sm hn)
            have fl3 := flD_len D n
            have n0 := num_len (flD D n).length (by omega)
            have s6 : ("image " : Str).length = 6 := by decide +kernel
            have s7 : ("\n" : Str).length = 1 := by decide +kernel
            have lim : (imgT (flD D n)).length ≤ 1000000 := by
              unfold imgT
              simp only [len_app] at il
              omega
            refine et_is (et_test (ev_op (ev_call (sp := spDig) (z := .str (digS (imgT (flD D n)))) (ea_cons (ev_call (sp := spWim) (z := .str (imgT (flD D n))) (ea_cons (ev_var g1) ea_nil) fun H5 e5 Q q5 E => ⟨q, _, flD D n, rfl, e5 _ _ hq, pm, nd', (flD_sorted D n).1, by omega, flD_size sm hn, q5⟩) ea_nil) fun H5 e5 Q q5 E => ⟨_, rfl, lim, q5 H5 (Ex.refl H5)⟩)
              (ev_dgetK (k := .inr (kst (4 * n))) (v := .str dg) (ev_var g2) (b1 ▸ kd g3) (.inl (e4 _ _ hd3)) (by rw [valV_dk, hD'.look b3, q4]; rfl)) (rv_eq rfl))) ?_
            unfold wholeB
            rw [q4, str_eq]
          cases wb : wholeB D n with
          | true =>
            refine s_ret (v := .ref q) (ev_if (b := true) (wb ▸ tst _ rfl rfl rfl) (fun _ => ev_var rfl) (fun h => nomatch h)) fun H5 e5 => ?_
            exact k2 wb q H5 _ fr ((((e1.trans e2).trans e3).trans e4).trans e5) (e5 _ _ hq) pm
          | false =>
            refine s_ret (v := .non) (ev_if (b := false) (wb ▸ tst _ rfl rfl rfl) (fun h => nomatch h) (fun _ => ev_c)) fun H5 e5 => ?_
            exact k1 wb H5 ((((e1.trans e2).trans e3).trans e4).trans e5)
theorem scWhl : FnScope ["disk", "number"] ["disk"] (defScope sWhl) := ⟨rfl, rfl, rfl, by decide +kernel, rfl, by decide +kernel, by decide +kernel⟩
theorem nums_in {D : Dm} {n : Nat} (h : n ∈ nums D) : n ∈ List.range' 1 7 := (List.mem_filter.mp h).1
theorem nums_len (D : Dm) : (nums D).length ≤ 7 := Nat.le_trans (List.length_filter_le _ _) (by rw [List.length_range']; exact Nat.le_refl _)
theorem ok_whl {f : Addr} {fd : FuncData} (F : Fun K "whole_numbers" "whole_numbers" sWhl f fd) (hNu : Has P w K mg base CX0 1 "numbers" ["disk"] spNums) (hFo : Has P w K mg base CX0 3 "files_of" ["disk", "number"] spFo) : FnOk P w K mg base CX0 4 f fd ["disk"] spWhl := by
  refine F.ok scWhl (fun vs H Q E h => ?_) (fun cdv Ar outer s H vs Q E hr h => ?_)
  · obtain ⟨d, l, D, rfl, _⟩ := h
    rfl
  · obtain ⟨d, l, D, rfl, hd, hD', sm, k⟩ := h
    refine ⟨_,
      (pss_one (ps_ret (pe_lc (own := [("number", 1)]) (g := gName 1) rfl scWhl.nd (pi_list (pe_h hNu hr (by rfl) pass0 (pa_cons (pv 0) pa_nil))) (blkOk_by (N := ["disk", "number"]) (sc := defScope sWhl) (by decide +kernel)) (fun _ _ _ _ _ => pg_name (i := 1) scWhl.nd rfl (Or.inl rfl)) (fun _ _ _ _ _ => pts_one (pt_cmpR (op_notN) (pe_h hFo hr (by rfl) pass0 (pa_cons (pv 0) (pa_cons (pv 1) pa_nil))) (pe_non) (nomark _))) (fun _ _ _ _ _ => pv 1)))), ?_⟩
    have nl := nums_len D
    have el := el_lcNL (K := K) (σ := L2.start ["disk", "number"] [.ref d]) (H := H) (t := tTest (tOp rNotNn (tCall spFo [] E0 (tCons (tVar 0) (tCons (tVar 1) tNil))) (tC .non))) (te := tVar 1) (j := 1) (vs := [1]) (tl := tCall spNums [] E0 (tCons (tVar 0) tNil)) (xs := (nums D).map fun n => V.int ((n : Nat) : Int))
      (fun i => wholeB D ((nums D).getD i 0)) (fun i => V.int (((nums D).getD i 0 : Nat) : Int)) (el_call (ea_cons (ev_var rfl) ea_nil) fun H1 e1 Q q E => ⟨d, l, D, rfl, e1 _ _ hd, hD', q⟩) (by rw [List.length_map]; omega) (fun _ => rfl)
      (fun i x H1 e1 hx => ?_) (fun i x H1 e1 hx hf => ?_)
    · rw [List.length_map, given_map (nums D) (wholeB D) (fun n => V.int ((n : Nat) : Int)) _ _ (fun i x hx => by rw [List.getD_eq_getElem?_getD, hx]; rfl) (fun i x hx => by rw [List.getD_eq_getElem?_getD, hx]; rfl)] at el
      exact s_retL el fun p H1 np e1 hp => k p H1 np e1 hp
    · rw [List.getElem?_map] at hx
      cases q : (nums D)[i]? with
      | none => rw [q] at hx; cases hx
      | some n =>
        rw [q] at hx
        cases hx
        rw [show (nums D).getD i 0 = n by rw [List.getD_eq_getElem?_getD, q]; rfl]
        have hn := nums_in (List.mem_of_getElem? q)
        refine fun H2 e2 Q q2 => t_callQ (ea_cons (ev_var rfl) (ea_cons (ev_var rfl) ea_nil)) fun H3 e3 => ⟨d, l, D, n, rfl, ((e1.trans e2).trans e3) _ _ hd, hD', sm, .inr ⟨hn, fun wb H4 e4 => ?_, fun wb p H4 fl np e4 hp pm => ?_⟩⟩
        · rw [wb] at q2
          exact ⟨rfl, false, by rw [decide_eq_true rfl]; rfl, q2 H4 (e3.trans e4)⟩
        · rw [wb] at q2
          exact ⟨rfl, true, by rw [decide_eq_false (fun z => nomatch z)]; rfl, q2 H4 (e3.trans e4)⟩
    · rw [List.getElem?_map] at hx
      cases q : (nums D)[i]? with
      | none => rw [q] at hx; cases hx
      | some n =>
        rw [q] at hx
        cases hx
        rw [show (nums D).getD i 0 = n by rw [List.getD_eq_getElem?_getD, q]; rfl]
        exact ev_var rfl
end
end Mx
set_option Elab.async false
set_option linter.all false
set_option maxRecDepth 100000
set_option maxHeartbeats 4000000
namespace Mx
open PySem PySem.Spec PyProof.Rows L2 Evl TL
open PySem.W (Datum DatumOrd Tup SomeDatum)
/-! ### number_at, read_image -/
abbrev sNat : Stmt := topM 13
abbrev sRd : Stmt := topM 14
def spNat : Sp := fun vs H Q _ => ∃ (x : Str) (a d : Nat), vs = [.str x, .int (a : Int)] ∧ x.length ≤ 600 ∧ natF x a d = true ∧ ∀ p H', Ex H H' → H' p = some (.tup [.int (d : Int), .int ((a + 2 : Nat) : Int)]) → Q (.ref p) H'
def spRd : Sp := fun vs H Q _ => ∃ ds : List Nat, vs = [.str (imgS ds)] ∧ ds ∈ Imgs ∧ ∀ p H', H p = none → Ex H H' → H' p = some (.dK (dk V.str (filesL ds))) → Q (.ref p) H'
theorem dig_in : ∀ d : Nat, d < 10 → decide (48 + d ∈ tl "0123456789") = true := by decide +kernel
theorem nl_out : decide (10 ∈ tl "0123456789") = false := by decide +kernel
theorem pth_rd : ∀ j : Nat, j < 3 → pth j ≠ "" ∧ decide (10 ∈ tl (pth j)) = false ∧ (pth j).length = 3 ∧ (!decide ((if j = 0 then ("" : Str) else pth (j - 1)).cps.toList < (pth j).cps.toList)) = false := by decide +kernel
section
variable {P : Program} {w : World} {K : PySem.W.Frag} {mg : Str → Option Value} {base : Heap}
theorem q_asgT2P {te : TE} {i j : Nat} {σ : L2.St} {H : Hp} {D : Ends} {tz : TS} {u v : V} (h : EvP te σ H fun x H2 => ∃ a, x = .ref a ∧ H2 a = some (.tup [u, v])) (k : ∀ H1, Ex H H1 → tz D ((σ.set i (some u)).set j (some v)) H1) : tSeq (tAsg te (gTup K 2 (gCons (gName i) (gCons (gName j) gNil)))) tz D σ H := by
  show te σ H fun x H1 => gTup K 2 (gCons (gName i) (gCons (gName j) gNil)) x σ H1 (tz D)
  exact h H (Ex.refl H) _ fun x H1 e ⟨a, ex, ha⟩ => ⟨a, _, ex, st_of ha, rfl, _, _, rfl, _, _, rfl, rfl, k H1 e⟩
theorem scNat : FnScope ["text", "at", "end"] ["text", "at"] (defScope sNat) := ⟨rfl, rfl, rfl, by decide +kernel, rfl, by decide +kernel, by decide +kernel⟩
theorem ok_nat {f : Addr} {fd : FuncData} (F : Fun K "number_at" "number_at" sNat f fd) (B : BtM mg) : FnOk P w K mg base CX0 1 f fd ["text", "at"] spNat := by
  refine F.ok scNat (fun vs H Q E h => ?_) (fun cdv Ar outer s H vs Q E hr h => ?_)
  · obtain ⟨x, a, d, rfl, _⟩ := h
    rfl
  · obtain ⟨x, a, d, rfl, lx, nf, k⟩ := h
    obtain ⟨tD, gD⟩ := B.dgI
    unfold natF at nf
    simp only [Bool.and_eq_true, decide_eq_true_eq] at nf
    obtain ⟨g1, g2, g3, g4, g5⟩ := nf
    refine ⟨_,
      (pss_cons (ps_set (i := 2) scNat.nd rfl (Or.inl rfl) (pv 1))
      (pss_cons (ps_while PassesOwn.never (PW.pt (pw_and (pt_cmpR (op_lt) (pv 2) (pe_callB (call_len_str) (by rfl) B.len (PySem.boot_len) (pa_cons (pv 0) pa_nil)) (nomark _)) (pw_and1 (pt_cmpR op_in_sign (pe_ix ix_str (pv 0) (pv 2) (fun _ _ => rfl)) (pe_glob (v := .str "0123456789") (by rfl) gD ⟨tD, rfl⟩) (by rfl))))) (pss_one (ps_aug (i := 2) scNat.nd rfl (.inl rfl) pe_int ip_add)))
      (pss_cons (ps_if (PW.pt (pw_or (pt_cmpR (op_eq) (pv 2) (pv 1) (nomark _)) (pw_or (pt_cmpR (op_ne) (pe_slice sl_str (pv 0) (po_some (pv 2)) (po_some (pe_op op_add (pv 2) (pe_int)))) (pe_str) (nomark _)) (pw_or1 (pt_cmpR (op_gt) (pe_op op_sub (pv 2) (pv 1)) (pe_int) (nomark _)))))) (pss_one (ps_never)) pss_nil)
      (pss_one (ps_ret (pe_tup (pa_cons (pe_callTy (call_int_str) (by rfl) B.int (by decide +kernel) (pa_cons (pe_slice sl_str (pv 0) (po_some (pv 1)) (po_some (pv 2))) pa_nil)) (pa_cons (pe_op op_add (pv 2) (pe_int)) pa_nil)))))))), ?_⟩
    have lt : a + 1 < (tl x).length := (List.getElem?_eq_some_iff.mp g3).1
    have lt' : a + 1 < x.length := by rw [len_tl]; exact lt
    refine q_asg (ev_var rfl) fun H1 e1 => ?_
    refine q_while (fun m σ' H' => Ex H H' ∧ ((m = 1 ∧ σ' = [some (.str x), some (.int (a : Int)), some (.int (a : Int))]) ∨ (m = 0 ∧ σ' = [some (.str x), some (.int (a : Int)), some (.int ((a + 1 : Nat) : Int))]))) 1 ⟨e1, .inl ⟨rfl, rfl⟩⟩ (fun m σ' H' z => ?_)
    obtain ⟨e2, ⟨rfl, es⟩ | ⟨rfl, es⟩⟩ := z
    · subst es
      refine ⟨true, et_is (et_and (et_test (ev_op (ev_var rfl) (ev_lenS (ev_var rfl) (by omega)) rv_I0)) fun _ => et_test (ev_op (ev_op (ev_var rfl) (ev_var rfl) (rv_ixS (by omega) (atI_nat g1))) ev_c rv_inS)) ?_, fun _ H2 e3 => ?_, fun h => nomatch h⟩
      · rw [dig_in d g2, decide_eq_true (show (a : Int) < (x.length : Nat) by omega)]
        rfl
      · refine ⟨fun σ2 H2 => Ex H H2 ∧ σ2 = [some (.str x), some (.int (a : Int)), some (.int ((a + 1 : Nat) : Int))], fun σ2 H2 ⟨z1, z2⟩ => ⟨0, by decide, z1, .inr ⟨rfl, z2⟩⟩, ?_⟩
        exact s_aug (a := (a : Int)) (b := 1) rfl ev_c fun H3 e4 => ⟨e2.trans (e3.trans e4), rfl⟩
    · subst es
      refine ⟨false, et_is (et_and (et_test (ev_op (ev_var rfl) (ev_lenS (ev_var rfl) (by omega)) rv_I0)) fun _ => et_test (ev_op (ev_op (ev_var rfl) (ev_var rfl) (rv_ixS (by omega) (atI_nat g3))) ev_c rv_inS)) ?_, (fun h => nomatch h), fun _ H2 e3 => ?_⟩
      · rw [nl_out, Bool.and_false]
      · refine q_when (b := false) (et_is (et_or (et_test (ev_op (ev_var rfl) (ev_var rfl) (rv_eq rfl))) fun _ => et_or (et_test (ev_op (ev_slS (ev_var rfl) (eo_some (ev_var rfl)) (eo_some (ev_op (ev_var rfl) ev_c rv_I0)) (by omega)) ev_c (rv_ne rfl))) fun _ => et_test (ev_op (ev_op (ev_var rfl) (ev_var rfl) rv_I0) ev_c rv_I0)) ?_) (fun h => nomatch h) fun _ H3 e4 => ?_
        · rw [int_eq, str_eq, g5, decide_eq_false (show ¬ ((a + 1 : Nat) : Int) = (a : Int) by omega), decide_eq_true rfl, decide_eq_false (show ¬ (9 : Int) < ((a + 1 : Nat) : Int) - (a : Int) by omega)]
          rfl
        · refine s_retU (xs := [.int (d : Int), .int ((a + 2 : Nat) : Int)]) (eu_tup (ea_cons (ev_intS (ev_slS (ev_var rfl) (eo_some (ev_var rfl)) (eo_some (ev_var rfl)) (by omega)) g4 (by have := cutS_length x (some (a : Int)) (some ((a + 1 : Nat) : Int)); omega)) (ea_cons (ev_is (ev_op (ev_var rfl) ev_c rv_I0) (congrArg V.int (by omega))) ea_nil)) (by show 2 ≤ 100000; decide)) fun p H4 _ e5 hp => ?_
          exact k p H4 (e2.trans (e3.trans (e4.trans e5))) hp
theorem scRd : FnScope ["text", "count", "at", "found", "before", "_", "head", "size", "begin"] ["text"] (defScope sRd) := ⟨rfl, rfl, rfl, by decide +kernel, rfl, by decide +kernel, by decide +kernel⟩
theorem ev_nat {te ta : TE} {σ : L2.St} {H : Hp} {x : Str} {a d : Nat} {E : XK} (h : Ev te σ H (.str x)) (h2 : Ev ta σ H (.int (a : Int))) (lx : x.length ≤ 600) (nf : natF x a d = true) : EvP (tCall spNat [] E (tCons te (tCons ta tNil))) σ H fun v H2 => ∃ p, v = .ref p ∧ H2 p = some (.tup [.int (d : Int), .int ((a + 2 : Nat) : Int)]) := fun H1 e Q q =>
  h H1 e _ fun H2 e2 => h2 H2 (e.trans e2) _ fun H3 e3 => ⟨x, a, d, rfl, lx, nf, fun p H4 e4 hp => q _ H4 ((e2.trans e3).trans e4) ⟨p, rfl, hp⟩⟩
theorem ok_rd {f : Addr} {fd : FuncData} (F : Fun K "read_image" "read_image" sRd f fd) (B : BtM mg) (hNat : Has P w K mg base CX0 1 "number_at" ["text", "at"] spNat) (hWim : Has P w K mg base CX0 1 "write_image" ["files"] spWim) : FnOk P w K mg base CX0 2 f fd ["text"] spRd := by
  refine F.ok scRd (fun vs H Q E h => ?_) (fun cdv Ar outer s H vs Q E hr h => ?_)
  · obtain ⟨ds, rfl, _⟩ := h
    rfl
  · obtain ⟨ds, rfl, hds, k⟩ := h
    have hu := hu_of hr
    refine ⟨_,
      (pss_cons (ps_if (pt_not (pt_val (pe_m1 PySem.F.slot_str_startswith PySem.F.type_str_startswith mt_startswith (pv 0) (pe_str)))) (pss_one (ps_never)) pss_nil)
      (pss_cons (ps_asg (pe_h hNat hr (by rfl) pass0 (pa_cons (pv 0) (pa_cons (pe_int) pa_nil))) (pg_tup rfl (pgs_cons (pg_name (i := 1) scRd.nd rfl (Or.inl rfl)) (pgs_cons (pg_name (i := 2) scRd.nd rfl (Or.inl rfl)) pgs_nil))))
      (pss_cons (ps_par (i := 3) (j := 4) rfl scRd.nd rfl rfl (by decide) rfl rfl (pa_cons (pe_dnewK) (pa_cons (pe_str) pa_nil)) (by rfl))
      (pss_cons (ps_for PassesOwn.never rfl (pi_range1 (by rfl) B.range (pa_cons (pv 1) pa_nil)) (pg_name (i := 5) scRd.nd rfl (Or.inl rfl)) (pss_cons (ps_set (i := 6) scRd.nd rfl (Or.inl rfl) (pe_ix ix_tup (pe_partition (pe_slice sl_str (pv 0) (po_some (pv 2)) po_none) pe_str) pe_int (fun _ _ => rfl)))
      (pss_cons (ps_if (PW.pt (pw_or (pt_cmpR (op_eq) (pv 6) (pe_str) (nomark _)) (pw_or (pt_cmpR (op_le_str) (pv 6) (pv 4) (nomark _)) (pw_or1 (pt_cmpR op_in_sign pe_str (pv 6) (by rfl)))))) (pss_one (ps_never)) pss_nil)
      (pss_cons (ps_asg (pe_h hNat hr (by rfl) pass0 (pa_cons (pv 0) (pa_cons (pe_op op_add (pe_op op_add (pv 2) (pe_callB (call_len_str) (by rfl) B.len (PySem.boot_len) (pa_cons (pv 6) pa_nil))) (pe_int)) pa_nil))) (pg_tup rfl (pgs_cons (pg_name (i := 7) scRd.nd rfl (Or.inl rfl)) (pgs_cons (pg_name (i := 8) scRd.nd rfl (Or.inl rfl)) pgs_nil))))
      (pss_cons (ps_dput hu (pv 3) (pv 6) (pe_slice sl_str (pv 0) (po_some (pv 8)) (po_some (pe_op op_add (pv 8) (pv 7)))) rfl)
      (pss_cons (ps_par (i := 2) (j := 4) rfl scRd.nd rfl rfl (by decide) rfl rfl (pa_cons (pe_op op_add (pe_op op_add (pv 8) (pv 7)) (pe_int)) (pa_cons (pv 6) pa_nil)) (by rfl))
      (pss_one (ps_if (PW.pt (pw_or (pt_cmpR (op_lt) (pe_callB (call_len_str) (by rfl) B.len (PySem.boot_len) (pa_cons (pe_dget hu (pv 3) (pv 6) (fun _ _ => rfl)) pa_nil)) (pv 7) (nomark _)) (pw_or1 (pt_cmpR (op_ne) (pe_slice sl_str (pv 0) (po_some (pe_op op_sub (pv 2) (pe_int))) (po_some (pv 2))) (pe_str) (nomark _))))) (pss_one (ps_never)) pss_nil))))))))
      (pss_cons (ps_if (PW.pt (pw_or (pt_cmpR (op_ne) (pv 2) (pe_callB (call_len_str) (by rfl) B.len (PySem.boot_len) (pa_cons (pv 0) pa_nil)) (nomark _)) (pw_or1 (pt_cmpR (op_ne) (pe_h hWim hr (by rfl) pass0 (pa_cons (pv 3) pa_nil)) (pv 0) (nomark _))))) (pss_one (ps_never)) pss_nil)
      (pss_one (ps_ret (pv 3)))))))), ?_⟩
    have rf := rd_facts ds hds
    have enl : ("
" : Str) = ⟨#[10]⟩ := by decide +kernel
    obtain ⟨fl1, fl2, fl3⟩ := fl_facts ds hds
    obtain ⟨il1, il2, il3⟩ := img_len ds hds
    have eimg : imgT (filesL ds) = imgS ds := rfl
    generalize hx : imgS ds = x at rf il3 eimg ⊢
    unfold rdF at rf
    simp only [Bool.and_eq_true, decide_eq_true_eq, List.all_eq_true, List.mem_range] at rf
    obtain ⟨r1, r2, r3, r4, r5⟩ := rf
    refine q_when (b := false) (et_is (et_not (et_B (ev_starts (ev_var rfl) ev_c))) (by rw [r1]; rfl)) (fun h => nomatch h) fun _ H1 e1 => ?_
    refine q_asgT2P (ev_nat (a := 6) (ev_var rfl) ev_c (by omega) r2) fun H2 e2 => ?_
    refine (?_ : ∀ p, H2 p = none → _)
    intro pf hpf
    refine ⟨_, _, rfl, ?_⟩
    have fll : (filesL ds).length = ds.length := by unfold filesL; rw [List.length_map, List.length_range]
    have e12 : Ex H (upd H2 pf (.dK [])) := (e1.trans e2).trans (Ex.new hpf)
    have fr : H pf = none := fresh_back (e1.trans e2) hpf
    refine q_forR1 (n := (ds.length : Nat)) (ea_cons (ev_var rfl) ea_nil) (by omega) (fun i σ' H' => ∃ v5 v6 v7 v8, σ' = [some (.str x), some (.int (ds.length : Nat)), some (.int ((posL ds i : Nat) : Int)), some (.ref pf), some (.str (if i = 0 then ("" : Str) else pth (i - 1))), v5, v6, v7, v8] ∧ Ex H H' ∧ H' pf = some (.dK (dk V.str ((filesL ds).take i))))
      (fun H3 e3 => ⟨none, none, none, none, rfl, e12.trans e3, e3 _ _ upd_same⟩) (fun i σ' H' hi ⟨v5, v6, v7, v8, es, e3, hp⟩ => ?_) (fun σ' H' ⟨v5, v6, v7, v8, es, e3, hp⟩ => ?_)
    · subst es
      have hi' : i < ds.length := by omega
      have rr := r3 i hi'
      unfold rowF at rr
      simp only [Bool.and_eq_true, decide_eq_true_eq] at rr
      obtain ⟨a1, a2, a3, a4, a5, a6⟩ := rr
      obtain ⟨p1, p2, p3, p4⟩ := pth_rd i (by omega)
      have fi : (filesL ds)[i]? = some (pth i, val (ds.getD i 0)) := by
        unfold filesL
        rw [List.getElem?_map, List.getElem?_range hi']
        rfl
      have lv : (val (ds.getD i 0)).length ≤ 4 := (fl3 _ (List.mem_of_getElem? fi)).2
      refine q_asg (v := .str (pth i)) (ev_is (ev_part (ev_slS (ev_var rfl) (eo_some (ev_var rfl)) eo_none (by omega)) ev_c (by decide +kernel) (by have := cutS_length x (some ((posL ds i : Nat) : Int)) none; omega)) (by rw [a1])) fun H3 e4 => ?_
      refine q_when (b := false) (et_is (et_or (et_test (ev_op (ev_var rfl) ev_c (rv_eq rfl))) fun _ => et_or (et_test (ev_op (ev_var rfl) (ev_var rfl) (fun H1 _ Q q => ⟨_, _, rfl, rfl, q H1 (Ex.refl H1)⟩))) fun _ => et_test (ev_op (ev_is ev_c (congrArg V.str enl)) (ev_var rfl) (rv_inS (c := 10)))) ?_) (fun h => nomatch h) fun _ H4 e5 => ?_
      · rw [str_eq, decide_eq_false p1, p4]
        rw [Bool.false_or, Bool.false_or]
        exact p2
      refine q_asgT2P (ev_nat (a := posL ds i + 4) (ev_var rfl) (ev_is (ev_op (ev_op (ev_var rfl) (ev_lenS (ev_var rfl) (by omega)) rv_I0) ev_c rv_I0) (congrArg V.int (by omega))) (by omega) a2) fun H5 e6 => ?_
      have hp5 := (e4.trans (e5.trans e6)) _ _ hp
      refine q_dput (k := .inr (pth i)) (v := .str (val (ds.getD i 0))) (ev_is (ev_slS (ev_var rfl) (eo_some (ev_var rfl)) (eo_some (ev_op (ev_var rfl) (ev_var rfl) rv_I0)) (by omega)) ?_) (ev_var rfl) (ev_var rfl) hp5 (by rw [dk_len, List.length_take]; omega) fun H6 e7 => ?_
      · rw [show ((posL ds i + 4 + 2 : Nat) : Int) = ((posL ds i + 6 : Nat) : Int) by omega, show ((posL ds i + 6 : Nat) : Int) + (((val (ds.getD i 0)).length : Nat) : Int) = ((posL ds i + 6 + (val (ds.getD i 0)).length : Nat) : Int) by omega, a3]
      have nm : pth i ∉ ((filesL ds).take i).map (·.1) := fun m => by
        obtain ⟨e, he, hh⟩ := List.mem_map.mp m
        have spl : filesL ds = (filesL ds).take i ++ (pth i, val (ds.getD i 0)) :: (filesL ds).drop (i + 1) := by
          obtain ⟨h1, h2⟩ := List.getElem?_eq_some_iff.mp fi
          conv => lhs; rw [← List.take_append_drop i (filesL ds), List.drop_eq_getElem_cons h1, h2]
        rw [spl, List.map_append, List.map_cons] at fl2
        exact (List.nodup_append.mp fl2).2.2 _ m _ (List.mem_cons_self ..) rfl
      rw [putK_dk, putA_new nm]
      have et : (filesL ds).take (i + 1) = (filesL ds).take i ++ [(pth i, val (ds.getD i 0))] := by rw [List.take_succ, fi]; rfl
      rw [← et]
      refine q_par (u := .int ((posL ds (i + 1) : Nat) : Int)) (v := .str (pth i)) (ev_is (ev_op (ev_op (ev_var rfl) (ev_var rfl) rv_I0) ev_c rv_I0) (congrArg V.int (by omega))) (ev_var rfl) fun H7 e8 => ?_
      refine s_when (b := false) (et_is (et_or (et_test (ev_op (ev_lenS (ev_dgetK (k := .inr (pth i)) (v := .str (val (ds.getD i 0))) (ev_var rfl) (ev_var rfl) (.inl (e8 _ _ upd_same)) ?_) (by omega)) (ev_var rfl) rv_I0)) fun _ => et_test (ev_op (ev_slS (ev_var rfl) (eo_some (ev_op (ev_var rfl) ev_c rv_I0)) (eo_some (ev_var rfl)) (by omega)) ev_c (rv_ne rfl))) ?_) (fun h => nomatch h) fun _ H8 e9 => ?_
      · rw [valV_dk]
        have nd1 : (((filesL ds).take (i + 1)).map (·.1)).Nodup := (List.Sublist.map _ (List.take_sublist _ _)).nodup fl2
        rw [look_of_mem nd1 (e := (pth i, val (ds.getD i 0))) (by rw [et]; simp)]
        rfl
      · rw [str_eq, show ((posL ds (i + 1) : Nat) : Int) - 1 = ((posL ds i + 6 + (val (ds.getD i 0)).length : Nat) : Int) by omega, show ((posL ds (i + 1) : Nat) : Int) = ((posL ds i + 7 + (val (ds.getD i 0)).length : Nat) : Int) by omega, a4, decide_eq_true rfl, decide_eq_false (show ¬ (((val (ds.getD i 0)).length : Nat) : Int) < (((val (ds.getD i 0)).length : Nat) : Int) by omega)]
        rfl
      · refine ⟨_, _, _, _, rfl, ?_, (e8.trans e9) _ _ upd_same⟩
        exact (Ex.mut (e3.trans (e4.trans (e5.trans (e6.trans e7)))) fr).trans (e8.trans e9)
    · subst es
      have em : ((ds.length : Nat) : Int).toNat = ds.length := Int.toNat_natCast _
      rw [em] at hp ⊢
      have et : (filesL ds).take ds.length = filesL ds := by rw [← fll, List.take_length]
      rw [et] at hp
      refine q_when (b := false) (et_is (et_or (et_test (ev_op (ev_var rfl) (ev_lenS (ev_var rfl) (by omega)) (rv_ne rfl))) fun _ => et_test (ev_op (ev_call (sp := spWim) (z := .str x) (ea_cons (ev_var rfl) ea_nil) fun H5 e5 Q q5 E => ⟨pf, _, filesL ds, rfl, e5 _ _ hp, List.Perm.refl _, fl2, fl1, by omega, fun e he => ?_, ?_⟩) (ev_var rfl) (rv_ne rfl))) ?_) (fun h => nomatch h) fun _ H4 e5 => ?_
      · obtain ⟨z1, z2⟩ := fl3 e he
        exact ⟨by omega, by omega⟩
      · rw [eimg]
        exact q5
      · rw [int_eq, r4, decide_eq_true rfl, decide_eq_true rfl]
        rfl
      · refine s_ret (ev_var rfl) fun H5 e6 => ?_
        exact k pf H5 fr (e3.trans (e5.trans e6)) ((e5.trans e6) _ _ hp)
end
end Mx
set_option Elab.async false
set_option linter.all false
set_option maxRecDepth 100000
set_option maxHeartbeats 4000000
namespace Mx
open PySem PySem.Spec PyProof.Rows L2 Evl TL
open PySem.W (Datum DatumOrd Tup SomeDatum)
/-! ### after, install_writes, new_disk -/
abbrev sAft : Stmt := topM 26
abbrev sInst : Stmt := topM 22
abbrev sNew : Stmt := topM 17
/-- a list of writes, plain -/
def WrAt (K : PySem.W.Frag) (H : Hp) (a : Addr) (ws : List Wr) : Prop := ∃ us, H a = some (.lst us) ∧ DpAll K H us ((ws.map wrS).map (Datum.toD (α := Str × Option Str)))
theorem WrAt.ex {K : PySem.W.Frag} {H H' : Hp} {a : Addr} {ws : List Wr} (h : WrAt K H a ws) (e : Ex H H') : WrAt K H' a ws := by
  obtain ⟨us, h1, h2⟩ := h
  exact ⟨us, e _ _ h1, dpAll_ex e _ _ h2⟩
theorem WrAt.len {K : PySem.W.Frag} {H : Hp} {a : Addr} {ws : List Wr} (h : WrAt K H a ws) : ∃ us, H a = some (.lst us) ∧ us.length = ws.length := by
  obtain ⟨us, h1, h2⟩ := h
  exact ⟨us, h1, by rw [dpAll_len h2, List.length_map]⟩
def spAft (K : PySem.W.Frag) : Sp := fun vs H Q _ => ∃ (d a : Addr) (n : Nat) (l : List (Str × Str)) (D : Dm) (ws : List Wr), vs = [.ref d, .ref a, .int (n : Int)] ∧ H d = some (.dK (dk V.str l)) ∧ Dsk l D ∧ WrAt K H a ws ∧ (∀ w ∈ ws, w.1 ∈ ids) ∧ ws.length ≤ 100 ∧
  ∀ p H' l', H p = none → Ex H H' → H' p = some (.dK (dk V.str l')) → Dsk l' (appW (ws.take n) D) → Q (.ref p) H'
def spInst (K : PySem.W.Frag) : Sp := fun vs H Q _ => ∃ (d : Addr) (l : List (Str × Str)) (D : Dm) (ds : List Nat), vs = [.ref d, .str (imgS ds)] ∧ H d = some (.dK (dk V.str l)) ∧ Dsk l D ∧ ds ∈ Imgs ∧ nextN D ≤ 7 ∧
  ∀ p H', H p = none → Ex H H' → WrAt K H' p (instD (nextN D) ds) → Q (.ref p) H'
def spNew : Sp := fun vs H Q _ => ∃ ds : List Nat, vs = [.str (imgS ds)] ∧ ds ∈ Imgs ∧ ∀ p H' l, H p = none → Ex H H' → H' p = some (.dK (dk V.str l)) → Dsk l (appW (instD 1 ds) (fun _ => none)) → Q (.ref p) H'
theorem putWs_len : ∀ (ws : List (Str × Option Str)) (l : List (Str × Str)), (putWs ws l).length ≤ l.length + ws.length
  | [], l => by show l.length ≤ l.length + 0; omega
  | w :: r, l => by
    have ih := putWs_len r (putW l w)
    have : (putW l w).length ≤ l.length + 1 := by
      unfold putW
      cases w.2 with
      | none => exact Nat.le_trans (List.length_filter_le _ _) (by omega)
      | some t => exact putA_len
    show (putWs r (putW l w)).length ≤ _
    rw [List.length_cons]
    omega
theorem file_key : ∀ m ∈ List.range' 1 7, ∀ j ∈ List.range 3, hdF m ++ pth j = kst (4 * m + 1 + j) := by decide +kernel
theorem inst_ids {m : Nat} (hm : m ∈ List.range' 1 7) {ds : List Nat} (h3 : ds.length ≤ 3) : ∀ w ∈ instD m ds, w.1 ∈ ids := fun w hw => by
  unfold instD at hw
  rcases List.mem_append.mp hw with hw | hw
  · unfold putF at hw
    obtain ⟨j, hj, rfl⟩ := List.mem_map.mp hw
    exact file_id hm (by have := List.mem_range.mp hj; omega)
  · have hm' := List.mem_range'.mp hm
    have : w = (4 * m, some (dgI ds)) ∨ w = (0, some (numI (m : Nat))) := by simpa using hw
    rcases this with rfl | rfl
    · exact (bs_facts m hm).2.2.1
    · exact List.mem_cons_self ..
section
variable {σ : L2.St} {H H' : Hp} {te ta tb td tl : TE} {tt : TT} {v : V} {K : PySem.W.Frag}
theorem evd_some {s : Str} (h : Ev te σ H (.str s)) : EvD te K σ H (some s) := fun H1 e Q q => h H1 e Q fun H2 e2 => q _ H2 e2 (dt_str (K := K) (H := H2) (x := s))
theorem evd_noneS (h : Ev te σ H .non) : EvD te K σ H (none : Option Str) := fun H1 e Q q => h H1 e Q fun H2 e2 => q _ H2 e2 Dp.non
theorem t_var {i : Nat} {v : V} {Q : VK} (h : σ[i]? = some (some v)) (q : Q v H) : tVar i σ H Q := ⟨v, h, q⟩
theorem t_lst {t : TA} {vs : List V} {Q : VK} (ha : EvA t σ H vs) (hl : vs.length ≤ 100000) (q : ∀ p H1, H p = none → Ex H H1 → H1 p = some (.lst vs) → Q (.ref p) H1) : tLst t σ H Q := el_lst ha hl H (Ex.refl H) Q q
theorem t_lstD {α : Type} [DecidableEq α] [Datum α] {t : TA} {xs : List α} {Q : VK} (h : EvDA t K σ H xs) (hl : xs.length ≤ 1000) (q : ∀ p us H1, H p = none → Ex H H1 → H1 p = some (.lst us) → DpAll K H1 us (xs.map Datum.toD) → Q (.ref p) H1) : tLst t σ H Q :=
  h H (Ex.refl H) _ fun us H1 e1 ds => ⟨by rw [dpAll_len ds]; exact Nat.le_trans hl (by decide), fun p hp => q p us _ (fresh_back e1 hp) (e1.trans (Ex.new hp)) upd_same (dpAll_ex (Ex.new hp) _ _ ds)⟩
/-- a loop over a list of writes -/
theorem q_forW {tl : TE} {j : Nat} {tu tz : TS} {D : Ends} {ws : List Wr} (h : EvP tl σ H fun v H2 => ∃ p, v = .ref p ∧ H p = none ∧ WrAt K H2 p ws) (Pv : Addr → List V → Nat → L2.St → Hp → Prop) (h0 : ∀ p us H1, H p = none → Ex H H1 → H1 p = some (.lst us) → DpAll K H1 us ((ws.map wrS).map (Datum.toD (α := Str × Option Str))) → Pv p us 0 σ H1)
    (hl : ∀ p us i σ' H', Pv p us i σ' H' → H' p = some (.lst us) ∧ DpAll K H' us ((ws.map wrS).map (Datum.toD (α := Str × Option Str))))
    (hs : ∀ p us i x w0 σ' H', ws[i]? = some w0 → Dt K H' x (wrS w0) → Pv p us i σ' H' → tu { D with nx := Pv p us (i + 1), ct := Pv p us (i + 1), bk := tz D } (σ'.set j (some x)) H') (hd : ∀ p us σ' H', Pv p us ws.length σ' H' → tz D σ' H') : tSeq (tFor (iList K tl) (gName j) tu) tz D σ H :=
  h H (Ex.refl H) _ fun v H1 e1 ⟨p, ev, np, us, hp, dp⟩ => by
    subst ev
    have lu : us.length = ws.length := by rw [dpAll_len dp, List.length_map]
    refine ⟨p, rfl, ⟨us, sq_of hp⟩, for_list (D := { D with nx := tz D }) (Pv p us) (h0 p us H1 np e1 hp dp) (fun i σ' H' _ z => sq_of (hl p us i σ' H' z).1) (fun i x σ' H' hx z => ?_) (fun σ' H' z => hd p us σ' H' (lu ▸ z))⟩
    obtain ⟨h1, h2⟩ := hl p us i σ' H' z
    obtain ⟨w1, hw1, dw1⟩ := (dpAll_at h2).2 i x hx
    rw [List.getElem?_map] at hw1
    cases qw : ws[i]? with
    | none => rw [qw] at hw1; cases hw1
    | some w0 =>
      rw [qw] at hw1
      cases hw1
      exact hs p us i x w0 σ' H' qw dw1 z
/-- [e for x in xs if t], a plain list of data -/
theorem evl_lcLt {α β : Type} [DecidableEq α] [Datum α] [DecidableEq β] [Datum β] [Firm β] {j : Nat} {vs : List Nat} {xs : List α} (p : α → Bool) (g : α → β) (h : EvP tl σ H fun v H2 => Dt K H2 v xs) (hz : xs.length ≤ 40000) (hw : ∀ x, wipe ((wipe σ vs).set j (some x)) vs = wipe σ vs)
    (ht : ∀ (x : α) (v : V) H1, x ∈ xs → Dt K H1 v x → Ex H H1 → EvT tt ((wipe σ vs).set j (some v)) H1 (p x))
    (he : ∀ (x : α) (v : V) H1, x ∈ xs → p x = true → Dt K H1 v x → Ex H H1 → EvD te K ((wipe σ vs).set j (some v)) H1 (g x)) : EvP (tLc (iList K tl) (gName j) tt te vs) σ H fun v H2 => ∃ a us, v = .ref a ∧ H a = none ∧ H2 a = some (.lst us) ∧ DpAll K H2 us (((xs.filter p).map g).map Datum.toD) := fun H0 e0 Q q =>
  h H0 e0 _ fun v H1 e1 d => by
    obtain ⟨a, us, rfl, hs, hd⟩ := dt_lst_inv d
    obtain ⟨lu, fu⟩ := dpAll_at hd
    refine ⟨a, rfl, ⟨us, hs⟩, fun D hD => ?_⟩
    have E := e0.trans e1
    refine lc_list (xs := us) (fun i H' => H1 D = none ∧ Ex H1 H' ∧ ∃ acc, H' D = some (.lst acc) ∧ DpAll K H' acc ((((xs.take i).filter p).map g).map Datum.toD)) ⟨hD, Ex.new hD, [], upd_same, .nil⟩ (fun i H' _ z => ex_l z.2.1 hs) (fun i y H' hi z => ?_) fun H' z => ?_
    · obtain ⟨p1, p2, acc, p3, p4⟩ := z
      obtain ⟨x, hx, dx⟩ := fu i y hi
      have mx := List.mem_of_getElem? hx
      refine ⟨hw _, ?_⟩
      refine ht x y H' mx (dx.ex p2) (E.trans p2) H' (Ex.refl _) _ fun H3 e3 => ?_
      have al := dpAll_len p4
      have lt : (((xs.take i).filter p).map g).length ≤ 40000 := by
        rw [List.length_map]
        refine Nat.le_trans (List.length_filter_le _ _) ?_
        rw [List.length_take]
        omega
      cases hf : p x with
      | true =>
        rw [if_pos rfl]
        refine he x y H3 mx hf (dx.ex (p2.trans e3)) (E.trans (p2.trans e3)) H3 (Ex.refl _) _ fun w H4 e4 dw => ⟨acc, e4 _ _ (e3 _ _ p3), sz_lt (by omega), p1, Ex.mut (p2.trans (e3.trans e4)) p1, acc ++ [w], upd_same, ?_⟩
        have z := dp_step (x := g x) p3 (e3.trans e4) p4 dw
        rw [List.take_succ, hx, List.filter_append, List.map_append]
        simpa [hf] using z
      | false =>
        rw [if_neg (by decide)]
        refine ⟨p1, p2.trans e3, acc, e3 _ _ p3, ?_⟩
        rw [List.take_succ, hx, List.filter_append, List.map_append]
        have z := dpAll_ex e3 _ _ p4
        simpa [hf] using z
    · obtain ⟨p1, p2, acc, p3, p4⟩ := z
      rw [lu, List.take_length] at p4
      exact q _ H' (e1.trans p2) ⟨D, acc, rfl, fresh_back E p1, p3, p4⟩
end
section
variable {P : Program} {w : World} {K : PySem.W.Frag} {mg : Str → Option Value} {base : Heap}
theorem cutV_take {xs : List V} {n : Nat} : cutV xs none (some (n : Int)) = xs.take n := by
  unfold cutV
  rw [HT.sIx_none, HT.sIx_nat, List.drop_zero, Nat.sub_zero]
  by_cases h : n ≤ xs.length
  · rw [Nat.min_eq_left h]
  · rw [Nat.min_eq_right (by omega), List.take_of_length_le (Nat.le_refl _), List.take_of_length_le (by omega)]
theorem dpAll_append {H : Hp} : ∀ {us vs : List V} {xs ys : List PyData}, DpAll K H us xs → DpAll K H vs ys → DpAll K H (us ++ vs) (xs ++ ys)
  | _, _, [], _, h, h2 => by
    cases h
    exact h2
  | _, _, x :: xs, _, h, h2 => by
    cases h with
    | cons h1 h3 => exact .cons h1 (dpAll_append h3 h2)
/-- put upon a dict again and again -/
theorem dpAll_take {α : Type} [DecidableEq α] [Datum α] {H : Hp} : ∀ {us : List V} {xs : List α} (n : Nat), DpAll K H us (xs.map Datum.toD) → DpAll K H (us.take n) ((xs.take n).map Datum.toD)
  | _, [], n, h => by
    cases h
    simpa using DpAll.nil
  | _, x :: xs, 0, h => by
    simpa using DpAll.nil
  | _, x :: xs, n + 1, h => by
    cases h with
    | cons h1 h2 => exact .cons h1 (dpAll_take n h2)
theorem scAft : FnScope ["disk", "writes", "count", "found", "write"] ["disk", "writes", "count"] (defScope sAft) := ⟨rfl, rfl, rfl, by decide +kernel, rfl, by decide +kernel, by decide +kernel⟩
theorem ok_aft {f : Addr} {fd : FuncData} (F : Fun K "after" "after" sAft f fd) (B : BtM mg) (hPut : Has P w K mg base CX0 1 "put" ["disk", "write"] (spPut K)) : FnOk P w K mg base CX0 2 f fd ["disk", "writes", "count"] (spAft K) := by
  refine F.ok scAft (fun vs H Q E h => ?_) (fun cdv Ar outer s H vs Q E hr h => ?_)
  · obtain ⟨d, a, n, l, D, ws, rfl, _⟩ := h
    rfl
  · obtain ⟨d, a, n, l, D, ws, rfl, hd, hD', ⟨us, ha, dus⟩, hids, lws, k⟩ := h
    refine ⟨_,
      (pss_cons (ps_set (i := 3) scAft.nd rfl (Or.inl rfl) (pe_callTy (call_dictD) (by rfl) B.dict (by decide +kernel) (pa_cons (pv 0) pa_nil)))
      (pss_cons (ps_for PassesOwn.never rfl (pi_list (pe_slice sl_list (pv 1) po_none (po_some (pv 2)))) (pg_name (i := 4) scAft.nd rfl (Or.inl rfl)) (pss_one (ps_expr (pe_h hPut hr (by rfl) pass0 (pa_cons (pv 3) (pa_cons (pv 4) pa_nil))))))
      (pss_one (ps_ret (pv 3))))), ?_⟩
    refine q_asgP (evp_copyD (ev_var rfl) hd) fun v H1 e1 ⟨q, ev, nq, hq⟩ => ?_
    subst ev
    have ll := hD'.len
    have ha1 := e1 _ _ ha
    have nqa : q ≠ a := fun z => by rw [z, ha] at nq; cases nq
    have lus : us.length = ws.length := by rw [dpAll_len dus, List.length_map]
    refine q_forNLn (el_sl (ev_var rfl) eo_none (eo_some (ev_var rfl)) (sq_of ha1)) (fun p i σ' H' => ∃ v4, σ' = [some (.ref d), some (.ref a), some (.int (n : Int)), some (.ref q), v4] ∧ Ex H H' ∧ p ≠ q ∧ H' p = some (.lst (us.take n)) ∧ H' q = some (.dK (dk V.str (putWs (((ws.take n).take i).map wrS) l))))
      (fun p H2 np e2 hp => ⟨none, rfl, e1.trans e2, fun z => (by rw [z, hq] at np; cases np), by rw [← cutV_take]; exact hp, e2 _ _ hq⟩) (fun p i σ' H' _ ⟨_, _, _, _, z, _⟩ => by rw [cutV_take]; exact sq_of z) (fun p i x σ' H' hx ⟨v4, es, e2, ne, hp, hq'⟩ => ?_) (fun p σ' H' ⟨v4, es, e2, ne, hp, hq'⟩ => ?_)
    · subst es
      rw [cutV_take] at hx
      have dt := dpAll_take n dus
      obtain ⟨ldt, fdt⟩ := dpAll_at dt
      obtain ⟨w1, hw1, dw1⟩ := fdt i x hx
      have hw2 : ((ws.take n))[i]?.map wrS = some w1 := by
        rw [← List.getElem?_map, List.map_take]
        exact hw1
      cases qw : (ws.take n)[i]? with
      | none => rw [qw] at hw2; cases hw2
      | some w0 =>
        rw [qw] at hw2
        cases hw2
        refine t_callQ (ea_cons (ev_var rfl) (ea_cons (ev_var rfl) ea_nil)) fun H3 e3 => ⟨q, x, _, wrS w0, rfl, e3 _ _ hq', ?_, dw1.ex (e2.trans e3), fun H4 k4 hq4 => ?_⟩
        · have := putWs_len (((ws.take n).take i).map wrS) l
          rw [List.length_map, List.length_take, List.length_take] at this
          omega
        · refine ⟨_, rfl, fun b u hb => k4 b u (ne_of_none hb nq) ((e2.trans e3) b u hb), ne, k4 _ _ ne (e3 _ _ hp), ?_⟩
          rw [hq4, List.take_succ, qw, List.map_append]
          show _ = some (HO.dK (dk V.str (List.foldl putW l _)))
          rw [List.foldl_append]
          rfl
    · subst es
      have lc : (cutV us none (some (n : Int))).length = (ws.take n).length := by rw [cutV_take, List.length_take, List.length_take, lus]
      rw [lc, List.take_length] at hq'
      refine s_ret (ev_var rfl) fun H3 e3 => ?_
      exact k q H3 _ nq (e2.trans e3) (e3 _ _ hq') (hD'.putWs fun w hw => hids w (List.mem_of_mem_take hw))
theorem scInst : FnScope ["disk", "image", "files", "number", "base", "found", "path"] ["disk", "image"] (defScope sInst) := ⟨rfl, rfl, rfl, by decide +kernel, rfl, by decide +kernel, by decide +kernel⟩
theorem last_at : ∀ (ns : List Nat) (x : Nat), atI ((V.int (x : Int)) :: ns.map fun n => V.int ((n : Nat) : Int)) (-1) = some (V.int (((ns.getLastD x) : Nat) : Int)) := fun ns x => by
  have e : atI ((V.int (x : Int)) :: ns.map fun n => V.int ((n : Nat) : Int)) (-1) = ((x :: ns).map fun n => V.int ((n : Nat) : Int)).getLast? := by
    unfold atI
    rw [List.getLast?_eq_getElem?]
    simp [seqIndex?, ixN]
    rw [if_pos (by omega)]
    show (V.int (x : Int) :: List.map (fun n => V.int ((n : Nat) : Int)) ns)[(-1 + ((ns.length : Nat) + 1 : Int)).toNat]? = _
    rw [show (-1 + ((ns.length : Nat) + 1 : Int)).toNat = ns.length by omega]
    exact List.getElem?_eq_getElem _
  rw [e, List.getLast?_map, List.getLast?_cons]
  simp
theorem ok_inst {f : Addr} {fd : FuncData} (F : Fun K "install_writes" "install_writes" sInst f fd) (B : BtM mg) (hRd : Has P w K mg base CX0 2 "read_image" ["text"] spRd) (hNu : Has P w K mg base CX0 1 "numbers" ["disk"] spNums) (hD : Has P w K mg base CX0 2 "digest" ["text"] spDig) : FnOk P w K mg base CX0 3 f fd ["disk", "image"] (spInst K) := by
  refine F.ok scInst (fun vs H Q E h => ?_) (fun cdv Ar outer s H vs Q E hr h => ?_)
  · obtain ⟨d, l, D, ds, rfl, _⟩ := h
    rfl
  · obtain ⟨d, l, D, ds, rfl, hd, hD', hds, hm, k⟩ := h
    have hu := hu_of hr
    refine ⟨_,
      (pss_cons (ps_set (i := 2) scInst.nd rfl (Or.inr rfl) (pe_h hRd hr (by rfl) pass0 (pa_cons (pv 1) pa_nil)))
      (pss_cons (ps_set (i := 3) scInst.nd rfl (Or.inl rfl) (pe_op op_add (pe_ix (show IxR _ (rIxL K) from ix_list) (pe_op op_cat (pe_lst (pa_cons pe_int pa_nil)) (pe_h hNu hr (by rfl) pass0 (pa_cons (pv 0) pa_nil))) (pe_un un_neg pe_int) (fun _ _ => rfl)) (pe_int)))
      (pss_cons (ps_set (i := 4) scInst.nd rfl (Or.inr rfl) (pe_op op_add_str (pe_op op_add_str (pe_str) (pe_callTy (call_str_int) (by rfl) B.str (by decide +kernel) (pa_cons (pv 3) pa_nil))) (pe_str)))
      (pss_cons (ps_setLc (i := 5) (own := [("path", 6)]) (g := gName 6) (tt := tYes) (by rfl) scInst.nd rfl rfl (sw_true rfl rfl rfl (by decide +kernel)) (pi_list (pe_callB (call_sortedD rfl) (by rfl) B.sorted (by decide +kernel) (pa_cons (pv 2) pa_nil))) (blkOk_by (N := ["disk", "image", "files", "number", "base", "found", "path"]) (sc := defScope sInst) (by decide +kernel)) (fun _ _ _ _ _ => pg_name (i := 6) scInst.nd rfl (Or.inl rfl)) (fun _ _ _ _ _ => pts_nil) (fun _ _ _ _ _ => pe_tup (pa_cons (pe_op op_add_str (pe_op op_add_str (pv 4) (pe_str)) (pv 6)) (pa_cons (pe_dget hu (pv 2) (pv 6) (fun _ _ => rfl)) pa_nil))))
      (pss_one (ps_ret (pe_op op_cat (pv 5) (pe_lst (pa_cons (pe_tup (pa_cons (pe_op op_add_str (pv 4) (pe_str)) (pa_cons (pe_h hD hr (by rfl) pass0 (pa_cons (pv 1) pa_nil)) pa_nil))) (pa_cons (pe_tup (pa_cons (pe_str) (pa_cons (pe_callTy (call_str_int) (by rfl) B.str (by decide +kernel) (pa_cons (pv 3) pa_nil)) pa_nil))) pa_nil)))))))))), ?_⟩
    obtain ⟨fl1, fl2, fl3⟩ := fl_facts ds hds
    obtain ⟨il1, il2, il3⟩ := img_len ds hds
    have fll : (filesL ds).length = ds.length := by unfold filesL; rw [List.length_map, List.length_range]
    have hm1 : nextN D ∈ List.range' 1 7 := List.mem_range'.mpr ⟨nextN D - 1, by unfold nextN at hm ⊢; omega, by unfold nextN; omega⟩
    obtain ⟨b1, b2, b3, b4, b5⟩ := bs_facts _ hm1
    have s1 : ("g" : Str).length = 1 := by decide +kernel
    have s2 : ("/" : Str).length = 1 := by decide +kernel
    have s4 : ("done" : Str).length = 4 := by decide +kernel
    have s5 : ("f/" : Str).length = 2 := by decide +kernel
    refine q_asgP (R := fun v H2 => ∃ p, v = .ref p ∧ H p = none ∧ H2 p = some (.dK (dk V.str (filesL ds)))) (fun H1 e1 Q2 q2 => t_callQ (ea_cons (ev_var rfl) ea_nil) fun H2 e2 => ⟨ds, rfl, hds, fun p H3 np e3 hp => q2 _ H3 (e2.trans e3) ⟨p, rfl, fresh_back (e1.trans e2) np, hp⟩⟩) fun v H1 e1 ⟨pf, ev, npf, hpf⟩ => ?_
    subst ev
    refine q_asg (v := .int ((nextN D : Nat) : Int)) (fun H2 e2 Q2 q2 => ?_) fun H2 e2 => ?_
    · unfold tOp
      refine t_lst (vs := [.int 0]) (ea_cons ev_c ea_nil) (by show 1 ≤ 100000; decide) fun p1 H3 _ e3 h3 => ?_
      refine t_callQ (ea_cons (ev_var rfl) ea_nil) fun H4 e4 => ⟨d, l, D, rfl, (e1.trans (e2.trans (e3.trans e4))) _ _ hd, hD', fun p2 H5 np2 e5 h5 => ?_⟩
      have nl := nums_len D
      refine ⟨p1, p2, _, _, rfl, rfl, (e4.trans e5) _ _ h3, h5, sz_of (by rw [List.length_map]; show 1 + (nums D).length ≤ 100000; omega), fun p4 hp4 => ?_⟩
      refine ⟨1, rfl, p4, _, -1, _, rfl, rfl, sq_of upd_same, last_at (nums D) 0, ?_⟩
      exact ⟨_, _, rfl, rfl, q2 _ ((e3.trans (e4.trans e5)).trans (Ex.new hp4))⟩
    have hmL : nextN D ≤ 7 := hm
    refine q_asg (v := .str (bsN (nextN D))) (ev_addS (ev_addS ev_c (ev_strI (i := ((nextN D : Nat) : Int)) (ev_var rfl) (by omega)) (by show ("g" : Str).length + (numI (nextN D : Nat)).length ≤ 100000; omega)) ev_c (by show ("g" ++ numI (nextN D : Nat)).length + ("/" : Str).length ≤ 100000; simp only [len_app]; omega)) fun H3 e3 => ?_
    have hf3 := (e2.trans e3) _ _ hpf
    refine q_asgP (evl_lcLt (α := Str) (β := Str × Option Str) (xs := (filesL ds).map (·.1)) (fun _ => true) (fun x => (hdF (nextN D) ++ x, some (((filesL ds).lookup x).getD ""))) (fun H4 e4 Q2 q2 => el_sortDk (ks := (filesL ds).map (·.1)) (ev_var rfl) hf3 (List.Perm.refl _) fl1 (by omega) H4 e4 Q2 fun p H5 np e5 hp => q2 _ H5 e5 (dt_strs (sq_of hp))) (by rw [List.length_map]; omega) (fun _ => rfl)
      (fun x v H4 _ _ e4 => fun H5 _ Q2 q2 => q2 H5 (Ex.refl H5)) (fun x v H4 hx _ dx e4 => ?_)) fun v H4 e4 ⟨pa, us, ev, npa, hpa, dus⟩ => ?_
    · have ex := dt_str_inv dx
      subst ex
      obtain ⟨e, he, rfl⟩ := List.mem_map.mp hx
      obtain ⟨z1, z2⟩ := fl3 e he
      have lk := look_of_mem fl2 he
      rw [lk]
      refine evd_pair (evd_str (ev_addS (ev_addS (ev_var rfl) ev_c (by omega)) (ev_var rfl) (by show (hdF (nextN D)).length + e.1.length ≤ 100000; omega))) (evd_some (ev_dgetK (k := .inr e.1) (v := .str e.2) (ev_var rfl) (ev_var rfl) (.inl (e4 _ _ hf3)) (by rw [valV_dk, lk]; rfl)))
    · subst ev
      have elst : (((filesL ds).map (·.1)).filter fun _ => true).map (fun x => (hdF (nextN D) ++ x, some (((filesL ds).lookup x).getD ""))) = (putF (nextN D) ds).map wrS := by
        rw [List.filter_eq_self.mpr fun _ _ => rfl]
        have key : ∀ j, j < ds.length → (hdF (nextN D) ++ pth j, some (((filesL ds).lookup (pth j)).getD "")) = wrS (4 * nextN D + 1 + j, some (val (ds.getD j 0))) := fun j hj => by
          have me : (pth j, val (ds.getD j 0)) ∈ filesL ds := by
            unfold filesL
            exact List.mem_map.mpr ⟨j, List.mem_range.mpr hj, rfl⟩
          rw [look_of_mem fl2 me, file_key _ hm1 j (List.mem_range.mpr (by omega))]
          rfl
        have ek : (filesL ds).map (·.1) = (List.range ds.length).map pth := by
          unfold filesL
          rw [List.map_map]
          rfl
        rw [ek, List.map_map]
        unfold putF
        rw [List.map_map]
        exact List.map_congr_left fun j hj => key j (List.mem_range.mp hj)
      rw [elst] at dus
      have lus := dpAll_len dus
      have e04 := e1.trans (e2.trans (e3.trans e4))
      have lput : (putF (nextN D) ds).length = ds.length := by unfold putF; rw [List.length_map, List.length_range]
      rw [List.length_map, lput] at lus
      unfold tRet tOp
      refine t_var (v := .ref pa) rfl ?_
      refine t_lstD (K := K) (α := Str × Option Str) (xs := [(kst (4 * nextN D), some (dgI ds)), (kst 0, some (numI (nextN D : Nat)))]) (eda_cons (evd_pair (evd_str (ev_is (ev_addS (ev_var rfl) ev_c (by omega)) (by rw [b1]))) (evd_some (ev_call (sp := spDig) (z := .str (dgI ds)) (ea_cons (ev_var rfl) ea_nil) fun H6 e6 Q6 q6 E6 => ⟨imgS ds, rfl, by omega, q6 H6 (Ex.refl H6)⟩)))
        (eda_cons (evd_pair (evd_str (ev_is ev_c rfl)) (evd_some (ev_strI (i := ((nextN D : Nat) : Int)) (ev_var rfl) (by omega)))) eda_nil)) (by show 2 ≤ 1000; decide) fun pl vs H5 npl e5 hpl ds2 => ?_
      have lvs := dpAll_len ds2
      refine ⟨pa, pl, us, vs, rfl, rfl, e5 _ _ hpa, hpl, sz_of (by rw [lus, lvs]; show ds.length + 2 ≤ 100000; omega), fun p hp => ?_⟩
      have e6 : Ex H5 (upd H5 p (.lst (us ++ vs))) := Ex.new hp
      refine k p _ (fresh_back (e04.trans e5) hp) (e04.trans (e5.trans e6)) ⟨us ++ vs, upd_same, ?_⟩
      unfold instD
      rw [List.map_append, List.map_append]
      exact dpAll_append (dpAll_ex (e5.trans e6) _ _ dus) (dpAll_ex e6 _ _ ds2)
theorem scNew : FnScope ["image", "disk", "write"] ["image"] (defScope sNew) := ⟨rfl, rfl, rfl, by decide +kernel, rfl, by decide +kernel, by decide +kernel⟩
theorem ok_new {f : Addr} {fd : FuncData} (F : Fun K "new_disk" "new_disk" sNew f fd) (hIn : Has P w K mg base CX0 3 "install_writes" ["disk", "image"] (spInst K)) (hPut : Has P w K mg base CX0 1 "put" ["disk", "write"] (spPut K)) : FnOk P w K mg base CX0 4 f fd ["image"] spNew := by
  refine F.ok scNew (fun vs H Q E h => ?_) (fun cdv Ar outer s H vs Q E hr h => ?_)
  · obtain ⟨ds, rfl, _⟩ := h
    rfl
  · obtain ⟨ds, rfl, hds, k⟩ := h
    refine ⟨_,
      (pss_cons (ps_set (i := 1) scNew.nd rfl (Or.inl rfl) (pe_dnewK))
      (pss_cons (ps_for PassesOwn.never rfl (pi_list (pe_h hIn hr (by rfl) pass0 (pa_cons (pe_dnewK) (pa_cons (pv 0) pa_nil)))) (pg_name (i := 2) scNew.nd rfl (Or.inl rfl)) (pss_one (ps_expr (pe_h hPut hr (by rfl) pass0 (pa_cons (pv 1) (pa_cons (pv 2) pa_nil))))))
      (pss_one (ps_ret (pv 1))))), ?_⟩
    obtain ⟨il1, il2, il3⟩ := img_len ds hds
    intro q nq
    have n1 : nextN (fun _ => none) = 1 := by decide +kernel
    have hids : ∀ w ∈ instD 1 ds, w.1 ∈ ids := inst_ids (m := 1) (by decide) il2
    have lws : (instD 1 ds).length ≤ 10 := by
      unfold instD putF
      rw [List.length_append, List.length_map, List.length_range]
      show ds.length + 2 ≤ 10
      omega
    show tSeq (tFor (iList K (tCall (spInst K) [] E0 (tCons tDNewK (tCons (tVar 0) tNil)))) (gName 2) (tDrop (tCall (spPut K) [] E0 (tCons (tVar 1) (tCons (tVar 2) tNil))))) (tRet (tVar 1)) { nx := fun _ H' => Q .non H', rt := Q } [some (.str (imgS ds)), some (.ref q), none] (upd H q (.dK []))
    refine q_forW (K := K) (ws := instD 1 ds) (fun H1 e1 Q2 q2 => ?_) (fun p us i σ' H' => ∃ v2, σ' = [some (.str (imgS ds)), some (.ref q), v2] ∧ Ex H H' ∧ p ≠ q ∧ H' p = some (.lst us) ∧ DpAll K H' us (((instD 1 ds).map wrS).map (Datum.toD (α := Str × Option Str))) ∧ H' q = some (.dK (dk V.str (putWs (((instD 1 ds).take i).map wrS) []))))
      (fun p us H1 np e1 hp dp => ⟨none, rfl, (Ex.new nq).trans e1, fun z => (by rw [z, upd_same] at np; cases np), hp, dp, e1 _ _ upd_same⟩) (fun p us i σ' H' ⟨_, _, _, _, z1, z2, _⟩ => ⟨z1, z2⟩) (fun p us i x w0 σ' H' hw dx ⟨v2, es, e2, ne, hp, dp, hq⟩ => ?_) (fun p us σ' H' ⟨v2, es, e2, ne, hp, dp, hq⟩ => ?_)
    · intro dd hdd
      refine t_var rfl ?_
      refine ⟨dd, [], fun _ => none, ds, rfl, upd_same, Dsk.empty, hds, by rw [n1]; decide, fun p H2 np e2 wr => ?_⟩
      rw [n1] at wr
      exact q2 _ H2 ((Ex.new hdd).trans e2) ⟨p, rfl, fresh_back (e1.trans (Ex.new hdd)) np, wr⟩
    · subst es
      refine t_callQ (ea_cons (ev_var rfl) (ea_cons (ev_var rfl) ea_nil)) fun H3 e3 => ⟨q, x, _, wrS w0, rfl, e3 _ _ hq, ?_, dx.ex e3, fun H4 k4 hq4 => ?_⟩
      · have := putWs_len (((instD 1 ds).take i).map wrS) []
        rw [List.length_map, List.length_take] at this
        have z : ([] : List (Str × Str)).length = 0 := rfl
        omega
      · have ux : Ux H' H4 := fun b u hb fb => k4 b u (fun z => by rw [z, hq] at hb; cases hb; cases fb) (e3 _ _ hb)
        refine ⟨_, rfl, fun b u hb => k4 b u (ne_of_none hb nq) ((e2.trans e3) b u hb), ne, k4 _ _ ne (e3 _ _ hp), dpAll_uxT (α := Str × Option Str) ux dp, ?_⟩
        rw [hq4, List.take_succ, hw, List.map_append]
        show _ = some (HO.dK (dk V.str (List.foldl putW [] _)))
        rw [List.foldl_append]
        rfl
    · subst es
      rw [List.take_length] at hq
      refine s_ret (ev_var rfl) fun H3 e3 => ?_
      exact k q H3 _ nq (e2.trans e3) (e3 _ _ hq) (Dsk.empty.putWs hids)
end
end Mx
set_option Elab.async false
set_option linter.all false
set_option maxRecDepth 100000
set_option maxHeartbeats 400000
namespace Mx
open PySem PySem.Spec PyProof.Rows L2 Evl TL
open PySem.W (Datum DatumOrd Tup SomeDatum)
/-! ### recovered, back_writes, current, clean_writes -/
abbrev sRec : Stmt := topM 24
abbrev sBk : Stmt := topM 25
abbrev sCur : Stmt := topM 23
theorem rising_of : ∀ (l : List Str) (p : Str), (∀ x ∈ l, p.cps.toList ≤ x.cps.toList) → (l.Pairwise fun a b => a.cps.toList ≤ b.cps.toList) → risingS p l = true
  | [], _, _, _ => rfl
  | x :: r, p, h, pw => by
    obtain ⟨p1, p2⟩ := List.pairwise_cons.mp pw
    show (!ltCps x.cps.toList p.cps.toList && risingS x r) = true
    rw [ltCps_eq, rising_of r x p1 p2, Bool.and_true]
    have := h x (List.mem_cons_self ..)
    simpa using List.not_lt.mpr this
theorem sortedS_of : ∀ {l : List Str}, (l.Pairwise fun a b => a.cps.toList ≤ b.cps.toList) → sortedS l = true
  | [], _ => rfl
  | x :: r, h => by
    obtain ⟨p1, p2⟩ := List.pairwise_cons.mp h
    exact rising_of r x p1 p2
theorem kst_sorted : sortedS (ids.map kst) = true := by decide +kernel
/-- a disk's paths, ascending -/
def skD (D : Dm) : List Str := (ids.filter fun i => (D i).isSome).map kst
theorem skD_sorted (D : Dm) : sortedS (skD D) = true := sortedS_of ((sortedS_all kst_sorted).sublist (List.Sublist.map _ List.filter_sublist))
theorem skD_perm {l : List (Str × Str)} {D : Dm} (h : Dsk l D) : (l.map (·.1)).Perm (skD D) := by
  refine perm_of_mem h.nd ((List.Sublist.map _ List.filter_sublist).nodup kst_nodup) fun k => ?_
  unfold skD
  rw [List.mem_map, List.mem_map]
  constructor
  · rintro ⟨⟨k', t⟩, he, rfl⟩
    obtain ⟨i, hi, ek, hd⟩ := (h.mem _ _).mp he
    exact ⟨i, List.mem_filter.mpr ⟨hi, by rw [hd]; rfl⟩, ek.symm⟩
  · rintro ⟨i, hi, rfl⟩
    obtain ⟨h1, h2⟩ := List.mem_filter.mp hi
    obtain ⟨t, ht⟩ := Option.isSome_iff_exists.mp h2
    exact ⟨(kst i, t), (h.mem _ _).mpr ⟨i, h1, rfl, ht⟩, rfl⟩
theorem skD_len (D : Dm) : (skD D).length ≤ 29 := by
  unfold skD
  rw [List.length_map]
  exact Nat.le_trans (List.length_filter_le _ _) (by decide +kernel)
theorem skD_mem {D : Dm} {k : Str} (h : k ∈ skD D) : ∃ i ∈ ids, k = kst i := by
  obtain ⟨i, hi, rfl⟩ := List.mem_map.mp h
  exact ⟨i, (List.mem_filter.mp hi).1, rfl⟩
theorem ids_n : ∀ n ∈ List.range' 1 7, (ids.filter fun i => decide (i / 4 = n ∧ i % 4 ≠ 0)) = (List.range 3).map fun j => 4 * n + 1 + j := by decide +kernel
theorem ids_n4 : ∀ n ∈ List.range' 1 7, (ids.filter fun i => decide (i ≠ 0 ∧ i / 4 = n)) = 4 * n :: (List.range 3).map fun j => 4 * n + 1 + j := by decide +kernel
theorem bs_st : ∀ n ∈ List.range' 1 7, ∀ i ∈ ids, Txt.startswith (kst i) (bsN n) = decide (i ≠ 0 ∧ i / 4 = n) := by decide +kernel
theorem sk_filter {D : Dm} {p : Str → Bool} {B : Nat → Bool} {L : List Nat} (hp : ∀ i ∈ ids, p (kst i) = B i) (hL : ids.filter B = L) : (skD D).filter p = (L.filter fun i => (D i).isSome).map kst := by
  unfold skD
  rw [List.filter_map, List.filter_filter, ← hL, List.filter_filter]
  congr 1
  refine List.filter_congr fun i hi => ?_
  show (p (kst i) && (D i).isSome) = ((D i).isSome && B i)
  rw [hp i hi, Bool.and_comm]
theorem sk_hd (D : Dm) {n : Nat} (hn : n ∈ List.range' 1 7) : ((skD D).filter fun x => Txt.startswith x (hdF n)).map (fun x => (x, (none : Option Str))) = (delF D n).map wrS := by
  rw [sk_filter (p := fun x => Txt.startswith x (hdF n)) (B := fun i => decide (i / 4 = n ∧ i % 4 ≠ 0)) (fun i hi => (hd_facts n hn i hi).1) (ids_n n hn), List.filter_map, List.map_map, List.map_map]
  unfold delF
  rw [List.map_map]
  rfl
theorem sk_bs {D : Dm} {n : Nat} (hn : n ∈ List.range' 1 7) (h0 : D (4 * n) = none) : ((skD D).filter fun x => Txt.startswith x (bsN n)).map (fun x => (x, (none : Option Str))) = (delF D n).map wrS := by
  rw [sk_filter (p := fun x => Txt.startswith x (bsN n)) (B := fun i => decide (i ≠ 0 ∧ i / 4 = n)) (bs_st n hn) (ids_n4 n hn), List.filter_cons, h0, if_neg (by decide), List.filter_map, List.map_map, List.map_map]
  unfold delF
  rw [List.map_map]
  rfl
theorem delF_len (D : Dm) (n : Nat) : (delF D n).length ≤ 3 := by
  unfold delF
  rw [List.length_map]
  exact Nat.le_trans (List.length_filter_le _ _) (by rw [List.length_range]; exact Nat.le_refl _)
theorem delF_ids {D : Dm} {n : Nat} (hn : n ∈ List.range' 1 7) : ∀ w ∈ delF D n, w.1 ∈ ids := fun w hw => by
  unfold delF at hw
  obtain ⟨j, hj, rfl⟩ := List.mem_map.mp hw
  exact file_id hn (List.mem_range.mp (List.mem_filter.mp hj).1)
section
variable {σ : L2.St} {H H' : Hp} {te ta tb td tl : TE} {tt : TT} {v : V} {K : PySem.W.Frag}
theorem s_ext {D : Ends} {l : Addr} {xs : List V} {R : List V → Hp → Prop} (hl : H l = some (.lst xs)) (ha : Ev ta σ H (.ref l)) (h : EvP te σ H fun v H2 => ∃ b zs, v = .ref b ∧ H2 b = some (.lst zs) ∧ zs.length ≤ 1000 ∧ R zs H2) (hz : xs.length ≤ 1000) (k : ∀ zs H1, Ex H H1 → R zs H1 → D.nx σ (upd H1 l (.lst (xs ++ zs)))) : tDrop (tBM K "list" rExtend ta (tCons te tNil)) D σ H :=
  ha H (Ex.refl H) _ fun H1 e1 => ⟨.inl ⟨rfl, _, sq_of (e1 _ _ hl)⟩, h H1 e1 _ fun v H2 e2 ⟨b, zs, ev, hb, lz, r⟩ => by
    subst ev
    exact ⟨l, b, xs, zs, rfl, rfl, (e1.trans e2) _ _ hl, hb, sz_of (by omega), k zs H2 (e1.trans e2) r⟩⟩
end
section
variable {σ : L2.St} {H H' : Hp} {te ta tb td tl : TE} {v : V} {K : PySem.W.Frag}
theorem q_appD {α : Type} [DecidableEq α] [Datum α] {D : Ends} {tz : TS} {l : Addr} {xs : List V} {x : α} (hl : H l = some (.lst xs)) (ha : Ev ta σ H (.ref l)) (h : EvD te K σ H x) (hz : xs.length ≤ 1000) (k : ∀ v H1, Ex H H1 → Dt K H1 v x → tz D σ (upd H1 l (.lst (xs ++ [v])))) : tSeq (tDrop (tBM K "list" rAppend ta (tCons te tNil))) tz D σ H :=
  ha H (Ex.refl H) _ fun H1 e1 => ⟨.inl ⟨rfl, _, sq_of (e1 _ _ hl)⟩, h H1 e1 _ fun v H2 e2 dv => ⟨l, xs, v, rfl, rfl, (e1.trans e2) _ _ hl, sz_lt (by omega), k v H2 (e1.trans e2) dv⟩⟩
theorem el_rev {xs : List V} (h : EvL te σ H xs) : EvL (tRevL K te) σ H xs.reverse := fun H1 e Q q =>
  h H1 e _ fun p H2 np e2 h2 => ⟨p, xs, rfl, sq_of h2, fun p2 hp2 => q p2 _ (fresh_back e2 hp2) (e2.trans (Ex.new hp2)) upd_same⟩
theorem el_slN {t1 t2 : TO} {lo hi : Option Int} {xs : List V} (h : EvL te σ H xs) (h1 : EvO t1 σ H lo) (h2 : EvO t2 σ H hi) : EvL (tSl (rSlL K) te t1 t2) σ H (cutV xs lo hi) := fun H1 e Q q =>
  h H1 e _ fun p H2 np e2 hp => h1 H2 (e.trans e2) _ fun H3 e3 => h2 H3 ((e.trans e2).trans e3) _ fun H4 e4 => ⟨p, xs, rfl, sq_of ((e3.trans e4) _ _ hp), fun p2 hp2 => q p2 _ (fresh_back (e2.trans (e3.trans e4)) hp2) ((e2.trans (e3.trans e4)).trans (Ex.new hp2)) upd_same⟩
theorem el_cat {xs ys : List V} (h : EvL ta σ H xs) (h2 : EvL tb σ H ys) (hz : xs.length + ys.length ≤ 100000) : EvL (tOp rCat ta tb) σ H (xs ++ ys) := fun H1 e Q q =>
  h H1 e _ fun p H2 np e2 hp => h2 H2 (e.trans e2) _ fun p2 H3 np2 e3 hp2 => ⟨p, p2, xs, ys, rfl, rfl, e3 _ _ hp, hp2, sz_of hz, fun p3 hp3 => q p3 _ (fresh_back (e2.trans e3) hp3) ((e2.trans e3).trans (Ex.new hp3)) upd_same⟩
end
/-- an own error that carries nothing -/
structure Own1 (K : PySem.W.Frag) (mg : Str → Option Value) (x : Str) (C : Addr) : Prop where
  gC : mg x = some (.ref C)
  q : PySem.W.excIn K C [.type "ValueError", .type "Exception", .type "BaseException", .type "object"] "ValueError.__new__" = true
  kC : PySem.W.keepIn K (.ref C) = true
  b : PySem.W.subIn K (.ref C) (.type "BaseException") = some true
  t : PySem.W.typeIn K (.ref C) = some (.type "type")
  te : PySem.W.exmOne K (.ref C) (.ref C) = some true
def spRec (K : PySem.W.Frag) : Sp := fun vs H Q _ => ∃ (d : Addr) (l : List (Str × Str)) (D : Dm), vs = [.ref d] ∧ H d = some (.dK (dk V.str l)) ∧ Dsk l D ∧ ∀ p H', H p = none → Ex H H' → WrAt K H' p (recD D) → Q (.ref p) H'
def spBk (K : PySem.W.Frag) : Sp := fun vs H Q _ => ∃ (d : Addr) (l : List (Str × Str)) (D : Dm) (n : Nat), vs = [.ref d, .int (n : Int)] ∧ H d = some (.dK (dk V.str l)) ∧ Dsk l D ∧ D.Sm ∧ n ∈ List.range' 1 7 ∧ wholeB D n = true ∧ ∀ p H', H p = none → Ex H H' → WrAt K H' p [(0, some (numI (n : Nat)))] → Q (.ref p) H'
def spBkX (CB : Addr) : Sp := fun vs H _ E => ∃ (d : Addr) (l : List (Str × Str)) (D : Dm), vs = [.ref d, .int ((99 : Nat) : Int)] ∧ H d = some (.dK (dk V.str l)) ∧ Dsk l D ∧ D.Sm ∧ ∀ H', Ex H H' → E (.ref CB) none H'
def spCur : Sp := fun vs H Q _ => ∃ (d : Addr) (l : List (Str × Str)) (D : Dm) (c : Nat), vs = [.ref d] ∧ H d = some (.dK (dk V.str l)) ∧ Dsk l D ∧ D.Sm ∧ c ∈ List.range' 1 7 ∧ D 0 = some (numI (c : Nat)) ∧ wholeB D c = true ∧ ∀ p H', Ex H H' → H' p = some (.tup [.int (c : Int), .str (imgT (flD D c))]) → Q (.ref p) H'
def spCurX (CB : Addr) : Sp := fun vs H _ E => ∃ (d : Addr) (l : List (Str × Str)) (D : Dm), vs = [.ref d] ∧ H d = some (.dK (dk V.str l)) ∧ Dsk l D ∧ D.Sm ∧ (D 0 = none ∨ ∃ c, c ∈ List.range' 1 7 ∧ D 0 = some (numI (c : Nat)) ∧ wholeB D c = false) ∧ ∀ H', Ex H H' → E (.ref CB) none H'
def spCl (K : PySem.W.Frag) : Sp := fun vs H Q _ => ∃ (d : Addr) (l : List (Str × Str)) (D : Dm) (c n : Nat), vs = [.ref d, .int (n : Int)] ∧ H d = some (.dK (dk V.str l)) ∧ Dsk l D ∧ D.Sm ∧ c ∈ List.range' 1 7 ∧ D 0 = some (numI (c : Nat)) ∧ wholeB D c = true ∧ ∀ p H', H p = none → Ex H H' → WrAt K H' p (cleanD D c n) → Q (.ref p) H'
theorem cur_facts : ∀ c ∈ List.range' 1 7, PySem.intText? (numI (c : Nat)) = some (c : Int) ∧ numI (c : Nat) ≠ "" ∧ ((tl (numI (c : Nat))).map fun x => decide (x ∈ tl "0123456789")).all id = true ∧ (numI (c : Nat)).length ≤ 3 := by decide +kernel
section
variable {P : Program} {w : World} {K : PySem.W.Frag} {mg : Str → Option Value} {base : Heap} {CB : Addr}
theorem scRec : FnScope ["disk", "found", "number", "base", "path"] ["disk"] (defScope sRec) := ⟨rfl, rfl, rfl, by decide +kernel, rfl, by decide +kernel, by decide +kernel⟩
theorem scBk : FnScope ["disk", "number"] ["disk", "number"] (defScope sBk) := ⟨rfl, rfl, rfl, by decide +kernel, rfl, by decide +kernel, by decide +kernel⟩
theorem scCur : FnScope ["disk", "word", "files", "char"] ["disk"] (defScope sCur) := ⟨rfl, rfl, rfl, by decide +kernel, rfl, by decide +kernel, by decide +kernel⟩
/-- [(path, None) for path in sorted(disk) if path.startswith(h)] -/
theorem evp_del {σ : L2.St} {H : Hp} {td te1 te2 : TE} {j : Nat} {vs : List Nat} {d : Addr} {l : List (Str × Str)} {D : Dm} {hd : Str} (h : Ev td σ H (.ref d)) (hH : H d = some (.dK (dk V.str l))) (hD : Dsk l D) (hw : ∀ x, wipe ((wipe σ vs).set j (some x)) vs = wipe σ vs)
    (h1 : ∀ x H1, Ev te1 ((wipe σ vs).set j (some x)) H1 x) (h2 : ∀ x H1, Ev te2 ((wipe σ vs).set j (some x)) H1 (.str hd)) :
    EvP (tLc (iList K (tCB rSortD (tCons td tNil))) (gName j) (tB (tM1 rStarts te1 te2)) (tTup (tCons te1 (tCons (tC .non) tNil))) vs) σ H fun v H2 => ∃ b zs, v = .ref b ∧ H2 b = some (.lst zs) ∧ zs.length ≤ 1000 ∧ DpAll K H2 zs ((((skD D).filter fun x => Txt.startswith x hd).map fun x => (x, (none : Option Str))).map (Datum.toD (α := Str × Option Str))) :=
  EvP.imp (evl_lcLt (K := K) (α := Str) (β := Str × Option Str) (xs := skD D) (fun x => Txt.startswith x hd) (fun x => (x, none)) (fun H1 e1 Q2 q2 => el_sortDk (ks := skD D) h hH (skD_perm hD) (skD_sorted D) (by have := hD.len; omega) H1 e1 Q2 fun p H2 np e2 hp => q2 _ H2 e2 (dt_strs (sq_of hp))) (by have := skD_len D; omega) hw
    (fun x v H1 _ dx _ => by
      have ex := dt_str_inv dx
      subst ex
      exact et_B (ev_starts (h1 _ _) (h2 _ _)))
    (fun x v H1 _ _ dx _ => by
      have ex := dt_str_inv dx
      subst ex
      exact evd_pair (evd_str (h1 _ _)) (evd_noneS ev_c))) fun v H2 _ ⟨a, us, ev, _, ha, da⟩ => ⟨a, us, ev, ha, by
      rw [dpAll_len da, List.length_map]
      have := List.length_filter_le (fun x => Txt.startswith x hd) (skD D)
      have := skD_len D
      omega, da⟩
theorem ok_rec {f : Addr} {fd : FuncData} (F : Fun K "recovered" "recovered" sRec f fd) (B : BtM mg) (hNu : Has P w K mg base CX0 1 "numbers" ["disk"] spNums) : FnOk P w K mg base CX0 2 f fd ["disk"] (spRec K) := by
  refine F.ok scRec (fun vs H Q E h => ?_) (fun cdv Ar outer s H vs Q E hr h => ?_)
  · obtain ⟨d, l, D, rfl, _⟩ := h
    rfl
  · obtain ⟨d, l, D, rfl, hd, hD', k⟩ := h
    have hu := hu_of hr
    refine ⟨_,
      (pss_cons (ps_set (i := 1) scRec.nd rfl (Or.inl rfl) (pe_lst pa_nil))
      (pss_cons (ps_for PassesOwn.never rfl (pi_list (pe_h hNu hr (by rfl) pass0 (pa_cons (pv 0) pa_nil))) (pg_name (i := 2) scRec.nd rfl (Or.inl rfl)) (pss_cons (ps_set (i := 3) scRec.nd rfl (Or.inr rfl) (pe_op op_add_str (pe_op op_add_str (pe_str) (pe_callTy (call_str_int) (by rfl) B.str (by decide +kernel) (pa_cons (pv 2) pa_nil))) (pe_str)))
      (pss_one (ps_if (pt_cmp (pc_dnotin hu (pe_op op_add_str (pv 3) (pe_str)) (pv 0))) (pss_one (ps_expr (pe_bm PySem.F.plainAttrs_list PySem.F.slot_list_extend PySem.F.type_list_extend mt_extend (pv 1) (pa_cons (pe_lc (own := [("path", 4)]) (g := gName 4) rfl scRec.nd (pi_list (pe_callB (call_sortedD rfl) (by rfl) B.sorted (by decide +kernel) (pa_cons (pv 0) pa_nil))) (blkOk_by (N := ["disk", "found", "number", "base", "path"]) (sc := defScope sRec) (by decide +kernel)) (fun _ _ _ _ _ => pg_name (i := 4) scRec.nd rfl (Or.inl rfl)) (fun _ _ _ _ _ => pts_one (pt_val (pe_m1 PySem.F.slot_str_startswith PySem.F.type_str_startswith mt_startswith (pv 4) (pv 3)))) (fun _ _ _ _ _ => pe_tup (pa_cons (pv 4) (pa_cons (pe_non) pa_nil)))) pa_nil)))) pss_nil))))
      (pss_one (ps_ret (pv 1))))), ?_⟩
    have nl := nums_len D
    have s1 : ("g" : Str).length = 1 := by decide +kernel
    have s2 : ("/" : Str).length = 1 := by decide +kernel
    have s4 : ("done" : Str).length = 4 := by decide +kernel
    refine q_asgL (xs := []) (el_lst ea_nil (by show 0 ≤ 100000; decide)) fun pf H1 npf e1 hpf => ?_
    refine q_forNLn (xs := (nums D).map fun n => V.int ((n : Nat) : Int)) (el_call (ea_cons (ev_var rfl) ea_nil) fun H2 e2 Q2 q2 E2 => ⟨d, l, D, rfl, (e1.trans e2) _ _ hd, hD', q2⟩) (fun p i σ' H' => ∃ v2 v3, σ' = [some (.ref d), some (.ref pf), v2, v3, none] ∧ Ex H H' ∧ p ≠ pf ∧ H' p = some (.lst ((nums D).map fun n => V.int ((n : Nat) : Int))) ∧
        ∃ us, H' pf = some (.lst us) ∧ DpAll K H' us (((((nums D).take i).flatMap fun n => if (D (4 * n)).isNone then delF D n else []).map wrS).map (Datum.toD (α := Str × Option Str))) ∧ us.length ≤ 3 * i)
      (fun p H2 np e2 hp => ⟨none, none, rfl, e1.trans e2, fun z => (by rw [z, hpf] at np; cases np), hp, [], e2 _ _ hpf, .nil, Nat.zero_le _⟩) (fun p i σ' H' _ ⟨_, _, _, _, _, z, _⟩ => sq_of z) (fun p i x σ' H' hx ⟨v2, v3, es, e2, ne, hp, us, hus, dus, lus⟩ => ?_) (fun p σ' H' ⟨v2, v3, es, e2, ne, hp, us, hus, dus, lus⟩ => ?_)
    · subst es
      rw [List.getElem?_map] at hx
      cases q : (nums D)[i]? with
      | none => rw [q] at hx; cases hx
      | some n =>
        rw [q] at hx
        cases hx
        have hi : i < (nums D).length := (List.getElem?_eq_some_iff.mp q).1
        have hn := nums_in (List.mem_of_getElem? q)
        obtain ⟨b1, b2, b3, b4, b5⟩ := bs_facts n hn
        have hn7 := List.mem_range'.mp hn
        refine q_asg (v := .str (bsN n)) (ev_addS (ev_addS ev_c (ev_strI (i := (n : Int)) (ev_var rfl) (by omega)) (by show ("g" : Str).length + (numI (n : Int)).length ≤ 100000; omega)) ev_c (by show ("g" ++ numI (n : Int)).length + ("/" : Str).length ≤ 100000; simp only [len_app]; omega)) fun H3 e3 => ?_
        have hd3 := (e2.trans e3) _ _ hd
        have nt := et_dnin (k := .inr (bsN n ++ "done")) (σ := [some (.ref d), some (.ref pf), some (.int (n : Int)), some (.str (bsN n)), none]) (H := H3) (td := tVar 0) (ev_addS (ev_var (i := 3) rfl) (ev_c (v := .str "done")) (by omega)) (ev_var (i := 0) rfl) (.inl hd3)
        rw [valV_dk, b1, hD'.look b3] at nt
        have et : (nums D).take (i + 1) = (nums D).take i ++ [n] := by rw [List.take_succ, q]; rfl
        cases q4 : D (4 * n) with
        | none =>
          rw [q4] at nt
          refine s_when (b := true) nt (fun _ H4 e4 => ?_) (fun hb => nomatch hb)
          have e24 := e2.trans (e3.trans e4)
          refine s_ext ((e3.trans e4) _ _ hus) (ev_var rfl) (evp_del (hd := bsN n) (ev_var rfl) (e24 _ _ hd) hD' (fun _ => rfl) (fun _ _ => ev_var rfl) (fun _ _ => ev_var rfl)) (by omega) fun zs H5 e5 dz => ?_
          have e5' := e3.trans (e4.trans e5)
          have U : Ux H5 (upd H5 pf (.lst (us ++ zs))) := Ux.upd (e5' _ _ hus) rfl
          rw [sk_bs hn q4] at dz
          have lz := dpAll_len dz
          rw [List.length_map] at lz
          have := delF_len D n
          refine ⟨_, _, rfl, Ex.mut (e24.trans e5) npf, ne, by rw [upd_ne ne]; exact e5' _ _ hp, us ++ zs, upd_same, ?_, by rw [List.length_append]; omega⟩
          rw [et, List.flatMap_append, List.map_append, List.map_append]
          refine dpAll_append (dpAll_uxT (α := Str × Option Str) ((Ux.of e5').trans U) dus) ?_
          have : ([n].flatMap fun n => if (D (4 * n)).isNone then delF D n else []) = delF D n := by simp [q4]
          rw [this]
          exact dpAll_uxT (α := Str × Option Str) U dz
        | some t =>
          rw [q4] at nt
          refine s_when (b := false) nt (fun hb => nomatch hb) (fun _ H4 e4 => ?_)
          refine ⟨_, _, rfl, e2.trans (e3.trans e4), ne, (e3.trans e4) _ _ hp, us, (e3.trans e4) _ _ hus, ?_, by omega⟩
          have : ([n].flatMap fun n => if (D (4 * n)).isNone then delF D n else []) = [] := by simp [q4]
          rw [et, List.flatMap_append, this, List.append_nil]
          exact dpAll_ex (e3.trans e4) _ _ dus
    · subst es
      rw [List.length_map, List.take_length] at dus
      refine s_ret (ev_var rfl) fun H3 e3 => ?_
      exact k pf H3 npf (e2.trans e3) ⟨us, e3 _ _ hus, dpAll_ex e3 _ _ dus⟩
theorem ev_fo {σ : L2.St} {H : Hp} {te ta : TE} {d : Addr} {l : List (Str × Str)} {D : Dm} {n : Nat} {E : XK} (h : Ev te σ H (.ref d)) (h2 : Ev ta σ H (.int (n : Int))) (hd : H d = some (.dK (dk V.str l))) (hD : Dsk l D) (sm : D.Sm) (hn : n ∈ List.range' 1 7) : EvP (tCall spFo [] E (tCons te (tCons ta tNil))) σ H fun v H2 => (wholeB D n = false ∧ v = .non) ∨ (wholeB D n = true ∧ ∃ p fl, v = .ref p ∧ H2 p = some (.dK (dk V.str fl)) ∧ fl.Perm (flD D n)) := fun H1 e Q q =>
  h H1 e _ fun H2 e2 => h2 H2 (e.trans e2) _ fun H3 e3 => ⟨d, l, D, n, rfl, (e.trans (e2.trans e3)) _ _ hd, hD, sm, .inr ⟨hn, fun wb H4 e4 => q _ H4 (e2.trans (e3.trans e4)) (.inl ⟨wb, rfl⟩), fun wb p H4 fl _ e4 hp pm => q _ H4 (e2.trans (e3.trans e4)) (.inr ⟨wb, p, fl, rfl, hp, pm⟩)⟩⟩
theorem et_foN {σ : L2.St} {H : Hp} {te ta : TE} {d : Addr} {l : List (Str × Str)} {D : Dm} {n : Nat} {E : XK} (h : Ev te σ H (.ref d)) (h2 : Ev ta σ H (.int (n : Int))) (hd : H d = some (.dK (dk V.str l))) (hD : Dsk l D) (sm : D.Sm) (hn : n ∈ List.range' 1 7) : EvT (tTest (tOp rIsNn (tCall spFo [] E (tCons te (tCons ta tNil))) (tC .non))) σ H (!wholeB D n) := fun H1 e Q q =>
  (ev_fo (E := E) h h2 hd hD sm hn) H1 e _ fun v H2 e2 r => by
    rcases r with ⟨wb, ev⟩ | ⟨wb, p, fl, ev, _⟩
    · subst ev
      rw [wb] at q
      exact ⟨rfl, true, by rw [decide_eq_true rfl], q H2 e2⟩
    · subst ev
      rw [wb] at q
      exact ⟨rfl, false, by rw [decide_eq_false (fun z => nomatch z)], q H2 e2⟩
theorem ok_bk {f : Addr} {fd : FuncData} (F : Fun K "back_writes" "back_writes" sBk f fd) (B : BtM mg) (hFo : Has P w K mg base CX0 3 "files_of" ["disk", "number"] spFo) : FnOk P w K mg base CX0 4 f fd ["disk", "number"] (spBk K) := by
  refine F.ok scBk (fun vs H Q E h => ?_) (fun cdv Ar outer s H vs Q E hr h => ?_)
  · obtain ⟨d, l, D, n, rfl, _⟩ := h
    rfl
  · obtain ⟨d, l, D, n, rfl, hd, hD', sm, hn, wb, k⟩ := h
    refine ⟨_,
      (pss_cons (ps_if (pt_cmpR (op_isN) (pe_h hFo hr (by rfl) pass0 (pa_cons (pv 0) (pa_cons (pv 1) pa_nil))) (pe_non) (nomark _)) (pss_one (ps_never)) pss_nil)
      (pss_one (ps_ret (pe_lst (pa_cons (pe_tup (pa_cons (pe_str) (pa_cons (pe_callTy (call_str_int) (by rfl) B.str (by decide +kernel) (pa_cons (pv 1) pa_nil)) pa_nil))) pa_nil))))), ?_⟩
    have hn7 := List.mem_range'.mp hn
    refine q_when (b := !wholeB D n) (et_foN (ev_var rfl) (ev_var rfl) hd hD' sm hn) (fun hb => by rw [wb] at hb; cases hb) fun _ H1 e1 => ?_
    unfold tRet
    refine t_lstD (K := K) (α := Str × Option Str) (xs := [(kst 0, some (numI (n : Nat)))]) (eda_cons (evd_pair (evd_str (ev_is ev_c rfl)) (evd_some (ev_strI (i := (n : Int)) (ev_var rfl) (by omega)))) eda_nil) (by show 1 ≤ 1000; decide) fun p us H2 np e2 hp dp => ?_
    exact k p H2 (fresh_back e1 np) (e1.trans e2) ⟨us, hp, dp⟩
theorem ok_bkX {f : Addr} {fd : FuncData} (F : Fun K "back_writes" "back_writes" sBk f fd) (B : BtM mg) (R : Own1 K mg "BrokenDisk" CB) (hFo : Has P w K mg base CX0 3 "files_of" ["disk", "number"] spFo) : FnOk P w K mg base (L2.CX P w) 4 f fd ["disk", "number"] (spBkX CB) := by
  refine F.okX scBk (fun vs H Q E h => ?_) (fun cdv Ar outer s H vs Q E hr h => ?_)
  · obtain ⟨d, l, D, rfl, _⟩ := h
    rfl
  · obtain ⟨d, l, D, rfl, hd, hD', sm, k⟩ := h
    refine ⟨_,
      (pss_cons (ps_if (pt_cmpR (op_isN) (pe_h hFo hr (by rfl) pass0 (pa_cons (pv 0) (pa_cons (pv 1) pa_nil))) (pe_non) (nomark _)) (pss_one (ps_raise rfl (takes_of rfl rfl rfl rfl) (pmk_own PySem.F.excBase_ValueError R.q R.gC R.kC (raises_own R.b R.t) rfl))) pss_nil)
      (pss_one (ps_ret (pe_lst (pa_cons (pe_tup (pa_cons (pe_str) (pa_cons (pe_callTy (call_str_int) (by rfl) B.str (by decide +kernel) (pa_cons (pv 1) pa_nil)) pa_nil))) pa_nil))))), ?_⟩
    refine q_when (b := true) (fun H1 e1 Q2 q2 => ?_) (fun _ H1 e1 => k H1 e1) (fun hb => nomatch hb)
    unfold tTest tOp
    exact t_callQ (ea_cons (ev_var rfl) (ea_cons (ev_var rfl) ea_nil)) fun H2 e2 => ⟨d, l, D, 99, rfl, (e1.trans e2) _ _ hd, hD', sm, .inl ⟨rfl, fun H3 e3 => ⟨rfl, true, by rw [decide_eq_true rfl], q2 H3 (e2.trans e3)⟩⟩⟩
theorem ev_word {σ : L2.St} {H : Hp} {td : TE} {d : Addr} {l : List (Str × Str)} {D : Dm} (h : Ev td σ H (.ref d)) (hd : H d = some (.dK (dk V.str l))) (hD : Dsk l D) : Ev (tDGet2 td (tC (.str "current")) (tC (.str ""))) σ H (.str ((D 0).getD "")) := by
  refine ev_is (ev_dget2K (k := .inr "current") (z := .str "") h ev_c ev_c (.inl hd)) ?_
  rw [valV_dk, show ("current" : Str) = kst 0 from rfl, hD.look (List.mem_cons_self ..)]
  cases D 0 <;> rfl
theorem ok_cur {f : Addr} {fd : FuncData} (F : Fun K "current" "current" sCur f fd) (B : BtM mg) (hFo : Has P w K mg base CX0 3 "files_of" ["disk", "number"] spFo) (hWim : Has P w K mg base CX0 1 "write_image" ["files"] spWim) : FnOk P w K mg base CX0 4 f fd ["disk"] spCur := by
  refine F.ok scCur (fun vs H Q E h => ?_) (fun cdv Ar outer s H vs Q E hr h => ?_)
  · obtain ⟨d, l, D, c, rfl, _⟩ := h
    rfl
  · obtain ⟨d, l, D, c, rfl, hd, hD', sm, hc, hw, wb, k⟩ := h
    have hu := hu_of hr
    obtain ⟨tD, gD⟩ := B.dgM
    obtain ⟨c1, c2, c3, c4⟩ := cur_facts c hc
    refine ⟨_,
      (pss_cons (ps_set (i := 1) scCur.nd rfl (Or.inl rfl) (pe_dget2 hu (pv 0) (pe_str) (pe_str) ⟨rfl, rfl, rfl, rfl⟩))
      (pss_cons (ps_if (PW.pt (pw_or (pt_cmpR (op_eq) (pv 1) (pe_str) (nomark _)) (pw_or1 (pt_not (pt_val (pe_callB (cr_all rfl) (by rfl) B.all (by decide +kernel) (pa_cons (pe_lc (own := [("char", 3)]) (g := gName 3) (tt := tYes) rfl scCur.nd (pi_str (pv 1)) (blkOk_by (N := ["disk", "word", "files", "char"]) (sc := defScope sCur) (by decide +kernel)) (fun _ _ _ _ _ => pg_name (i := 3) scCur.nd rfl (Or.inl rfl)) (fun _ _ _ _ _ => pts_nil) (fun _ _ _ _ _ => pe_cmpR op_in_sign (pv 3) (pe_glob (v := .str "0123456789") (by rfl) gD ⟨tD, rfl⟩) rfl)) pa_nil))))))) (pss_one (ps_never)) pss_nil)
      (pss_cons (ps_set (i := 2) scCur.nd rfl (Or.inl rfl) (pe_h hFo hr (by rfl) pass0 (pa_cons (pv 0) (pa_cons (pe_callTy (call_int_str) (by rfl) B.int (by decide +kernel) (pa_cons (pv 1) pa_nil)) pa_nil))))
      (pss_cons (ps_if (pt_cmpR (op_isN) (pv 2) (pe_non) (nomark _)) (pss_one (ps_never)) pss_nil)
      (pss_one (ps_ret (pe_tup (pa_cons (pe_callTy (call_int_str) (by rfl) B.int (by decide +kernel) (pa_cons (pv 1) pa_nil)) (pa_cons (pe_h hWim hr (by rfl) pass0 (pa_cons (pv 2) pa_nil)) pa_nil))))))))), ?_⟩
    refine q_asg (v := .str (numI (c : Nat))) (ev_is (ev_word (ev_var rfl) hd hD') (by rw [hw]; rfl)) fun H1 e1 => ?_
    refine q_when (b := false) (et_is (et_or (et_test (ev_op (ev_var rfl) ev_c (rv_eq rfl))) fun _ => et_not (et_B (ev_all (bs := (tl (numI (c : Nat))).map fun x => decide (x ∈ tl "0123456789")) ?_))) ?_) (fun h => nomatch h) fun _ H2 e2 => ?_
    · rw [List.map_map]
      refine el_lcS (x := numI (c : Nat)) (fun c => V.bl (decide (c ∈ tl "0123456789"))) (ev_var rfl) (by have := len_tl (numI (c : Nat)); omega) (fun _ => rfl) fun c H2 e2 hc => ?_
      exact ev_op (ev_var rfl) ev_c rv_inS
    · rw [str_eq, decide_eq_false c2, c3]
      rfl
    refine q_asgP (ev_fo (n := c) (ev_var rfl) (ev_intS (ev_var rfl) c1 (by omega)) ((e1.trans e2) _ _ hd) hD' sm hc) fun v H3 e3 r => ?_
    rcases r with ⟨wb', _⟩ | ⟨_, p, fl, ev, hp, pm⟩
    · rw [wb] at wb'
      cases wb'
    · subst ev
      refine q_when (b := false) (et_is (et_test (ev_isN (ev_var (v := .ref p) rfl))) (decide_eq_false fun z => nomatch z)) (fun h => nomatch h) fun _ H4 e4 => ?_
      have fl3 := flD_len D c
      refine s_retU (xs := [.int (c : Int), .str (imgT (flD D c))]) (eu_tup (ea_cons (ev_intS (ev_var rfl) c1 (by omega)) (ea_cons (ev_call (sp := spWim) (z := .str (imgT (flD D c))) (ea_cons (ev_var rfl) ea_nil) fun H5 e5 Q q5 E => ⟨p, fl, flD D c, rfl, (e4.trans e5) _ _ hp, pm, ?_, (flD_sorted D c).1, by omega, flD_size sm hc, q5⟩) ea_nil)) (by show 2 ≤ 100000; decide)) fun pt H5 _ e5 hpt => k pt H5 (e1.trans (e2.trans (e3.trans (e4.trans e5)))) hpt
      exact (pm.map _).nodup_iff.mpr (flD_sorted D c).2
theorem ok_curX {f : Addr} {fd : FuncData} (F : Fun K "current" "current" sCur f fd) (B : BtM mg) (R : Own1 K mg "BrokenDisk" CB) (hFo : Has P w K mg base CX0 3 "files_of" ["disk", "number"] spFo) (hWim : Has P w K mg base CX0 1 "write_image" ["files"] spWim) : FnOk P w K mg base (L2.CX P w) 4 f fd ["disk"] (spCurX CB) := by
  refine F.okX scCur (fun vs H Q E h => ?_) (fun cdv Ar outer s H vs Q E hr h => ?_)
  · obtain ⟨d, l, D, rfl, _⟩ := h
    rfl
  · obtain ⟨d, l, D, rfl, hd, hD', sm, hc, k⟩ := h
    have hu := hu_of hr
    obtain ⟨tD, gD⟩ := B.dgM
    refine ⟨_,
      (pss_cons (ps_set (i := 1) scCur.nd rfl (Or.inl rfl) (pe_dget2 hu (pv 0) (pe_str) (pe_str) ⟨rfl, rfl, rfl, rfl⟩))
      (pss_cons (ps_if (PW.pt (pw_or (pt_cmpR (op_eq) (pv 1) (pe_str) (nomark _)) (pw_or1 (pt_not (pt_val (pe_callB (cr_all rfl) (by rfl) B.all (by decide +kernel) (pa_cons (pe_lc (own := [("char", 3)]) (g := gName 3) (tt := tYes) rfl scCur.nd (pi_str (pv 1)) (blkOk_by (N := ["disk", "word", "files", "char"]) (sc := defScope sCur) (by decide +kernel)) (fun _ _ _ _ _ => pg_name (i := 3) scCur.nd rfl (Or.inl rfl)) (fun _ _ _ _ _ => pts_nil) (fun _ _ _ _ _ => pe_cmpR op_in_sign (pv 3) (pe_glob (v := .str "0123456789") (by rfl) gD ⟨tD, rfl⟩) rfl)) pa_nil))))))) (pss_one (ps_raise rfl (takes_of rfl rfl rfl rfl) (pmk_own PySem.F.excBase_ValueError R.q R.gC R.kC (raises_own R.b R.t) rfl))) pss_nil)
      (pss_cons (ps_set (i := 2) scCur.nd rfl (Or.inl rfl) (pe_h hFo hr (by rfl) pass0 (pa_cons (pv 0) (pa_cons (pe_callTy (call_int_str) (by rfl) B.int (by decide +kernel) (pa_cons (pv 1) pa_nil)) pa_nil))))
      (pss_cons (ps_if (pt_cmpR (op_isN) (pv 2) (pe_non) (nomark _)) (pss_one (ps_raise rfl (takes_of rfl rfl rfl rfl) (pmk_own PySem.F.excBase_ValueError R.q R.gC R.kC (raises_own R.b R.t) rfl))) pss_nil)
      (pss_one (ps_ret (pe_tup (pa_cons (pe_callTy (call_int_str) (by rfl) B.int (by decide +kernel) (pa_cons (pv 1) pa_nil)) (pa_cons (pe_h hWim hr (by rfl) pass0 (pa_cons (pv 2) pa_nil)) pa_nil))))))))), ?_⟩
    rcases hc with h0 | ⟨c, hc, hw, wb⟩
    · refine q_asg (v := .str "") (ev_is (ev_word (ev_var rfl) hd hD') (by rw [h0]; rfl)) fun H1 e1 => ?_
      exact q_when (b := true) (et_is (et_or (b := false) (et_test (ev_op (ev_var rfl) ev_c (rv_eq rfl))) fun h => absurd h (by rw [decide_eq_true rfl]; decide)) (by rw [decide_eq_true rfl]; rfl)) (fun _ H2 e2 => k H2 (e1.trans e2)) (fun h => nomatch h)
    · obtain ⟨c1, c2, c3, c4⟩ := cur_facts c hc
      refine q_asg (v := .str (numI (c : Nat))) (ev_is (ev_word (ev_var rfl) hd hD') (by rw [hw]; rfl)) fun H1 e1 => ?_
      refine q_when (b := false) (et_is (et_or (et_test (ev_op (ev_var rfl) ev_c (rv_eq rfl))) fun _ => et_not (et_B (ev_all (bs := (tl (numI (c : Nat))).map fun x => decide (x ∈ tl "0123456789")) ?_))) ?_) (fun h => nomatch h) fun _ H2 e2 => ?_
      · rw [List.map_map]
        refine el_lcS (x := numI (c : Nat)) (fun c => V.bl (decide (c ∈ tl "0123456789"))) (ev_var rfl) (by have := len_tl (numI (c : Nat)); omega) (fun _ => rfl) fun c H2 e2 hc => ?_
        exact ev_op (ev_var rfl) ev_c rv_inS
      · rw [str_eq, decide_eq_false c2, c3]
        rfl
      refine q_asgP (ev_fo (n := c) (ev_var rfl) (ev_intS (ev_var rfl) c1 (by omega)) ((e1.trans e2) _ _ hd) hD' sm hc) fun v H3 e3 r => ?_
      rcases r with ⟨_, ev⟩ | ⟨wb', _⟩
      · subst ev
        exact q_when (b := true) (et_is (et_test (ev_isN (ev_var (v := .non) rfl))) (decide_eq_true rfl)) (fun _ H4 e4 => k H4 (e1.trans (e2.trans (e3.trans e4)))) (fun h => nomatch h)
      · rw [wb] at wb'
        cases wb'
theorem inV_nat (x : Nat) : ∀ xs : List Nat, inV (.int (x : Int)) (xs.map fun n => V.int ((n : Nat) : Int)) = decide (x ∈ xs)
  | [] => rfl
  | y :: ys => by
    have ih := inV_nat x ys
    unfold inV at ih ⊢
    rw [List.map_cons, List.any_cons, ih]
    have e : eqV (V.int (y : Int)) (V.int (x : Int)) = decide (x = y) := by
      show decide ((y : Int) = (x : Int)) = _
      exact decide_eq_decide.mpr (by omega)
    rw [e]
    by_cases c : x = y
    · simp [c]
    · by_cases c2 : x ∈ ys <;> simp [c, c2]
theorem flat_nats : ∀ xs : List Nat, (xs.map fun n => V.int ((n : Nat) : Int)).all flatV = true
  | [] => rfl
  | x :: xs => by
    rw [List.map_cons, List.all_cons, flat_nats xs]
    rfl
end
end Mx
set_option Elab.async false
set_option linter.all false
set_option maxRecDepth 100000
set_option maxHeartbeats 1000000
namespace Mx
open PySem PySem.Spec PyProof.Rows L2 Evl TL
open PySem.W (Datum DatumOrd Tup SomeDatum)
theorem dg_len : ∀ ds ∈ Imgs, (dgI ds).length ≤ 20 := by decide +kernel
/-! ### the disks that the law meets: whole generations G, the current one c, and n0 with some files F and no mark -/
abbrev Gn := Nat → Option (List Nat)
abbrev Fn := Nat → Option Str
def N0 : Fn := fun _ => none
def gF (ds : List Nat) : Fn := fun j => if j < ds.length then some (val (ds.getD j 0)) else none
def frm (G : Gn) (c n0 : Nat) (F : Fn) : Dm := fun i => if i = 0 then some (numI (c : Nat)) else if i % 4 = 0 then (G (i / 4)).map dgI else match G (i / 4) with
  | some ds => gF ds (i % 4 - 1)
  | none => if i / 4 = n0 then F (i % 4 - 1) else none
def Fset (F : Fn) (j : Nat) (v : Option Str) : Fn := fun k => if k = j then v else F k
def Gset (G : Gn) (m : Nat) (v : Option (List Nat)) : Gn := fun k => if k = m then v else G k
structure Ok (G : Gn) (c n0 : Nat) (F : Fn) : Prop where
  g : ∀ n ds, G n = some ds → ds ∈ Imgs ∧ n ∈ List.range' 1 7
  c : (G c).isSome = true
  z : G n0 = none
  n : n0 ∈ List.range' 1 7 ∨ F = N0
  f : ∀ j t, F j = some t → t.length ≤ 100
  f3 : ∀ j, 3 ≤ j → F j = none
section
variable {G : Gn} {c n0 : Nat} {F : Fn}
theorem frm_0 : frm G c n0 F 0 = some (numI (c : Nat)) := by
  unfold frm
  rw [if_pos rfl]
theorem frm_done {n : Nat} (hn : 1 ≤ n) : frm G c n0 F (4 * n) = (G n).map dgI := by
  unfold frm
  rw [if_neg (by omega), if_pos (by omega), show 4 * n / 4 = n by omega]
theorem frm_file {n j : Nat} (hj : j < 3) : frm G c n0 F (4 * n + 1 + j) = match G n with
  | some ds => gF ds j
  | none => if n = n0 then F j else none := by
  unfold frm
  rw [if_neg (by omega), if_neg (by omega), show (4 * n + 1 + j) / 4 = n by omega, show (4 * n + 1 + j) % 4 - 1 = j by omega]
theorem frm_N (n1 : Nat) : frm G c n0 N0 = frm G c n1 N0 := by
  funext i
  unfold frm N0
  split
  · rfl
  · split
    · rfl
    · cases G (i / 4) with
      | none => simp
      | some _ => rfl
theorem in7 {n : Nat} : n ∈ List.range' 1 7 ↔ 1 ≤ n ∧ n ≤ 7 := by
  rw [List.mem_range']
  constructor
  · rintro ⟨i, hi, rfl⟩
    omega
  · rintro ⟨h1, h2⟩
    exact ⟨n - 1, by omega, by omega⟩
theorem Ok.c7 (h : Ok G c n0 F) : c ∈ List.range' 1 7 := by
  obtain ⟨ds, hd⟩ := Option.isSome_iff_exists.mp h.c
  exact (h.g c ds hd).2
theorem fm_congr {α β : Type} {f g : α → Option β} : ∀ (l : List α), (∀ x ∈ l, f x = g x) → l.filterMap f = l.filterMap g
  | [], _ => rfl
  | x :: r, h => by
    rw [List.filterMap_cons, List.filterMap_cons, h x (List.mem_cons_self ..), fm_congr r fun y hy => h y (List.mem_cons_of_mem _ hy)]
theorem flD_whole (h : Ok G c n0 F) {n : Nat} {ds : List Nat} (hG : G n = some ds) : flD (frm G c n0 F) n = filesL ds := by
  obtain ⟨hI, hn⟩ := h.g n ds hG
  obtain ⟨l1, l3, _⟩ := img_len ds hI
  have e : ∀ j ∈ List.range 3, (frm G c n0 F (4 * n + 1 + j)).map (fun t => (pth j, t)) = (gF ds j).map fun t => (pth j, t) := fun j hj => by
    rw [frm_file (List.mem_range.mp hj), hG]
  unfold flD
  rw [fm_congr _ e]
  unfold filesL gF
  have : ds.length = 1 ∨ ds.length = 2 ∨ ds.length = 3 := by omega
  rcases this with z | z | z <;> rw [z] <;> simp [List.range_succ]
theorem whole_frm (h : Ok G c n0 F) {n : Nat} (hn : n ∈ List.range' 1 7) : wholeB (frm G c n0 F) n = (G n).isSome := by
  unfold wholeB
  rw [frm_done (in7.mp hn).1]
  cases q : G n with
  | none => rfl
  | some ds =>
    show decide (digS (imgT (flD (frm G c n0 F) n)) = dgI ds) = true
    rw [flD_whole h q]
    exact decide_eq_true rfl
theorem nums_frm (h : Ok G c n0 F) {n : Nat} : n ∈ nums (frm G c n0 F) ↔ n ∈ List.range' 1 7 ∧ ((G n).isSome = true ∨ (n = n0 ∧ ∃ j, j < 3 ∧ (F j).isSome = true)) := by
  unfold nums
  rw [List.mem_filter, List.any_eq_true]
  constructor
  · rintro ⟨hn, j, hj, hd⟩
    refine ⟨hn, ?_⟩
    have hj4 := List.mem_range.mp hj
    rcases Nat.eq_zero_or_pos j with rfl | jp
    · rw [Nat.add_zero, frm_done (in7.mp hn).1] at hd
      left
      cases q : G n with
      | none => rw [q] at hd; cases hd
      | some _ => rfl
    · rw [show 4 * n + j = 4 * n + 1 + (j - 1) by omega, frm_file (by omega)] at hd
      cases q : G n with
      | some _ => exact .inl rfl
      | none =>
        right
        rw [q] at hd
        have hd : (if n = n0 then F (j - 1) else none).isSome = true := hd
        by_cases e : n = n0
        · rw [if_pos e] at hd
          exact ⟨e, j - 1, by omega, hd⟩
        · rw [if_neg e] at hd
          cases hd
  · rintro ⟨hn, hd⟩
    refine ⟨hn, ?_⟩
    rcases hd with hd | ⟨rfl, j, hj, hd⟩
    · refine ⟨0, List.mem_range.mpr (by decide), ?_⟩
      rw [Nat.add_zero, frm_done (in7.mp hn).1]
      obtain ⟨ds, q⟩ := Option.isSome_iff_exists.mp hd
      rw [q]
      rfl
    · refine ⟨j + 1, List.mem_range.mpr (by omega), ?_⟩
      rw [show 4 * n + (j + 1) = 4 * n + 1 + j by omega, frm_file hj, h.z]
      show (if n = n then F j else none).isSome = true
      rw [if_pos rfl]
      exact hd
def wG (G : Gn) : List Nat := (List.range' 1 7).filter fun n => (G n).isSome
theorem wholes_frm (h : Ok G c n0 F) : wholes (frm G c n0 F) = wG G := by
  have nd : (wholes (frm G c n0 F)).Pairwise (· < ·) := List.Pairwise.filter _ (List.Pairwise.filter _ (List.pairwise_lt_range' (s := 1) (n := 7)))
  have nd2 : (wG G).Pairwise (· < ·) := List.Pairwise.filter _ (List.pairwise_lt_range' (s := 1) (n := 7))
  refine List.Perm.eq_of_pairwise (fun a b _ _ h1 h2 => by omega) nd nd2 (perm_of_mem (nd.imp fun h => Nat.ne_of_lt h) (nd2.imp fun h => Nat.ne_of_lt h) fun n => ?_)
  unfold wholes wG
  rw [List.mem_filter, List.mem_filter, nums_frm h]
  constructor
  · rintro ⟨⟨hn, _⟩, hw⟩
    rw [whole_frm h hn] at hw
    exact ⟨hn, hw⟩
  · rintro ⟨hn, hw⟩
    exact ⟨⟨hn, .inl hw⟩, by rw [whole_frm h hn]; exact hw⟩
theorem nums_N (h : Ok G c n0 N0) : nums (frm G c n0 N0) = wG G := by
  have nd : (nums (frm G c n0 N0)).Pairwise (· < ·) := List.Pairwise.filter _ (List.pairwise_lt_range' (s := 1) (n := 7))
  have nd2 : (wG G).Pairwise (· < ·) := List.Pairwise.filter _ (List.pairwise_lt_range' (s := 1) (n := 7))
  refine List.Perm.eq_of_pairwise (fun a b _ _ h1 h2 => by omega) nd nd2 (perm_of_mem (nd.imp fun h => Nat.ne_of_lt h) (nd2.imp fun h => Nat.ne_of_lt h) fun n => ?_)
  unfold wG
  rw [List.mem_filter, nums_frm h]
  constructor
  · rintro ⟨hn, hw | ⟨_, j, _, hf⟩⟩
    · exact ⟨hn, hw⟩
    · cases hf
  · rintro ⟨hn, hw⟩
    exact ⟨hn, .inl hw⟩
theorem frm_sm (h : Ok G c n0 F) : (frm G c n0 F).Sm := fun i hi t ht => by
  have h7 : i = 0 ∨ (4 ≤ i ∧ i < 32) := by
    unfold ids at hi
    rcases List.mem_cons.mp hi with z | z
    · exact .inl z
    · obtain ⟨k, hk, rfl⟩ := List.mem_map.mp z
      have := List.mem_range.mp hk
      exact .inr ⟨by omega, by omega⟩
  rcases h7 with rfl | ⟨i4, i32⟩
  · rw [frm_0] at ht
    cases ht
    have := (cur_facts c h.c7).2.2.2
    omega
  · by_cases m : i % 4 = 0
    · rw [show i = 4 * (i / 4) by omega, frm_done (by omega)] at ht
      cases q : G (i / 4) with
      | none => rw [q] at ht; cases ht
      | some ds =>
        rw [q] at ht
        cases ht
        have := dg_len ds (h.g _ ds q).1
        omega
    · rw [show i = 4 * (i / 4) + 1 + (i % 4 - 1) by omega, frm_file (by omega)] at ht
      cases q : G (i / 4) with
      | none =>
        rw [q] at ht
        have ht : (if i / 4 = n0 then F (i % 4 - 1) else none) = some t := ht
        split at ht
        · exact h.f _ _ ht
        · cases ht
      | some ds =>
        rw [q] at ht
        have ht : gF ds (i % 4 - 1) = some t := ht
        unfold gF at ht
        split at ht
        · rename_i lt
          cases ht
          have := (fl_facts ds (h.g _ ds q).1).2.2 (pth (i % 4 - 1), val (ds.getD (i % 4 - 1) 0)) (by unfold filesL; exact List.mem_map.mpr ⟨_, List.mem_range.mpr lt, rfl⟩)
          have e : (val (ds.getD (i % 4 - 1) 0)).length ≤ 4 := this.2
          omega
        · cases ht
theorem set_F {j : Nat} {v : Option Str} (hz : G n0 = none) (hj : j < 3) : (frm G c n0 F).set (4 * n0 + 1 + j) v = frm G c n0 (Fset F j v) := by
  funext i
  unfold Dm.set
  by_cases e : i = 4 * n0 + 1 + j
  · rw [if_pos e, e, frm_file hj, hz]
    show v = if n0 = n0 then Fset F j v j else none
    rw [if_pos rfl]
    unfold Fset
    rw [if_pos rfl]
  · rw [if_neg e]
    unfold frm
    split
    · rfl
    · split
      · rfl
      · cases q : G (i / 4) with
        | some _ => rfl
        | none =>
          show (if i / 4 = n0 then F (i % 4 - 1) else none) = if i / 4 = n0 then Fset F j v (i % 4 - 1) else none
          by_cases e2 : i / 4 = n0
          · rw [if_pos e2, if_pos e2]
            unfold Fset
            rw [if_neg (by omega)]
          · rw [if_neg e2, if_neg e2]
theorem set_cur {m : Nat} : (frm G c n0 F).set 0 (some (numI (m : Nat))) = frm G m n0 F := by
  funext i
  unfold Dm.set frm
  by_cases e : i = 0
  · rw [if_pos e, if_pos e]
  · rw [if_neg e, if_neg e, if_neg e]
theorem set_done {m : Nat} {ds : List Nat} (hm : 1 ≤ m) (hz : G m = none) : (frm G c m (gF ds)).set (4 * m) (some (dgI ds)) = frm (Gset G m (some ds)) c 0 N0 := by
  funext i
  unfold Dm.set
  by_cases e : i = 4 * m
  · rw [if_pos e, e, frm_done hm]
    unfold Gset
    rw [if_pos rfl]
    rfl
  · rw [if_neg e]
    unfold frm
    split
    · rfl
    · split
      · rename_i h4
        unfold Gset
        rw [if_neg (show ¬ i / 4 = m by omega)]
      · by_cases e2 : i / 4 = m
        · have g1 : G (i / 4) = none := by rw [e2, hz]
          have g2 : Gset G m (some ds) (i / 4) = some ds := by
            unfold Gset
            rw [if_pos e2]
          rw [g1, g2]
          show (if i / 4 = m then gF ds (i % 4 - 1) else none) = gF ds (i % 4 - 1)
          rw [if_pos e2]
        · have g2 : Gset G m (some ds) (i / 4) = G (i / 4) := by
            unfold Gset
            rw [if_neg e2]
          rw [g2]
          cases G (i / 4) with
          | some _ => rfl
          | none =>
            show (if i / 4 = m then gF ds (i % 4 - 1) else none) = if i / 4 = 0 then N0 (i % 4 - 1) else none
            rw [if_neg e2]
            unfold N0
            simp
theorem set_gone {m : Nat} {ds : List Nat} (hm : 1 ≤ m) (hG : G m = some ds) : (frm G c n0 N0).set (4 * m) none = frm (Gset G m none) c m (gF ds) := by
  funext i
  unfold Dm.set
  by_cases e : i = 4 * m
  · rw [if_pos e, e, frm_done hm]
    unfold Gset
    rw [if_pos rfl]
    rfl
  · rw [if_neg e]
    unfold frm
    split
    · rfl
    · split
      · unfold Gset
        rw [if_neg (show ¬ i / 4 = m by omega)]
      · by_cases e2 : i / 4 = m
        · have g1 : G (i / 4) = some ds := by rw [e2, hG]
          have g2 : Gset G m none (i / 4) = none := by
            unfold Gset
            rw [if_pos e2]
          rw [g1, g2]
          show gF ds (i % 4 - 1) = if i / 4 = m then gF ds (i % 4 - 1) else none
          rw [if_pos e2]
        · have g2 : Gset G m none (i / 4) = G (i / 4) := by
            unfold Gset
            rw [if_neg e2]
          rw [g2]
          cases G (i / 4) with
          | some _ => rfl
          | none =>
            show (if i / 4 = n0 then N0 (i % 4 - 1) else none) = if i / 4 = m then gF ds (i % 4 - 1) else none
            rw [if_neg e2]
            unfold N0
            simp
end
end Mx
set_option Elab.async false
set_option linter.all false
set_option maxRecDepth 100000
set_option maxHeartbeats 1000000
namespace Mx
open PySem PySem.Spec PyProof.Rows L2 Evl TL
open PySem.W (Datum DatumOrd Tup SomeDatum)
/-! ### what recovering, laying and cleaning do, write by write -/
def fl (F : Fn) : List Nat := (List.range 3).filter fun j => (F j).isSome
def dels (n : Nat) (js : List Nat) : List Wr := js.map fun j => (4 * n + 1 + j, none)
def Fdel (F : Fn) (js : List Nat) : Fn := fun j => if j ∈ js then none else F j
section
variable {G : Gn} {c n0 : Nat} {F : Fn}
theorem flat_one {α : Type} {a : Nat} {x : List α} : ∀ {l : List Nat}, l.Nodup → l.flatMap (fun n => if n = a then x else []) = if a ∈ l then x else []
  | [], _ => by simp
  | n :: r, nd => by
    obtain ⟨n1, n2⟩ := List.nodup_cons.mp nd
    rw [List.flatMap_cons, flat_one n2]
    by_cases e : n = a
    · subst e
      rw [if_pos rfl, if_neg n1, if_pos (List.mem_cons_self ..), List.append_nil]
    · rw [if_neg e]
      by_cases m : a ∈ r
      · rw [if_pos m, if_pos (List.mem_cons_of_mem _ m)]
        rfl
      · rw [if_neg m, if_neg (fun z => by
          rcases List.mem_cons.mp z with z | z
          · exact e z.symm
          · exact m z)]
        rfl
theorem delF_part (h : Ok G c n0 F) : delF (frm G c n0 F) n0 = dels n0 (fl F) := by
  unfold delF dels fl
  congr 1
  refine List.filter_congr fun j hj => ?_
  rw [frm_file (List.mem_range.mp hj), h.z]
  show (if n0 = n0 then F j else none).isSome = _
  rw [if_pos rfl]
theorem flat_congr {α β : Type} {f g : α → List β} : ∀ (l : List α), (∀ x ∈ l, f x = g x) → l.flatMap f = l.flatMap g
  | [], _ => rfl
  | x :: r, h => by
    rw [List.flatMap_cons, List.flatMap_cons, h x (List.mem_cons_self ..), flat_congr r fun y hy => h y (List.mem_cons_of_mem _ hy)]
theorem recD_frm (h : Ok G c n0 F) : recD (frm G c n0 F) = dels n0 (fl F) := by
  unfold recD
  have e : ∀ n ∈ nums (frm G c n0 F), (if (frm G c n0 F (4 * n)).isNone then delF (frm G c n0 F) n else []) = if n = n0 then dels n0 (fl F) else [] := fun n hn => by
    obtain ⟨h7, hh⟩ := (nums_frm h).mp hn
    rw [frm_done (in7.mp h7).1]
    cases q : G n with
    | none =>
      rcases hh with hh | ⟨rfl, _⟩
      · rw [q] at hh
        cases hh
      · rw [if_pos rfl, delF_part h]
        rfl
    | some ds =>
      have : n ≠ n0 := fun z => by rw [z, h.z] at q; cases q
      rw [if_neg this]
      rfl
  rw [flat_congr _ e, flat_one (nums_nodup _)]
  split
  · rfl
  · rename_i hn
    have : fl F = [] := by
      unfold fl
      refine List.filter_eq_nil_iff.mpr fun j hj hs => ?_
      rcases h.n with z | z
      · exact hn ((nums_frm h).mpr ⟨z, .inr ⟨rfl, j, List.mem_range.mp hj, hs⟩⟩)
      · rw [z] at hs
        cases hs
    rw [this]
    rfl
theorem appW_dels (hz : G n0 = none) : ∀ (js : List Nat) (F : Fn), (∀ j ∈ js, j < 3) → appW (dels n0 js) (frm G c n0 F) = frm G c n0 (Fdel F js)
  | [], F, _ => by
    show frm G c n0 F = _
    congr 1
  | a :: r, F, h => by
    show appW (dels n0 r) ((frm G c n0 F).set (4 * n0 + 1 + a) none) = _
    rw [set_F hz (h a (List.mem_cons_self ..)), appW_dels hz r _ fun j hj => h j (List.mem_cons_of_mem _ hj)]
    congr 1
    funext j
    unfold Fdel Fset
    by_cases e1 : j ∈ r
    · rw [if_pos e1, if_pos (List.mem_cons_of_mem _ e1)]
    · rw [if_neg e1]
      by_cases e2 : j = a
      · rw [if_pos e2, if_pos (by rw [e2]; exact List.mem_cons_self ..)]
      · rw [if_neg e2, if_neg (fun z => by
          rcases List.mem_cons.mp z with z | z
          · exact e2 z
          · exact e1 z)]
theorem Ok.del (h : Ok G c n0 F) (js : List Nat) : Ok G c n0 (Fdel F js) := by
  refine ⟨h.g, h.c, h.z, ?_, fun j t hj => ?_, fun j hj => ?_⟩
  · rcases h.n with z | z
    · exact .inl z
    · right
      funext j
      unfold Fdel
      rw [z]
      unfold N0
      split <;> rfl
  · unfold Fdel at hj
    split at hj
    · cases hj
    · exact h.f j t hj
  · unfold Fdel
    split
    · rfl
    · exact h.f3 j hj
theorem fl_lt (F : Fn) : ∀ j ∈ fl F, j < 3 := fun j hj => List.mem_range.mp (List.mem_filter.mp hj).1
theorem Fdel_all (h : Ok G c n0 F) : Fdel F (fl F) = N0 := by
  funext j
  unfold Fdel N0
  by_cases e : j ∈ fl F
  · rw [if_pos e]
  · rw [if_neg e]
    by_cases j3 : j < 3
    · cases q : F j with
      | none => rfl
      | some t => exact absurd (List.mem_filter.mpr ⟨List.mem_range.mpr j3, by rw [q]; rfl⟩) e
    · exact h.f3 j (by omega)
theorem dels_take (n : Nat) (js : List Nat) (k : Nat) : (dels n js).take k = dels n (js.take k) := by
  unfold dels
  rw [List.map_take]
/-- recovering, cut behind any write -/
theorem rec_take (h : Ok G c n0 F) (k : Nat) : ∃ F', appW ((recD (frm G c n0 F)).take k) (frm G c n0 F) = frm G c n0 F' ∧ Ok G c n0 F' := by
  rw [recD_frm h, dels_take]
  exact ⟨_, appW_dels h.z _ F fun j hj => fl_lt F j (List.mem_of_mem_take hj), h.del _⟩
theorem rec_all (h : Ok G c n0 F) : appW (recD (frm G c n0 F)) (frm G c n0 F) = frm G c n0 N0 := by
  rw [recD_frm h, appW_dels h.z _ F (fl_lt F), Fdel_all h]
theorem Ok.N (h : Ok G c n0 F) : Ok G c 0 N0 := ⟨h.g, h.c, by
  cases q : G 0 with
  | none => rfl
  | some ds => exact absurd (h.g 0 ds q).2 (by decide), .inr rfl, fun j t hj => (by cases hj), fun _ _ => rfl⟩
theorem Ok.N' (h : Ok G c n0 F) : Ok G c n0 N0 := ⟨h.g, h.c, h.z, .inr rfl, fun j t hj => (by cases hj), fun _ _ => rfl⟩
theorem rec_ids (h : Ok G c n0 F) : ∀ w ∈ recD (frm G c n0 F), w.1 ∈ ids := fun w hw => by
  rw [recD_frm h] at hw
  unfold dels at hw
  obtain ⟨j, hj, rfl⟩ := List.mem_map.mp hw
  rcases h.n with z | z
  · exact file_id z (fl_lt F j hj)
  · unfold fl at hj
    rw [z] at hj
    have := (List.mem_filter.mp hj).2
    cases this
theorem rec_len (h : Ok G c n0 F) : (recD (frm G c n0 F)).length ≤ 3 := by
  rw [recD_frm h]
  unfold dels fl
  rw [List.length_map]
  exact Nat.le_trans (List.length_filter_le _ _) (by rw [List.length_range]; exact Nat.le_refl _)
theorem rec_none (h : Ok G c n0 F) : ∀ w ∈ recD (frm G c n0 F), w.2 = none := fun w hw => by
  rw [recD_frm h] at hw
  unfold dels at hw
  obtain ⟨j, hj, rfl⟩ := List.mem_map.mp hw
  rfl
theorem rec_N (h : Ok G c n0 N0) : recD (frm G c n0 N0) = [] := by
  rw [recD_frm h]
  rfl
/-! laying a generation -/
def preF (ds : List Nat) (k : Nat) : Fn := fun j => if j < k then gF ds j else none
theorem gF_small {ds : List Nat} (hI : ds ∈ Imgs) : (∀ j t, gF ds j = some t → t.length ≤ 100) ∧ ∀ j, 3 ≤ j → gF ds j = none := by
  obtain ⟨l1, l3, _⟩ := img_len ds hI
  constructor
  · intro j t hj
    unfold gF at hj
    split at hj
    · rename_i lt
      cases hj
      have := (fl_facts ds hI).2.2 (pth j, val (ds.getD j 0)) (by unfold filesL; exact List.mem_map.mpr ⟨_, List.mem_range.mpr lt, rfl⟩)
      have e : (val (ds.getD j 0)).length ≤ 4 := this.2
      omega
    · cases hj
  · intro j hj
    unfold gF
    rw [if_neg (by omega)]
theorem Ok.pre (h : Ok G c 0 N0) {m : Nat} {ds : List Nat} (hm : m ∈ List.range' 1 7) (hz : G m = none) (hI : ds ∈ Imgs) (k : Nat) : Ok G c m (preF ds k) := by
  refine ⟨h.g, h.c, hz, .inl hm, fun j t hj => ?_, fun j hj => ?_⟩
  · unfold preF at hj
    split at hj
    · exact (gF_small hI).1 j t hj
    · cases hj
  · unfold preF
    split
    · exact (gF_small hI).2 j hj
    · rfl
theorem Ok.add (h : Ok G c 0 N0) {m : Nat} {ds : List Nat} (hm : m ∈ List.range' 1 7) (hI : ds ∈ Imgs) {c' : Nat} (hc : c' = c ∨ c' = m) : Ok (Gset G m (some ds)) c' 0 N0 := by
  refine ⟨fun n d hd => ?_, ?_, ?_, .inr rfl, fun j t hj => ?_, fun _ _ => rfl⟩
  · unfold Gset at hd
    by_cases e : n = m
    · rw [if_pos e] at hd
      cases hd
      rw [e]
      exact ⟨hI, hm⟩
    · rw [if_neg e] at hd
      exact h.g n d hd
  · unfold Gset
    by_cases e : c' = m
    · rw [if_pos e]
      rfl
    · rw [if_neg e]
      rcases hc with z | z
      · rw [z]; exact h.c
      · exact absurd z e
  · unfold Gset
    rw [if_neg (fun z => by rw [← z] at hm; exact absurd hm (by decide))]
    exact h.z
  · cases hj
theorem putF_take {m : Nat} {ds : List Nat} (hz : G m = none) (h3 : ds.length ≤ 3) : ∀ k, k ≤ ds.length → appW ((putF m ds).take k) (frm G c m N0) = frm G c m (preF ds k)
  | 0, _ => by
    rw [List.take_zero]
    show frm G c m N0 = _
    congr 1
  | k + 1, hk => by
    have e : (putF m ds).take (k + 1) = (putF m ds).take k ++ [(4 * m + 1 + k, some (val (ds.getD k 0)))] := by
      unfold putF
      rw [List.take_succ, List.getElem?_map, List.getElem?_range (by omega)]
      rfl
    rw [e, appW_append, putF_take hz h3 k (by omega)]
    show (frm G c m (preF ds k)).set _ _ = _
    rw [set_F hz (by omega)]
    congr 1
    funext j
    unfold Fset preF gF
    by_cases e1 : j = k
    · rw [if_pos e1, e1, if_pos (by omega), if_pos (by omega)]
    · rw [if_neg e1]
      by_cases e2 : j < k
      · rw [if_pos e2, if_pos (show j < ds.length by omega), if_pos (show j < k + 1 by omega)]
      · rw [if_neg e2, if_neg (by omega)]
theorem instD_len (m : Nat) (ds : List Nat) : (instD m ds).length = ds.length + 2 := by
  unfold instD putF
  rw [List.length_append, List.length_map, List.length_range]
  rfl
theorem inst_plan (h : Ok G c 0 N0) {m : Nat} {ds : List Nat} (hm : m ∈ List.range' 1 7) (hz : G m = none) (hI : ds ∈ Imgs) (k : Nat) (hk : k ≤ ds.length + 2) : ∃ G' c' n' F', appW ((instD m ds).take k) (frm G c 0 N0) = frm G' c' n' F' ∧ Ok G' c' n' F' ∧
    ((k ≤ ds.length ∧ G' = G ∧ c' = c) ∨ (k = ds.length + 1 ∧ G' = Gset G m (some ds) ∧ c' = c) ∨ (k = ds.length + 2 ∧ G' = Gset G m (some ds) ∧ c' = m)) := by
  obtain ⟨l1, l3, _⟩ := img_len ds hI
  have m1 := (in7.mp hm).1
  have lp : (putF m ds).length = ds.length := by unfold putF; rw [List.length_map, List.length_range]
  have full : preF ds ds.length = gF ds := by
    funext j
    unfold preF gF
    by_cases e : j < ds.length
    · rw [if_pos e, if_pos e]
    · rw [if_neg e, if_neg e]
  have base := putF_take (c := c) hz l3
  have after1 : appW (putF m ds ++ [(4 * m, some (dgI ds))]) (frm G c 0 N0) = frm (Gset G m (some ds)) c 0 N0 := by
    rw [appW_append, frm_N m]
    have := base ds.length (Nat.le_refl _)
    rw [show (putF m ds).take ds.length = putF m ds by rw [← lp, List.take_length]] at this
    rw [this, full]
    exact set_done m1 hz
  rcases Nat.lt_or_ge ds.length k with lt | ge
  · rcases Nat.lt_or_ge (ds.length + 1) k with lt2 | ge2
    · have ek : k = ds.length + 2 := by omega
      refine ⟨_, m, 0, N0, ?_, h.add hm hI (.inr rfl), .inr (.inr ⟨ek, rfl, rfl⟩)⟩
      have : (instD m ds).take k = (putF m ds ++ [(4 * m, some (dgI ds))]) ++ [(0, some (numI (m : Nat)))] := by
        rw [ek, ← instD_len m ds, List.take_length]
        unfold instD
        simp
      rw [this, appW_append, after1]
      exact set_cur
    · have ek : k = ds.length + 1 := by omega
      refine ⟨_, c, 0, N0, ?_, h.add hm hI (.inl rfl), .inr (.inl ⟨ek, rfl, rfl⟩)⟩
      have : (instD m ds).take k = putF m ds ++ [(4 * m, some (dgI ds))] := by
        unfold instD
        rw [List.take_append, lp, ek, List.take_of_length_le (by omega)]
        simp
      rw [this, after1]
  · refine ⟨G, c, m, preF ds k, ?_, h.pre hm hz hI k, .inl ⟨ge, rfl, rfl⟩⟩
    have : (instD m ds).take k = (putF m ds).take k := by
      unfold instD
      rw [List.take_append, lp, show k - ds.length = 0 by omega, List.take_zero, List.append_nil]
    rw [this, frm_N m]
    exact base k ge
/-! cleaning -/
def delG (n : Nat) (ds : List Nat) : List Wr := (4 * n, none) :: dels n (List.range ds.length)
def cl (G : Gn) (kp : List Nat) (L : List Nat) : List Wr := L.flatMap fun n => if n ∈ kp then [] else delG n ((G n).getD [])
theorem Ok.rem (h : Ok G c 0 N0) {m : Nat} {ds : List Nat} (hG : G m = some ds) (hc : m ≠ c) (js : List Nat) : Ok (Gset G m none) c m (Fdel (gF ds) js) := by
  obtain ⟨hI, hm⟩ := h.g m ds hG
  refine Ok.del ⟨fun n d hd => ?_, ?_, ?_, .inl hm, (gF_small hI).1, (gF_small hI).2⟩ js
  · unfold Gset at hd
    split at hd
    · cases hd
    · exact h.g n d hd
  · unfold Gset
    rw [if_neg (fun z => hc z.symm)]
    exact h.c
  · unfold Gset
    rw [if_pos rfl]
theorem del_take (h : Ok G c 0 N0) {m : Nat} {ds : List Nat} (hG : G m = some ds) (k : Nat) : appW ((delG m ds).take (k + 1)) (frm G c 0 N0) = frm (Gset G m none) c m (Fdel (gF ds) ((List.range ds.length).take k)) := by
  obtain ⟨hI, hm⟩ := h.g m ds hG
  obtain ⟨l1, l3, _⟩ := img_len ds hI
  unfold delG
  rw [List.take_succ_cons, dels_take]
  show appW (dels m ((List.range ds.length).take k)) ((frm G c 0 N0).set (4 * m) none) = _
  rw [set_gone (in7.mp hm).1 hG]
  refine appW_dels ?_ _ _ fun j hj => ?_
  · unfold Gset
    rw [if_pos rfl]
  · have := List.mem_range.mp (List.mem_of_mem_take hj)
    omega
theorem del_all (ds : List Nat) : Fdel (gF ds) (List.range ds.length) = N0 := by
  funext j
  unfold Fdel gF N0
  by_cases e : j < ds.length
  · rw [if_pos (List.mem_range.mpr e)]
  · rw [if_neg (fun z => e (List.mem_range.mp z)), if_neg e]
theorem cl_plan {kp : List Nat} {Gb : Gn} (hck : c ∈ kp) : ∀ (L : List Nat) {G : Gn}, Ok G c 0 N0 → L.Nodup → (∀ n ∈ L, G n = Gb n ∧ (G n).isSome = true) → ∀ k, ∃ G' n' F', appW ((cl Gb kp L).take k) (frm G c 0 N0) = frm G' c n' F' ∧ Ok G' c n' F' ∧ (∀ n, G' n = G n ∨ G' n = none) ∧ ((cl Gb kp L).length ≤ k → ∀ n, n ∈ L → n ∉ kp → G' n = none)
  | [], G, h, _, _, k => ⟨G, 0, N0, by simp [cl, appW], h, fun n => .inl rfl, fun _ n hn => absurd hn (by simp)⟩
  | n :: r, G, h, nd, hL, k => by
    obtain ⟨n1, n2⟩ := List.nodup_cons.mp nd
    obtain ⟨eG, hs⟩ := hL n (List.mem_cons_self ..)
    have hr : ∀ x ∈ r, G x = Gb x ∧ (G x).isSome = true := fun x hx => hL x (List.mem_cons_of_mem _ hx)
    have ecl : cl Gb kp (n :: r) = (if n ∈ kp then [] else delG n ((Gb n).getD [])) ++ cl Gb kp r := List.flatMap_cons
    by_cases hk : n ∈ kp
    · rw [ecl, if_pos hk, List.nil_append]
      obtain ⟨G', n', F', a1, a2, a3, a4⟩ := cl_plan hck r h n2 hr k
      exact ⟨G', n', F', a1, a2, a3, fun hl x hx hxk => by
        rcases List.mem_cons.mp hx with rfl | hx
        · exact absurd hk hxk
        · exact a4 hl x hx hxk⟩
    · rw [ecl, if_neg hk]
      obtain ⟨ds, hG⟩ := Option.isSome_iff_exists.mp hs
      have hGb : (Gb n).getD [] = ds := by rw [← eG, hG]; rfl
      rw [hGb]
      have nc : n ≠ c := fun z => hk (by rw [z]; exact hck)
      have ld : (delG n ds).length = ds.length + 1 := by
        unfold delG dels
        rw [List.length_cons, List.length_map, List.length_range]
      rcases Nat.lt_or_ge (ds.length + 1) k with lt | ge
      · have e1 : appW ((delG n ds ++ cl Gb kp r).take k) (frm G c 0 N0) = appW ((cl Gb kp r).take (k - (ds.length + 1))) (frm (Gset G n none) c 0 N0) := by
          rw [List.take_append, ld, List.take_of_length_le (by omega), appW_append]
          congr 1
          have := del_take h hG ds.length
          rw [List.take_of_length_le (by omega), List.take_of_length_le (by rw [List.length_range]; exact Nat.le_refl _), del_all] at this
          rw [this]
          exact frm_N 0
        have h' : Ok (Gset G n none) c 0 N0 := (h.rem hG nc []).N
        obtain ⟨G', n', F', a1, a2, a3, a4⟩ := cl_plan hck r h' n2 (fun x hx => by
          have : x ≠ n := fun z => n1 (by rw [← z]; exact hx)
          unfold Gset
          rw [if_neg this]
          exact hr x hx) (k - (ds.length + 1))
        refine ⟨G', n', F', e1.trans a1, a2, fun x => ?_, fun hl x hx hxk => ?_⟩
        · rcases a3 x with z | z
          · unfold Gset at z
            by_cases e : x = n
            · rw [if_pos e] at z
              exact .inr z
            · rw [if_neg e] at z
              exact .inl z
          · exact .inr z
        · rw [List.length_append, ld] at hl
          rcases List.mem_cons.mp hx with rfl | hx
          · rcases a3 x with z | z
            · unfold Gset at z
              rw [if_pos rfl] at z
              exact z
            · exact z
          · exact a4 (by omega) x hx hxk
      · cases k with
        | zero =>
          refine ⟨G, 0, N0, rfl, h, fun x => .inl rfl, fun hl => ?_⟩
          rw [List.length_append, ld] at hl
          omega
        | succ k =>
          refine ⟨Gset G n none, n, Fdel (gF ds) ((List.range ds.length).take k), ?_, h.rem hG nc _, fun x => ?_, fun hl x hx hxk => ?_⟩
          · rw [List.take_append, ld, show k + 1 - (ds.length + 1) = 0 by omega, List.take_zero, List.append_nil]
            exact del_take h hG k
          · unfold Gset
            by_cases e : x = n
            · rw [if_pos e]
              exact .inr rfl
            · rw [if_neg e]
              exact .inl rfl
          · rw [List.length_append, ld] at hl
            have hl0 : (cl Gb kp r).length = 0 := by omega
            rcases List.mem_cons.mp hx with rfl | hx
            · unfold Gset
              rw [if_pos rfl]
            · exfalso
              have : List.Sublist (delG x ((Gb x).getD [])) (cl Gb kp r) := by
                unfold cl
                have hm : (if x ∈ kp then [] else delG x ((Gb x).getD [])) ∈ r.map fun n => if n ∈ kp then [] else delG n ((Gb n).getD []) := List.mem_map_of_mem hx
                rw [if_neg hxk] at hm
                rw [List.flatMap]
                exact List.sublist_flatten_of_mem hm
              have := this.length_le
              unfold delG at this
              rw [List.length_cons] at this
              omega
theorem clean_frm (h : Ok G c 0 N0) (count : Nat) : cleanD (frm G c 0 N0) c count = cl G (keptD (frm G c 0 N0) c count) (wG G) := by
  unfold cleanD cl
  rw [nums_N h]
  refine flat_congr _ fun n hn => ?_
  obtain ⟨hn7, hs⟩ := List.mem_filter.mp hn
  obtain ⟨ds, hG⟩ := Option.isSome_iff_exists.mp hs
  split
  · rfl
  · unfold delG
    congr 1
    rw [hG]
    show delF (frm G c 0 N0) n = dels n (List.range ds.length)
    obtain ⟨l1, l3, _⟩ := img_len ds (h.g n ds hG).1
    unfold delF dels
    congr 1
    have e : ∀ j ∈ List.range 3, (frm G c 0 N0 (4 * n + 1 + j)).isSome = decide (j < ds.length) := fun j hj => by
      rw [frm_file (List.mem_range.mp hj), hG]
      show (gF ds j).isSome = _
      unfold gF
      split
      · rename_i z
        rw [decide_eq_true z]
        rfl
      · rename_i z
        rw [decide_eq_false z]
        rfl
    rw [List.filter_congr e]
    have : ds.length = 1 ∨ ds.length = 2 ∨ ds.length = 3 := by omega
    rcases this with z | z | z <;> rw [z] <;> decide
end
end Mx
set_option Elab.async false
set_option linter.all false
set_option maxRecDepth 100000
set_option maxHeartbeats 1000000
namespace Mx
open PySem PySem.Spec PyProof.Rows L2 Evl TL
open PySem.W (Datum DatumOrd Tup SomeDatum)
/-! ### plans -/
structure Pl (G : Gn) (c : Nat) (hd gd : List Nat) (hw : Int) (fr cn cnt : Nat) (ws : List Wr) : Prop where
  len : ws.length ≤ 40
  ids : ∀ w ∈ ws, w.1 ∈ ids
  go : ∀ k, k ≤ ws.length → ∃ G' n' F', appW (ws.take k) (frm G c 0 N0) = frm G' (if k = ws.length then cn else c) n' F' ∧ Ok G' (if k = ws.length then cn else c) n' F' ∧ G' (if k = ws.length then cn else c) = some (if k = ws.length then gd else hd) ∧
    (∀ n, G' n = G n ∨ G' n = none ∨ (hw < 2 ∧ ws.length ≤ k + 1 ∧ n = fr ∧ G' n = some gd)) ∧ (hw = 3 → k = ws.length → (wG G').length ≤ cnt + 1)
  cn : cn = if hw < 3 then fr else c
  fz : hw < 2 → G fr = none
section
variable {G : Gn} {c : Nat} {hd : List Nat} {hw : Int} {cnt : Nat}
theorem wG_mem {n : Nat} (h : ∀ n ds, G n = some ds → ds ∈ Imgs ∧ n ∈ List.range' 1 7) (hn : (G n).isSome = true) : n ∈ wG G := by
  obtain ⟨ds, e⟩ := Option.isSome_iff_exists.mp hn
  exact List.mem_filter.mpr ⟨(h n ds e).2, hn⟩
theorem next_facts (h : Ok G c 0 N0) {T : Nat} (top : ∀ n, (G n).isSome = true → n ≤ T + 1) (hT : T ≤ 5) : ∃ m xs, wG G = xs ++ [m] ∧ nextN (frm G c 0 N0) = m + 1 ∧ m + 1 ≤ T + 2 ∧ m + 1 ∈ List.range' 1 7 ∧ G (m + 1) = none := by
  have hc : c ∈ wG G := wG_mem h.g h.c
  have ne : wG G ≠ [] := fun z => by rw [z] at hc; cases hc
  have e := List.dropLast_concat_getLast ne
  generalize (wG G).getLast ne = m at e
  generalize (wG G).dropLast = xs at e
  have hm : m ∈ wG G := by rw [← e]; simp
  obtain ⟨hm7, hms⟩ := List.mem_filter.mp hm
  have m7 := in7.mp hm7
  have mt := top m hms
  refine ⟨m, xs, e.symm, ?_, by omega, in7.mpr ⟨by omega, by omega⟩, ?_⟩
  · unfold nextN
    rw [nums_N h, ← e]
    simp
  · cases q : G (m + 1) with
    | none => rfl
    | some ds =>
      have hn : m + 1 ∈ wG G := wG_mem h.g (by rw [q]; rfl)
      have pw : (wG G).Pairwise (· < ·) := List.Pairwise.filter _ (List.pairwise_lt_range' (s := 1) (n := 7))
      rw [← e] at hn pw
      rw [List.pairwise_append] at pw
      rcases List.mem_append.mp hn with z | z
      · have := pw.2.2 _ z m (List.mem_cons_self ..)
        omega
      · have := List.mem_singleton.mp z
        omega
theorem pl_inst (h : Ok G c 0 N0) (hG : G c = some hd) {m : Nat} {gd : List Nat} (hm : m ∈ List.range' 1 7) (hz : G m = none) (hI : gd ∈ Imgs) (h2 : hw < 2) : Pl G c hd gd hw m m cnt (instD m gd) := by
  obtain ⟨l1, l3, _⟩ := img_len gd hI
  have il := instD_len m gd
  have cm : c ≠ m := fun z => by rw [z, hz] at hG; cases hG
  refine ⟨by omega, inst_ids hm l3, fun k hk => ?_, by rw [if_pos (by omega)], fun _ => hz⟩
  rw [il] at hk ⊢
  obtain ⟨G', c', n', F', e, ok, cs⟩ := inst_plan h hm hz hI k hk
  rcases cs with ⟨k1, rfl, rfl⟩ | ⟨k1, rfl, rfl⟩ | ⟨k1, rfl, ec⟩
  · rw [if_neg (by omega), if_neg (by omega)]
    exact ⟨_, _, _, e, ok, hG, fun n => .inl rfl, fun z => by omega⟩
  · rw [if_neg (by omega), if_neg (by omega)]
    refine ⟨_, _, _, e, ok, ?_, fun n => ?_, fun z => by omega⟩
    · unfold Gset
      rw [if_neg cm]
      exact hG
    · unfold Gset
      by_cases z : n = m
      · rw [if_pos z]
        exact .inr (.inr ⟨h2, by omega, z, rfl⟩)
      · rw [if_neg z]
        exact .inl rfl
  · rw [ec] at e ok
    rw [if_pos (by omega), if_pos (by omega)]
    refine ⟨_, _, _, e, ok, ?_, fun n => ?_, fun z => by omega⟩
    · unfold Gset
      rw [if_pos rfl]
    · unfold Gset
      by_cases z : n = m
      · rw [if_pos z]
        exact .inr (.inr ⟨h2, by omega, z, rfl⟩)
      · rw [if_neg z]
        exact .inl rfl
theorem pl_back (h : Ok G c 0 N0) (hG : G c = some hd) {n : Nat} {gd : List Nat} (hn : G n = some gd) : Pl G c hd gd 2 n n cnt [(0, some (numI (n : Nat)))] := by
  refine ⟨by show 1 ≤ 40; decide, fun w hw => ?_, fun k hk => ?_, by rw [if_pos (by decide)], fun z => absurd z (by decide)⟩
  · have := List.mem_singleton.mp hw
    subst this
    exact List.mem_cons_self ..
  · have hk : k ≤ 1 := hk
    rcases (by omega : k = 0 ∨ k = 1) with rfl | rfl
    · rw [if_neg (by show ¬ (0 : Nat) = 1; decide), if_neg (by show ¬ (0 : Nat) = 1; decide)]
      exact ⟨G, 0, N0, rfl, h, hG, fun n => .inl rfl, fun z => nomatch z⟩
    · rw [if_pos (by show (1 : Nat) = 1; rfl), if_pos (by show (1 : Nat) = 1; rfl)]
      exact ⟨G, 0, N0, set_cur, ⟨h.g, by rw [hn]; rfl, h.z, h.n, h.f, h.f3⟩, hn, fun n => .inl rfl, fun z => nomatch z⟩
theorem len_sub {α : Type} [DecidableEq α] : ∀ (l m : List α), l.Nodup → (∀ x ∈ l, x ∈ m) → l.length ≤ m.length
  | [], _, _, _ => Nat.zero_le _
  | x :: r, m, nd, h => by
    obtain ⟨n1, n2⟩ := List.nodup_cons.mp nd
    have hx := h x (List.mem_cons_self ..)
    have ih := len_sub r (m.erase x) n2 fun y hy => by
      have : y ≠ x := fun z => n1 (by rw [← z]; exact hy)
      exact (List.mem_erase_of_ne this).mpr (h y (List.mem_cons_of_mem _ hy))
    rw [List.length_erase_of_mem hx] at ih
    have := List.length_pos_of_mem hx
    rw [List.length_cons]
    omega
theorem cl_facts {kp : List Nat} (h : ∀ n ds, G n = some ds → ds ∈ Imgs ∧ n ∈ List.range' 1 7) : ∀ (L : List Nat), (∀ n ∈ L, (G n).isSome = true) → (cl G kp L).length ≤ 4 * L.length ∧ ∀ w ∈ cl G kp L, w.1 ∈ ids
  | [], _ => ⟨Nat.le_refl _, fun w hw => by cases hw⟩
  | n :: r, hL => by
    obtain ⟨ih1, ih2⟩ := cl_facts h r fun x hx => hL x (List.mem_cons_of_mem _ hx)
    obtain ⟨ds, hG⟩ := Option.isSome_iff_exists.mp (hL n (List.mem_cons_self ..))
    obtain ⟨hI, hn⟩ := h n ds hG
    obtain ⟨l1, l3, _⟩ := img_len ds hI
    have ecl : cl G kp (n :: r) = (if n ∈ kp then [] else delG n ((G n).getD [])) ++ cl G kp r := List.flatMap_cons
    have ed : ((G n).getD []) = ds := by rw [hG]; rfl
    rw [ecl, ed]
    by_cases hk : n ∈ kp
    · rw [if_pos hk, List.nil_append, List.length_cons]
      exact ⟨by omega, ih2⟩
    · rw [if_neg hk, List.length_append, List.length_cons]
      have ld : (delG n ds).length = ds.length + 1 := by
        unfold delG dels
        rw [List.length_cons, List.length_map, List.length_range]
      refine ⟨by omega, fun w hw => ?_⟩
      rcases List.mem_append.mp hw with z | z
      · unfold delG dels at z
        rcases List.mem_cons.mp z with z | z
        · subst z
          exact (bs_facts n hn).2.2.1
        · obtain ⟨j, hj, rfl⟩ := List.mem_map.mp z
          exact file_id hn (by have := List.mem_range.mp hj; omega)
      · exact ih2 w z
theorem pl_clean (h : Ok G c 0 N0) (hG : G c = some hd) (cnt : Nat) : Pl G c hd hd 3 c c cnt (cleanD (frm G c 0 N0) c cnt) := by
  have hsome : ∀ n ∈ wG G, (G n).isSome = true := fun n hn => (List.mem_filter.mp hn).2
  have ndw : (wG G).Nodup := List.Nodup.sublist List.filter_sublist (List.nodup_range' (s := 1) (n := 7))
  have lw : (wG G).length ≤ 7 := Nat.le_trans (List.length_filter_le _ _) (by rw [List.length_range']; exact Nat.le_refl _)
  rw [clean_frm h]
  obtain ⟨f1, f2⟩ := cl_facts (kp := keptD (frm G c 0 N0) c cnt) h.g (wG G) hsome
  have hck : c ∈ keptD (frm G c 0 N0) c cnt := List.mem_append_right _ (List.mem_cons_self ..)
  refine ⟨by omega, f2, fun k hk => ?_, by rw [if_neg (by decide)], fun z => absurd z (by decide)⟩
  obtain ⟨G', n', F', a1, a2, a3, a4⟩ := cl_plan (Gb := G) hck (wG G) h ndw (fun n hn => ⟨rfl, hsome n hn⟩) k
  rw [ite_self, ite_self]
  refine ⟨G', n', F', a1, a2, ?_, fun n => ?_, fun _ ek => ?_⟩
  · rcases a3 c with z | z
    · rw [z, hG]
    · have := a2.c
      rw [z] at this
      cases this
  · rcases a3 n with z | z
    · exact .inl z
    · exact .inr (.inl z)
  · have sub : ∀ n ∈ wG G', n ∈ keptD (frm G c 0 N0) c cnt := fun n hn => by
      obtain ⟨hn7, hns⟩ := List.mem_filter.mp hn
      by_cases hk : n ∈ keptD (frm G c 0 N0) c cnt
      · exact hk
      · have hw : n ∈ wG G := by
          rcases a3 n with z | z
          · exact List.mem_filter.mpr ⟨hn7, by rw [← z]; exact hns⟩
          · rw [z] at hns
            cases hns
        have := a4 (by omega) n hw hk
        rw [this] at hns
        cases hns
    have := len_sub _ _ (List.Nodup.sublist List.filter_sublist (List.nodup_range' (s := 1) (n := 7))) sub
    refine Nat.le_trans this ?_
    unfold keptD
    rw [List.length_append, List.length_take, List.length_cons, List.length_nil]
    omega
end
end Mx
set_option Elab.async false
set_option linter.all false
set_option maxRecDepth 100000
set_option maxHeartbeats 1000000
namespace Mx
open PySem PySem.Spec PyProof.Rows L2 Evl TL
open PySem.W (Datum DatumOrd Tup SomeDatum)
/-! ### calls of the machine -/
/-! what the calls of the law evaluate to -/
def DskAt (H : Hp) (v : V) (D : Dm) : Prop := ∃ d l, v = .ref d ∧ H d = some (.dK (dk V.str l)) ∧ Dsk l D
theorem DskAt.ex {H H' : Hp} {v : V} {D : Dm} (h : DskAt H v D) (e : Ex H H') : DskAt H' v D := by
  obtain ⟨d, l, h1, h2, h3⟩ := h
  exact ⟨d, l, h1, e _ _ h2, h3⟩
def WAt (K : PySem.W.Frag) (H : Hp) (v : V) (ws : List Wr) : Prop := ∃ a, v = .ref a ∧ WrAt K H a ws
theorem WAt.ex {K : PySem.W.Frag} {H H' : Hp} {v : V} {ws : List Wr} (h : WAt K H v ws) (e : Ex H H') : WAt K H' v ws := by
  obtain ⟨a, h1, h2⟩ := h
  exact ⟨a, h1, h2.ex e⟩
section
variable {P : Program} {w : World} {K : PySem.W.Frag} {σ : L2.St} {H : Hp} {te ta tb tn ti : TE} {E : XK}
theorem ev_dsk {v : V} {D : Dm} (h : Ev te σ H v) (d : DskAt H v D) : EvP te σ H fun u H2 => DskAt H2 u D := fun H1 e Q q => h H1 e Q fun H2 e2 => q v H2 e2 (d.ex (e.trans e2))
theorem ev_wat {v : V} {ws : List Wr} (h : Ev te σ H v) (d : WAt K H v ws) : EvP te σ H fun u H2 => WAt K H2 u ws := fun H1 e Q q => h H1 e Q fun H2 e2 => q v H2 e2 (d.ex (e.trans e2))
theorem ev_aft {D : Dm} {ws : List Wr} {n : Nat} (h : EvP te σ H fun u H2 => DskAt H2 u D) (h2 : EvP ta σ H fun u H2 => WAt K H2 u ws) (h3 : Ev tn σ H (.int (n : Int))) (hi : ∀ w ∈ ws, w.1 ∈ ids) (hl : ws.length ≤ 100) : EvP (tCall (spAft K) [] E (tCons te (tCons ta (tCons tn tNil)))) σ H fun u H2 => DskAt H2 u (appW (ws.take n) D) := fun H1 e Q q =>
  h H1 e _ fun v H2 e2 ⟨d, l, ev, hd, hD⟩ => h2 H2 (e.trans e2) _ fun u H3 e3 ⟨a, eu, ha⟩ => h3 H3 (e.trans (e2.trans e3)) _ fun H4 e4 => by
    subst ev eu
    exact ⟨d, a, n, l, D, ws, rfl, (e3.trans e4) _ _ hd, hD, ha.ex e4, hi, hl, fun p H5 l' _ e5 hp hD' => q _ H5 (e2.trans (e3.trans (e4.trans e5))) ⟨p, l', rfl, hp, hD'⟩⟩
theorem ev_rcv {D : Dm} (h : EvP te σ H fun u H2 => DskAt H2 u D) : EvP (tCall (spRec K) [] E (tCons te tNil)) σ H fun u H2 => WAt K H2 u (recD D) := fun H1 e Q q =>
  h H1 e _ fun v H2 e2 ⟨d, l, ev, hd, hD⟩ => by
    subst ev
    exact ⟨d, l, D, rfl, hd, hD, fun p H5 _ e5 hp => q _ H5 (e2.trans e5) ⟨p, rfl, hp⟩⟩
section
variable {G : Gn} {c n0 : Nat} {F : Fn} {sd : List Nat}
theorem evp_cur (h : EvP te σ H fun u H2 => DskAt H2 u (frm G c n0 F)) (ok : Ok G c n0 F) (g : G c = some sd) : EvP (tCall spCur [] E (tCons te tNil)) σ H fun u H2 => ∃ p, u = .ref p ∧ H2 p = some (.tup [.int (c : Int), .str (imgS sd)]) := fun H1 e Q q =>
  h H1 e _ fun v H2 e2 ⟨d, l, ev, hd, hD⟩ => by
    subst ev
    refine ⟨d, l, _, c, rfl, hd, hD, frm_sm ok, ok.c7, frm_0, by rw [whole_frm ok ok.c7]; exact ok.c, fun p H5 e5 hp => ?_⟩
    rw [flD_whole ok g] at hp
    exact q _ H5 (e2.trans e5) ⟨p, rfl, hp⟩
theorem ev_cur1 (h : EvP te σ H fun u H2 => DskAt H2 u (frm G c n0 F)) (ok : Ok G c n0 F) (g : G c = some sd) : Ev (tOp (rIxT K) (tCall spCur [] E (tCons te tNil)) (tC (.int 1))) σ H (.str (imgS sd)) := fun H1 e Q q =>
  evp_cur (E := E) h ok g H1 e _ fun v H2 e2 ⟨p, ev, hp⟩ => by
    subst ev
    exact ⟨p, _, 1, _, rfl, rfl, st_of hp, rfl, q H2 e2⟩
theorem evd_cur (h : EvP te σ H fun u H2 => DskAt H2 u (frm G c n0 F)) (ok : Ok G c n0 F) (g : G c = some sd) : EvD (tCall spCur [] E (tCons te tNil)) K σ H ((c : Int), imgS sd) :=
  EvP.imp (evp_cur h ok g) fun v H2 _ ⟨p, ev, hp⟩ => by
    subst ev
    exact dt_pair (st_of hp) dt_int dt_str
theorem ints_dt {l : List Nat} {p : Addr} (h : H p = some (.lst (l.map fun n => V.int ((n : Nat) : Int)))) : Dt K H (.ref p) (l.map fun n => ((n : Nat) : Int)) := by
  have : (l.map fun n => V.int ((n : Nat) : Int)) = (l.map fun n => ((n : Nat) : Int)).map V.int := by rw [List.map_map]; rfl
  rw [this] at h
  exact dt_lst (sq_of h) (dpAll_map fun _ _ => dt_int)
theorem evd_whl (h : EvP te σ H fun u H2 => DskAt H2 u (frm G c n0 F)) (ok : Ok G c n0 F) : EvD (tCall spWhl [] E (tCons te tNil)) K σ H ((wG G).map fun n => ((n : Nat) : Int)) := fun H1 e Q q =>
  h H1 e _ fun v H2 e2 ⟨d, l, ev, hd, hD⟩ => by
    subst ev
    refine ⟨d, l, _, rfl, hd, hD, frm_sm ok, fun p H5 _ e5 hp => ?_⟩
    rw [wholes_frm ok] at hp
    exact q _ H5 (e2.trans e5) (ints_dt hp)
theorem evd_nums (h : EvP te σ H fun u H2 => DskAt H2 u (frm G c n0 N0)) (ok : Ok G c n0 N0) : EvD (tCall spNums [] E (tCons te tNil)) K σ H ((wG G).map fun n => ((n : Nat) : Int)) := fun H1 e Q q =>
  h H1 e _ fun v H2 e2 ⟨d, l, ev, hd, hD⟩ => by
    subst ev
    refine ⟨d, l, _, rfl, hd, hD, fun p H5 _ e5 hp => ?_⟩
    rw [nums_N ok] at hp
    exact q _ H5 (e2.trans e5) (ints_dt hp)
end
theorem ev_any {bs : List Bool} (h : EvP te σ H fun v H2 => ∃ a, v = .ref a ∧ H2 a = some (.lst (bs.map V.bl))) : Ev (tCB (rAny K) (tCons te tNil)) σ H (.bl (bs.any id)) := fun H1 e Q q =>
  h H1 e _ fun v H2 e2 ⟨p, ev, hp⟩ => by
    subst ev
    exact ⟨p, bs, rfl, sq_of hp, q H2 e2⟩
theorem ev_neDA {D : Dm} (h : EvP ta σ H fun u H2 => DskAt H2 u D) (h2 : EvP tb σ H fun u H2 => DskAt H2 u D) : Ev (tOp rNeDA ta tb) σ H (.bl false) := fun H1 e Q q =>
  h H1 e _ fun v H2 e2 ⟨d, l, ev, hd, hD⟩ => h2 H2 (e.trans e2) _ fun u H3 e3 ⟨d', l', eu, hd', hD'⟩ => by
    subst ev eu
    have pm := hD.perm hD'
    refine ⟨d, d', _, _, rfl, rfl, e3 _ _ hd, hd', by rw [dk_len, dk_len, pm.length_eq], fun p hp => ?_, q H3 (e2.trans e3)⟩
    obtain ⟨x, hx, rfl⟩ := List.mem_map.mp hp
    rw [valV_dk, look_of_mem hD'.nd (pm.mem_iff.mp hx)]
    exact ⟨rfl, rfl⟩
end
section
variable {σ : L2.St} {H : Hp} {te tl tv td ty : TE} {t : TT} {tu tz : TS} {D : Ends}
theorem q_ifJ {b : Bool} (h : EvT t σ H b) (M : L2.St → Hp → Prop) (h1 : b = true → ∀ H1 (D' : Ends), Ex H H1 → (∀ σ2 H2, M σ2 H2 → D'.nx σ2 H2) → tu D' σ H1) (h2 : b = false → ∀ H1, Ex H H1 → M σ H1) (k : ∀ σ' H', M σ' H' → tz D σ' H') : tSeq (tIfS t tu tNext) tz D σ H :=
  q_when h (fun hb H1 e => h1 hb H1 _ e fun σ2 H2 m => k σ2 H2 m) fun hb H1 e => k σ H1 (h2 hb H1 e)
theorem s_asgP {j : Nat} {R : V → Hp → Prop} (h : EvP te σ H R) (k : ∀ v H1, Ex H H1 → R v H1 → D.nx (σ.set j (some v)) H1) : tAsg te (gName j) D σ H := h H (Ex.refl H) _ fun v H1 e r => k v H1 e r
theorem s_dputP {d : Addr} {kvs : List (Key × V)} {k : Key} {R : V → Hp → Prop} (hv : EvP tv σ H R) (hd : Ev td σ H (.ref d)) (hk : Ev ty σ H (kV k)) (h : H d = some (.dK kvs)) (hl : kvs.length ≤ 50000) (n : ∀ v H1 H3, Ex H H1 → R v H1 → Ex H1 H3 → D.nx σ (upd H3 d (.dK (putK kvs k v)))) : sDPut td ty tv D σ H :=
  hv H (Ex.refl H) _ fun v H1 e1 r => hd H1 e1 _ fun H2 e2 => hk H2 (e1.trans e2) _ fun H3 e3 => ⟨d, _, rfl, DPut.k (((e1.trans e2).trans e3) _ _ h) (sz_lt (by omega)), n v H1 H3 e1 r (e2.trans e3)⟩
end
section
variable {P : Program} {w : World} {K : PySem.W.Frag} {σ : L2.St} {H : Hp} {te ta tb ti : TE} {E : XK} {R S : V → Hp → Prop}
theorem evp_take {tm : TE} {p : Addr} {m : Nat} (h : Ev te σ H (.ref p)) (hm : Ev tm σ H (.int (m : Int))) (T : TapeAt P w H p) (m0 : 0 < m) (m1 : m < 1000000) : EvP (tCall (spTake P w) [] E (tCons te (tCons tm tNil))) σ H (fun v _ => ∃ d : Nat, v = .int (d : Int) ∧ d < m) := fun H1 e Q q =>
  h H1 e _ fun H2 e2 => hm H2 (e.trans e2) _ fun H3 e3 => ⟨p, (m : Int), rfl, T.ex (e.trans (e2.trans e3)), by omega, by omega, fun d d0 d1 => q _ H3 (e2.trans e3) ⟨d.toNat, by rw [Int.toNat_of_nonneg d0], by omega⟩⟩
theorem evp_cb1 {r : List V → Hp → VK → Prop} (h : EvP te σ H R) (k : ∀ v H1, Ex H H1 → R v H1 → EvP (tCB r (tCons (tC v) tNil)) σ H1 S) : EvP (tCB r (tCons te tNil)) σ H S := fun H1 e Q q => h H1 e _ fun v H2 e2 rv => k v H2 (e.trans e2) rv H2 (Ex.refl _) Q fun u H3 e3 s => q u H3 (e2.trans e3) s
theorem evp_call1 {sp : Sp} (h : EvP te σ H R) (k : ∀ v H1, Ex H H1 → R v H1 → EvP (tCall sp [] E (tCons (tC v) tNil)) σ H1 S) : EvP (tCall sp [] E (tCons te tNil)) σ H S := fun H1 e Q q => h H1 e _ fun v H2 e2 rv => k v H2 (e.trans e2) rv H2 (Ex.refl _) Q fun u H3 e3 s => q u H3 (e2.trans e3) s
theorem evp_op2 {r : R2} {x : V} (h : Ev ta σ H x) (h2 : EvP tb σ H R) (k : ∀ v H1, Ex H H1 → R v H1 → EvP (tOp r (tC x) (tC v)) σ H1 S) : EvP (tOp r ta tb) σ H S := fun H1 e Q q => h H1 e _ fun H2 e2 => h2 H2 (e.trans e2) _ fun v H3 e3 rv => k v H3 (e.trans (e2.trans e3)) rv H3 (Ex.refl _) Q fun u H4 e4 s => q u H4 (e2.trans (e3.trans e4)) s
theorem evp_tup2 {x : V} {R : V → Prop} (ha : Ev ta σ H x) (hb : EvP tb σ H fun v _ => R v) : EvP (tTup (tCons ta (tCons tb tNil))) σ H fun v H2 => ∃ a y, v = .ref a ∧ H2 a = some (.tup [x, y]) ∧ R y := fun H1 e Q q =>
  ha H1 e _ fun H2 e2 => hb H2 (e.trans e2) _ fun u H3 e3 du => ⟨by show 2 ≤ sizeLine; decide, fun p hp => q _ _ ((e2.trans e3).trans (Ex.new hp)) ⟨p, u, rfl, upd_same, du⟩⟩
theorem evp_ixM {p : Addr} {xs : List V} (h : Ev te σ H (.ref p)) (hp : SqL K H p xs) (hi : EvP ti σ H fun v _ => ∃ d : Nat, v = .int (d : Int) ∧ d < xs.length) : EvP (tOp (rIxL K) te ti) σ H fun v _ => v ∈ xs := fun H1 e Q q =>
  h H1 e _ fun H2 e2 => hi H2 (e.trans e2) _ fun v H3 e3 ⟨d, ev, hd⟩ => by
    subst ev
    exact ⟨p, xs, d, xs[d], rfl, rfl, ex_l (e.trans (e2.trans e3)) hp, atI_nat (List.getElem?_eq_getElem hd), q _ H3 (e2.trans e3) (List.getElem_mem hd)⟩
end
def WInst (K : PySem.W.Frag) (H : Hp) (v : V) (ws : List Wr) : Prop := WAt K H v ws
section
variable {K : PySem.W.Frag} {σ : L2.St} {H : Hp} {te ta : TE} {E : XK} {G : Gn} {c : Nat}
theorem evp_inst {m : Nat} {ds : List Nat} (h : EvP te σ H fun u H2 => DskAt H2 u (frm G c 0 N0)) (h2 : Ev ta σ H (.str (imgS ds))) (hI : ds ∈ Imgs) (hm : nextN (frm G c 0 N0) = m) (m7 : m ≤ 7) : EvP (tCall (spInst K) [] E (tCons te (tCons ta tNil))) σ H fun u H2 => WAt K H2 u (instD m ds) := fun H1 e Q q =>
  h H1 e _ fun v H2 e2 ⟨d, l, ev, hd, hD⟩ => h2 H2 (e.trans e2) _ fun H3 e3 => by
    subst ev
    exact ⟨d, l, _, ds, rfl, e3 _ _ hd, hD, hI, by rw [hm]; exact m7, fun p H4 _ e4 hp => q _ H4 (e2.trans (e3.trans e4)) ⟨p, rfl, by rw [hm] at hp; exact hp⟩⟩
theorem evp_back {n : Nat} (h : EvP te σ H fun u H2 => DskAt H2 u (frm G c 0 N0)) (h2 : Ev ta σ H (.int (n : Int))) (ok : Ok G c 0 N0) (hn : n ∈ List.range' 1 7) (hs : (G n).isSome = true) : EvP (tCall (spBk K) [] E (tCons te (tCons ta tNil))) σ H fun u H2 => WAt K H2 u [(0, some (numI (n : Nat)))] := fun H1 e Q q =>
  h H1 e _ fun v H2 e2 ⟨d, l, ev, hd, hD⟩ => h2 H2 (e.trans e2) _ fun H3 e3 => by
    subst ev
    exact ⟨d, l, _, n, rfl, e3 _ _ hd, hD, frm_sm ok, hn, by rw [whole_frm ok hn]; exact hs, fun p H4 _ e4 hp => q _ H4 (e2.trans (e3.trans e4)) ⟨p, rfl, hp⟩⟩
end
theorem inst_full {G : Gn} {c m : Nat} {ds : List Nat} (hI : ds ∈ Imgs) (hm : 1 ≤ m) (hz : G m = none) : appW (instD m ds) (frm G c 0 N0) = frm (Gset G m (some ds)) m 0 N0 := by
  obtain ⟨l1, l3, _⟩ := img_len ds hI
  have lp : (putF m ds).length = ds.length := by unfold putF; rw [List.length_map, List.length_range]
  have full : preF ds ds.length = gF ds := by
    funext j
    unfold preF gF
    by_cases e : j < ds.length
    · rw [if_pos e, if_pos e]
    · rw [if_neg e, if_neg e]
  have b0 := putF_take (G := G) (c := c) (m := m) hz l3 ds.length (Nat.le_refl _)
  rw [show (putF m ds).take ds.length = putF m ds by rw [← lp, List.take_length], full] at b0
  rw [frm_N m]
  unfold instD
  rw [appW_append, b0]
  show ((frm G c m (gF ds)).set (4 * m) (some (dgI ds))).set 0 (some (numI (m : Nat))) = _
  rw [set_done hm hz]
  exact set_cur
theorem wG_add {G : Gn} {m : Nat} {ds : List Nat} (hm : m ∈ List.range' 1 7) (hz : G m = none) : (wG G).length + 1 ≤ (wG (Gset G m (some ds))).length := by
  have nd : (wG G).Nodup := List.Nodup.sublist List.filter_sublist (List.nodup_range' (s := 1) (n := 7))
  have nm : m ∉ wG G := fun z => by
    have := (List.mem_filter.mp z).2
    rw [hz] at this
    cases this
  have := len_sub (m :: wG G) (wG (Gset G m (some ds))) (List.nodup_cons.mpr ⟨nm, nd⟩) fun x hx => by
    rcases List.mem_cons.mp hx with z | z
    · rw [z]
      exact List.mem_filter.mpr ⟨hm, by unfold Gset; rw [if_pos rfl]; rfl⟩
    · obtain ⟨h1, h2⟩ := List.mem_filter.mp z
      refine List.mem_filter.mpr ⟨h1, ?_⟩
      unfold Gset
      split
      · rfl
      · exact h2
  rw [List.length_cons] at this
  exact this
theorem wG_mono {G G' : Gn} (h : ∀ j ds, G j = some ds → G' j = some ds) : (wG G).length ≤ (wG G').length :=
  len_sub _ _ (List.Nodup.sublist List.filter_sublist (List.nodup_range' (s := 1) (n := 7))) fun x hx => by
    obtain ⟨h1, h2⟩ := List.mem_filter.mp hx
    obtain ⟨ds, e⟩ := Option.isSome_iff_exists.mp h2
    exact List.mem_filter.mpr ⟨h1, by rw [h x ds e]; rfl⟩
def G1 (ds : List Nat) : Gn := fun n => if n = 1 then some ds else none
theorem appW_off {D D' : Dm} : ∀ (ws : List Wr), (∀ i, i ≠ 0 → D i = D' i) → ∀ i, i ≠ 0 → appW ws D i = appW ws D' i
  | [], h, i, hi => h i hi
  | w :: r, h, i, hi => by
    show appW r (D.set w.1 w.2) i = appW r (D'.set w.1 w.2) i
    refine appW_off (D := D.set w.1 w.2) (D' := D'.set w.1 w.2) r (fun k hk => ?_) i hi
    unfold Dm.set
    split
    · rfl
    · exact h k hk
theorem new_frm {ds : List Nat} (hI : ds ∈ Imgs) : ∀ i ∈ ids, appW (instD 1 ds) (fun _ => none) i = frm (G1 ds) 1 0 N0 i := by
  obtain ⟨l1, l3, _⟩ := img_len ds hI
  have lp : (putF 1 ds).length = ds.length := by unfold putF; rw [List.length_map, List.length_range]
  have full : preF ds ds.length = gF ds := by
    funext j
    unfold preF gF
    by_cases e : j < ds.length
    · rw [if_pos e, if_pos e]
    · rw [if_neg e, if_neg e]
  have b0 := putF_take (G := fun _ => none) (c := 1) (m := 1) rfl l3 ds.length (Nat.le_refl _)
  rw [show (putF 1 ds).take ds.length = putF 1 ds by rw [← lp, List.take_length], full] at b0
  have b1 : appW (instD 1 ds) (frm (fun _ => none) 1 1 N0) = frm (G1 ds) 1 0 N0 := by
    unfold instD
    rw [appW_append, b0]
    show ((frm (fun _ => none) 1 1 (gF ds)).set (4 * 1) (some (dgI ds))).set 0 (some (numI (1 : Nat))) = _
    rw [set_done (by decide) rfl]
    exact set_cur
  have e0 : ∀ i, i ≠ 0 → (fun _ => none : Dm) i = frm (fun _ => none) 1 1 N0 i := fun i hi => by
    unfold frm N0
    rw [if_neg hi]
    split
    · rfl
    · simp
  intro i _
  rw [← b1]
  have es : instD 1 ds = (putF 1 ds ++ [(4 * 1, some (dgI ds))]) ++ [(0, some (numI (1 : Nat)))] := by
    unfold instD
    simp
  by_cases hi : i = 0
  · rw [es, hi]
    simp only [appW_append]
    rfl
  · exact appW_off _ e0 i hi
theorem ok1 {ds : List Nat} (hI : ds ∈ Imgs) : Ok (G1 ds) 1 0 N0 := by
  refine ⟨fun n d hd => ?_, rfl, rfl, .inr rfl, fun j t hj => (by cases hj), fun _ _ => rfl⟩
  unfold G1 at hd
  split at hd
  · rename_i z
    cases hd
    rw [z]
    exact ⟨hI, by decide⟩
  · cases hd
theorem wG1 (ds : List Nat) : wG (G1 ds) = [1] := rfl
end Mx
set_option Elab.async false
set_option linter.all false
set_option maxRecDepth 100000
set_option maxHeartbeats 1000000
namespace Mx
open PySem PySem.Spec PyProof.Rows L2 Evl TL
open PySem.W (Datum DatumOrd Tup SomeDatum)
/-! ### waves -/
abbrev clR : Stmt := topM 28
abbrev sInit : Stmt := inClass clR 0
abbrev sLeft : Stmt := inClass clR 1
abbrev sTak : Stmt := inClass clR 2
abbrev sWav : Stmt := inClass clR 3
abbrev sBak : Stmt := inClass clR 4
abbrev sRun : Stmt := inClass clR 5
abbrev sIms : Stmt := topM 29
theorem scInit : FnScope ["self", "fleet", "image", "sizes", "allowed", "name", "disk"] ["self", "fleet", "image", "sizes", "allowed"] (defScope sInit) := ⟨rfl, rfl, rfl, by decide +kernel, rfl, by decide +kernel, by decide +kernel⟩
theorem scLeft : FnScope ["self", "name"] ["self"] (defScope sLeft) := ⟨rfl, rfl, rfl, by decide +kernel, rfl, by decide +kernel, by decide +kernel⟩
theorem scTak : FnScope ["self", "name", "cut", "disk", "writes", "clean"] ["self", "name", "cut"] (defScope sTak) := ⟨rfl, rfl, rfl, by decide +kernel, rfl, by decide +kernel, by decide +kernel⟩
theorem scBak : FnScope ["self", "name", "disk"] ["self"] (defScope sBak) := ⟨rfl, rfl, rfl, by decide +kernel, rfl, by decide +kernel, by decide +kernel⟩
theorem scWav : FnScope ["self", "health", "cuts", "size", "names", "name", "bad"] ["self", "health", "cuts"] (defScope sWav) := ⟨rfl, rfl, rfl, by decide +kernel, rfl, by decide +kernel, by decide +kernel⟩
theorem scRun : FnScope ["self", "health", "cuts"] ["self", "health", "cuts"] (defScope sRun) := ⟨rfl, rfl, rfl, by decide +kernel, rfl, by decide +kernel, by decide +kernel⟩
theorem scIms : FnScope ["fleet", "found", "name", "disk"] ["fleet"] (defScope sIms) := ⟨rfl, rfl, rfl, by decide +kernel, rfl, by decide +kernel, by decide +kernel⟩
structure TxtR (K : PySem.W.Frag) (mg : Str → Option Value) (C : Addr) : Prop where
  cl : Cls K C
  nFl : NoAttr K C "fleet"
  nIm : NoAttr K C "image"
  nSz : NoAttr K C "sizes"
  nAl : NoAttr K C "allowed"
  nDo : NoAttr K C "done"
  nFa : NoAttr K C "failed"
  nWa : NoAttr K C "waves"
  nSt : NoAttr K C "status"
  nBe : NoAttr K C "before"
  min : mg "min" = none
structure HM (P : Program) (w : World) (K : PySem.W.Frag) (mg : Str → Option Value) (base : Heap) : Prop where
  dig : Has P w K mg base CX0 2 "digest" ["text"] spDig
  inst : Has P w K mg base CX0 3 "install_writes" ["disk", "image"] (spInst K)
  cur : Has P w K mg base CX0 4 "current" ["disk"] spCur
  rcv : Has P w K mg base CX0 2 "recovered" ["disk"] (spRec K)
  back : Has P w K mg base CX0 4 "back_writes" ["disk", "number"] (spBk K)
  aft : Has P w K mg base CX0 2 "after" ["disk", "writes", "count"] (spAft K)
/-! names, fleets, the rollout as an object -/
def nm (i : Nat) : Str := "m" ++ numI i
theorem nm_inj7 : ∀ i : Nat, i < 7 → ∀ j : Nat, j < 7 → nm i = nm j → i = j := by decide +kernel
theorem nm_sorted : ∀ n : Nat, n < 8 → sortedS ((List.range n).map nm) = true := by decide +kernel
theorem nm_len : ∀ i : Nat, i < 7 → (nm i).length = 2 := by decide +kernel
theorem dg_img : ∀ a ∈ Imgs, ∀ b ∈ Imgs, dgI a = dgI b → a = b := by decide +kernel
theorem im_img : ∀ a ∈ Imgs, ∀ b ∈ Imgs, imgS a = imgS b → a = b := by decide +kernel
def fset {α : Type} (d : Nat → α) (i : Nat) (a : α) : Nat → α := fun j => if j = i then a else d j
theorem fset_at {α : Type} {d : Nat → α} {i : Nat} {a : α} : fset d i a i = a := if_pos rfl
theorem fset_ne {α : Type} {d : Nat → α} {i j : Nat} {a : α} (h : j ≠ i) : fset d i a j = d j := if_neg h
def flK {α : Type} (k : Nat → Str) (n : Nat) (d : Nat → α) : List (Str × α) := (List.range n).map fun i => (k i, d i)
def KInj (k : Nat → Str) (n : Nat) : Prop := ∀ i, i < n → ∀ j, j < n → k i = k j → i = j
theorem nm_inj {n : Nat} (h : n ≤ 7) : KInj nm n := fun i hi j hj e => nm_inj7 i (by omega) j (by omega) e
section
variable {α : Type} {k : Nat → Str} {n i : Nat} {d : Nat → α} {a : α}
theorem flK_len : (flK k n d).length = n := by unfold flK; rw [List.length_map, List.length_range]
theorem flK_keys : (flK k n d).map (·.1) = (List.range n).map k := by unfold flK; rw [List.map_map]; rfl
theorem flK_nd (h : KInj k n) : ((flK k n d).map (·.1)).Nodup := by
  rw [flK_keys]
  exact List.pairwise_map.mpr (List.Pairwise.imp_of_mem (fun ha hb hne e => hne (h _ (List.mem_range.mp ha) _ (List.mem_range.mp hb) e)) List.nodup_range)
theorem flK_look (h : KInj k n) (hi : i < n) : (flK k n d).lookup (k i) = some (d i) :=
  look_of_mem (flK_nd h) (e := (k i, d i)) (by unfold flK; exact List.mem_map.mpr ⟨i, List.mem_range.mpr hi, rfl⟩)
theorem flK_put (h : KInj k n) (hi : i < n) : putA (flK k n d) (k i) a = flK k n (fset d i a) := by
  unfold putA
  rw [if_pos (by rw [hasA_look, flK_look h hi]; rfl)]
  unfold flK
  rw [List.map_map]
  refine List.map_congr_left fun j hj => ?_
  show (if k j = k i then (k j, a) else (k j, d j)) = (k j, fset d i a j)
  by_cases e : j = i
  · rw [e, if_pos rfl, fset_at]
  · rw [if_neg (fun z => e (h _ (List.mem_range.mp hj) _ hi z)), fset_ne e]
theorem flK_at (hi : i < n) : (flK k n d)[i]? = some (k i, d i) := by
  unfold flK
  rw [List.getElem?_map, List.getElem?_range hi]
  rfl
theorem flK_val {f : α → V} (h : KInj k n) (hi : i < n) : valV (dk f (flK k n d)) (Sum.inr (k i)) = some (f (d i)) := by
  rw [valV_dk, flK_look h hi]
  rfl
end
structure Mst where
  g : Gn
  c : Nat
def Mst.O (m : Mst) : Prop := Ok m.g m.c 0 N0
def Mst.D (m : Mst) : Dm := frm m.g m.c 0 N0
def DAt (H : Hp) (a : Addr) (m : Mst) : Prop := DskAt H (.ref a) m.D
theorem DAt.ex {H H' : Hp} {a : Addr} {m : Mst} (h : DAt H a m) (e : Ex H H') : DAt H' a m := DskAt.ex h e
structure RA where
  x : Addr
  dx : Addr
  pf : Addr
  ps : Addr
  pd : Addr
  pe : Addr
  pb : Addr
def RA.mut (A : RA) : List Addr := [A.x, A.pf, A.pd, A.pe]
def fldsR (A : RA) (im : Str) (al : Int) (w : Nat) (st : Str) : List (Str × V) := [("fleet", .ref A.pf), ("image", .str im), ("sizes", .ref A.ps), ("allowed", .int al), ("done", .ref A.pd), ("failed", .ref A.pe), ("waves", .int (w : Int)), ("status", .str st), ("before", .ref A.pb)]
def Kp (B : List Addr) (H H' : Hp) : Prop := ∀ a o, a ∉ B → H a = some o → H' a = some o
theorem Kp.refl {B : List Addr} (H : Hp) : Kp B H H := fun _ _ _ h => h
theorem Kp.trans {B : List Addr} {H H1 H2 : Hp} (a : Kp B H H1) (b : Kp B H1 H2) : Kp B H H2 := fun x o n h => b x o n (a x o n h)
theorem Kp.of {B : List Addr} {H H' : Hp} (e : Ex H H') : Kp B H H' := fun a o _ h => e a o h
theorem Kp.upd {B : List Addr} {H : Hp} {p : Addr} {o : HO} (h : p ∈ B) : Kp B H (L2.upd H p o) := fun a u n e => by
  rw [upd_ne (fun z => n (by rw [z]; exact h))]
  exact e
theorem Kp.sub {B C : List Addr} {H H' : Hp} (h : Kp B H H') (s : ∀ a ∈ B, a ∈ C) : Kp C H H' := fun a o n e => h a o (fun z => n (s a z)) e
theorem putX_hit {f : Str} {v u : V} {r : List (Str × V)} : L2.putF f v ((f, u) :: r) = (f, v) :: r := by
  unfold L2.putF
  simp
theorem putX_miss {f g : Str} {v u : V} {r : List (Str × V)} (h : ¬ g = f) : L2.putF f v ((g, u) :: r) = (g, u) :: L2.putF f v r := by
  show (if _ then _ else _) = _
  rw [if_neg h]
/-- the parts that stay through a rollout's life -/
structure Cfg where
  n : Nat
  img : List Nat
  sz : List Nat
  al : Int
  bf : Nat → Nat
structure RoAt (C : Addr) (H : Hp) (A : RA) (F : Cfg) (d : Nat → Addr) (M : Nat → Mst) (t w : Nat) (st : Str) (bad : List Nat) : Prop where
  ins : H A.x = some (.ins C A.dx (fldsR A (imgS F.img) F.al w st))
  fl : H A.pf = some (.dK (dk V.ref (flK nm F.n d)))
  ms : ∀ i, i < F.n → DAt H (d i) (M i)
  df : ∀ i, i < F.n → d i ≠ A.pf
  sz : H A.ps = some (.lst (F.sz.map fun s => V.int ((s : Nat) : Int)))
  dn : H A.pd = some (.lst ((List.range t).map fun i => V.str (nm i)))
  fa : H A.pe = some (.lst (bad.map fun i => V.str (nm i)))
  be : H A.pb = some (.dK (dk (fun i : Nat => V.int (i : Int)) (flK nm F.n F.bf)))
  ne : A.pd ≠ A.pe ∧ A.ps ≠ A.pd ∧ A.ps ≠ A.pe ∧ A.pb ≠ A.pf
structure CfgOk (F : Cfg) : Prop where
  n1 : 1 ≤ F.n
  n7 : F.n ≤ 7
  im : F.img ∈ Imgs
section
variable {C : Addr} {H H' : Hp} {A : RA} {F : Cfg} {d : Nat → Addr} {M : Nat → Mst} {t w : Nat} {st : Str} {bad : List Nat}
theorem RoAt.ex (h : RoAt C H A F d M t w st bad) (e : Ex H H') : RoAt C H' A F d M t w st bad := ⟨e _ _ h.ins, e _ _ h.fl, fun i hi => (h.ms i hi).ex e, h.df, e _ _ h.sz, e _ _ h.dn, e _ _ h.fa, e _ _ h.be, h.ne⟩
theorem RoAt.x_ne (h : RoAt C H A F d M t w st bad) : A.x ≠ A.pf ∧ A.x ≠ A.pd ∧ A.x ≠ A.pe ∧ A.x ≠ A.ps ∧ A.x ≠ A.pb ∧ A.pf ≠ A.pd ∧ A.pf ≠ A.pe ∧ A.pf ≠ A.ps ∧ A.pb ≠ A.pd ∧ A.pb ≠ A.pe := by
  have h1 := h.ins
  have h2 := h.fl
  have h3 := h.dn
  have h4 := h.fa
  have h5 := h.sz
  have h6 := h.be
  refine ⟨fun z => ?_, fun z => ?_, fun z => ?_, fun z => ?_, fun z => ?_, fun z => ?_, fun z => ?_, fun z => ?_, fun z => ?_, fun z => ?_⟩
  · rw [z, h2] at h1; cases h1
  · rw [z, h3] at h1; cases h1
  · rw [z, h4] at h1; cases h1
  · rw [z, h5] at h1; cases h1
  · rw [z, h6] at h1; cases h1
  · rw [z, h3] at h2; cases h2
  · rw [z, h4] at h2; cases h2
  · rw [z, h5] at h2; cases h2
  · rw [z, h3] at h6; cases h6
  · rw [z, h4] at h6; cases h6
theorem RoAt.d_ne (h : RoAt C H A F d M t w st bad) {i : Nat} (hi : i < F.n) : d i ∉ A.mut := fun z => by
  obtain ⟨d2, l, e, hd, _⟩ := h.ms i hi
  cases e
  rcases List.mem_cons.mp z with z | z
  · rw [z, h.ins] at hd; cases hd
  rcases List.mem_cons.mp z with z | z
  · exact h.df i hi z
  rcases List.mem_cons.mp z with z | z
  · rw [z, h.dn] at hd; cases hd
  · rw [List.mem_singleton.mp z, h.fa] at hd; cases hd
/-- the fleet's dict written -/
theorem RoAt.put (h : RoAt C H A F d M t w st bad) (o : CfgOk F) {i : Nat} (hi : i < F.n) {a : Addr} {m : Mst} (ha : DAt H a m) (hp : a ≠ A.pf) : RoAt C (upd H A.pf (.dK (putK (dk V.ref (flK nm F.n d)) (Sum.inr (nm i)) (.ref a)))) A F (fset d i a) (fset M i m) t w st bad := by
  obtain ⟨n1, n2, n3, n4, n5, n6, n7, n8, n9, n10⟩ := h.x_ne
  obtain ⟨m1, m2, m3, m4⟩ := h.ne
  have keep : ∀ {b : Addr} {u : HO}, b ≠ A.pf → H b = some u → upd H A.pf (.dK (putK (dk V.ref (flK nm F.n d)) (Sum.inr (nm i)) (.ref a))) b = some u := fun {b u} hb e => by rw [upd_ne hb]; exact e
  refine ⟨keep n1 h.ins, ?_, fun j hj => ?_, fun j hj => ?_, keep n8.symm h.sz, keep n6.symm h.dn, keep n7.symm h.fa, keep m4 h.be, h.ne⟩
  · rw [upd_same, putK_dk, flK_put (nm_inj o.n7) hi]
  · by_cases e : j = i
    · rw [e, fset_at, fset_at]
      obtain ⟨d2, l, e2, hd, hD⟩ := ha
      cases e2
      exact ⟨_, l, rfl, keep hp hd, hD⟩
    · rw [fset_ne e, fset_ne e]
      obtain ⟨d2, l, e2, hd, hD⟩ := h.ms j hj
      cases e2
      exact ⟨_, l, rfl, keep (h.df j hj) hd, hD⟩
  · by_cases e : j = i
    · rw [e, fset_at]
      exact hp
    · rw [fset_ne e]
      exact h.df j hj
theorem fld_st {s : Str} : L2.putF "status" (.str s) (fldsR A (imgS F.img) F.al w st) = fldsR A (imgS F.img) F.al w s := by
  unfold fldsR
  rw [putX_miss (by decide +kernel), putX_miss (by decide +kernel), putX_miss (by decide +kernel), putX_miss (by decide +kernel), putX_miss (by decide +kernel), putX_miss (by decide +kernel), putX_miss (by decide +kernel), putX_hit]
theorem fld_wa {v : Nat} : L2.putF "waves" (.int (v : Int)) (fldsR A (imgS F.img) F.al w st) = fldsR A (imgS F.img) F.al v st := by
  unfold fldsR
  rw [putX_miss (by decide +kernel), putX_miss (by decide +kernel), putX_miss (by decide +kernel), putX_miss (by decide +kernel), putX_miss (by decide +kernel), putX_miss (by decide +kernel), putX_hit]
theorem RoAt.setx (h : RoAt C H A F d M t w st bad) {w' : Nat} {st' : Str} : RoAt C (upd H A.x (.ins C A.dx (fldsR A (imgS F.img) F.al w' st'))) A F d M t w' st' bad := by
  obtain ⟨n1, n2, n3, n4, n5, n6, n7, n8, n9, n10⟩ := h.x_ne
  have keep : ∀ {b : Addr} {u : HO}, b ≠ A.x → H b = some u → upd H A.x (.ins C A.dx (fldsR A (imgS F.img) F.al w' st')) b = some u := fun {b u} hb e => by rw [upd_ne hb]; exact e
  refine ⟨upd_same, keep n1.symm h.fl, fun i hi => ?_, h.df, keep n4.symm h.sz, keep n2.symm h.dn, keep n3.symm h.fa, keep n5.symm h.be, h.ne⟩
  obtain ⟨d2, l, e2, hd, hD⟩ := h.ms i hi
  cases e2
  exact ⟨_, l, rfl, keep (fun z => h.d_ne hi (by rw [z]; exact List.mem_cons_self ..)) hd, hD⟩
end
section
variable {K : PySem.W.Frag} {mg : Str → Option Value} {C : Addr} {σ : L2.St} {H : Hp} {to : TE} {A : RA} {F : Cfg} {d : Nat → Addr} {M : Nat → Mst} {t w : Nat} {st : Str} {bad : List Nat}
theorem ev_fleet (T : TxtR K mg C) (h : Ev to σ H (.ref A.x)) (s : RoAt C H A F d M t w st bad) : Ev (tFld K to "fleet") σ H (.ref A.pf) := ev_fld h s.ins T.cl T.nFl rfl
theorem ev_image (T : TxtR K mg C) (h : Ev to σ H (.ref A.x)) (s : RoAt C H A F d M t w st bad) : Ev (tFld K to "image") σ H (.str (imgS F.img)) := ev_fld h s.ins T.cl T.nIm rfl
theorem ev_sizes (T : TxtR K mg C) (h : Ev to σ H (.ref A.x)) (s : RoAt C H A F d M t w st bad) : Ev (tFld K to "sizes") σ H (.ref A.ps) := ev_fld h s.ins T.cl T.nSz rfl
theorem ev_allow (T : TxtR K mg C) (h : Ev to σ H (.ref A.x)) (s : RoAt C H A F d M t w st bad) : Ev (tFld K to "allowed") σ H (.int F.al) := ev_fld h s.ins T.cl T.nAl rfl
theorem ev_done (T : TxtR K mg C) (h : Ev to σ H (.ref A.x)) (s : RoAt C H A F d M t w st bad) : Ev (tFld K to "done") σ H (.ref A.pd) := ev_fld h s.ins T.cl T.nDo rfl
theorem ev_failed (T : TxtR K mg C) (h : Ev to σ H (.ref A.x)) (s : RoAt C H A F d M t w st bad) : Ev (tFld K to "failed") σ H (.ref A.pe) := ev_fld h s.ins T.cl T.nFa rfl
theorem ev_waves (T : TxtR K mg C) (h : Ev to σ H (.ref A.x)) (s : RoAt C H A F d M t w st bad) : Ev (tFld K to "waves") σ H (.int (w : Int)) := ev_fld h s.ins T.cl T.nWa rfl
theorem ev_status (T : TxtR K mg C) (h : Ev to σ H (.ref A.x)) (s : RoAt C H A F d M t w st bad) : Ev (tFld K to "status") σ H (.str st) := ev_fld h s.ins T.cl T.nSt rfl
theorem ev_before (T : TxtR K mg C) (h : Ev to σ H (.ref A.x)) (s : RoAt C H A F d M t w st bad) : Ev (tFld K to "before") σ H (.ref A.pb) := ev_fld h s.ins T.cl T.nBe rfl
theorem ev_diskA (T : TxtR K mg C) {tn : TE} {i : Nat} (h : Ev to σ H (.ref A.x)) (hn : Ev tn σ H (.str (nm i))) (s : RoAt C H A F d M t w st bad) (o : CfgOk F) (hi : i < F.n) : Ev (tDGet (tFld K to "fleet") tn) σ H (.ref (d i)) :=
  ev_dgetK (k := .inr (nm i)) (ev_fleet T h s) hn (.inl s.fl) (flK_val (nm_inj o.n7) hi)
end
/-- a machine taken to an image -/
structure Taken (img : List Nat) (m m' : Mst) : Prop where
  o : m'.O
  c : m'.g m'.c = some img
  x : ∀ j ds, m.g j = some ds → m'.g j = some ds
  t : ∀ T, (∀ j, (m.g j).isSome = true → j ≤ T) → ∀ j, (m'.g j).isSome = true → j ≤ T + 2
  l : (wG m.g).length + 1 ≤ (wG m'.g).length
def spLeft (C : Addr) : Sp := fun vs H Q _ => ∃ (A : RA) (F : Cfg) (d : Nat → Addr) (M : Nat → Mst) (t w : Nat) (st : Str) (bad : List Nat), vs = [.ref A.x] ∧ RoAt C H A F d M t w st bad ∧ CfgOk F ∧ t ≤ F.n ∧ ∀ p H', H p = none → Ex H H' → H' p = some (.lst ((List.range' t (F.n - t)).map fun i => V.str (nm i))) → Q (.ref p) H'
def spTak (C : Addr) : Sp := fun vs H Q _ => ∃ (A : RA) (F : Cfg) (d : Nat → Addr) (M : Nat → Mst) (t w : Nat) (st : Str) (bad : List Nat) (i : Nat) (cv : V) (hd : List Nat) (T : Nat), vs = [.ref A.x, .str (nm i), cv] ∧ RoAt C H A F d M t w st bad ∧ CfgOk F ∧ i < F.n ∧ (cv = .non ∨ ∃ k : Nat, cv = .int (k : Int)) ∧
  (M i).O ∧ (M i).g (M i).c = some hd ∧ hd ≠ F.img ∧ (∀ j, ((M i).g j).isSome = true → j ≤ T) ∧ T ≤ 5 ∧ ∀ H' a m, Kp A.mut H H' → RoAt C H' A F (fset d i a) (fset M i m) t w st bad → Taken F.img (M i) m → Q .non H'
def spBack (C : Addr) : Sp := fun vs H Q _ => ∃ (A : RA) (F : Cfg) (d : Nat → Addr) (M : Nat → Mst) (t w : Nat) (st : Str) (bad : List Nat), vs = [.ref A.x] ∧ RoAt C H A F d M t w st bad ∧ CfgOk F ∧ t ≤ F.n ∧ (∀ i, i < t → (M i).O ∧ ((M i).g (F.bf i)).isSome = true) ∧
  ∀ H' d', Kp A.mut H H' → RoAt C H' A F d' (fun i => if i < t then ⟨(M i).g, F.bf i⟩ else M i) t w "back" bad → Q .non H'
section
variable {P : Program} {w : World} {K : PySem.W.Frag} {mg : Str → Option Value} {base : Heap} {C CB : Addr}
theorem ok_left {f : Addr} {fd : FuncData} (F : Fun K "left" "Rollout.left" sLeft f fd) (T : TxtR K mg C) (B : BtM mg) : FnOk P w K mg base CX0 1 f fd ["self"] (spLeft C) := by
  refine F.ok scLeft (fun vs H Q E h => ?_) (fun cdv Ar outer s H vs Q E hr h => ?_)
  · obtain ⟨_, _, _, _, _, _, _, _, rfl, _⟩ := h
    rfl
  · obtain ⟨A, F, d, M, t, w, st, bad, rfl, ro, o, ht, k⟩ := h
    have hu := hu_of hr
    refine ⟨_, (pss_one (ps_ret (pe_lc (own := [("name", 1)]) (g := gName 1) rfl scLeft.nd (pi_list (pe_callB (call_sortedD rfl) (by rfl) B.sorted (by decide +kernel) (pa_cons (pe_fld (pv 0) rfl) pa_nil))) (blkOk_by (N := ["self", "name"]) (sc := defScope sLeft) (by decide +kernel)) (fun _ _ _ _ _ => pg_name (i := 1) scLeft.nd rfl (Or.inl rfl)) (fun _ _ _ _ _ => pts_one (pt_cmpR (op_niK (K' := K) rfl) (pv 1) (pe_fldK (K' := K) rfl (pv 0) rfl) (by rfl))) (fun _ _ _ _ _ => pv 1)))), ?_⟩
    have n7 := o.n7
    have key : ((((List.range F.n).map nm).filter fun x => !decide (x ∈ (List.range t).map nm)).map fun x => x) = (List.range' t (F.n - t)).map nm := by
      have e1 : List.range F.n = List.range t ++ List.range' t (F.n - t) := by
        rw [List.range_eq_range', List.range_eq_range']
        have := List.range'_append (s := 0) (m := t) (n := F.n - t) (step := 1)
        simp only [Nat.one_mul, Nat.zero_add] at this
        rw [this, show t + (F.n - t) = F.n by omega]
      have f1 : ((List.range t).map nm).filter (fun x => !decide (x ∈ (List.range t).map nm)) = [] := List.filter_eq_nil_iff.mpr fun x hx z => by
        rw [decide_eq_true hx] at z
        cases z
      have f2 : ((List.range' t (F.n - t)).map nm).filter (fun x => !decide (x ∈ (List.range t).map nm)) = (List.range' t (F.n - t)).map nm := List.filter_eq_self.mpr fun x hx => by
        obtain ⟨j, hj, rfl⟩ := List.mem_map.mp hx
        obtain ⟨q, hq, rfl⟩ := List.mem_range'.mp hj
        rw [decide_eq_false]
        · rfl
        · intro z
          obtain ⟨r, hr, e⟩ := List.mem_map.mp z
          have hr := List.mem_range.mp hr
          have := nm_inj n7 _ (by omega) _ (by omega) e
          omega
      rw [e1, List.map_append, List.filter_append, f1, f2, List.nil_append, List.map_id']
    unfold tRet
    refine (evl_lcLt (K := K) (α := Str) (β := Str) (xs := (List.range F.n).map nm) (fun x => !decide (x ∈ (List.range t).map nm)) (fun x => x) ?_ (by rw [List.length_map, List.length_range]; omega) (fun _ => rfl) (fun x v H2 hx dx e2 => ?_) (fun x v H2 hx _ dx e2 => ?_)) H (Ex.refl H) _ fun v H1 e1 ⟨p, us, ev, np, hp, dp⟩ => ?_
    · intro H2 e2 Q2 q2
      exact el_sortDk (ks := (List.range F.n).map nm) (ev_fleet T (ev_var rfl) ro) ro.fl (by rw [flK_keys]) (nm_sorted F.n (by omega)) (by rw [flK_len]; omega) H2 e2 Q2 fun p H3 np e3 hp => q2 _ H3 e3 (dt_strs (sq_of hp))
    · have ex := dt_str_inv dx
      subst ex
      have ro2 := ro.ex e2
      exact et_test (ev_inS (neg := true) (ev_var rfl) (ev_done T (ev_var rfl) ro2) (sq_of (by rw [ro2.dn, List.map_map]; rfl)))
    · have ex := dt_str_inv dx
      subst ex
      exact evd_str (ev_var rfl)
    · subst ev
      have eu := dpAll_strs dp
      subst eu
      rw [key, List.map_map] at hp
      exact k p H1 np e1 hp
end
end Mx
set_option Elab.async false
set_option linter.all false
set_option maxRecDepth 100000
set_option maxHeartbeats 1000000
namespace Mx
open PySem PySem.Spec PyProof.Rows L2 Evl TL
open PySem.W (Datum DatumOrd Tup SomeDatum)
/-! ### waves -/
section
variable {P : Program} {w : World} {K : PySem.W.Frag} {mg : Str → Option Value} {base : Heap} {C CB : Addr}
theorem evp_dig {σ : L2.St} {H : Hp} {te : TE} {E : XK} {ds : List Nat} (h : Ev te σ H (.str (imgS ds))) (hI : ds ∈ Imgs) : Ev (tCall spDig [] E (tCons te tNil)) σ H (.str (dgI ds)) := fun H1 e Q q =>
  h H1 e _ fun H2 e2 => ⟨imgS ds, rfl, by have := (img_len ds hI).2.2; omega, q H2 e2⟩
theorem ok_tak {f : Addr} {fd : FuncData} (F : Fun K "take" "Rollout.take" sTak f fd) (T : TxtR K mg C) (B : BtM mg) (L : HM P w K mg base) : FnOk P w K mg base CX0 5 f fd ["self", "name", "cut"] (spTak C) := by
  refine F.ok scTak (fun vs H Q E h => ?_) (fun cdv Ar outer s H vs Q E hr h => ?_)
  · obtain ⟨_, _, _, _, _, _, _, _, _, _, _, _, rfl, _⟩ := h
    rfl
  · obtain ⟨A, F, d, M, t, w, st, bad, i, cv, hd, TT, rfl, ro, o, hi, hcv, okm, hhd, hne, top, hT, k⟩ := h
    have hu := hu_of hr
    refine ⟨_, (pss_cons (ps_set (i := 3) scTak.nd rfl (Or.inl rfl) (pe_dget hu (pe_fld (pv 0) rfl) (pv 1) (fun _ _ => rfl)))
      (pss_cons (ps_set (i := 4) scTak.nd rfl (Or.inl rfl) (pe_h L.inst hr (by rfl) pass0 (pa_cons (pv 3) (pa_cons (pe_fld (pv 0) rfl) pa_nil))))
      (pss_cons (ps_if (PW.pt (pw_and (pt_cmpR (op_notN) (pv 2) (pe_non) (nomark _)) (pw_and1 (pt_cmpR (op_lt) (pv 2) (pe_callB (call_len_seq) (by rfl) B.len (PySem.boot_len) (pa_cons (pv 4) pa_nil)) (nomark _))))) (pss_cons (ps_set (i := 3) scTak.nd rfl (Or.inl rfl) (pe_h L.aft hr (by rfl) pass0 (pa_cons (pv 3) (pa_cons (pv 4) (pa_cons (pv 2) pa_nil)))))
      (pss_cons (ps_set (i := 5) scTak.nd rfl (Or.inl rfl) (pe_h L.rcv hr (by rfl) pass0 (pa_cons (pv 3) pa_nil)))
      (pss_cons (ps_set (i := 3) scTak.nd rfl (Or.inl rfl) (pe_h L.aft hr (by rfl) pass0 (pa_cons (pv 3) (pa_cons (pv 5) (pa_cons (pe_callB (call_len_seq) (by rfl) B.len (PySem.boot_len) (pa_cons (pv 5) pa_nil)) pa_nil)))))
      (pss_cons (ps_if (pt_cmpR (op_eq) (pe_h L.dig hr (by rfl) pass0 (pa_cons (pe_ix (show IxR _ (rIxT K) from ix_tup) (pe_h L.cur hr (by rfl) pass0 (pa_cons (pv 3) pa_nil)) (pe_int) (fun _ _ => rfl)) pa_nil)) (pe_h L.dig hr (by rfl) pass0 (pa_cons (pe_fld (pv 0) rfl) pa_nil)) (nomark _)) (pss_cons ps_never (pss_one ps_never)) pss_nil)
      (pss_one (ps_set (i := 4) scTak.nd rfl (Or.inl rfl) (pe_h L.inst hr (by rfl) pass0 (pa_cons (pv 3) (pa_cons (pe_fld (pv 0) rfl) pa_nil))))))))) pss_nil)
      (pss_one (ps_dput hu (pe_fld (pv 0) rfl) (pv 1) (pe_h L.aft hr (by rfl) pass0 (pa_cons (pv 3) (pa_cons (pv 4) (pa_cons (pe_callB (call_len_seq) (by rfl) B.len (PySem.boot_len) (pa_cons (pv 4) pa_nil)) pa_nil)))) rfl))))), ?_⟩
    have hI := o.im
    obtain ⟨l1, l3, _⟩ := img_len F.img hI
    generalize hM : M i = m0 at *
    obtain ⟨G, c⟩ := m0
    have ok : Ok G c 0 N0 := okm
    have hhd : G c = some hd := hhd
    have top : ∀ j, (G j).isSome = true → j ≤ TT := top
    have hdI := (ok.g c hd hhd).1
    have dA : DskAt H (.ref (d i)) (frm G c 0 N0) := by have := ro.ms i hi; rw [hM] at this; exact this
    have nx := fun {G : Gn} {TT : Nat} (ok : Ok G c 0 N0) (top : ∀ j, (G j).isSome = true → j ≤ TT) (h : TT ≤ 6) => next_facts (T := TT - 1) ok (fun j hj => by have := top j hj; omega) (by omega)
    obtain ⟨m, xs, ew, en, mt, m7, mz⟩ := nx ok top (by omega)
    have t1 : 1 ≤ TT := by have := top c (by rw [hhd]; rfl); have := (in7.mp ok.c7).1; omega
    refine q_asg (v := .ref (d i)) (ev_diskA T (ev_var rfl) (ev_var rfl) ro o hi) fun H1 e1 => ?_
    refine q_asgP (evp_inst (ev_dsk (ev_var rfl) (dA.ex e1)) (ev_image T (ev_var rfl) (ro.ex e1)) hI en (by have := in7.mp m7; omega)) fun v H2 e2 wA => ?_
    obtain ⟨p1, ev, hp1⟩ := wA
    subst ev
    obtain ⟨us, hus, lus⟩ := hp1.len
    rw [instD_len] at lus
    have e12 := e1.trans e2
    have cm : c ≠ m + 1 := fun z => by rw [z, mz] at hhd; cases hhd
    -- behind the if: the disk and the writes
    let Mid : L2.St → Hp → Prop := fun σ' H' => ∃ d1 p2 G1 m1 v5, σ' = [some (.ref A.x), some (.str (nm i)), some cv, some (.ref d1), some (.ref p2), v5] ∧ Ex H H' ∧ DskAt H' (.ref d1) (frm G1 c 0 N0) ∧ Ok G1 c 0 N0 ∧ WrAt K H' p2 (instD m1 F.img) ∧ m1 ∈ List.range' 1 7 ∧ G1 m1 = none ∧
      (∀ j ds, G j = some ds → G1 j = some ds) ∧ (∀ j, (G1 j).isSome = true → j ≤ TT + 1 ∧ ∀ T', (∀ j, (G j).isSome = true → j ≤ T') → j ≤ T' + 1) ∧ (∀ T', (∀ j, (G j).isSome = true → j ≤ T') → m1 ≤ T' + 2) ∧ d1 ≠ A.pf
    have bnd : ∀ T', (∀ j, (G j).isSome = true → j ≤ T') → m + 1 ≤ T' + 1 := fun T' h => by
      have hm : m ∈ wG G := by rw [ew]; simp
      have := h m (List.mem_filter.mp hm).2
      omega
    have skip : ∀ {H'}, Ex H H' → WrAt K H' p1 (instD (m + 1) F.img) → Mid [some (.ref A.x), some (.str (nm i)), some cv, some (.ref (d i)), some (.ref p1), none] H' := fun {H'} e hw =>
      ⟨_, _, G, m + 1, _, rfl, e, dA.ex e, ok, hw, m7, mz, fun j ds h => h, fun j hj => ⟨by have := top j hj; omega, fun T' h => by have := h j hj; omega⟩, fun T' h => by have := bnd T' h; omega, ro.df i hi⟩
    have fin : ∀ σ' H', Mid σ' H' → sDPut (tFld K (tVar 0) "fleet") (tVar 1) (tCall (spAft K) [] E0 (tCons (tVar 3) (tCons (tVar 4) (tCons (tCB (rLenS K) (tCons (tVar 4) tNil)) tNil)))) { nx := fun _ H' => Q .non H', rt := Q } σ' H' := fun σ' H3 z => by
      obtain ⟨d1, p2, G1, m1, v5, es, e3, dB, ok1, hw, m17, m1z, ext, tp, mb, dn⟩ := z
      subst es
      obtain ⟨us2, hus2, lus2⟩ := hw.len
      have il := instD_len m1 F.img
      have ro3 := ro.ex e3
      refine s_dputP (k := .inr (nm i)) (kvs := dk V.ref (flK nm F.n d)) (ev_aft (n := us2.length) (ev_dsk (ev_var rfl) dB) (ev_wat (ev_var rfl) ⟨p2, rfl, hw⟩) (ev_len (ev_var rfl) (sq_of hus2)) (inst_ids m17 l3) (by omega)) (ev_fleet T (ev_var rfl) ro3) (ev_var rfl) ro3.fl (by rw [dk_len, flK_len]; have := o.n7; omega) fun v H4 H5 e4 dC e5 => ?_
      rw [List.take_of_length_le (by omega), inst_full hI (in7.mp m17).1 m1z] at dC
      obtain ⟨d3, l3', ev, hd3, hD3⟩ := dC
      subst ev
      have okF : Ok (Gset G1 m1 (some F.img)) m1 0 N0 := ok1.add m17 hI (.inr rfl)
      have ro5 := (ro3.ex e4).ex e5
      have d3n : d3 ≠ A.pf := fun z => by
        rw [z] at hd3
        rw [(ro3.ex e4).fl] at hd3
        have e := HO.dK.inj (Option.some.inj hd3)
        have h1 : valV (dk V.ref (flK nm F.n d)) (Sum.inr (nm i)) = some (.ref (d i)) := flK_val (nm_inj o.n7) hi
        rw [e, valV_dk] at h1
        cases q : l3'.lookup (nm i) with
        | none => rw [q] at h1; cases h1
        | some x => rw [q] at h1; cases h1
      have dF : DAt H5 d3 ⟨Gset G1 m1 (some F.img), m1⟩ := ⟨d3, l3', rfl, e5 _ _ hd3, hD3⟩
      refine k _ d3 ⟨Gset G1 m1 (some F.img), m1⟩ ?_ (ro5.put o hi dF d3n) ⟨okF, by show Gset G1 m1 (some F.img) m1 = _; unfold Gset; rw [if_pos rfl], fun j ds hj => ?_, fun T' h j hj => ?_, ?_⟩
      · exact (Kp.of ((e3.trans e4).trans e5)).trans (Kp.upd (List.mem_cons_of_mem _ (List.mem_cons_self ..)))
      · have h1 := ext j ds hj
        show Gset G1 m1 (some F.img) j = _
        unfold Gset
        rw [if_neg (fun z => by rw [z, m1z] at h1; cases h1)]
        exact h1
      · have hj : (Gset G1 m1 (some F.img) j).isSome = true := hj
        unfold Gset at hj
        split at hj
        · rename_i z
          have := mb T' h
          omega
        · have := (tp j hj).2 T' h
          omega
      · have h1 := wG_mono ext
        have h2 := wG_add (ds := F.img) m17 m1z
        show (wG G).length + 1 ≤ (wG (Gset G1 m1 (some F.img))).length
        omega
    have wA2 : WAt K H2 (.ref p1) (instD (m + 1) F.img) := ⟨p1, rfl, hp1⟩
    rcases hcv with rfl | ⟨kc, rfl⟩
    · refine q_ifJ (b := false) (et_is (et_and (b := false) (et_test (ev_notN (ev_var rfl))) (fun hb => nomatch hb)) rfl) Mid (fun hb => nomatch hb) (fun _ H3 e3 => skip (e12.trans e3) (hp1.ex e3)) fin
    · refine q_ifJ (b := decide ((kc : Int) < (us.length : Int))) (et_is (et_and (et_test (ev_notN (ev_var rfl))) (fun _ => et_test (ev_op (ev_var rfl) (ev_len (ev_var rfl) (sq_of hus)) rv_I0))) (by rw [decide_eq_false (fun z : V.int (kc : Int) = V.non => nomatch z)]; rfl)) Mid (fun hb H3 D' e3 hn => ?_) (fun _ H3 e3 => skip (e12.trans e3) (hp1.ex e3)) fin
      have hkc : kc < us.length := by have := of_decide_eq_true hb; omega
      have e13 := e12.trans e3
      obtain ⟨G', c', n', F', ea, ok', cs⟩ := inst_plan ok m7 mz hI kc (by omega)
      have c1 : c' = c := by rcases cs with ⟨_, _, z⟩ | ⟨_, _, z⟩ | ⟨z, _, _⟩ <;> first | exact z | omega
      subst c1
      refine q_asgP (ev_aft (ev_dsk (ev_var rfl) (dA.ex e13)) (ev_wat (ev_var rfl) (wA2.ex e3)) (ev_var rfl) (inst_ids m7 l3) (by rw [instD_len]; omega)) fun v H4 e4 dP => ?_
      rw [ea] at dP
      refine q_asgP (ev_rcv (K := K) (ev_dsk (ev_var rfl) dP)) fun vc H5 e5 wC => ?_
      obtain ⟨pc, evc, hpc⟩ := wC
      subst evc
      obtain ⟨uc, huc, luc⟩ := hpc.len
      have rl := rec_len ok'
      refine q_asgP (ev_aft (n := uc.length) (ev_dsk (ev_var rfl) (dP.ex e5)) (ev_wat (ev_var rfl) ⟨pc, rfl, hpc⟩) (ev_len (ev_var rfl) (sq_of huc)) (rec_ids ok') (by omega)) fun vd H6 e6 dO => ?_
      rw [List.take_of_length_le (by omega), rec_all ok', frm_N 0] at dO
      obtain ⟨d2, l2, evd, hd2, hD2⟩ := dO
      subst evd
      have dO : DskAt H6 (.ref d2) (frm G' c' 0 N0) := ⟨d2, l2, rfl, hd2, hD2⟩
      have okN := ok'.N
      have e16 := e13.trans (e4.trans (e5.trans e6))
      have gh : G' c' = some hd := by
        rcases cs with ⟨_, z, _⟩ | ⟨_, z, _⟩ | ⟨z, _, _⟩
        · rw [z]; exact hhd
        · rw [z]; unfold Gset; rw [if_neg cm]; exact hhd
        · omega
      have ext : ∀ j ds, G j = some ds → G' j = some ds := fun j ds hj => by
        rcases cs with ⟨_, z, _⟩ | ⟨_, z, _⟩ | ⟨z, _, _⟩
        · rw [z]; exact hj
        · rw [z]; unfold Gset; rw [if_neg (fun y => by rw [y, mz] at hj; cases hj)]; exact hj
        · omega
      have tp1 : ∀ T', (∀ j, (G j).isSome = true → j ≤ T') → ∀ j, (G' j).isSome = true → j ≤ T' + 1 := fun T' h j hj => by
        rcases cs with ⟨_, z, _⟩ | ⟨_, z, _⟩ | ⟨z, _, _⟩
        · rw [z] at hj; have := h j hj; omega
        · rw [z] at hj
          unfold Gset at hj
          split at hj
          · have := bnd T' h; omega
          · have := h j hj; omega
        · omega
      refine q_when (b := false) (et_is (et_test (ev_op (evp_dig (ev_cur1 (ev_dsk (ev_var rfl) dO) okN gh) hdI) (evp_dig (ev_image T (ev_var rfl) (ro.ex e16)) hI) (rv_eq rfl))) ?_) (fun hb => nomatch hb) fun _ H7 e7 => ?_
      · rw [str_eq]
        exact decide_eq_false fun z => hne (dg_img hd hdI F.img hI z)
      have nx2 := next_facts (T := TT) okN (fun j hj => tp1 TT top j hj) (by omega)
      obtain ⟨m2, xs2, ew2, en2, mt2, m27, m2z⟩ := nx2
      have d2n : d2 ≠ A.pf := fun z => by
        rw [z] at hd2
        rw [(ro.ex e16).fl] at hd2
        have e := HO.dK.inj (Option.some.inj hd2)
        have h1 : valV (dk V.ref (flK nm F.n d)) (Sum.inr (nm i)) = some (.ref (d i)) := flK_val (nm_inj o.n7) hi
        rw [e, valV_dk] at h1
        cases q : l2.lookup (nm i) with
        | none => rw [q] at h1; cases h1
        | some x => rw [q] at h1; cases h1
      refine s_asgP (evp_inst (ev_dsk (ev_var rfl) (dO.ex e7)) (ev_image T (ev_var rfl) (ro.ex (e16.trans e7))) hI en2 (by have := in7.mp m27; omega)) fun v H8 e8 wD => ?_
      obtain ⟨p3, ev, hp3⟩ := wD
      subst ev
      refine hn _ _ ⟨d2, p3, G', m2 + 1, _, rfl, e16.trans (e7.trans e8), dO.ex (e7.trans e8), okN, hp3, m27, m2z, ext, fun j hj => ⟨tp1 TT top j hj, fun T' h => tp1 T' h j hj⟩, fun T' h => ?_, d2n⟩
      have hm : m2 ∈ wG G' := by rw [ew2]; simp
      have := tp1 T' h m2 (List.mem_filter.mp hm).2
      omega
theorem ok_bak {f : Addr} {fd : FuncData} (F : Fun K "back" "Rollout.back" sBak f fd) (T : TxtR K mg C) (B : BtM mg) (L : HM P w K mg base) : FnOk P w K mg base CX0 5 f fd ["self"] (spBack C) := by
  refine F.ok scBak (fun vs H Q E h => ?_) (fun cdv Ar outer s H vs Q E hr h => ?_)
  · obtain ⟨_, _, _, _, _, _, _, _, rfl, _⟩ := h
    rfl
  · obtain ⟨A, F, d, M, t, w, st, bad, rfl, ro, o, ht, hm, k⟩ := h
    have hu := hu_of hr
    refine ⟨_, (pss_cons (ps_for PassesOwn.never rfl (pi_list (pe_fld (pv 0) rfl)) (pg_name (i := 1) scBak.nd rfl (Or.inl rfl)) (pss_cons (ps_set (i := 2) scBak.nd rfl (Or.inl rfl) (pe_dget hu (pe_fld (pv 0) rfl) (pv 1) (fun _ _ => rfl)))
      (pss_one (ps_dput hu (pe_fld (pv 0) rfl) (pv 1) (pe_h L.aft hr (by rfl) pass0 (pa_cons (pv 2) (pa_cons (pe_h L.back hr (by rfl) pass0 (pa_cons (pv 2) (pa_cons (pe_dget hu (pe_fld (pv 0) rfl) (pv 1) (fun _ _ => rfl)) pa_nil))) (pa_cons (pe_int) pa_nil)))) rfl))))
      (pss_one (ps_fld (pv 0) (pe_str) rfl))), ?_⟩
    have n7 := o.n7
    refine q_forLn (ev_done T (ev_var rfl) ro) (sq_of ro.dn) (fun i σ' H' => ∃ v1 v2 d', σ' = [some (.ref A.x), v1, v2] ∧ Kp A.mut H H' ∧ RoAt C H' A F d' (fun j => if j < i then ⟨(M j).g, F.bf j⟩ else M j) t w st bad)
      (fun H1 e1 => ⟨none, none, d, rfl, Kp.of e1, by
        have : (fun j => if j < 0 then (⟨(M j).g, F.bf j⟩ : Mst) else M j) = M := by funext j; rw [if_neg (by omega)]
        rw [this]; exact ro.ex e1⟩) (fun i σ' H' _ ⟨_, _, _, _, _, z⟩ => sq_of z.dn) (fun i x σ' H1 hx ⟨v1, v2, d', es, kp, ro1⟩ => ?_) (fun σ' H1 ⟨v1, v2, d', es, kp, ro1⟩ => ?_)
    · subst es
      have hi : i < t := by
        have := (List.getElem?_eq_some_iff.mp hx).1
        rw [List.length_map, List.length_range] at this
        exact this
      rw [List.getElem?_map, List.getElem?_range hi] at hx
      cases hx
      have hin : i < F.n := by omega
      obtain ⟨okm, hbs⟩ := hm i hi
      have dA : DskAt H1 (.ref (d' i)) (frm (M i).g (M i).c 0 N0) := by have := ro1.ms i hin; rw [if_neg (by omega)] at this; exact this
      refine q_asg (v := .ref (d' i)) (ev_diskA T (ev_var rfl) (ev_var rfl) ro1 o hin) fun H2 e2 => ?_
      have ro2 := ro1.ex e2
      have hb7 : F.bf i ∈ List.range' 1 7 := by
        obtain ⟨ds, e⟩ := Option.isSome_iff_exists.mp hbs
        exact (okm.g _ ds e).2
      have okm' : Ok (M i).g (M i).c 0 N0 := okm
      refine s_dputP (k := .inr (nm i)) (kvs := dk V.ref (flK nm F.n d')) (ev_aft (n := 1) (ev_dsk (ev_var rfl) (dA.ex e2)) (evp_back (n := F.bf i) (ev_dsk (ev_var rfl) (dA.ex e2)) (ev_dgetK (k := .inr (nm i)) (ev_before T (ev_var rfl) ro2) (ev_var rfl) (.inl ro2.be) (flK_val (nm_inj n7) hin)) okm' hb7 hbs) ev_c (fun w hw => by rw [List.mem_singleton.mp hw]; exact List.mem_cons_self ..) (by show 1 ≤ 100; decide)) (ev_fleet T (ev_var rfl) ro2) (ev_var rfl) ro2.fl (by rw [dk_len, flK_len]; omega) fun v H3 H4 e3 dC e4 => ?_
      have ea : appW (([(0, some (numI (F.bf i : Nat)))] : List Wr).take 1) (frm (M i).g (M i).c 0 N0) = frm (M i).g (F.bf i) 0 N0 := set_cur
      rw [ea] at dC
      obtain ⟨d3, l3', ev, hd3, hD3⟩ := dC
      subst ev
      have ro4 := ro2.ex (e3.trans e4)
      have d3n : d3 ≠ A.pf := fun z => by
        rw [z] at hd3
        rw [(ro2.ex e3).fl] at hd3
        have e := HO.dK.inj (Option.some.inj hd3)
        have h1 : valV (dk V.ref (flK nm F.n d')) (Sum.inr (nm i)) = some (.ref (d' i)) := flK_val (nm_inj n7) hin
        rw [e, valV_dk] at h1
        cases q : l3'.lookup (nm i) with
        | none => rw [q] at h1; cases h1
        | some x => rw [q] at h1; cases h1
      have dF : DAt H4 d3 ⟨(M i).g, F.bf i⟩ := ⟨d3, l3', rfl, e4 _ _ hd3, hD3⟩
      refine ⟨_, _, fset d' i d3, rfl, (kp.trans (Kp.of (e2.trans (e3.trans e4)))).trans (Kp.upd (List.mem_cons_of_mem _ (List.mem_cons_self ..))), ?_⟩
      have ef : (fun j => if j < i + 1 then (⟨(M j).g, F.bf j⟩ : Mst) else M j) = fset (fun j => if j < i then (⟨(M j).g, F.bf j⟩ : Mst) else M j) i ⟨(M i).g, F.bf i⟩ := by
        funext j
        unfold fset
        by_cases z : j = i
        · rw [if_pos z, z, if_pos (by omega)]
        · rw [if_neg z]
          by_cases y : j < i
          · rw [if_pos (by omega)]
            exact (if_pos y).symm
          · rw [if_neg (by omega)]
            exact (if_neg y).symm
      rw [ef]
      exact ro4.put o hin dF d3n
    · subst es
      rw [List.length_map, List.length_range] at ro1
      refine s_fld (C := C) (dx := A.dx) (ev_c (v := .str "back")) (ev_var rfl) ro1.ins T.cl T.nSt (by show 9 < 1000; decide) fun H2 e2 => ?_
      rw [fld_st]
      exact k _ d' ((kp.trans (Kp.of e2)).trans (Kp.upd (List.mem_cons_self ..))) ((ro1.ex e2).setx)
end
end Mx
set_option Elab.async false
set_option linter.all false
set_option maxRecDepth 100000
set_option maxHeartbeats 1000000
namespace Mx
open PySem PySem.Spec PyProof.Rows L2 Evl TL
open PySem.W (Datum DatumOrd Tup SomeDatum)
/-! ### waves -/
theorem ne_none {H : Hp} {a b : Addr} {o : HO} (e : H a = some o) (n : H b = none) : a ≠ b := fun z => by
  rw [z, n] at e
  cases e
theorem Kp.none {B : List Addr} {H H' : Hp} {a : Addr} (k : Kp B H H') (n : H' a = none) (h : a ∉ B) : H a = none := by
  cases z : H a with
  | none => rfl
  | some o =>
    have := k a o h z
    rw [n] at this
    cases this
theorem yes_go {σ : L2.St} {H : Hp} {A B : Hp → Prop} (h : A H) : tYes σ H (fun b H3 => if b = true then A H3 else B H3) := by
  show (if true = true then A H else B H)
  rw [if_pos rfl]
  exact h
theorem FnOk.union {P : Program} {w : World} {K : PySem.W.Frag} {mg : Str → Option Value} {base : Heap} {CX : CXT} {k : Nat} {f : Addr} {fd : FuncData} {ps : List Str} {sp0 sp1 : Sp} (F0 : FnOk P w K mg base CX0 k f fd ps sp0) (F1 : FnOk P w K mg base CX k f fd ps sp1) : FnOk P w K mg base CX k f fd ps (fun vs H Q E => sp0 vs H Q E0 ∨ sp1 vs H Q E) := by
  refine ⟨fun vs H Q E h => h.elim (F0.len vs H Q _) (F1.len vs H Q E), fun A outer s H args us vs Q E hr he hb hv hs => ?_⟩
  rcases hs with hs | hs
  · refine codeAny_mono (F0.run A outer s H args us vs Q E0 hr he hb hv hs) fun r s' z => ?_
    cases r with
    | error e => exact (show False from z).elim
    | ok fl => cases fl <;> exact z
  · exact F1.run A outer s H args us vs Q E hr he hb hv hs
section
variable {σ : L2.St} {H H' : Hp} {te ta tb td to ty tx tk tv : TE} {v z : V} {K : PySem.W.Frag} {d x dx C : Addr} {kvs : List (Key × V)} {fs : List (Str × V)} {f : Str}
theorem putX_new {v : V} : ∀ {fs : List (Str × V)} (_ : f ∉ fs.map (·.1)), L2.putF f v fs = fs ++ [(f, v)]
  | [], _ => rfl
  | (g, u) :: r, h => by
    rw [putX_miss (fun e => h (by rw [← e]; exact List.mem_cons_self ..)), putX_new (fun m => h (List.mem_cons_of_mem _ m))]
    rfl
theorem q_fldN {tv : TE} {D : Ends} {tz : TS} {y : V} (ks : List Str) (hk : fs.map (·.1) = ks) (hf : f ∉ ks) (hv : Ev tv σ H y) (h : Ev to σ H (.ref x)) (hx : H x = some (.ins C dx fs)) (c : Cls K C) (n : NoAttr K C f) (hl : ks.length < 1000)
    (k : ∀ J, Kp [x] H J → J x = some (.ins C dx (fs ++ [(f, y)])) → tz D σ J) : tSeq (sFld K to tv f) tz D σ H := s_fld (D := { D with nx := tz D }) hv h hx c n (by rw [← List.length_map (·.1), hk]; exact hl) fun H1 e1 => by
  rw [putX_new (by rw [hk]; exact hf)]
  exact k _ ((Kp.of e1).trans (Kp.upd (List.mem_singleton.mpr rfl))) upd_same
theorem q_fldL {tv : TE} {D : Ends} {tz : TS} {xs : List V} (ks : List Str) (hk : fs.map (·.1) = ks) (hf : f ∉ ks) (hv : EvL tv σ H xs) (h : Ev to σ H (.ref x)) (hx : H x = some (.ins C dx fs)) (c : Cls K C) (n : NoAttr K C f) (hl : ks.length < 1000)
    (k : ∀ p J, H p = none → p ≠ x → J p = some (.lst xs) → Kp [x] H J → J x = some (.ins C dx (fs ++ [(f, .ref p)])) → tz D σ J) : tSeq (sFld K to tv f) tz D σ H :=
  hv H (Ex.refl H) _ fun p H1 np e1 hp => h H1 e1 _ fun H2 e2 => ⟨x, C, dx, fs, rfl, (e1.trans e2) _ _ hx, c, n, by rw [← List.length_map (·.1), hk]; exact hl, by
    rw [putX_new (by rw [hk]; exact hf)]
    have xp : p ≠ x := fun z => by rw [z, hx] at np; cases np
    exact k p _ np xp (by rw [upd_ne xp]; exact e2 _ _ hp) ((Kp.of (e1.trans e2)).trans (Kp.upd (List.mem_singleton.mpr rfl))) upd_same⟩
theorem s_fldP {tv : TE} {D : Ends} {R : V → Hp → Prop} (ks : List Str) (hk : fs.map (·.1) = ks) (hf : f ∉ ks) (hv : EvP tv σ H R) (h : Ev to σ H (.ref x)) (hx : H x = some (.ins C dx fs)) (c : Cls K C) (n : NoAttr K C f) (hl : ks.length < 1000)
    (k : ∀ y H1 J, Ex H H1 → R y H1 → Kp [x] H1 J → J x = some (.ins C dx (fs ++ [(f, y)])) → D.nx σ J) : sFld K to tv f D σ H :=
  hv H (Ex.refl H) _ fun y H1 e1 r => h H1 e1 _ fun H2 e2 => ⟨x, C, dx, fs, rfl, (e1.trans e2) _ _ hx, c, n, by rw [← List.length_map (·.1), hk]; exact hl, by
    rw [putX_new (by rw [hk]; exact hf)]
    exact k y H1 _ e1 r ((Kp.of e2).trans (Kp.upd (List.mem_singleton.mpr rfl))) upd_same⟩
/-- {k: v for k, w in d.items()} -/
theorem evp_dcV {α β : Type} {a1 j : Nat} {vs : List Nat} {l : List (Str × α)} {fa : α → V} {fb : β → V} (g : Str × α → β) (h : ∀ o, Ev td σ (upd H d (.frz o (.dK (dk fa l)))) (.ref d)) (hd : H d = some (.dK (dk fa l))) (hz : l.length ≤ 10000) (hnd : (l.map (·.1)).Nodup)
    (hw : ∀ x y, wipe (((wipe σ vs).set a1 (some x)).set j (some y)) vs = wipe σ vs)
    (hk : ∀ (e : Str × α) H1, e ∈ l → Ev tk (((wipe σ vs).set a1 (some (.str e.1))).set j (some (fa e.2))) H1 (.str e.1))
    (hv : ∀ (e : Str × α) o H1, e ∈ l → Ex (upd H d (.frz o (.dK (dk fa l)))) H1 → Ev tv (((wipe σ vs).set a1 (some (.str e.1))).set j (some (fa e.2))) H1 (fb (g e))) :
    EvP (tLockE (tDc (iItems td) (gTup K 2 (gCons (gName a1) (gCons (gName j) gNil))) tYes tk tv vs)) σ H fun v H2 => ∃ q, v = .ref q ∧ H q = none ∧ H2 q = some (.dK (dk fb (l.map fun e => (e.1, g e)))) := fun H1 e0 Q q => by
  have hd1 := e0 _ _ hd
  refine ⟨d, .dK (dk fa l), hd1, trivial, fun o => ?_⟩
  refine h o _ (lock_ex e0) _ fun H2 e2 => ⟨d, o, _, rfl, e2 _ _ upd_same, fun D hD => ?_⟩
  have hd2 : H2 d = some (.frz o (.dK (dk fa l))) := e2 _ _ upd_same
  have eB : Ex (upd H d (.frz o (.dK (dk fa l)))) H2 := (lock_ex e0).trans e2
  have nD : D ≠ d := fun z => by rw [z, hd2] at hD; cases hD
  have lenD : (dk fa l).length = l.length := dk_len l
  refine ⟨fun i mm H' => mm = l.length - i ∧ i ≤ l.length ∧ Ex H2 H' ∧ H' D = some (.dK (dk fb ((l.take i).map fun e => (e.1, g e)))), ⟨l.length, by omega, Nat.zero_le _, Ex.new hD, upd_same⟩, fun i mm H' z => ?_⟩
  obtain ⟨rfl, hi, p2, p3⟩ := z
  by_cases lt : i < l.length
  · have hx : l[i]? = some l[i] := List.getElem?_eq_getElem lt
    refine .inr ⟨walk_items.goes i H' (by omega) (p2 _ _ hd2), fun H' => i + 1 ≤ l.length ∧ Ex H2 H' ∧ H' D = some (.dK (dk fb ((l.take (i + 1)).map fun e => (e.1, g e)))), fun H'' z => ⟨l.length - (i + 1), by omega, rfl, z⟩, fun x H'' y => ?_⟩
    obtain ⟨TT, k, w, y1, y2, y3, y4⟩ := y
    obtain ⟨e, he, rfl, rfl⟩ := dk_at y1
    subst y2 y4
    have me := List.mem_of_getElem? he
    have E3 : Ex H2 (upd H' TT (.tup [kV (.inr e.1), fa e.2])) := p2.trans (Ex.new y3)
    have p3' : upd H' TT (.tup [kV (.inr e.1), fa e.2]) D = some (.dK (dk fb ((l.take i).map fun e => (e.1, g e)))) := (Ex.new y3) _ _ p3
    refine ⟨TT, _, rfl, st_of upd_same, rfl, _, _, rfl, _, _, rfl, rfl, hw _ _, ?_⟩
    refine yes_go ?_
    refine hk e _ me _ (Ex.refl _) _ fun H4 e4 => hv e o H4 me (eB.trans (E3.trans e4)) H4 (Ex.refl _) _ fun H5 e5 => ⟨_, .inr e.1, rfl, (e4.trans e5) _ _ p3', ?_, lt, ?_, ?_⟩
    · rw [dk_len, List.length_map, List.length_take]
      exact sz_lt (by omega)
    · intro a w ha
      by_cases c : a = D
      · rw [c] at ha
        rw [hD] at ha
        cases ha
      · rw [upd_ne c]
        exact (e4.trans e5) _ _ (E3 a w ha)
    · rw [upd_same, putK_dk, List.take_succ, he, List.map_append]
      have nm : e.1 ∉ ((l.take i).map fun e => (e.1, g e)).map (·.1) := by
        rw [List.map_map]
        have spl : l = l.take i ++ e :: l.drop (i + 1) := by
          obtain ⟨h1, h2⟩ := List.getElem?_eq_some_iff.mp he
          conv => lhs; rw [← List.take_append_drop i l, List.drop_eq_getElem_cons h1, h2]
        have nd2 := hnd
        rw [spl, List.map_append, List.map_cons] at nd2
        have := (List.nodup_append.mp nd2).2.2
        intro m
        exact this e.1 m e.1 (List.mem_cons_self ..) rfl
      rw [putA_new nm]
      rfl
  · have e : i = l.length := by omega
    subst e
    rw [List.take_length] at p3
    have fr : H D = none := by
      cases z : H D with
      | none => rfl
      | some o2 =>
        have z2 := e0 _ _ z
        have z3 := e2 D o2 (by rw [upd_ne nD]; exact z2)
        rw [hD] at z3
        cases z3
    refine .inl ⟨?_, p2 _ _ hd2, q _ _ (ex_lock (e2.trans p2) hd1) ⟨D, rfl, fr, by rw [upd_ne nD]; exact p3⟩⟩
    have := (walk_items (d := d) (o := o) (kvs := dk fa l)).stops H' (p2 _ _ hd2)
    rw [lenD] at this
    exact this
/-- for k, v in d.items(): the dict stays as it is -/
theorem q_forItems {D : Ends} {tu tz : TS} {a1 j : Nat} (Pv : Obj → Nat → L2.St → Hp → Prop) (h : ∀ o, Ev td σ (upd H d (.frz o (.dK kvs))) (.ref d)) (hd : H d = some (.dK kvs)) (h0 : ∀ o H1, Ex (upd H d (.frz o (.dK kvs))) H1 → Pv o 0 σ H1)
    (hl : ∀ o i σ' H', Pv o i σ' H' → H' d = some (.frz o (.dK kvs)))
    (hs : ∀ o i k v σ' H' TT rt bk, kvs[i]? = some (k, v) → Pv o i σ' H' → H' TT = none → tu ⟨Pv o (i + 1), rt, bk, Pv o (i + 1)⟩ ((σ'.set a1 (some (kV k))).set j (some v)) (upd H' TT (.tup [kV k, v]))) (hd' : ∀ o σ' H', Pv o kvs.length σ' H' → tz D σ' (upd H' d (.dK kvs))) :
    tSeq (tLock (tFor (iItems td) (gTup K 2 (gCons (gName a1) (gCons (gName j) gNil))) tu)) tz D σ H := by
  refine ⟨d, .dK kvs, hd, trivial, fun o => ?_⟩
  refine h o _ (Ex.refl _) _ fun H2 e2 => ⟨d, o, kvs, rfl, e2 _ _ upd_same, ?_⟩
  refine for_it walk_items (Pv o) (h0 o H2 e2) (fun i σ' H' _ p => hl o i σ' H' p) (fun i x σ' H' H'' hi p y => ?_) fun σ' H' p => ⟨hl o _ _ _ p, hd' o σ' H' p⟩
  obtain ⟨TT, x1, y1, rfl, hT, rfl, hx1, hy1⟩ := y
  have hk0 : kvs[i]? = some kvs[i] := List.getElem?_eq_getElem hi
  obtain ⟨k, v, hk⟩ : ∃ k v, kvs[i]? = some (k, v) := ⟨_, _, hk0⟩
  have hx1 : (kvs[i]?.map fun kv => kV kv.1) = some x1 := hx1
  have hy1 : kvs[i]?.map Prod.snd = some y1 := hy1
  rw [hk] at hx1 hy1
  cases hx1
  cases hy1
  exact ⟨TT, _, rfl, st_of upd_same, rfl, _, _, rfl, _, _, rfl, rfl, hs o i k v σ' H' TT _ _ hk p hT⟩
end
section
variable {P : Program} {w : World} {K : PySem.W.Frag} {mg : Str → Option Value} {base : Heap} {C CB : Addr}
theorem ev_cur0 {σ : L2.St} {H : Hp} {te : TE} {E : XK} {G : Gn} {c n0 : Nat} {F : Fn} (h : EvP te σ H fun u H2 => DskAt H2 u (frm G c n0 F)) (ok : Ok G c n0 F) : Ev (tOp (rIxT K) (tCall spCur [] E (tCons te tNil)) (tC (.int 0))) σ H (.int (c : Int)) := fun H1 e Q q => by
  obtain ⟨sd, g⟩ := Option.isSome_iff_exists.mp ok.c
  exact evp_cur (E := E) h ok g H1 e _ fun v H2 e2 ⟨p, ev, hp⟩ => by
    subst ev
    exact ⟨p, _, 0, _, rfl, rfl, st_of hp, rfl, q H2 e2⟩
structure Ini (F : Cfg) (M0 : Nat → Mst) : Prop where
  c : CfgOk F
  s0 : 0 < F.sz.length
  s1 : ∀ s ∈ F.sz, 1 ≤ s
  o : ∀ i, i < F.n → (M0 i).O
  g : ∀ i, i < F.n → ∃ hd, (M0 i).g (M0 i).c = some hd ∧ hd ≠ F.img
  t : ∀ i, i < F.n → ∀ j, ((M0 i).g j).isSome = true → j ≤ 5
  b : ∀ i, i < F.n → F.bf i = (M0 i).c
def spInitR (C : Addr) : Sp := fun vs H Q _ => ∃ (x dx pf ps : Addr) (F : Cfg) (d : Nat → Addr) (M : Nat → Mst), vs = [.ref x, .ref pf, .str (imgS F.img), .ref ps, .int F.al] ∧ H x = some (.ins C dx []) ∧ H pf = some (.dK (dk V.ref (flK nm F.n d))) ∧ (∀ i, i < F.n → DAt H (d i) (M i)) ∧ (∀ i, i < F.n → d i ≠ pf) ∧
  H ps = some (.lst (F.sz.map fun s => V.int ((s : Nat) : Int))) ∧ Ini F M ∧ ∀ H' pd pe pb, H pd = none → H pe = none → H pb = none → Kp [x] H H' → RoAt C H' ⟨x, dx, pf, ps, pd, pe, pb⟩ F d M 0 0 "running" [] → Q .non H'
theorem ok_init {f : Addr} {fd : FuncData} (F : Fun K "__init__" "Rollout.__init__" sInit f fd) (T : TxtR K mg C) (B : BtM mg) (L : HM P w K mg base) : FnOk P w K mg base CX0 5 f fd ["self", "fleet", "image", "sizes", "allowed"] (spInitR C) := by
  refine F.ok scInit (fun vs H Q E h => ?_) (fun cdv Ar outer s H vs Q E hr h => ?_)
  · obtain ⟨_, _, _, _, _, _, _, rfl, _⟩ := h
    rfl
  · obtain ⟨x, dx, pf, ps, F, d, M, rfl, hx, hf, hm, hdf, hs, o, k⟩ := h
    have hu := hu_of hr
    refine ⟨_, (pss_cons (ps_fld (pv 0) (pv 1) rfl)
      (pss_cons (ps_fld (pv 0) (pv 2) rfl)
      (pss_cons (ps_fld (pv 0) (pv 3) rfl)
      (pss_cons (ps_fld (pv 0) (pv 4) rfl)
      (pss_cons (ps_fld (pv 0) (pe_lst pa_nil) rfl)
      (pss_cons (ps_fld (pv 0) (pe_lst pa_nil) rfl)
      (pss_cons (ps_fld (pv 0) (pe_int) rfl)
      (pss_cons (ps_fld (pv 0) (pe_str) rfl)
      (pss_one (ps_fld (pv 0) (pe_lock (pe_dc (own := [("name", 5), ("disk", 6)]) (g := gTup K 2 (gCons (gName 5) (gCons (gName 6) gNil))) (tt := tYes) rfl scInit.nd (pi_items (pv 1)) (blkOk_by (N := ["self", "fleet", "image", "sizes", "allowed", "name", "disk"]) (sc := defScope sInit) (by decide +kernel)) (fun _ _ _ _ _ => pg_tup rfl (pgs_cons (pg_name (i := 5) scInit.nd rfl (Or.inl rfl)) (pgs_cons (pg_name (i := 6) scInit.nd rfl (Or.inl rfl)) pgs_nil))) (fun _ _ _ _ _ => pts_nil) (fun _ _ _ _ _ => pv 5) (fun _ _ _ _ _ => pe_ix (show IxR _ (rIxT K) from ix_tup) (pe_h L.cur hr (by rfl) pass0 (pa_cons (pv 6) pa_nil)) (pe_int) (fun _ _ => rfl)))) rfl)))))))))), ?_⟩
    have n7 := o.c.n7
    have nf : pf ≠ x := fun z => by rw [z, hx] at hf; cases hf
    have ns : ps ≠ x := fun z => by rw [z, hx] at hs; cases hs
    have nd : ∀ i, i < F.n → d i ≠ x := fun i hi z => by
      obtain ⟨d2, l, e, hd, _⟩ := hm i hi
      cases e
      rw [z, hx] at hd
      cases hd
    refine q_fldN (y := .ref pf) [] rfl (by simp) (ev_var rfl) (ev_var rfl) hx T.cl T.nFl (by decide) fun J1 k01 x1 => ?_
    refine q_fldN (y := .str (imgS F.img)) ["fleet"] rfl (by decide +kernel) (ev_var rfl) (ev_var rfl) x1 T.cl T.nIm (by decide) fun J2 k12 x2 => ?_
    refine q_fldN (y := .ref ps) ["fleet", "image"] rfl (by decide +kernel) (ev_var rfl) (ev_var rfl) x2 T.cl T.nSz (by decide) fun J3 k23 x3 => ?_
    refine q_fldN (y := .int F.al) ["fleet", "image", "sizes"] rfl (by decide +kernel) (ev_var rfl) (ev_var rfl) x3 T.cl T.nAl (by decide) fun J4 k34 x4 => ?_
    refine q_fldL (xs := []) ["fleet", "image", "sizes", "allowed"] rfl (by decide +kernel) (el_lst ea_nil (by decide)) (ev_var rfl) x4 T.cl T.nDo (by decide) fun pd J5 npd xpd hpd k45 x5 => ?_
    refine q_fldL (xs := []) ["fleet", "image", "sizes", "allowed", "done"] rfl (by decide +kernel) (el_lst ea_nil (by decide)) (ev_var rfl) x5 T.cl T.nFa (by decide) fun pe J6 npe xpe hpe k56 x6 => ?_
    refine q_fldN (y := .int ((0 : Nat) : Int)) ["fleet", "image", "sizes", "allowed", "done", "failed"] rfl (by decide +kernel) ev_c (ev_var rfl) x6 T.cl T.nWa (by decide) fun J7 k67 x7 => ?_
    refine q_fldN (y := .str "running") ["fleet", "image", "sizes", "allowed", "done", "failed", "waves"] rfl (by decide +kernel) ev_c (ev_var rfl) x7 T.cl T.nSt (by decide) fun J8 k78 x8 => ?_
    have k04 := k01.trans (k12.trans (k23.trans k34))
    have k05 := k04.trans k45
    have k68 := k67.trans k78
    have k8 : Kp [x] H J8 := k05.trans (k56.trans k68)
    have inx : ∀ {a : Addr}, a ≠ x → a ∉ [x] := fun h z => h (List.mem_singleton.mp z)
    have f8 := k8 _ _ (inx nf) hf
    have dn : H pd = none := k04.none npd (inx xpd)
    have en : H pe = none := k05.none npe (inx xpe)
    have dne : pd ≠ pe := ne_none hpd npe
    refine s_fldP ["fleet", "image", "sizes", "allowed", "done", "failed", "waves", "status"] rfl (by decide +kernel) (evp_dcV (K := K) (fa := V.ref) (fb := fun i : Nat => V.int (i : Int)) (l := flK nm F.n d) (fun e => ((List.range F.n).find? (fun i => decide (nm i = e.1))).elim 0 F.bf) (fun o => ev_var rfl) f8 (by rw [flK_len]; omega) (flK_nd (nm_inj n7)) (fun _ _ => rfl) (fun e H1 he => ev_var rfl) (fun e oo H1 he eH => ?_)) (ev_var rfl) x8 T.cl T.nBe (by decide) fun y H9 J9 e9 ⟨pb, ey, nb, hb⟩ k9 x9 => ?_
    · obtain ⟨i, hi, rfl⟩ := List.mem_map.mp he
      have hi := List.mem_range.mp hi
      have bfi : ((List.range F.n).find? (fun j => decide (nm j = nm i))).elim 0 F.bf = F.bf i := by
        have : (List.range F.n).find? (fun j => decide (nm j = nm i)) = some i := by
          refine List.find?_eq_some_iff_append.mpr ⟨decide_eq_true rfl, List.range i, List.range' (i + 1) (F.n - (i + 1)), ?_, fun j hj => ?_⟩
          · rw [List.range_eq_range', List.range_eq_range', ← List.range'_succ]
            have := List.range'_append (s := 0) (m := i) (n := F.n - i) (step := 1)
            simp only [Nat.one_mul, Nat.zero_add] at this
            rw [show F.n - (i + 1) + 1 = F.n - i by omega, this, show i + (F.n - i) = F.n by omega]
          · have hj := List.mem_range.mp hj
            simpa using fun z => by have := nm_inj n7 j (by omega) i hi z; omega
        rw [this]
        rfl
      show Ev _ _ H1 (.int ((((List.range F.n).find? (fun j => decide (nm j = nm i))).elim 0 F.bf : Nat) : Int))
      rw [bfi, o.b i hi]
      have okm : Ok (M i).g (M i).c 0 N0 := o.o i hi
      obtain ⟨d2, l, e2', hd2, hD2⟩ := hm i hi
      cases e2'
      refine ev_cur0 (ev_dsk (ev_var rfl) ⟨d i, l, rfl, eH _ _ ?_, hD2⟩) okm
      rw [upd_ne (hdf i hi)]
      exact k8 _ _ (inx (nd i hi)) hd2
    · subst ey
      have kF : Kp [x] J8 J9 := (Kp.of (B := [x]) e9).trans k9
      have kA := k8.trans kF
      have xb : x ≠ pb := ne_none x8 nb
      refine k _ pd pe pb dn en (k8.none nb (inx xb.symm)) kA ⟨x9, kA _ _ (inx nf) hf, fun i hi => ?_, hdf, kA _ _ (inx ns) hs, ?_, ?_, ?_, dne, ne_none hs dn, ne_none hs en, (ne_none f8 nb).symm⟩
      · obtain ⟨d2, l, e2', hd2, hD2⟩ := hm i hi
        cases e2'
        exact ⟨_, l, rfl, kA _ _ (inx (nd i hi)) hd2, hD2⟩
      · exact kF _ _ (inx xpd) (k68 _ _ (inx xpd) (k56 _ _ (inx xpd) hpd))
      · exact kF _ _ (inx xpe) (k68 _ _ (inx xpe) hpe)
      · rw [k9 _ _ (inx xb.symm) hb]
        show some (HO.dK (dk (fun i : Nat => V.int (i : Int)) ((flK nm F.n d).map fun e => (e.1, ((List.range F.n).find? (fun i => decide (nm i = e.1))).elim 0 F.bf)))) = some (HO.dK (dk (fun i : Nat => V.int (i : Int)) (flK nm F.n F.bf)))
        unfold flK
        rw [List.map_map]
        refine congrArg (fun l => some (HO.dK (dk (fun i : Nat => V.int (i : Int)) l))) (List.map_congr_left fun i hi => ?_)
        have hi := List.mem_range.mp hi
        have : (List.range F.n).find? (fun j => decide (nm j = nm i)) = some i := by
          refine List.find?_eq_some_iff_append.mpr ⟨decide_eq_true rfl, List.range i, List.range' (i + 1) (F.n - (i + 1)), ?_, fun j hj => ?_⟩
          · rw [List.range_eq_range', List.range_eq_range', ← List.range'_succ]
            have := List.range'_append (s := 0) (m := i) (n := F.n - i) (step := 1)
            simp only [Nat.one_mul, Nat.zero_add] at this
            rw [show F.n - (i + 1) + 1 = F.n - i by omega, this, show i + (F.n - i) = F.n by omega]
          · have hj := List.mem_range.mp hj
            simpa using fun z => by have := nm_inj n7 j (by omega) i hi z; omega
        show (nm i, ((List.range F.n).find? (fun j => decide (nm j = nm i))).elim 0 F.bf) = (nm i, F.bf i)
        rw [this]
        rfl
end
end Mx
set_option Elab.async false
set_option linter.all false
set_option maxRecDepth 100000
set_option maxHeartbeats 1000000
namespace Mx
open PySem PySem.Spec PyProof.Rows L2 Evl TL
open PySem.W (Datum DatumOrd Tup SomeDatum)
/-! ### waves -/
def dgV : Option (List Nat) → V
  | some ds => .str (dgI ds)
  | none => .non
def ImAt (H : Hp) (a : Addr) : Option (List Nat) → Prop
  | some ds => ∃ m : Mst, DAt H a m ∧ m.O ∧ m.g m.c = some ds
  | none => H a = some (.dK [])
theorem ImAt.ty {H : Hp} {a : Addr} {o : Option (List Nat)} (h : ImAt H a o) : ∃ kvs, H a = some (.dK kvs) := by
  cases o with
  | some ds =>
    obtain ⟨m, ⟨d, l, e, hd, _⟩, _⟩ := h
    cases e
    exact ⟨_, hd⟩
  | none => exact ⟨_, h⟩
theorem ImAt.on {H H' : Hp} {a : Addr} {o : Option (List Nat)} (h : ImAt H a o) (e : ∀ u, H a = some u → H' a = some u) : ImAt H' a o := by
  cases o with
  | some ds =>
    obtain ⟨m, ⟨d, l, e2, hd, hD⟩, r⟩ := h
    cases e2
    exact ⟨m, ⟨_, l, rfl, e _ hd, hD⟩, r⟩
  | none => exact e _ h
def spCurU (CB : Addr) : Sp := fun vs H Q E => spCur vs H Q E0 ∨ spCurX CB vs H Q E
def spIms : Sp := fun vs H Q _ => ∃ (pf : Addr) (k : Nat → Str) (n : Nat) (d : Nat → Addr) (hdo : Nat → Option (List Nat)), vs = [.ref pf] ∧ H pf = some (.dK (dk V.ref (flK k n d))) ∧ KInj k n ∧ n ≤ 7 ∧ (∀ i, i < n → ImAt H (d i) (hdo i)) ∧ (∀ i, i < n → d i ≠ pf) ∧
  ∀ p H', H p = none → Ex H H' → H' p = some (.dK (dk dgV (flK k n hdo))) → Q (.ref p) H'
theorem flK_take {α : Type} {k : Nat → Str} {n i : Nat} {d : Nat → α} (h : i ≤ n) : (flK k n d).take i = flK k i d := by
  unfold flK
  rw [← List.map_take, List.take_range]
  congr 2
  omega
theorem flK_snoc {α : Type} {k : Nat → Str} {n : Nat} {d : Nat → α} : flK k (n + 1) d = flK k n d ++ [(k n, d n)] := by
  unfold flK
  rw [List.range_succ, List.map_append]
  rfl
section
variable {P : Program} {w : World} {K : PySem.W.Frag} {mg : Str → Option Value} {base : Heap} {C CB : Addr}
theorem s_dpc {σ : L2.St} {H : Hp} {D : Ends} {td ty tb : TE} {ta : TA} {r : R2} {sp sq : Sp} {E1 : L2.St → XK} {E2 : XK} (h : ta σ H fun vs H1 => sp vs H1 (fun x H2 => tb σ H2 fun y H3 => r x y H3 fun z H4 => sq [z] H4 (fun v H5 => td σ H5 fun x H6 => ty σ H6 fun y H7 => ∃ a H8, x = .ref a ∧ DPut H7 a y v H8 ∧ D.nx σ H8) E2) (E1 σ)) :
    sDPut td ty (tCall sq [] E2 (tCons (tOp r (tCallS sp E1 ta) tb) tNil)) D σ H := h
theorem ok_ims {f : Addr} {fd : FuncData} (F : Fun K "images_on" "images_on" sIms f fd) (R : Own1 K mg "BrokenDisk" CB) (B : BtM mg) (L : HM P w K mg base) (hCurU : Has P w K mg base (L2.CX P w) 4 "current" ["disk"] (spCurU CB)) : FnOk P w K mg base CX0 5 f fd ["fleet"] spIms := by
  refine F.ok scIms (fun vs H Q E h => ?_) (fun cdv Ar outer s H vs Q E hr h => ?_)
  · obtain ⟨_, _, _, _, _, rfl, _⟩ := h
    rfl
  · obtain ⟨pf, k, n, d, hdo, rfl, hf, ki, n7, hm, hdf, kk⟩ := h
    have hu := hu_of hr
    refine ⟨_, (pss_cons (ps_set (i := 1) scIms.nd rfl (Or.inl rfl) (pe_dnewK))
      (pss_cons (ps_lock (ps_for PassesOwn.never rfl (pi_items (pv 0)) (pg_tup rfl (pgs_cons (pg_name (i := 2) scIms.nd rfl (Or.inl rfl)) (pgs_cons (pg_name (i := 3) scIms.nd rfl (Or.inl rfl)) pgs_nil))) (pss_one (ps_try_only rfl rfl ⟨rfl, by decide, .inl R.gC⟩ takes0 (fun W pn xe tk _ => (pss_one (ps_dput hu (pv 1) (pv 2) (pe_h L.dig hr (by rfl) pass0 (pa_cons (pe_ix (show IxR _ (rIxT K) from ix_tup) (pe_hS hCurU hr (by rfl) (fun σ => passAt tk σ) (pa_cons (pv 3) pa_nil)) (pe_int) (fun _ _ => rfl)) pa_nil)) rfl))) (fun a oe cls d pn _ _ => (pss_one (ps_dput hu (pv 1) (pv 2) (pe_non) rfl)))))))
      (pss_one (ps_ret (pv 1))))), ?_⟩
    refine q_asgP (R := fun v H2 => ∃ q, v = .ref q ∧ H q = none ∧ H2 q = some (.dK [])) (fun H1 e1 Q1 q1 q hq => q1 _ _ (Ex.new hq) ⟨q, rfl, fresh_back e1 hq, upd_same⟩) fun v H1 e1 ⟨q, ev, nq, hq⟩ => ?_
    subst ev
    have npq : pf ≠ q := ne_none hf nq
    have hf1 := e1 _ _ hf
    refine q_forItems (kvs := dk V.ref (flK k n d)) (fun o i σ' H' => ∃ v2 v3, σ' = [some (.ref pf), some (.ref q), v2, v3] ∧ (∀ a u, a ≠ pf → H a = some u → H' a = some u) ∧ H' pf = some (.frz o (.dK (dk V.ref (flK k n d)))) ∧ H' q = some (.dK (dk dgV (flK k i hdo))) ∧ i ≤ n)
      (fun o => ev_var rfl) hf1 (fun o H2 e2 => ⟨none, none, rfl, fun a u na ha => e2 _ _ (by rw [upd_ne na]; exact e1 _ _ ha), e2 _ _ upd_same, e2 _ _ (by rw [upd_ne npq.symm]; exact hq), Nat.zero_le _⟩) (fun o i σ' H' ⟨_, _, _, _, z, _⟩ => z) (fun o i kx v σ' H' TT rt bk hk pv nT => ?_) (fun o σ' H' pv => ?_)
    · obtain ⟨v2, v3, es, kp, hpf, hqq, hin⟩ := pv
      subst es
      obtain ⟨e, he, rfl, rfl⟩ := dk_at hk
      have hi : i < n := by
        have := (List.getElem?_eq_some_iff.mp he).1
        rw [flK_len] at this
        exact this
      rw [flK_at hi] at he
      cases he
      have eT : Ex H' (upd H' TT (.tup [kV (Sum.inr (k i)), .ref (d i)])) := Ex.new nT
      have imA : ImAt (upd H' TT (.tup [kV (Sum.inr (k i)), .ref (d i)])) (d i) (hdo i) := (hm i hi).on fun u hu => eT _ _ (kp _ _ (hdf i hi) hu)
      have nn : (k i) ∉ (flK k i hdo).map (·.1) := fun z => by
        rw [flK_keys] at z
        obtain ⟨j, hj, e⟩ := List.mem_map.mp z
        have hj := List.mem_range.mp hj
        have := ki j (by omega) i hi e
        omega
      have done : ∀ {H3 : Hp}, Ex (upd H' TT (.tup [kV (Sum.inr (k i)), .ref (d i)])) H3 → (∃ v2 v3, ([some (.ref pf), some (.ref q), some (kV (Sum.inr (k i))), some (.ref (d i))] : L2.St) = [some (.ref pf), some (.ref q), v2, v3] ∧ (∀ a u, a ≠ pf → H a = some u → upd H3 q (.dK (putK (dk dgV (flK k i hdo)) (Sum.inr (k i)) (dgV (hdo i)))) a = some u) ∧ upd H3 q (.dK (putK (dk dgV (flK k i hdo)) (Sum.inr (k i)) (dgV (hdo i)))) pf = some (.frz o (.dK (dk V.ref (flK k n d)))) ∧ upd H3 q (.dK (putK (dk dgV (flK k i hdo)) (Sum.inr (k i)) (dgV (hdo i)))) q = some (.dK (dk dgV (flK k (i + 1) hdo))) ∧ i + 1 ≤ n) := fun {H3} e3 => by
        refine ⟨_, _, rfl, fun a u na ha => ?_, ?_, ?_, hi⟩
        · rw [upd_ne (ne_none ha nq)]
          exact e3 _ _ (eT _ _ (kp a u na ha))
        · rw [upd_ne npq]
          exact e3 _ _ (eT _ _ hpf)
        · rw [upd_same, putK_dk, putA_new nn, flK_snoc]
      have hqT := eT _ _ hqq
      have lq : (dk dgV (flK k i hdo)).length ≤ 50000 := by rw [dk_len, flK_len]; omega
      cases hh : hdo i with
      | some ds =>
        rw [hh] at imA
        obtain ⟨m, ⟨d2, l, e2, hd, hD⟩, okm, gm⟩ := imA
        cases e2
        have okm : Ok m.g m.c 0 N0 := okm
        have hI := (okm.g m.c ds gm).1
        refine s_dpc (ea_cons (ev_var rfl) ea_nil _ (Ex.refl _) _ fun H2 e2 => .inl ⟨d i, l, _, m.c, rfl, e2 _ _ hd, hD, frm_sm okm, okm.c7, frm_0, by show wholeB (frm m.g m.c 0 N0) m.c = true; rw [whole_frm okm okm.c7]; exact okm.c, fun p H5 e5 hp => ?_⟩)
        have hp : H5 p = some (.tup [.int (m.c : Int), .str (imgT (flD m.D m.c))]) := hp
        rw [show m.D = frm m.g m.c 0 N0 from rfl, flD_whole okm gm] at hp
        refine ⟨p, _, 1, _, rfl, rfl, st_of hp, rfl, ?_⟩
        refine ⟨imgS ds, rfl, by have := (img_len ds hI).2.2; omega, ?_⟩
        refine ev_var (i := 1) rfl H5 (Ex.refl _) _ fun H6 e6 => ev_var (i := 2) rfl H6 (Ex.refl _) _ fun H7 e7 => ⟨q, _, rfl, DPut.k ((e2.trans (e5.trans (e6.trans e7))) _ _ hqT) (sz_lt (by omega)), ?_⟩
        have := done (e2.trans (e5.trans (e6.trans e7)))
        rw [hh] at this
        exact this
      | none =>
        rw [hh] at imA
        have imA : upd H' TT (.tup [kV (Sum.inr (k i)), .ref (d i)]) (d i) = some (.dK []) := imA
        have hD0 : Dsk [] (fun _ => none) := ⟨by simp, fun k t => by simp⟩
        have sm0 : Dm.Sm (fun _ => none) := fun i hi t ht => by cases ht
        refine s_dpc (ea_cons (ev_var rfl) ea_nil _ (Ex.refl _) _ fun H2 e2 => .inr ⟨d i, [], _, rfl, e2 _ _ imA, hD0, sm0, .inl rfl, fun H3 e3 => ?_⟩)
        refine ⟨true, R.te, fun _ a ha => ?_, fun q => nomatch q⟩
        refine s_dput (k := .inr (k i)) (kvs := dk dgV (flK k i hdo)) (ev_c (v := .non)) (ev_var rfl) (ev_var rfl) ((e2.trans e3) _ _ hqT) lq fun H4 e4 => ?_
        have := done (e2.trans (e3.trans e4))
        rw [hh] at this
        exact this
    · obtain ⟨v2, v3, es, kp, hpf, hqq, hin⟩ := pv
      subst es
      rw [dk_len, flK_len] at hqq
      refine s_ret (ev_var rfl) fun H2 e2 => kk q H2 nq (fun a u ha => e2 _ _ ?_) (e2 _ _ (by rw [upd_ne npq.symm]; exact hqq))
      by_cases z : a = pf
      · rw [z, upd_same]
        rw [z, hf] at ha
        exact ha
      · rw [upd_ne z]
        exact kp a u z ha
end
end Mx
set_option Elab.async false
set_option linter.all false
set_option maxRecDepth 100000
set_option maxHeartbeats 1000000
namespace Mx
open PySem PySem.Spec PyProof.Rows L2 Evl TL
open PySem.W (Datum DatumOrd Tup SomeDatum)
/-! ### waves -/
def Sts (F : Cfg) (M0 M : Nat → Mst) (t : Nat) (b : Bool) : Prop := ∀ i, i < F.n → (i < t → ∃ m, Taken F.img (M0 i) m ∧ M i = (if b = true then ⟨m.g, F.bf i⟩ else m)) ∧ (t ≤ i → M i = M0 i)
structure Wst where
  t : Nat
  w : Nat
  bad : List Nat
  st : Str
def szAt (F : Cfg) (w : Nat) : Nat := F.sz.getD (min w (F.sz.length - 1)) 0
def tNx (F : Cfg) (s : Wst) : Nat := min F.n (s.t + szAt F s.w)
def bdNx (F : Cfg) (g : Str → Str → Bool) (s : Wst) : List Nat := s.bad ++ (List.range' s.t (tNx F s - s.t)).filter fun i => !g (nm i) (imgS F.img)
def wNext (F : Cfg) (g : Str → Str → Bool) (s : Wst) : Wst := ⟨tNx F s, s.w + 1, bdNx F g s, if F.al < ((bdNx F g s).length : Int) then ("back" : Str) else if tNx F s = F.n then "done" else "running"⟩
def spWave (P : Program) (w : World) (K : PySem.W.Frag) (mg : Str → Option Value) (base : Heap) (C : Addr) : Sp := fun vs H Q _ => ∃ (A : RA) (F : Cfg) (d : Nat → Addr) (M M0 : Nat → Mst) (s : Wst) (f : Addr) (g : Str → Str → Bool) (pc : Addr) (cl : List (Str × Nat)), vs = [.ref A.x, .ref f, .ref pc] ∧ RoAt C H A F d M s.t s.w s.st s.bad ∧ Ini F M0 ∧ Sts F M0 M s.t false ∧ s.t ≤ F.n ∧ s.bad.length ≤ 7 ∧ s.st = "running" ∧ CallP P w K mg base 2 f H g ∧
  H pc = some (.dK (dk (fun c : Nat => V.int (c : Int)) cl)) ∧ ∀ H' d' M', Kp A.mut H H' → RoAt C H' A F d' M' (wNext F g s).t (wNext F g s).w (wNext F g s).st (wNext F g s).bad → Sts F M0 M' (wNext F g s).t (decide ((wNext F g s).st = "back")) → Q .non H'
structure HR (P : Program) (w : World) (K : PySem.W.Frag) (mg : Str → Option Value) (base : Heap) (C : Addr) : Prop where
  dig : Has P w K mg base CX0 2 "digest" ["text"] spDig
  cur : Has P w K mg base CX0 4 "current" ["disk"] spCur
  left : HasM P w K mg base CX0 1 C "left" ["self"] (spLeft C)
  take : HasM P w K mg base CX0 5 C "take" ["self", "name", "cut"] (spTak C)
  bak : HasM P w K mg base CX0 5 C "back" ["self"] (spBack C)
abbrev rMin2 : List V → Hp → VK → Prop := fun xs H Q => ∃ i j, xs = [.int i, .int j] ∧ Q (.int (if j < i then j else i)) H
section
variable {σ : L2.St} {H H' : Hp} {te ta tb to tc : TE} {K : PySem.W.Frag} {C : Addr}
theorem ev_min2 {i j : Int} (h : Ev ta σ H (.int i)) (h2 : Ev tb σ H (.int j)) : Ev (tCB rMin2 (tCons ta (tCons tb tNil))) σ H (.int (if j < i then j else i)) := fun H1 e Q q => h H1 e _ fun H2 e2 => h2 H2 (e.trans e2) _ fun H3 e3 => ⟨i, j, rfl, q H3 (e2.trans e3)⟩
theorem el_slL {tl th : TO} {xs : List V} {lo hi : Option Int} (h : EvL te σ H xs) (h1 : EvO tl σ H lo) (h2 : EvO th σ H hi) : EvL (tSl (rSlL K) te tl th) σ H (cutV xs lo hi) := fun H1 e _ q =>
  h H1 e _ fun a H2 na e2 ha => h1 H2 (e.trans e2) _ fun H3 e3 => h2 H3 ((e.trans e2).trans e3) _ fun H4 e4 =>
    ⟨a, xs, rfl, sq_of ((e3.trans e4) _ _ ha), fun p hp => q p _ (fresh_back ((e2.trans e3).trans e4) hp) (((e2.trans e3).trans e4).trans (Ex.new hp)) upd_same⟩
theorem take_r' (t k n : Nat) : (List.range' t n).take k = List.range' t (min k n) := by
  refine List.ext_getElem (by simp) fun i h1 h2 => ?_
  simp
theorem et_truLN {vs : List V} (h : EvL ta σ H vs) : EvT (fun σ H Q => ta σ H fun x H' => ∃ k, TruV K x H' k ∧ Q k H') σ H (!vs.isEmpty) := fun H1 e Q q =>
  h H1 e _ fun p H2 _ e2 hp => ⟨_, .inl ⟨vs, sq_of hp, rfl⟩, q H2 e2⟩
theorem ev_fc {P : Program} {w : World} {mg : Str → Option Value} {base : Heap} {k i : Nat} {f : Addr} {H0 : Hp} {g : Str → Str → Bool} {x y : Str} {t : TA} (hs : σ[i]? = some (some (.ref f))) (c : CallP P w K mg base k f H0 g) (fe : Fe H0 H) (h : EvA t σ H [.str x, .str y]) : Ev (tFc P w K mg base k i t) σ H (.bl (g x y)) := fun H1 e Q q =>
  ⟨f, H0, g, hs, c, fe.trans (Fe.of e), h H1 e _ fun H2 e2 => ⟨fe.trans (Fe.of (e.trans e2)), x, y, rfl, q H2 e2⟩⟩
theorem ev_dget1R {td ty : TE} {d : Addr} {kvs : List (Key × V)} {k : Key} (h : Ev td σ H (.ref d)) (hk : Ev ty σ H (kV k)) (hd : Rd H d (.dK kvs)) : Ev (tDGet1 td ty) σ H ((valV kvs k).getD .non) := fun H1 e Q q =>
  h H1 e _ fun H2 e2 => ⟨d, rfl, .inl ⟨kvs, rd_ex (e.trans e2) hd⟩, hk H2 (e.trans e2) _ fun H3 e3 => ⟨_, dget_rd (rd_ex ((e.trans e2).trans e3) hd), q H3 (e2.trans e3)⟩⟩
theorem el_left {E : XK} {A : RA} {F : Cfg} {d : Nat → Addr} {M : Nat → Mst} {t w : Nat} {st : Str} {bad : List Nat} (h : Ev to σ H (.ref A.x)) (ro : RoAt C H A F d M t w st bad) (o : CfgOk F) (ht : t ≤ F.n) : EvL (tMeth C "left" (spLeft C) [] E to tNil) σ H ((List.range' t (F.n - t)).map fun i => V.str (nm i)) := fun H1 e Q q =>
  t_meth (h.mono e) ((ro.ex e).ins) rfl ea_nil fun H2 e2 => ⟨A, F, d, M, t, w, st, bad, rfl, ro.ex (e.trans e2), o, ht, fun p H3 np e3 hp => q p H3 (fresh_back e2 np) (e2.trans e3) hp⟩
end
theorem RoAt.fe {C : Addr} {H H' : Hp} {A : RA} {F : Cfg} {d : Nat → Addr} {M : Nat → Mst} {t w : Nat} {st : Str} {bad : List Nat} (ro : RoAt C H A F d M t w st bad) (k : Kp A.mut H H') : Fe H H' := fun b u hb hf => by
  refine k b u (fun z => ?_) hb
  rcases List.mem_cons.mp z with z | z
  · rw [z, ro.ins] at hb; cases hb; rcases hf with ⟨_, _, h⟩ | ⟨_, h⟩ <;> cases h
  rcases List.mem_cons.mp z with z | z
  · rw [z, ro.fl] at hb; cases hb; rcases hf with ⟨_, _, h⟩ | ⟨_, h⟩ <;> cases h
  rcases List.mem_cons.mp z with z | z
  · rw [z, ro.dn] at hb; cases hb; rcases hf with ⟨_, _, h⟩ | ⟨_, h⟩ <;> cases h
  · rw [List.mem_singleton.mp z, ro.fa] at hb; cases hb; rcases hf with ⟨_, _, h⟩ | ⟨_, h⟩ <;> cases h
section
variable {C : Addr} {H H' : Hp} {A : RA} {F : Cfg} {d : Nat → Addr} {M : Nat → Mst} {t w : Nat} {st : Str} {bad : List Nat}
theorem RoAt.done1 (h : RoAt C H A F d M t w st bad) : RoAt C (upd H A.pd (.lst (((List.range t).map fun i => V.str (nm i)) ++ [.str (nm t)]))) A F d M (t + 1) w st bad := by
  obtain ⟨n1, n2, n3, n4, n5, n6, n7, n8, n9, n10⟩ := h.x_ne
  obtain ⟨m1, m2, m3, m4⟩ := h.ne
  have keep : ∀ {b : Addr} {u v : HO}, b ≠ A.pd → H b = some u → upd H A.pd v b = some u := fun {b u v} hb e => by rw [upd_ne hb]; exact e
  refine ⟨keep n2 h.ins, keep n6 h.fl, fun i hi => ?_, h.df, keep m2 h.sz, ?_, keep m1.symm h.fa, keep n9 h.be, h.ne⟩
  · obtain ⟨d2, l, e2, hd, hD⟩ := h.ms i hi
    cases e2
    exact ⟨_, l, rfl, keep (fun z => by rw [z, h.dn] at hd; cases hd) hd, hD⟩
  · rw [upd_same, List.range_succ, List.map_append]
    rfl
theorem RoAt.failN (h : RoAt C H A F d M t w st bad) {more : List Nat} : RoAt C (upd H A.pe (.lst ((bad.map fun i => V.str (nm i)) ++ (more.map fun i => V.str (nm i))))) A F d M t w st (bad ++ more) := by
  obtain ⟨n1, n2, n3, n4, n5, n6, n7, n8, n9, n10⟩ := h.x_ne
  obtain ⟨m1, m2, m3, m4⟩ := h.ne
  have keep : ∀ {b : Addr} {u v : HO}, b ≠ A.pe → H b = some u → upd H A.pe v b = some u := fun {b u v} hb e => by rw [upd_ne hb]; exact e
  refine ⟨keep n3 h.ins, keep n7 h.fl, fun i hi => ?_, h.df, keep m3 h.sz, keep m1 h.dn, ?_, keep n10 h.be, h.ne⟩
  · obtain ⟨d2, l, e2, hd, hD⟩ := h.ms i hi
    cases e2
    exact ⟨_, l, rfl, keep (fun z => by rw [z, h.fa] at hd; cases hd) hd, hD⟩
  · rw [upd_same, List.map_append]
end
section
variable {P : Program} {w : World} {K : PySem.W.Frag} {mg : Str → Option Value} {base : Heap} {C CB : Addr}
theorem ok_wav {f : Addr} {fd : FuncData} (F : Fun K "wave" "Rollout.wave" sWav f fd) (T : TxtR K mg C) (B : BtM mg) (L : HR P w K mg base C) : FnOk P w K mg base CX0 6 f fd ["self", "health", "cuts"] (spWave P w K mg base C) := by
  refine F.ok scWav (fun vs H Q E h => ?_) (fun cdv Ar outer s H vs Q E hr h => ?_)
  · obtain ⟨_, _, _, _, _, _, _, _, _, _, rfl, _⟩ := h
    rfl
  · obtain ⟨A, F, d, M, M0, S, fl, g, pc, cl, rfl, ro, o, sts, ht, hb7, hst, cp, hpc, k⟩ := h
    obtain ⟨t, wv, bad, st⟩ := S
    have hst : st = "running" := hst
    subst hst
    have ro : RoAt C H A F d M t wv "running" bad := ro
    have sts : Sts F M0 M t false := sts
    have ht : t ≤ F.n := ht
    have hb7 : bad.length ≤ 7 := hb7
    have hu := hu_of hr
    refine ⟨_, (pss_cons (ps_set (i := 3) scWav.nd rfl (Or.inl rfl) (pe_ix (show IxR _ (rIxL K) from ix_list) (pe_fld (pv 0) rfl) (pe_callB (call_min2 rfl) (by rfl) T.min (by decide +kernel) (pa_cons (pe_fld (pv 0) rfl) (pa_cons (pe_op op_sub (pe_callB (call_len_seq) (by rfl) B.len (PySem.boot_len) (pa_cons (pe_fld (pv 0) rfl) pa_nil)) (pe_int)) pa_nil))) (fun _ _ => rfl)))
      (pss_cons (ps_set (i := 4) scWav.nd rfl (Or.inl rfl) (pe_slice (show SlR _ (rSlL K) from sl_list) (pe_m0' (pv 0) T.cl L.left hr pass0) po_none (po_some (pv 3))))
      (pss_cons (ps_fldaug (pv 0) pe_int in_add)
      (pss_cut (ps_for PassesOwn.never rfl (pi_list (pv 4)) (pg_name (i := 5) scWav.nd rfl (Or.inl rfl)) (pss_cons (ps_expr (pe_m (pv 0) T.cl L.take hr pass0 (pa_cons (pv 5) (pa_cons (pe_dget1 hu (pv 2) (pv 5) ⟨rfl, rfl, rfl, rfl⟩) pa_nil))))
      (pss_one (ps_expr (pe_bm PySem.F.plainAttrs_list PySem.F.slot_list_append PySem.F.type_list_append mt_append (pe_fld (pv 0) rfl) (pa_cons (pv 5) pa_nil))))))
      (pss_cons (ps_setLc (i := 6) (own := [("name", 5)]) (g := gName 5) rfl scWav.nd rfl rfl (sw_true rfl rfl rfl (by decide +kernel)) (pi_list (pv 4)) (blkOk_by (N := ["self", "health", "cuts", "size", "names", "name", "bad"]) (sc := defScope sWav) (by decide +kernel)) (fun _ _ _ _ _ => pg_name (i := 5) scWav.nd rfl (Or.inl rfl)) (fun _ _ _ _ _ => pts_one (pt_not (pt_val (pe_fc (P := P) (w := w) (K := K) (mg := mg) (base := base) (i := 1) rfl rfl rfl rfl rfl hr (pa_cons (pv 5) (pa_cons (pe_ix (show IxR _ (rIxT K) from ix_tup) (pe_h L.cur hr (by rfl) pass0 (pa_cons (pe_dget hu (pe_fldK (K' := K) rfl (pv 0) rfl) (pv 5) (fun _ _ => rfl)) pa_nil)) (pe_int) (fun _ _ => rfl)) pa_nil)) rfl (by first | exact .inl rfl | exact .inr (.inl rfl) | exact .inr (.inr rfl)) (k := 2))))) (fun _ _ _ _ _ => pv 5))
      (pss_cons (ps_expr (pe_bm PySem.F.plainAttrs_list PySem.F.slot_list_extend PySem.F.type_list_extend mt_extend (pe_fld (pv 0) rfl) (pa_cons (pv 6) pa_nil)))
      (pss_one (ps_if (pt_cmpR (op_gt) (pe_callB (call_len_seq) (by rfl) B.len (PySem.boot_len) (pa_cons (pe_fld (pv 0) rfl) pa_nil)) (pe_fld (pv 0) rfl) (nomark _)) (pss_one (ps_expr (pe_m0' (pv 0) T.cl L.bak hr pass0))) (pss_one (ps_if (pt_not (pt_truth (pe_m0' (pv 0) T.cl L.left hr pass0) (fun _ => rfl))) (pss_one (ps_fld (pv 0) (pe_str) rfl)) pss_nil)))))))))), ?_⟩
    have n7 := o.c.n7
    have s0 := o.s0
    have hsz : (F.sz)[min wv (F.sz.length - 1)]? = some (szAt F wv) := by
      have lt : min wv (F.sz.length - 1) < F.sz.length := by omega
      unfold szAt
      rw [List.getD_eq_getElem?_getD, List.getElem?_eq_getElem lt]
      rfl
    have pcm : pc ∉ A.mut := fun z => by
      rcases List.mem_cons.mp z with z | z
      · rw [z, ro.ins] at hpc; cases hpc
      rcases List.mem_cons.mp z with z | z
      · rw [z, ro.fl] at hpc
        have e := HO.dK.inj (Option.some.inj hpc)
        have h1 : valV (dk V.ref (flK nm F.n d)) (Sum.inr (nm 0)) = some (.ref (d 0)) := flK_val (nm_inj n7) o.c.n1
        rw [e, valV_dk] at h1
        cases q : cl.lookup (nm 0) with
        | none => rw [q] at h1; cases h1
        | some x => rw [q] at h1; cases h1
      rcases List.mem_cons.mp z with z | z
      · rw [z, ro.dn] at hpc; cases hpc
      · rw [List.mem_singleton.mp z, ro.fa] at hpc; cases hpc
    refine q_asg (v := .int (szAt F wv : Nat)) (ev_op (ev_sizes T (ev_var rfl) ro) (ev_min2 (ev_waves T (ev_var rfl) ro) (ev_op (ev_len (ev_sizes T (ev_var rfl) ro) (sq_of ro.sz)) ev_c rv_I0)) (rv_ixL (sq_of ro.sz) ?_)) fun H1 e1 => ?_
    · rw [List.length_map]
      have : (if ((F.sz.length : Nat) : Int) - 1 < ((wv : Nat) : Int) then ((F.sz.length : Nat) : Int) - 1 else ((wv : Nat) : Int)) = ((min wv (F.sz.length - 1) : Nat) : Int) := by
        split <;> omega
      show atI _ (if ((F.sz.length : Nat) : Int) - 1 < ((wv : Nat) : Int) then ((F.sz.length : Nat) : Int) - 1 else ((wv : Nat) : Int)) = _
      rw [this]
      exact atI_nat (by rw [List.getElem?_map, hsz]; rfl)
    have ro1 := ro.ex e1
    have sl : ((List.range' t (F.n - t)).map fun i => V.str (nm i)).take (szAt F wv) = (List.range' t (tNx F ⟨t, wv, bad, "running"⟩ - t)).map fun i => V.str (nm i) := by
      rw [← List.map_take, take_r']
      congr 2
      show min (szAt F wv) (F.n - t) = min F.n (t + szAt F wv) - t
      omega
    refine q_asgL (xs := (List.range' t (tNx F ⟨t, wv, bad, "running"⟩ - t)).map fun i => V.str (nm i)) ?_ fun pn H2 np e2 hpn => ?_
    · rw [← sl, ← cutV_take]
      exact el_slL (el_left (ev_var rfl) ro1 o.c ht) eo_none (eo_some (ev_var rfl))
    have ro2 := ro1.ex e2
    have pnm : pn ∉ A.mut := fun z => by
      rcases List.mem_cons.mp z with z | z
      · exact ne_none ro1.ins np z.symm
      rcases List.mem_cons.mp z with z | z
      · exact ne_none ro1.fl np z.symm
      rcases List.mem_cons.mp z with z | z
      · exact ne_none ro1.dn np z.symm
      · exact ne_none ro1.fa np (List.mem_singleton.mp z).symm
    refine q_fldaug (C := C) (dx := A.dx) (z := .int ((wv + 1 : Nat) : Int)) (ev_var rfl) ro2.ins T.cl T.nWa rfl ev_c (rv_I0 (i := ((wv : Nat) : Int)) (j := 1)) (by show 9 < 1000; decide) fun H3 e3 => ?_
    rw [fld_wa]
    have ro3 := (ro2.ex e3).setx (w' := wv + 1) (st' := "running")
    have kp3 : Kp A.mut H (upd H3 A.x (.ins C A.dx (fldsR A (imgS F.img) F.al (wv + 1) "running"))) := (Kp.of (e1.trans (e2.trans e3))).trans (Kp.upd (List.mem_cons_self ..))
    have hpn3 : upd H3 A.x (.ins C A.dx (fldsR A (imgS F.img) F.al (wv + 1) "running")) pn = some (.lst ((List.range' t (tNx F ⟨t, wv, bad, "running"⟩ - t)).map fun i => V.str (nm i))) := by
      rw [upd_ne (fun z => pnm (by rw [z]; exact List.mem_cons_self ..))]
      exact e3 _ _ hpn
    generalize hJ : upd H3 A.x (.ins C A.dx (fldsR A (imgS F.img) F.al (wv + 1) "running")) = J at ro3 kp3 hpn3 ⊢
    have tn : tNx F ⟨t, wv, bad, "running"⟩ ≤ F.n := by show min F.n _ ≤ F.n; omega
    generalize htn : tNx F ⟨t, wv, bad, "running"⟩ = t' at hpn3 tn ⊢
    have tt' : t ≤ t' := by rw [← htn]; show t ≤ min F.n (t + _); omega
    let Mid : L2.St → Hp → Prop := fun σ' H' => ∃ v5 d' M', σ' = [some (.ref A.x), some (.ref fl), some (.ref pc), some (.int (szAt F wv : Nat)), some (.ref pn), v5, none] ∧ Kp A.mut J H' ∧ RoAt C H' A F d' M' t' (wv + 1) "running" bad ∧ Sts F M0 M' t' false
    refine q_cut (M := Mid) ?_ fun σ' H' mid => ?_
    · refine s_forLn (ev_var rfl) (sq_of hpn3) (fun i σ' H' => ∃ v5 d' M', σ' = [some (.ref A.x), some (.ref fl), some (.ref pc), some (.int (szAt F wv : Nat)), some (.ref pn), v5, none] ∧ Kp A.mut J H' ∧ RoAt C H' A F d' M' (t + i) (wv + 1) "running" bad ∧ Sts F M0 M' (t + i) false)
        (fun H4 e4 => ⟨none, d, M, rfl, Kp.of e4, ro3.ex e4, sts⟩) (fun i σ' H' _ ⟨_, _, _, _, kp, _⟩ => sq_of (kp _ _ pnm hpn3)) (fun i x σ' H4 hx ⟨v5, d', M', es, kp, ro4, st4⟩ => ?_) (fun σ' H4 ⟨v5, d', M', es, kp, ro4, st4⟩ => ?_)
      · subst es
        have hi : i < t' - t := by
          have := (List.getElem?_eq_some_iff.mp hx).1
          rw [List.length_map, List.length_range'] at this
          exact this
        rw [List.getElem?_map, List.getElem?_range' hi] at hx
        cases hx
        rw [show t + 1 * i = t + i by omega]
        have hin : t + i < F.n := by omega
        have mi := (st4 (t + i) hin).2 (Nat.le_refl _)
        obtain ⟨hd, g1, g2⟩ := o.g (t + i) hin
        have hcv : (valV (dk (fun c : Nat => V.int (c : Int)) cl) (Sum.inr (nm (t + i)))).getD .non = .non ∨ ∃ c : Nat, (valV (dk (fun c : Nat => V.int (c : Int)) cl) (Sum.inr (nm (t + i)))).getD .non = .int (c : Int) := by
          rw [valV_dk]
          cases cl.lookup (nm (t + i)) with
          | none => exact .inl rfl
          | some c => exact .inr ⟨c, rfl⟩
        have kpH := kp3.trans kp
        refine q_meth (C := C) (dx := A.dx) (ev_var rfl) ro4.ins rfl (ea_cons (ev_var rfl) (ea_cons (ev_dget1R (k := .inr (nm (t + i))) (ev_var rfl) (ev_var rfl) (.inl (kpH _ _ pcm hpc))) ea_nil)) fun H5 e5 => ?_
        refine ⟨A, F, d', M', t + i, wv + 1, "running", bad, t + i, _, hd, 5, rfl, ro4.ex e5, o.c, hin, hcv, by rw [mi]; exact o.o _ hin, by rw [mi]; exact g1, g2, by rw [mi]; exact o.t _ hin, Nat.le_refl _, fun H6 a m kp6 ro6 tk => ?_⟩
        rw [mi] at tk
        refine s_app (K := K) ro6.dn (ev_done T (ev_var rfl) ro6) (ev_var rfl) (by rw [List.length_map, List.length_range]; omega) fun H7 e7 => ?_
        refine ⟨_, fset d' (t + i) a, fset M' (t + i) m, rfl, ((kp.trans (Kp.of e5)).trans (kp6.trans (Kp.of e7))).trans (Kp.upd (List.mem_cons_of_mem _ (List.mem_cons_of_mem _ (List.mem_cons_self ..)))), (ro6.ex e7).done1, fun j hj => ⟨fun hjt => ?_, fun hjt => ?_⟩⟩
        · by_cases z : j = t + i
          · rw [z, fset_at]
            exact ⟨m, tk, rfl⟩
          · rw [fset_ne z]
            exact (st4 j hj).1 (by omega)
        · rw [fset_ne (by omega)]
          exact (st4 j hj).2 (by omega)
      · rw [List.length_map, List.length_range', show t + (t' - t) = t' by omega] at ro4 st4
        exact ⟨v5, d', M', es, kp, ro4, st4⟩
    obtain ⟨v5, d', M', es, kp, ro4, st4⟩ := mid
    subst es
    have kpH := kp3.trans kp
    have feH := ro.fe kpH
    have hpn4 := kp _ _ pnm hpn3
    have wp : ∀ x y : Option V, True := fun _ _ => trivial
    refine q_asgL (xs := ((List.range' t (t' - t)).filter fun i => !g (nm i) (imgS F.img)).map fun i => V.str (nm i)) ?_ fun pb H5 nb e5 hpb => ?_
    · have gm := given_map (List.range' t (t' - t)) (fun i => !g (nm i) (imgS F.img)) (fun i => V.str (nm i)) (fun j => !g (nm (t + j)) (imgS F.img)) (fun j => V.str (nm (t + j))) (fun j x hx => by
          have hi := (List.getElem?_eq_some_iff.mp hx).1
          rw [List.length_range'] at hi
          rw [List.getElem?_range' hi] at hx
          cases hx
          rw [Nat.one_mul]) (fun j x hx => by
          have hi := (List.getElem?_eq_some_iff.mp hx).1
          rw [List.length_range'] at hi
          rw [List.getElem?_range' hi] at hx
          cases hx
          rw [Nat.one_mul])
      have gl : (List.range' t (t' - t)).length = ((List.range' t (t' - t)).map fun i => V.str (nm i)).length := (List.length_map _).symm
      rw [← gm, gl]
      refine el_lcL (K := K) _ _ (ev_var rfl) (sq_of hpn4) (by rw [List.length_map, List.length_range']; omega) (fun _ => rfl) (fun j x H6 e6 hx => ?_) (fun j x H6 e6 hx _ => ?_)
      · have hi : j < t' - t := by
          have := (List.getElem?_eq_some_iff.mp hx).1
          rw [List.length_map, List.length_range'] at this
          exact this
        rw [List.getElem?_map, List.getElem?_range' hi] at hx
        cases hx
        rw [show t + 1 * j = t + j by omega]
        have hin : t + j < F.n := by omega
        obtain ⟨m, tk, em⟩ := (st4 (t + j) hin).1 (by omega)
        have em : M' (t + j) = m := em
        have ro6 := ro4.ex e6
        have dA := ro6.ms (t + j) hin
        rw [em] at dA
        have okm : Ok m.g m.c 0 N0 := tk.o
        exact et_not (et_B (ev_fc rfl cp (feH.trans (Fe.of e6)) (ea_cons (ev_var rfl) (ea_cons (ev_cur1 (ev_dsk (ev_diskA T (ev_var rfl) (ev_var rfl) ro6 o.c hin) dA) okm tk.c) ea_nil))))
      · have hi : j < t' - t := by
          have := (List.getElem?_eq_some_iff.mp hx).1
          rw [List.length_map, List.length_range'] at this
          exact this
        rw [List.getElem?_map, List.getElem?_range' hi] at hx
        cases hx
        rw [show t + 1 * j = t + j by omega]
        exact ev_var rfl
    have ro5 := ro4.ex e5
    have lfl : ((List.range' t (t' - t)).filter fun i => !g (nm i) (imgS F.img)).length ≤ 7 := by
      refine Nat.le_trans (List.length_filter_le _ _) ?_
      rw [List.length_range']
      omega
    refine s_ext (K := K) (D := { nx := _, rt := _, bk := _, ct := _ }) (R := fun zs _ => zs = ((List.range' t (t' - t)).filter fun i => !g (nm i) (imgS F.img)).map fun i => V.str (nm i)) ro5.fa (ev_failed T (ev_var rfl) ro5) (fun H6 e6 Q6 q6 => ev_var (i := 6) rfl H6 e6 Q6 fun H7 e7 => q6 _ H7 e7 ⟨pb, _, rfl, (e6.trans e7) _ _ hpb, by rw [List.length_map]; omega, rfl⟩) (by rw [List.length_map]; omega) fun zs H6 e6 ez => ?_
    subst ez
    have ro6 := (ro5.ex e6).failN (more := (List.range' t (t' - t)).filter fun i => !g (nm i) (imgS F.img))
    have kp6 := (kpH.trans (Kp.of (e5.trans e6))).trans (Kp.upd (o := .lst ((bad.map fun i => V.str (nm i)) ++ (((List.range' t (t' - t)).filter fun i => !g (nm i) (imgS F.img)).map fun i => V.str (nm i)))) (show A.pe ∈ A.mut from List.mem_cons_of_mem _ (List.mem_cons_of_mem _ (List.mem_cons_of_mem _ (List.mem_cons_self ..)))))
    have eb : bdNx F g ⟨t, wv, bad, "running"⟩ = bad ++ (List.range' t (t' - t)).filter fun i => !g (nm i) (imgS F.img) := by
      unfold bdNx
      rw [htn]
    have en : ∀ q : Str, q = (if F.al < ((bad ++ (List.range' t (t' - t)).filter fun i => !g (nm i) (imgS F.img)).length : Int) then ("back" : Str) else if t' = F.n then "done" else "running") → wNext F g ⟨t, wv, bad, "running"⟩ = ⟨t', wv + 1, bad ++ (List.range' t (t' - t)).filter fun i => !g (nm i) (imgS F.img), q⟩ := fun q hq => by
      unfold wNext
      rw [htn, eb, hq]
    generalize hbn : (bad ++ (List.range' t (t' - t)).filter fun i => !g (nm i) (imgS F.img)) = bn at ro6 en
    refine s_if (et_test (ev_op (ev_len (ev_failed T (ev_var rfl) ro6) (sq_of ro6.fa)) (ev_allow T (ev_var rfl) ro6) rv_I0)) (fun hb H7 e7 => ?_) (fun hb H7 e7 => ?_)
    · have hlt : F.al < (bn.length : Int) := by
        have := of_decide_eq_true hb
        rw [List.length_map] at this
        omega
      have e8 := en "back" (by rw [if_pos hlt])
      refine s_meth (C := C) (dx := A.dx) (ev_var rfl) (ro6.ex e7).ins rfl ea_nil fun H8 e78 => ⟨A, F, d', M', t', wv + 1, "running", bn, rfl, (ro6.ex e7).ex e78, o.c, tn, fun i hi => ?_, fun H9 d9 kp9 ro9 => ?_⟩
      · obtain ⟨m, tk, em⟩ := (st4 i (by omega)).1 hi
        have em : M' i = m := em
        obtain ⟨hd, g1, g2⟩ := o.g i (by omega)
        rw [em, o.b i (by omega)]
        exact ⟨tk.o, by rw [tk.x _ _ g1]; rfl⟩
      · rw [e8] at k
        refine k H9 d9 _ (kp6.trans ((Kp.of (e7.trans e78)).trans kp9)) ro9 fun i hi => ⟨fun hit => ?_, fun hit => ?_⟩
        · obtain ⟨m, tk, em⟩ := (st4 i hi).1 hit
          have em : M' i = m := em
          refine ⟨m, tk, ?_⟩
          show (if i < t' then (⟨(M' i).g, F.bf i⟩ : Mst) else M' i) = if decide ("back" = "back") = true then (⟨m.g, F.bf i⟩ : Mst) else m
          rw [if_pos hit, em, if_pos (decide_eq_true rfl)]
        · show (if i < t' then (⟨(M' i).g, F.bf i⟩ : Mst) else M' i) = _
          rw [if_neg (show ¬ i < t' by have hit : t' ≤ i := hit; omega)]
          exact (st4 i hi).2 hit
    · have hlt : ¬ F.al < (bn.length : Int) := fun z => by
        have := of_decide_eq_false hb
        rw [List.length_map] at this
        omega
      have nb2 : ∀ q : Str, q ≠ "back" → decide (q = "back") = false := fun q h => decide_eq_false h
      have fin : ∀ (q : Str) (H9 : Hp), q ≠ "back" → q = (if F.al < (bn.length : Int) then ("back" : Str) else if t' = F.n then "done" else "running") → Kp A.mut H H9 → RoAt C H9 A F d' M' t' (wv + 1) q bn → Q .non H9 := fun q H9 nq hq kp9 ro9 => by
        rw [en q hq] at k
        refine k H9 d' M' kp9 ro9 fun i hi => ⟨fun hit => ?_, fun hit => (st4 i hi).2 hit⟩
        obtain ⟨m, tk, em⟩ := (st4 i hi).1 hit
        refine ⟨m, tk, ?_⟩
        show M' i = if decide (q = "back") = true then _ else m
        rw [nb2 q nq]
        exact em
      have ro7 := ro6.ex e7
      refine s_if (et_not (et_truLN (K := K) (el_left (ev_var rfl) ro7 o.c tn))) (fun hz H8 e8 => ?_) (fun hz H8 e8 => ?_)
      · have et : t' = F.n := by
          rw [Bool.not_not, List.isEmpty_iff, List.map_eq_nil_iff, List.range'_eq_nil_iff] at hz
          omega
        refine s_fld (C := C) (dx := A.dx) (ev_c (v := .str "done")) (ev_var rfl) (ro7.ex e8).ins T.cl T.nSt (by show 9 < 1000; decide) fun H9 e9 => ?_
        rw [fld_st]
        exact fin "done" _ (by decide +kernel) (by rw [if_neg hlt, if_pos et]) ((kp6.trans (Kp.of (e7.trans (e8.trans e9)))).trans (Kp.upd (List.mem_cons_self ..))) (((ro7.ex e8).ex e9).setx)
      · have et : ¬ t' = F.n := fun z => by
          rw [Bool.not_not, List.isEmpty_eq_false_iff, Ne, List.map_eq_nil_iff, List.range'_eq_nil_iff] at hz
          exact hz (by omega)
        exact fin "running" _ (by decide +kernel) (by rw [if_neg hlt, if_neg et]) (kp6.trans (Kp.of (e7.trans e8))) (ro7.ex e8)
/-! ### waves one behind the other -/
def itW (F : Cfg) (g : Str → Str → Bool) : Nat → Wst
  | 0 => ⟨0, 0, [], "running"⟩
  | k + 1 => wNext F g (itW F g k)
end
end Mx
set_option Elab.async false
set_option linter.all false
set_option maxRecDepth 100000
set_option maxHeartbeats 1000000
namespace Mx
open PySem PySem.Spec PyProof.Rows L2 Evl TL
open PySem.W (Datum DatumOrd Tup SomeDatum)
/-! ### waves -/
def spRun (P : Program) (w : World) (K : PySem.W.Frag) (mg : Str → Option Value) (base : Heap) (C : Addr) : Sp := fun vs H Q _ => ∃ (A : RA) (F : Cfg) (d : Nat → Addr) (M0 : Nat → Mst) (f : Addr) (g : Str → Str → Bool) (pc : Addr) (cl : List (Str × Nat)), vs = [.ref A.x, .ref f, .ref pc] ∧ RoAt C H A F d M0 0 0 "running" [] ∧ Ini F M0 ∧ CallP P w K mg base 2 f H g ∧
  H pc = some (.dK (dk (fun c : Nat => V.int (c : Int)) cl)) ∧ pc ≠ A.pf ∧ ∀ k H' d' M', (∀ j, j < k → (itW F g j).st = "running") → (itW F g k).st ≠ "running" → Kp A.mut H H' → RoAt C H' A F d' M' (itW F g k).t (itW F g k).w (itW F g k).st (itW F g k).bad → Sts F M0 M' (itW F g k).t (decide ((itW F g k).st = "back")) → Q .non H'
structure HW (P : Program) (w : World) (K : PySem.W.Frag) (mg : Str → Option Value) (base : Heap) (C : Addr) : Prop where
  wave : HasM P w K mg base CX0 6 C "wave" ["self", "health", "cuts"] (spWave P w K mg base C)
theorem CallP.fe {P : Program} {w : World} {K : PySem.W.Frag} {mg : Str → Option Value} {base : Heap} {k : Nat} {f : Addr} {H0 H1 : Hp} {g : Str → Str → Bool} (c : CallP P w K mg base k f H0 g) (e : Fe H0 H1) : CallP P w K mg base k f H1 g := by
  obtain ⟨⟨oc, od, fd, sl, t, h⟩, r⟩ := c
  exact ⟨⟨oc, od, fd, sl, t, e _ _ h (.inl ⟨_, _, rfl⟩)⟩, fun A outer s H us x y hr e0 fe => r A outer s H us x y hr e0 (e.trans fe)⟩
section
variable {F : Cfg} {g : Str → Str → Bool} {M0 : Nat → Mst}
theorem szAt_pos (o : Ini F M0) (w : Nat) : 1 ≤ szAt F w := by
  have s0 := o.s0
  have lt : min w (F.sz.length - 1) < F.sz.length := by omega
  unfold szAt
  rw [List.getD_eq_getElem?_getD, List.getElem?_eq_getElem lt]
  exact o.s1 _ (List.getElem_mem lt)
theorem itW_le (o : Ini F M0) : ∀ k, (itW F g k).t ≤ F.n ∧ (itW F g k).bad.length ≤ (itW F g k).t
  | 0 => ⟨Nat.zero_le _, Nat.le_refl _⟩
  | k + 1 => by
    obtain ⟨h1, h2⟩ := itW_le o k
    show tNx F (itW F g k) ≤ F.n ∧ (bdNx F g (itW F g k)).length ≤ tNx F (itW F g k)
    have t1 : tNx F (itW F g k) ≤ F.n := by unfold tNx; omega
    have t2 : (itW F g k).t ≤ tNx F (itW F g k) := by unfold tNx; omega
    refine ⟨t1, ?_⟩
    unfold bdNx
    rw [List.length_append]
    have h3 := List.length_filter_le (fun i => !g (nm i) (imgS F.img)) (List.range' (itW F g k).t (tNx F (itW F g k) - (itW F g k).t))
    rw [List.length_range'] at h3
    omega
theorem itW_go (o : Ini F M0) : ∀ k, (itW F g k).st = "running" → (∀ j, j < k → (itW F g j).st = "running") → (itW F g k).t < F.n ∧ k ≤ (itW F g k).t
  | 0, _, _ => ⟨o.c.n1, Nat.le_refl _⟩
  | k + 1, h, hj => by
    obtain ⟨h1, h2⟩ := itW_go o k (hj k (Nat.lt_succ_self k)) fun j h => hj j (by omega)
    have h : (if F.al < ((bdNx F g (itW F g k)).length : Int) then ("back" : Str) else if tNx F (itW F g k) = F.n then "done" else "running") = "running" := h
    have ne : tNx F (itW F g k) ≠ F.n := fun z => by
      rw [if_pos z] at h
      split at h
      · exact absurd h (by decide +kernel)
      · exact absurd h (by decide +kernel)
    have sp := szAt_pos o (itW F g k).w
    show tNx F (itW F g k) < F.n ∧ k + 1 ≤ tNx F (itW F g k)
    unfold tNx at ne ⊢
    omega
end
section
variable {P : Program} {w : World} {K : PySem.W.Frag} {mg : Str → Option Value} {base : Heap} {C CB : Addr}
theorem ok_run {f : Addr} {fd : FuncData} (F : Fun K "run" "Rollout.run" sRun f fd) (T : TxtR K mg C) (B : BtM mg) (L : HW P w K mg base C) : FnOk P w K mg base CX0 7 f fd ["self", "health", "cuts"] (spRun P w K mg base C) := by
  refine F.ok scRun (fun vs H Q E h => ?_) (fun cdv Ar outer s H vs Q E hr h => ?_)
  · obtain ⟨_, _, _, _, _, _, _, _, rfl, _⟩ := h
    rfl
  · obtain ⟨A, F, d, M0, fl, g, pc, cl, rfl, ro, o, cp, hpc, pcf, k⟩ := h
    have hu := hu_of hr
    refine ⟨_, (pss_one (ps_while PassesOwn.never (pt_cmpR (op_eq) (pe_fld (pv 0) rfl) (pe_str) (nomark _)) (pss_one (ps_expr (pe_m (pv 0) T.cl L.wave hr pass0 (pa_cons (pv 1) (pa_cons (pv 2) pa_nil))))))), ?_⟩
    have n7 := o.c.n7
    have pcm : pc ∉ A.mut := fun z => by
      rcases List.mem_cons.mp z with z | z
      · rw [z, ro.ins] at hpc; cases hpc
      rcases List.mem_cons.mp z with z | z
      · exact pcf z
      rcases List.mem_cons.mp z with z | z
      · rw [z, ro.dn] at hpc; cases hpc
      · rw [List.mem_singleton.mp z, ro.fa] at hpc; cases hpc
    refine s_while (fun m σ' H' => ∃ j d' M', m = F.n + 1 - j ∧ σ' = [some (.ref A.x), some (.ref fl), some (.ref pc)] ∧ (∀ i, i < j → (itW F g i).st = "running") ∧ Kp A.mut H H' ∧ RoAt C H' A F d' M' (itW F g j).t (itW F g j).w (itW F g j).st (itW F g j).bad ∧ Sts F M0 M' (itW F g j).t (decide ((itW F g j).st = "back"))) (F.n + 1) ⟨0, d, M0, rfl, rfl, fun i hi => by omega, Kp.refl H, ro, fun i hi => ⟨fun h => absurd h (Nat.not_lt_zero _), fun _ => rfl⟩⟩ fun m σ' H' hW => ?_
    obtain ⟨j, d', M', em, es, hj, kp, ro1, st1⟩ := hW
    subst es
    refine ⟨decide ((itW F g j).st = "running"), et_is (et_test (ev_op (ev_status T (ev_var rfl) ro1) ev_c (rv_eq rfl))) (str_eq _ _), fun hb H1 e1 => ?_, fun hb H1 e1 => ?_⟩
    · have hrun := of_decide_eq_true hb
      obtain ⟨g1, g2⟩ := itW_go o j hrun hj
      have le := itW_le (g := g) o j
      have ro2 := ro1.ex e1
      have kp1 := kp.trans (Kp.of e1)
      refine ⟨fun σ2 H2 => ∃ d' M', σ2 = [some (.ref A.x), some (.ref fl), some (.ref pc)] ∧ Kp A.mut H H2 ∧ RoAt C H2 A F d' M' (itW F g (j + 1)).t (itW F g (j + 1)).w (itW F g (j + 1)).st (itW F g (j + 1)).bad ∧ Sts F M0 M' (itW F g (j + 1)).t (decide ((itW F g (j + 1)).st = "back")), fun σ2 H2 ⟨d2, M2, es, kp2, ro3, st3⟩ => ⟨F.n + 1 - (j + 1), by omega, j + 1, d2, M2, rfl, es, fun i hi => ?_, kp2, ro3, st3⟩, ?_⟩
      · by_cases z : i = j
        · rw [z]; exact hrun
        · exact hj i (by omega)
      · have st2 : Sts F M0 M' (itW F g j).t false := by
          rw [hrun] at st1
          exact st1
        refine s_meth (C := C) (dx := A.dx) (ev_var rfl) ro2.ins rfl (ea_cons (ev_var rfl) (ea_cons (ev_var rfl) ea_nil)) fun H2 e2 => ⟨A, F, d', M', M0, itW F g j, fl, g, pc, cl, rfl, ro2.ex e2, o, st2, le.1, by omega, hrun, cp.fe ((ro.fe kp1).trans (Fe.of e2)), e2 _ _ (kp1 _ _ pcm hpc), fun H3 d3 M3 kp3 ro3 st3 => ⟨d3, M3, rfl, (kp1.trans (Kp.of e2)).trans kp3, ro3, st3⟩⟩
    · exact k j H1 d' M' hj (of_decide_eq_false hb) (kp.trans (Kp.of e1)) (ro1.ex e1) st1
end
end Mx
set_option Elab.async false
set_option linter.all false
set_option maxRecDepth 100000
set_option maxHeartbeats 1000000
namespace Mx
open PySem PySem.Spec PyProof.Rows L2 Evl TL
open PySem.W (Datum DatumOrd Tup SomeDatum)
/-! ### waves -/
open LamX (CodeO TabS Tabs ExtN TabB)
abbrev sLaw : Stmt := topM 36
abbrev nL : List Str := ["script", "tape", "old", "k", "new", "names", "fleet", "before", "bad", "name", "cuts", "sizes", "allowed", "rollout", "taken", "failed", "status", "waves", "size", "wave", "told", "due", "whole", "again"]
theorem scLaw : FnScope nL ["script"] (defScope sLaw) := ⟨rfl, rfl, rfl, by decide +kernel, rfl, by decide +kernel, by decide +kernel⟩
def psS : Stmt := .Pass ⟨0, 0, 0, 0⟩
def exS : Expr := .Name "x" ⟨0, 0, 0, 0⟩
def bodyOf : Stmt → List Stmt
  | .For _ _ b _ _ => b
  | .While _ b _ _ => b
  | .If _ b _ _ => b
  | _ => []
def exprOf : Stmt → Expr
  | .Expr e _ => e
  | _ => exS
def argsOf : Expr → List Expr
  | .Call _ es _ _ => es
  | _ => []
def laP : Expr → Arguments
  | .Lambda p _ _ _ => p
  | _ => ⟨[], [], none, [], [], none, []⟩
def laB : Expr → Expr
  | .Lambda _ b _ _ => b
  | e => e
def laS : Expr → Scope
  | .Lambda _ _ s _ => s
  | _ => defScope sLaw
abbrev bFill : List Stmt := bodyOf ((defBody sLaw).getD 5 psS)
abbrev sWh : Stmt := (defBody sLaw).getD 10 psS
abbrev bWh : List Stmt := bodyOf sWh
abbrev sAg : Stmt := (defBody sLaw).getD 15 psS
abbrev bAg : List Stmt := bodyOf sAg
abbrev lam1 : Expr := (argsOf (exprOf (bWh.getD 4 psS))).getD 0 exS
abbrev lam2 : Expr := (argsOf (exprOf ((defBody sLaw).getD 12 psS))).getD 0 exS
abbrev lam3 : Expr := (argsOf (exprOf (bAg.getD 1 psS))).getD 0 exS
def qLam : Str := "law.<locals>.<lambda>"
theorem ls1 : LamSc ["name", "image"] ["new", "bad"] (laS lam1) := lamSc_by (by decide +kernel)
theorem ls2 : LamSc ["name", "told"] ["new", "bad"] (laS lam2) := lamSc_by (by decide +kernel)
theorem ls3 : LamSc ["one", "two"] [] (laS lam3) := lamSc_by (by decide +kernel)
def gH (nS : Str) (bn : List Str) : Str → Str → Bool := fun x y => decide (y = nS) && !decide (x ∈ bn)
def gF0 : Str → Str → Bool := fun _ _ => false
theorem fm {α : Type} {N : List α} {i : Nat} {y : α} (h : N[i]? = some y) : i < N.length := (List.getElem?_eq_some_iff.mp h).1
section
variable {P : Program} {w : World} {K : PySem.W.Frag} {mg : Str → Option Value} {base : Heap}
/-- a lambda of the form y == new and x not in bad -/
theorem cp_of {cells : List (Str × Addr)} {σ : L2.St} {H : Hp} {cs : List (Addr × Obj)} {lst : List Addr} {pb f : Addr} {nS p1 p2 : Str} {bn : List Str} {params : Arguments} {body : Expr} {scope : Scope} (L : LamSc [p1, p2] ["new", "bad"] scope) (fz : Frz nL ["new", "bad"] cells σ H lst cs)
    (s4 : σ[4]? = some (some (.str nS))) (s8 : σ[8]? = some (some (.ref pb))) (hb : H pb = some (.lst (bn.map V.str))) (hlst : pb ∈ lst) (hf : LamAt (addC H cs) f qLam params body scope (cloFrom cells scope.names []))
    (np : p1 ≠ p2 ∧ p1 ≠ "new" ∧ p1 ≠ "bad" ∧ p2 ≠ "new" ∧ p2 ≠ "bad") (k4 : scope.names.lookup ("new" : Str) = some NameKind.free) (k8 : scope.names.lookup ("bad" : Str) = some NameKind.free)
    (hbind : ∀ (us : List Value) (pm cv ctv : Value), us.length = 2 → bindArgs (PySem.W.kla_fn "<lambda>" qLam params body scope (cloFrom cells scope.names []) pm cv ctv) ⟨us, []⟩ = pure ([p1, p2].zip us))
    (hbody : ∀ (A : Around) (outer : List Env) (s : Shared) (H : Hp) (f c' : Addr), Room 1 (A.deeper (lamE qLam scope s.heap.objs.size f c' (cloFrom cells scope.names []))) → PE (lamC P w K mg base [p1, p2, "new", "bad"] A outer s H qLam scope f c' (cloFrom cells scope.names [])) body (tAndV (tOp rEq (tVar 1) (tVar 2)) (tOp (rIn K true) (tVar 0) (tVar 3)))) :
    CallP P w K mg base 2 f (addC H cs) (gH nS bn) := by
  obtain ⟨n12, n14, n18, n24, n28⟩ := np
  obtain ⟨c4, co4, v4, l4, q4, d4, h4, r4⟩ := fz.cell "new" (List.mem_cons_self ..)
  obtain ⟨c8, co8, v8, l8, q8, d8, h8, r8⟩ := fz.cell "bad" (List.mem_cons_of_mem _ (List.mem_cons_self ..))
  obtain ⟨u4, ru4, ev4⟩ := r4 4 _ rfl s4
  obtain ⟨u8, ru8, ev8⟩ := r8 8 _ rfl s8
  subst ev4 ev8
  have ne : c4 ≠ c8 := fun z => by
    rw [z, q8] at q4
    cases q4
    rw [d4] at d8
    cases d8
    obtain ⟨t, e⟩ := ru4
    have e2 : u4 = Value.ref pb := ru8
    rw [e] at e2
    cases e2
  have a4 : addC H cs c4 = some (.frz co4 Tr) := by rw [addC_in q4, h4]; rfl
  have a8 : addC H cs c8 = some (.frz co8 Tr) := by rw [addC_in q8, h8]; rfl
  obtain ⟨ob, qb⟩ := fz.lst pb hlst
  have ab : addC H cs pb = some (.frz ob (.lst (bn.map V.str))) := by rw [addC_in qb, hb]; rfl
  have mem : ∀ y c, (y, c) ∈ cloFrom cells scope.names [] → (y = "new" ∧ c = c4) ∨ (y = "bad" ∧ c = c8) := fun y c h => by
    rcases cloFrom_mem h with z | ⟨z1, z2⟩
    · exact absurd z (by simp)
    · rcases List.mem_cons.mp (L.free _ z1 rfl) with e | e
      · have e : y = "new" := e
        rw [e, l4] at z2
        exact .inl ⟨e, z2⟩
      · have e : y = "bad" := List.mem_singleton.mp e
        rw [e, l8] at z2
        exact .inr ⟨e, z2⟩
  refine callP_of (k := 1) (ps := [p1, p2]) (fv := ["new", "bad"]) (N := [p1, p2, "new", "bad"]) (σ := fun a b => [some (.str a), some (.str b), some (.str nS), some (.ref pb)]) L hf (fun x y c h1 h2 => ?_) (fun y hy => ?_) (fun y c h => ?_) hbind (by simp [n12]) (fun a b us hv i y v e1 e2 e3 => ?_) (fun _ _ => rfl) hbody (fun a b H' hh => ?_)
  · rcases mem x c (PySem.mem_of_lookup h1) with ⟨e1, e2⟩ | ⟨e1, e2⟩
    · rcases mem y c (PySem.mem_of_lookup h2) with ⟨e3, e4⟩ | ⟨e3, e4⟩
      · rw [e1, e3]
      · exact absurd (e2.symm.trans e4) ne
    · rcases mem y c (PySem.mem_of_lookup h2) with ⟨e3, e4⟩ | ⟨e3, e4⟩
      · exact absurd (e4.symm.trans e2) ne
      · rw [e1, e3]
  · have := cloFrom_has (cells := cells) (acc := []) (PySem.mem_of_lookup hy)
    cases q : (cloFrom cells scope.names []).lookup y with
    | some c => exact ⟨c, rfl⟩
    | none =>
      have := List.lookup_eq_none_iff.mp q _ this
      simp at this
  · rcases mem y c h with ⟨e1, e2⟩ | ⟨e1, e2⟩
    · subst e1 e2
      refine ⟨co4, _, a4, d4, fun a b i x hi hx => ?_⟩
      have lt : i < 4 := fm hi
      have : i = 0 ∨ i = 1 ∨ i = 2 ∨ i = 3 := by omega
      rcases this with rfl | rfl | rfl | rfl
      · exact absurd (Option.some.inj hi) n14
      · exact absurd (Option.some.inj hi) n24
      · cases hx
        exact ⟨u4, ru4, rfl⟩
      · exact absurd (Option.some.inj hi) (by decide +kernel)
    · subst e1 e2
      refine ⟨co8, _, a8, d8, fun a b i x hi hx => ?_⟩
      have lt : i < 4 := fm hi
      have : i = 0 ∨ i = 1 ∨ i = 2 ∨ i = 3 := by omega
      rcases this with rfl | rfl | rfl | rfl
      · exact absurd (Option.some.inj hi) n18
      · exact absurd (Option.some.inj hi) n28
      · exact absurd (Option.some.inj hi) (by decide +kernel)
      · cases hx
        exact ⟨u8, ru8, rfl⟩
  · cases hv with
    | cons h1 h2 =>
      cases h2 with
      | cons h2 h3 =>
        cases h3
        have lt : i < 4 := fm e1
        have : i = 0 ∨ i = 1 ∨ i = 2 ∨ i = 3 := by omega
        rcases this with rfl | rfl | rfl | rfl
        · cases e1
          cases e2
          refine ⟨_, h1, ?_⟩
          have z : (p1 == p2) = false := by simpa using n12
          show List.lookup p1 [(p2, _), (p1, _)] = _
          rw [List.lookup_cons, z]
          simp
        · cases e1
          cases e2
          refine ⟨_, h2, ?_⟩
          show List.lookup p2 [(p2, _), (p1, _)] = _
          simp
        · cases e1
          rw [k4] at e3
          cases e3
        · cases e1
          rw [k8] at e3
          cases e3
  · have nb : pb ∉ (cloFrom cells scope.names []).map (·.2) := fun z => by
      obtain ⟨⟨y, c⟩, hm, e⟩ := List.mem_map.mp z
      have e : c = pb := e
      rcases mem y c hm with ⟨_, e2⟩ | ⟨_, e2⟩
      · rw [← e, e2, h4] at hb
        cases hb
      · rw [← e, e2, h8] at hb
        cases hb
    have hpb := hh pb _ ab ⟨_, _, rfl⟩ nb
    refine ⟨.str b, rfl, .str nS, rfl, rfl, _, rfl, ?_⟩
    rw [str_eq]
    by_cases c : b = nS
    · rw [decide_eq_true c, if_pos rfl]
      refine ⟨.str a, rfl, .ref pb, rfl, pb, bn.map V.str, rfl, .inl (.inl (.inr ⟨_, hpb⟩)), rfl, flat_strs bn, ?_, rfl⟩
      unfold gH
      rw [decide_eq_true c, inV_str]
      rfl
    · rw [decide_eq_false c, if_neg (by decide)]
      refine ⟨?_, rfl⟩
      unfold gH
      rw [decide_eq_false c]
      rfl
/-- a lambda that says False -/
theorem cp_no {H : Hp} {f : Addr} {params : Arguments} {body : Expr} {scope : Scope} {clo : List (Str × Addr)} {p1 p2 : Str} (L : LamSc [p1, p2] [] scope) (hcl : clo = []) (hf : LamAt H f qLam params body scope clo) (n12 : p1 ≠ p2) (kf : ∀ y, scope.names.lookup y ≠ some .free)
    (hbind : ∀ (us : List Value) (pm cv ctv : Value), us.length = 2 → bindArgs (PySem.W.kla_fn "<lambda>" qLam params body scope clo pm cv ctv) ⟨us, []⟩ = pure ([p1, p2].zip us))
    (hbody : ∀ (A : Around) (outer : List Env) (s : Shared) (H : Hp) (f c' : Addr), Room 1 (A.deeper (lamE qLam scope s.heap.objs.size f c' clo)) → PE (lamC P w K mg base [p1, p2] A outer s H qLam scope f c' clo) body (tC (.bl false))) : CallP P w K mg base 2 f H gF0 := by
  subst hcl
  refine callP_of (k := 1) (ps := [p1, p2]) (fv := []) (N := [p1, p2]) (σ := fun a b => [some (.str a), some (.str b)]) L hf (fun x y c h1 h2 => (by cases h1)) (fun y hy => absurd hy (kf y)) (fun y c h => absurd h (by simp)) hbind (by simp [n12]) (fun a b us hv i y v e1 e2 e3 => ?_) (fun _ _ => rfl) hbody (fun a b H' hh => ⟨rfl, rfl⟩)
  cases hv with
  | cons h1 h2 =>
    cases h2 with
    | cons h2 h3 =>
      cases h3
      have lt : i < 2 := fm e1
      have : i = 0 ∨ i = 1 := by omega
      rcases this with rfl | rfl
      · cases e1
        cases e2
        refine ⟨_, h1, ?_⟩
        have z : (p1 == p2) = false := by simpa using n12
        show List.lookup p1 [(p2, _), (p1, _)] = _
        rw [List.lookup_cons, z]
        simp
      · cases e1
        cases e2
        refine ⟨_, h2, ?_⟩
        show List.lookup p2 [(p2, _), (p1, _)] = _
        simp
theorem cp_lam1 {cells : List (Str × Addr)} {σ : L2.St} {H : Hp} {cs : List (Addr × Obj)} {lst : List Addr} {pb f : Addr} {nS : Str} {bn : List Str} (fz : Frz nL ["new", "bad"] cells σ H lst cs) (s4 : σ[4]? = some (some (.str nS))) (s8 : σ[8]? = some (some (.ref pb))) (hb : H pb = some (.lst (bn.map V.str))) (hlst : pb ∈ lst)
    (hf : LamAt (addC H cs) f qLam (laP lam1) (laB lam1) (laS lam1) (cloFrom cells (laS lam1).names [])) : CallP P w K mg base 2 f (addC H cs) (gH nS bn) :=
  cp_of (p1 := "name") (p2 := "image") ls1 fz s4 s8 hb hlst hf (by decide +kernel) (by decide +kernel) (by decide +kernel) (fun us _ _ _ hl => match us, hl with | [_, _], _ => rfl) fun A outer s H f c' hr => pe_and (pe_cmpR op_eq (pv 1) (pv 2) (nomark _)) (pe_one (pe_cmpR (op_niK (K' := K) rfl) (pv 0) (pv 3) (by rfl)))
theorem cp_lam2 {cells : List (Str × Addr)} {σ : L2.St} {H : Hp} {cs : List (Addr × Obj)} {lst : List Addr} {pb f : Addr} {nS : Str} {bn : List Str} (fz : Frz nL ["new", "bad"] cells σ H lst cs) (s4 : σ[4]? = some (some (.str nS))) (s8 : σ[8]? = some (some (.ref pb))) (hb : H pb = some (.lst (bn.map V.str))) (hlst : pb ∈ lst)
    (hf : LamAt (addC H cs) f qLam (laP lam2) (laB lam2) (laS lam2) (cloFrom cells (laS lam2).names [])) : CallP P w K mg base 2 f (addC H cs) (gH nS bn) :=
  cp_of (p1 := "name") (p2 := "told") ls2 fz s4 s8 hb hlst hf (by decide +kernel) (by decide +kernel) (by decide +kernel) (fun us _ _ _ hl => match us, hl with | [_, _], _ => rfl) fun A outer s H f c' hr => pe_and (pe_cmpR op_eq (pv 1) (pv 2) (nomark _)) (pe_one (pe_cmpR (op_niK (K' := K) rfl) (pv 0) (pv 3) (by rfl)))
theorem cp_lam3 {cells : List (Str × Addr)} {H : Hp} {f : Addr} (hf : LamAt H f qLam (laP lam3) (laB lam3) (laS lam3) (cloFrom cells (laS lam3).names [])) : CallP P w K mg base 2 f H gF0 :=
  cp_no (p1 := "one") (p2 := "two") ls3 rfl hf (by decide +kernel) (fun y h => by have := (show ∀ z ∈ (laS lam3).names, z.2 ≠ .free by decide +kernel) _ (PySem.mem_of_lookup h); exact this rfl) (fun us _ _ _ hl => match us, hl with | [_, _], _ => rfl) fun A outer s H f c' hr => pe_bl
end
end Mx
set_option Elab.async false
set_option linter.all false
set_option maxRecDepth 100000
set_option maxHeartbeats 1000000
namespace Mx
open PySem PySem.Spec PyProof.Rows L2 Evl TL
open PySem.W (Datum DatumOrd Tup SomeDatum)
/-! ### waves -/
open LamX (CodeO TabS Tabs ExtN TabB)
structure FunL (K : PySem.W.Frag) (x qual : Str) (st : Stmt) (f : Addr) (fd : FuncData) (c : Addr) : Prop where
  ex : ∃ (oc : Value) (od : Option Addr) (kV doc pm : Value) (an : Option Addr) (ct : Value) (osl : Array (Option Value)),
    fd = PySem.W.fnOf x qual (defArgs st) (defBody st) (defScope st) .none kV doc pm an (.ref c) ct ∧ K.lookup f = some ⟨oc, od, .func fd, osl⟩ ∧ PySem.W.codeIn K (.ref c) qual = true
  kp : PySem.W.keepIn K (.ref f) = true
theorem FunL.okX {P : Program} {w : World} {K : PySem.W.Frag} {mg : Str → Option Value} {base : Heap} {x qual : Str} {st : Stmt} {f c : Addr} {fd : FuncData} {N ps : List Str} {k : Nat} {sp : Sp} (F : FunL K x qual st f fd c) (S : FnScope N ps (defScope st)) (len : ∀ vs H Q E, sp vs H Q E → vs.length = ps.length)
    (hbody : ∀ (A : Around) (outer : List Env) (s : Shared) (H : Hp) (vs : List V) (Q : VK) (E : XK), Room k (A.deeper (envOfC qual (defScope st) s.heap.objs.size f (.ref c))) → sp vs H Q E →
      ∃ t, PSs (cxOf (L2.CX P w) P w K mg base N qual (defScope st) f (.ref c) A outer s H E) (defBody st) t ∧ t { nx := fun _ H' => Q .non H', rt := Q } (start N vs) H) : FnOk P w K mg base (L2.CX P w) (k + 1) f fd ps sp := by
  obtain ⟨oc, od, kV, doc, pm, an, ct, osl, rfl, lk, hcd⟩ := F.ex
  exact fn_of lk hcd S len fun A outer s H vs Q E hr hsp => hbody A outer s H vs Q E hr hsp
/-! heaps: all but the tables and what is new -/
theorem enx {H H' : Hp} (e : Ex H H') : ExtN H H' := fun b o h _ => e b o h
theorem en_kp {H0 H H' : Hp} {B : List Addr} (e : ExtN H0 H) (k : Kp B H H') (n : ∀ a ∈ B, H0 a = none) : ExtN H0 H' := fun b o h t => k b o (fun z => by rw [n b z] at h; cases h) (e b o h t)
theorem DAt.en {H H' : Hp} {a : Addr} {m : Mst} (h : DAt H a m) (e : ExtN H H') : DAt H' a m := by
  obtain ⟨d, l, e1, h1, h2⟩ := h
  exact ⟨d, l, e1, e _ _ h1 (fun _ z => by cases z), h2⟩
theorem RoAt.en {C : Addr} {H H' : Hp} {A : RA} {F : Cfg} {d : Nat → Addr} {M : Nat → Mst} {t w : Nat} {st : Str} {bad : List Nat} (h : RoAt C H A F d M t w st bad) (e : ExtN H H') : RoAt C H' A F d M t w st bad :=
  ⟨e _ _ h.ins (fun _ z => by cases z), e _ _ h.fl (fun _ z => by cases z), fun i hi => (h.ms i hi).en e, h.df, e _ _ h.sz (fun _ z => by cases z), e _ _ h.dn (fun _ z => by cases z), e _ _ h.fa (fun _ z => by cases z), e _ _ h.be (fun _ z => by cases z), h.ne⟩
theorem kp_back {B : List Addr} {H H' : Hp} {cs : List (Addr × Obj)} (k : Kp B (addC H cs) H') : Kp B H (backC H cs H') := fun a o n h => by
  cases q : cs.lookup a with
  | none => rw [backC_out q]; exact k a o n (by rw [addC_out q]; exact h)
  | some x => rw [backC_in q]; exact h
section
variable {C : Addr} {H H' : Hp} {A : RA} {F : Cfg} {d d' : Nat → Addr} {M M' : Nat → Mst} {t w t' w' : Nat} {st st' : Str} {bad bad' : List Nat} {cs : List (Addr × Obj)} {lst : List Addr}
/-- what stands frozen beside a rollout -/
structure Bes (H : Hp) (A : RA) (lst : List Addr) : Prop where
  l : ∀ p ∈ lst, ∃ xs, H p = some (.lst xs)
  n : ∀ p ∈ lst, p ≠ A.ps ∧ p ≠ A.pd ∧ p ≠ A.pe
theorem Bes.out (b : Bes H A lst) (hd : ∀ a o, cs.lookup a = some o → H a = none ∨ a ∈ lst) {a : Addr} {u : HO} (h : H a = some u) (hu : (∀ xs, u ≠ .lst xs) ∨ a = A.ps ∨ a = A.pd ∨ a = A.pe) : cs.lookup a = none := by
  cases q : cs.lookup a with
  | none => rfl
  | some o =>
    rcases hd a o q with z | z
    · rw [z] at h; cases h
    · obtain ⟨xs, e⟩ := b.l a z
      obtain ⟨n1, n2, n3⟩ := b.n a z
      rcases hu with hu | hu | hu | hu
      · rw [h] at e; exact absurd (Option.some.inj e) (hu xs)
      · exact absurd hu n1
      · exact absurd hu n2
      · exact absurd hu n3
theorem RoAt.addC (ro : RoAt C H A F d M t w st bad) (b : Bes H A lst) (hd : ∀ a o, cs.lookup a = some o → H a = none ∨ a ∈ lst) : RoAt C (addC H cs) A F d M t w st bad := by
  have kp : ∀ {a : Addr} {u : HO}, H a = some u → ((∀ xs, u ≠ .lst xs) ∨ a = A.ps ∨ a = A.pd ∨ a = A.pe) → Mx.addC H cs a = some u := fun h hu => by rw [addC_out (b.out hd h hu)]; exact h
  refine ⟨kp ro.ins (.inl fun _ z => by cases z), kp ro.fl (.inl fun _ z => by cases z), fun i hi => ?_, ro.df, kp ro.sz (.inr (.inl rfl)), kp ro.dn (.inr (.inr (.inl rfl))), kp ro.fa (.inr (.inr (.inr rfl))), kp ro.be (.inl fun _ z => by cases z), ro.ne⟩
  obtain ⟨d2, l, e1, h1, h2⟩ := ro.ms i hi
  cases e1
  exact ⟨_, l, rfl, kp h1 (.inl fun _ z => by cases z), h2⟩
theorem RoAt.mutOut (ro : RoAt C H A F d M t w st bad) (b : Bes H A lst) (hd : ∀ a o, cs.lookup a = some o → H a = none ∨ a ∈ lst) : ∀ a ∈ A.mut, cs.lookup a = none := fun a h => by
  rcases List.mem_cons.mp h with z | h
  · rw [z]; exact b.out hd ro.ins (.inl fun _ z => by cases z)
  rcases List.mem_cons.mp h with z | h
  · rw [z]; exact b.out hd ro.fl (.inl fun _ z => by cases z)
  rcases List.mem_cons.mp h with z | h
  · rw [z]; exact b.out hd ro.dn (.inr (.inr (.inl rfl)))
  · rw [List.mem_singleton.mp h]; exact b.out hd ro.fa (.inr (.inr (.inr rfl)))
theorem RoAt.backC (ro' : RoAt C H' A F d' M' t' w' st' bad') (k : Kp A.mut (Mx.addC H cs) H') (mo : ∀ a ∈ A.mut, cs.lookup a = none) : RoAt C (backC H cs H') A F d' M' t' w' st' bad' := by
  have kp : ∀ {a : Addr} {u : HO}, H' a = some u → (∀ o x, u ≠ .frz o x) → Mx.backC H cs H' a = some u := fun {a u} h hu => by
    cases q : cs.lookup a with
    | none => rw [backC_out q]; exact h
    | some o =>
      have : H' a = some (.frz o ((H a).getD Tr)) := k a _ (fun z => by rw [mo a z] at q; cases q) (addC_in q)
      rw [h] at this
      exact absurd (Option.some.inj this) (hu _ _)
  refine ⟨kp ro'.ins (fun _ _ z => by cases z), kp ro'.fl (fun _ _ z => by cases z), fun i hi => ?_, ro'.df, kp ro'.sz (fun _ _ z => by cases z), kp ro'.dn (fun _ _ z => by cases z), kp ro'.fa (fun _ _ z => by cases z), kp ro'.be (fun _ _ z => by cases z), ro'.ne⟩
  obtain ⟨d2, l, e1, h1, h2⟩ := ro'.ms i hi
  cases e1
  exact ⟨_, l, rfl, kp h1 (fun _ _ z => by cases z), h2⟩
theorem RoAt.noT (ro : RoAt C H A F d M t w st bad) : ∀ a ∈ A.mut, (∀ ps, H a ≠ some (.tbl ps)) ∧ ∀ φ, H a ≠ some (.ext φ) := fun a h => by
  rcases List.mem_cons.mp h with z | h
  · rw [z, ro.ins]; exact ⟨fun _ z => (by cases z), fun _ z => (by cases z)⟩
  rcases List.mem_cons.mp h with z | h
  · rw [z, ro.fl]; exact ⟨fun _ z => (by cases z), fun _ z => (by cases z)⟩
  rcases List.mem_cons.mp h with z | h
  · rw [z, ro.dn]; exact ⟨fun _ z => (by cases z), fun _ z => (by cases z)⟩
  · rw [List.mem_singleton.mp h, ro.fa]; exact ⟨fun _ z => (by cases z), fun _ z => (by cases z)⟩
end
theorem LamAt.addC {H : Hp} {cs : List (Addr × Obj)} {f : Addr} {q : Str} {params : Arguments} {body : Expr} {scope : Scope} {clo : List (Str × Addr)} (h : LamAt H f q params body scope clo) (hd : ∀ a o, cs.lookup a = some o → H a = none ∨ ∃ xs, H a = some (.lst xs)) : LamAt (addC H cs) f q params body scope clo := by
  obtain ⟨pm, ctv, c', t, h1, h2⟩ := h
  have kp : ∀ {a : Addr} {u : HO}, H a = some u → (∀ xs, u ≠ .lst xs) → Mx.addC H cs a = some u := fun {a u} h hu => by
    cases q : cs.lookup a with
    | none => rw [addC_out q]; exact h
    | some o =>
      rcases hd a o q with z | ⟨xs, z⟩
      · rw [z] at h; cases h
      · rw [h] at z; exact absurd (Option.some.inj z) (hu xs)
  exact ⟨pm, ctv, c', t, kp h1 (fun _ z => by cases z), kp h2 (fun _ z => by cases z)⟩
section
variable {P : Program} {w : World} {K : PySem.W.Frag} {mg : Str → Option Value} {base : Heap} {C : Addr}
theorem t_wavF {N fv : List Str} {cells : List (Str × Addr)} {σ : L2.St} {H : Hp} {to : TE} {Q : VK} {T : List (Addr × Str)} {q : Str} {params : Arguments} {body : Expr} {scope : Scope} {clo : List (Str × Addr)} {A : RA} {F : Cfg} {d : Nat → Addr} {M M0 : Nat → Mst} {s : Wst} {g : Str → Str → Bool} {pc : Addr} {cl : List (Str × Nat)} {lst : List Addr} {i : Nat}
    (hto : Ev to σ H (.ref A.x)) (ro : RoAt C H A F d M s.t s.w s.st s.bad) (o : Ini F M0) (sts : Sts F M0 M s.t false) (ht : s.t ≤ F.n) (hb : s.bad.length ≤ 7) (hst : s.st = "running") (Tb : Tabs T H) (bs : Bes H A lst) (hs : σ[i]? = some (some (.ref pc))) (hpc : H pc = some (.dK (dk (fun c : Nat => V.int (c : Int)) cl)))
    (hC : ∀ (f : Addr) (H2 : Hp) (cs : List (Addr × Obj)), (∀ p ∈ lst, H2 p = H p) → LamAt (addC H2 cs) f q params body scope clo → Frz N fv cells σ H2 lst cs → CallP P w K mg base 2 f (addC H2 cs) g)
    (k : ∀ H' d' M', (∀ H0, ExtN H0 H → (∀ a ∈ A.mut, H0 a = none) → ExtN H0 H') → Tabs T H' → RoAt C H' A F d' M' (wNext F g s).t (wNext F g s).w (wNext F g s).st (wNext F g s).bad → Sts F M0 M' (wNext F g s).t (decide ((wNext F g s).st = "back")) → Q .non H') :
    tMethF N fv cells C "wave" (spWave P w K mg base C) to (tCons (tLamV T q params body scope clo) (tCons (tVar i) tNil)) σ H Q :=
  hto H (Ex.refl H) _ fun H1 e1 => ⟨A.x, A.dx, _, rfl, e1 _ _ ro.ins, rfl, Tb.ext e1, fun f H2 eN T2 hf => ea_cons (ev_var hs) ea_nil H2 (Ex.refl _) _ fun H3 e3 => by
    have e13 : ExtN H H3 := (enx e1).trans (eN.trans (enx e3))
    have ro3 := ro.en e13
    have l3 : ∀ p ∈ lst, H3 p = H p := fun p hp => by
      obtain ⟨xs, e⟩ := bs.l p hp
      rw [e]
      exact e13 _ _ e (fun _ z => by cases z)
    have b3 : Bes H3 A lst := ⟨fun p hp => by rw [l3 p hp]; exact bs.l p hp, bs.n⟩
    refine ⟨lst, b3.l, fun cs fz => ?_⟩
    have mo := ro3.mutOut b3 fz.dom
    have hf3 := (hf.ex e3).addC (cs := cs) fun a o hq => (fz.dom a o hq).elim .inl fun z => .inr (b3.l a z)
    refine ⟨A, F, d, M, M0, s, f, g, pc, cl, rfl, ro3.addC b3 fz.dom, o, sts, ht, hb, hst, hC f H3 cs l3 hf3 fz, ?_, fun H' d' M' kp ro' st' => k _ d' M' (fun H0 x n => en_kp (x.trans e13) (kp_back kp) n) ?_ (ro'.backC kp mo) st'⟩
    · have h3 := e13 _ _ hpc (fun _ z => by cases z)
      rw [addC_out (b3.out fz.dom h3 (.inl fun _ z => by cases z))]
      exact h3
    · have nT := ro3.noT
      intro p hp
      obtain ⟨ps, h1, h2, h3⟩ := (T2.ext e3) p hp
      have kb := kp_back kp
      refine ⟨ps, kb _ _ (fun z => (nT _ z).1 _ h1) h1, h2, fun pos cv hc => ?_⟩
      obtain ⟨c, e4, e5⟩ := h3 pos cv hc
      exact ⟨c, e4, kb _ _ (fun z => (nT _ z).2 _ e5) e5⟩⟩
theorem t_runF {N fv : List Str} {cells : List (Str × Addr)} {σ : L2.St} {H : Hp} {to tc : TE} {Q : VK} {T : List (Addr × Str)} {q : Str} {params : Arguments} {body : Expr} {scope : Scope} {clo : List (Str × Addr)} {A : RA} {F : Cfg} {d : Nat → Addr} {M0 : Nat → Mst} {g : Str → Str → Bool} {lst : List Addr}
    (hto : Ev to σ H (.ref A.x)) (ro : RoAt C H A F d M0 0 0 "running" []) (o : Ini F M0) (Tb : Tabs T H) (bs : Bes H A lst)
    (hc : ∀ H1, ExtN H H1 → EvP tc σ H1 fun v H2 => ∃ pc cl, v = .ref pc ∧ H2 pc = some (.dK (dk (fun c : Nat => V.int (c : Int)) cl)) ∧ pc ≠ A.pf)
    (hC : ∀ (f : Addr) (H2 : Hp) (cs : List (Addr × Obj)), (∀ p ∈ lst, H2 p = H p) → LamAt (addC H2 cs) f q params body scope clo → Frz N fv cells σ H2 lst cs → CallP P w K mg base 2 f (addC H2 cs) g)
    (k : ∀ j H' d' M', (∀ H0, ExtN H0 H → (∀ a ∈ A.mut, H0 a = none) → ExtN H0 H') → Tabs T H' → (∀ i, i < j → (itW F g i).st = "running") → (itW F g j).st ≠ "running" → RoAt C H' A F d' M' (itW F g j).t (itW F g j).w (itW F g j).st (itW F g j).bad → Sts F M0 M' (itW F g j).t (decide ((itW F g j).st = "back")) → Q .non H') :
    tMethF N fv cells C "run" (spRun P w K mg base C) to (tCons (tLamV T q params body scope clo) (tCons tc tNil)) σ H Q :=
  hto H (Ex.refl H) _ fun H1 e1 => ⟨A.x, A.dx, _, rfl, e1 _ _ ro.ins, rfl, Tb.ext e1, fun f H2 eN T2 hf => hc H2 ((enx e1).trans eN) H2 (Ex.refl _) _ fun v H3 e3 ⟨pc, cl, ev, hpc, npc⟩ => by
    subst ev
    have e13 : ExtN H H3 := (enx e1).trans (eN.trans (enx e3))
    have ro3 := ro.en e13
    have l3 : ∀ p ∈ lst, H3 p = H p := fun p hp => by
      obtain ⟨xs, e⟩ := bs.l p hp
      rw [e]
      exact e13 _ _ e (fun _ z => by cases z)
    have b3 : Bes H3 A lst := ⟨fun p hp => by rw [l3 p hp]; exact bs.l p hp, bs.n⟩
    refine ⟨lst, b3.l, fun cs fz => ?_⟩
    have mo := ro3.mutOut b3 fz.dom
    have hf3 := (hf.ex e3).addC (cs := cs) fun a o hq => (fz.dom a o hq).elim .inl fun z => .inr (b3.l a z)
    refine ⟨A, F, d, M0, f, g, pc, cl, rfl, ro3.addC b3 fz.dom, o, hC f H3 cs l3 hf3 fz, ?_, npc, fun j H' d' M' hj1 hj2 kp ro' st' => k j _ d' M' (fun H0 x n => en_kp (x.trans e13) (kp_back kp) n) ?_ hj1 hj2 (ro'.backC kp mo) st'⟩
    · rw [addC_out (b3.out fz.dom hpc (.inl fun _ z => by cases z))]
      exact hpc
    · have nT := ro3.noT
      intro p hp
      obtain ⟨ps, h1, h2, h3⟩ := (T2.ext e3) p hp
      have kb := kp_back kp
      refine ⟨ps, kb _ _ (fun z => (nT _ z).1 _ h1) h1, h2, fun pos cv hc => ?_⟩
      obtain ⟨c, e4, e5⟩ := h3 pos cv hc
      exact ⟨c, e4, kb _ _ (fun z => (nT _ z).2 _ e5) e5⟩⟩
structure HasRo (P : Program) (w : World) (K : PySem.W.Frag) (mg : Str → Option Value) (base : Heap) (C : Addr) : Prop where
  mgC : mg "Rollout" = some (.ref C)
  ex : ∃ (f : Addr) (fd : FuncData), Mk K C f ∧ Binds K fd ["self", "fleet", "image", "sizes", "allowed"] [] ∧ FnOk P w K mg base CX0 5 f fd ["self", "fleet", "image", "sizes", "allowed"] (spInitR C)
theorem pe_roll {X : Cx} {C : Addr} {j : Nat} {p pos : Pos} {e : Expr} {es : List Expr} {t : TA} (F : HasRo X.prog X.w X.K X.mg X.base C) (hr : Room j X.A) (hg : Gl X "Rollout") (ha : PA X (e :: es) t) (hj : 6 ≤ j := by decide)
    (he : starEach (e :: es) X.env = (false, eval e X.env) :: starEach es X.env := by rfl) (hpl : (backTo pos (starEach es X.env)).any (·.1) = false := by rfl) : PE X (.Call (.Name "Rollout" p) (e :: es) [] pos) (tMake C (spInitR C) [] E0 t) := by
  obtain ⟨f, fd, hM, hb, G⟩ := F.ex
  exact pe_make hM G (hr.mono hj) hg F.mgC hb .nil pass0 ha (by decide +kernel) he hpl
theorem evp_roll {σ : L2.St} {H : Hp} {tf ti ts ta : TE} (Rp : Addr → Prop) {F : Cfg} {d : Nat → Addr} {M : Nat → Mst} (hf : EvP tf σ H fun v H2 => ∃ q, v = .ref q ∧ H q = none ∧ H2 q = some (.dK (dk V.ref (flK nm F.n d)))) (hi : Ev ti σ H (.str (imgS F.img))) (hs : ∀ H1, Ex H H1 → EvP ts σ H1 fun v H2 => ∃ ps, v = .ref ps ∧ Rp ps ∧ H2 ps = some (.lst (F.sz.map fun s => V.int ((s : Nat) : Int))))
    (ha : Ev ta σ H (.int F.al)) (hm : ∀ i, i < F.n → DAt H (d i) (M i)) (o : Ini F M) : EvP (tMake C (spInitR C) [] E0 (tCons tf (tCons ti (tCons ts (tCons ta tNil))))) σ H fun v H2 => ∃ A : RA, v = .ref A.x ∧ RoAt C H2 A F d M 0 0 "running" [] ∧ (∀ a ∈ A.mut, H a = none) ∧ Rp A.ps := fun H1 e Q q =>
  hf H1 e _ fun v H2 e2 ⟨pf, ev, npf, hpf⟩ => hi H2 (e.trans e2) _ fun H3 e3 => hs H3 (e.trans (e2.trans e3)) H3 (Ex.refl _) _ fun v2 H4 e4 ⟨ps, ev2, hrp, hps⟩ => ha H4 (e.trans (e2.trans (e3.trans e4))) _ fun H5 e5 x dx nx ndx ndxx => by
    subst ev ev2
    have e15 := e2.trans (e3.trans (e4.trans e5))
    have e05 := e.trans e15
    have ek : Ex H5 (upd (upd H5 dx (.own x)) x (.ins C dx [])) := (Ex.new ndx).trans (Ex.new (by rw [upd_ne ndxx.symm]; exact nx))
    refine ⟨x, dx, pf, ps, F, d, M, rfl, upd_same, ek _ _ ((e3.trans (e4.trans e5)) _ _ hpf), fun i hi => (hm i hi).ex (e05.trans ek), fun i hi z => ?_, ek _ _ (e5 _ _ hps), o, fun H' pd pe pb nd ne nb kp ro => ⟨rfl, ?_⟩⟩
    · obtain ⟨d2, l, e1, h1, _⟩ := hm i hi
      cases e1
      rw [z, npf] at h1
      cases h1
    · have fb : ∀ {a : Addr}, upd (upd H5 dx (.own x)) x (.ins C dx []) a = none → H a = none := fun h => fresh_back (e05.trans ek) h
      have ex1 : Ex H1 H' := fun a u h => kp a u (fun z => by
        rw [List.mem_singleton.mp z] at h
        have := e15 _ _ h
        rw [nx] at this
        cases this) (ek _ _ (e15 _ _ h))
      refine q _ H' ex1 ⟨⟨x, dx, pf, ps, pd, pe, pb⟩, rfl, ro, fun a ha => ?_, hrp⟩
      rcases List.mem_cons.mp ha with z | ha
      · rw [z]; exact fresh_back e05 nx
      rcases List.mem_cons.mp ha with z | ha
      · rw [z]; exact npf
      rcases List.mem_cons.mp ha with z | ha
      · rw [z]; exact fb nd
      · rw [List.mem_singleton.mp ha]; exact fb ne
end
end Mx
set_option Elab.async false
set_option linter.all false
set_option maxRecDepth 100000
set_option maxHeartbeats 1000000
namespace Mx
open PySem PySem.Spec PyProof.Rows L2 Evl TL
open PySem.W (Datum DatumOrd Tup SomeDatum)
/-! ### the law -/
open LamX (CodeO TabS Tabs ExtN TabB)
abbrev XL (P : Program) (w : World) (K : PySem.W.Frag) (mg : Str → Option Value) (base : Heap) (f c : Addr) (Ar : Around) (outer : List Env) (s : Shared) (H : Hp) (E : XK) : Cx := cxOf (L2.CX P w) P w K mg base nL "law" (defScope sLaw) f (.ref c) Ar outer s H E
structure HL (P : Program) (w : World) (K : PySem.W.Frag) (mg : Str → Option Value) (base : Heap) (C : Addr) : Prop where
  tape : Has P w K mg base CX0 1 "_law_tape" ["script"] (spTape P w K)
  take : Has P w K mg base CX0 1 "_law_take" ["tape", "many"] (spTake P w)
  wim : Has P w K mg base CX0 1 "write_image" ["files"] spWim
  dig : Has P w K mg base CX0 2 "digest" ["text"] spDig
  whl : Has P w K mg base CX0 4 "whole_numbers" ["disk"] spWhl
  inst : Has P w K mg base CX0 3 "install_writes" ["disk", "image"] (spInst K)
  new : Has P w K mg base CX0 4 "new_disk" ["image"] spNew
  cur : Has P w K mg base CX0 4 "current" ["disk"] spCur
  aft : Has P w K mg base CX0 2 "after" ["disk", "writes", "count"] (spAft K)
  ims : Has P w K mg base CX0 5 "images_on" ["fleet"] spIms
  rol : HasRo P w K mg base C
  wave : HasM P w K mg base CX0 6 C "wave" ["self", "health", "cuts"] (spWave P w K mg base C)
  run : HasM P w K mg base CX0 7 C "run" ["self", "health", "cuts"] (spRun P w K mg base C)
theorem pe_frzN {X : Cx} {e : Expr} {t : TE} (h : PE X e t) : PE X e (fun σ H Q => t σ H fun x H1 => ∃ d u, x = .ref d ∧ H1 d = some u ∧ Mut (some u) ∧ ∀ od, Q x (upd H1 d (.frz od u))) := by
  refine ⟨fun pins s σ H Q I hw => ?_⟩
  refine thn (h.run pins s σ H _ I hw) fun v s1 ⟨x, H1, I1, r, d, u, ex, hd, mu, q⟩ => ?_
  obtain ⟨od, I2⟩ := I1.lock hd mu
  exact ⟨x, _, I2, r, q od⟩
theorem call_len_seqK {X : Cx} {K' : PySem.W.Frag} (hK : X.K = K') : CallR X (.builtin "len") (rLenS K') := by
  subst hK
  exact call_len_seq
/-! what the law has laid ahead of the rollouts -/
structure LV where
  po : Addr
  pn : Addr
  pfl : Addr
  pbe : Addr
  pbd : Addr
  pc : Addr
  ps : Addr
  n : Nat
  d : Nat → Addr
  M : Nat → Mst
  hd : Nat → List Nat
  tb : Nat → Addr
  bl : List Nat
  cl : List (Str × Nat)
  sz : List Nat
  al : Nat
abbrev iNew : List Nat := [2, 3]
def LV.F (U : LV) : Cfg := ⟨U.n, iNew, U.sz, (U.al : Int), fun i => (U.M i).c⟩
def LV.bn (U : LV) : List Str := U.bl.map nm
def LV.g (U : LV) : Str → Str → Bool := gH (imgS iNew) U.bn
def LV.p (U : LV) (i : Nat) : Bool := decide (nm i ∈ U.bn)
structure LvOk (H : Hp) (U : LV) : Prop where
  old : H U.po = some (.lst [.str (imgS [0]), .str (imgS [1])])
  nms : H U.pn = some (.lst ((List.range U.n).map fun i => V.str (nm i)))
  fl : H U.pfl = some (.dK (dk V.ref (flK nm U.n U.d)))
  ms : ∀ i, i < U.n → DAt H (U.d i) (U.M i)
  be : H U.pbe = some (.dK (dk V.ref (flK nm U.n U.tb)))
  bt : ∀ i, i < U.n → H (U.tb i) = some (.tup [.int ((U.M i).c : Int), .str (imgS (U.hd i))])
  bd : H U.pbd = some (.lst (U.bn.map V.str))
  ct : H U.pc = some (.dK (dk (fun c : Nat => V.int (c : Int)) U.cl))
  sz : H U.ps = some (.lst (U.sz.map fun s => V.int ((s : Nat) : Int)))
  ini : Ini U.F U.M
  g : ∀ i, i < U.n → (U.M i).g (U.M i).c = some (U.hd i)
  top : ∀ i, i < U.n → ∀ j, ((U.M i).g j).isSome = true → j ≤ 2
  wl : ∀ i, i < U.n → 1 ≤ (wG (U.M i).g).length
  n2 : 2 ≤ U.n
theorem LvOk.en {H H' : Hp} {U : LV} (h : LvOk H U) (e : ExtN H H') : LvOk H' U :=
  ⟨e _ _ h.old (fun _ z => by cases z), e _ _ h.nms (fun _ z => by cases z), e _ _ h.fl (fun _ z => by cases z), fun i hi => (h.ms i hi).en e, e _ _ h.be (fun _ z => by cases z), fun i hi => e _ _ (h.bt i hi) (fun _ z => by cases z), e _ _ h.bd (fun _ z => by cases z), e _ _ h.ct (fun _ z => by cases z), e _ _ h.sz (fun _ z => by cases z), h.ini, h.g, h.top, h.wl, h.n2⟩
theorem LvOk.n7 {H : Hp} {U : LV} (h : LvOk H U) : U.n ≤ 7 := h.ini.c.n7
def sgL (a pt : Addr) (U : LV) (v9 : Option V) (xs : List (Option V)) : L2.St := [some (.ref a), some (.ref pt), some (.ref U.po), none, some (.str (imgS iNew)), some (.ref U.pn), some (.ref U.pfl), some (.ref U.pbe), some (.ref U.pbd), v9, some (.ref U.pc), some (.ref U.ps), some (.int (U.al : Int))] ++ xs
def hdW (U : LV) (s : Wst) (i : Nat) : List Nat := if i < s.t ∧ s.st ≠ "back" then iNew else U.hd i
theorem sts_im {H : Hp} {U : LV} {M' : Nat → Mst} {s : Wst} (h : LvOk H U) (st : Sts U.F U.M M' s.t (decide (s.st = "back"))) {i : Nat} (hi : i < U.n) : (M' i).O ∧ (M' i).g (M' i).c = some (hdW U s i) := by
  unfold hdW
  by_cases c : i < s.t
  · obtain ⟨m, tk, em⟩ := (st i hi).1 c
    by_cases b : s.st = "back"
    · rw [if_neg (fun z => z.2 b), em, if_pos (decide_eq_true b)]
      have hg := tk.x _ _ (h.g i hi)
      have o : Ok m.g m.c 0 N0 := tk.o
      exact ⟨(⟨o.g, by show (m.g (U.M i).c).isSome = true; rw [hg]; rfl, o.z, o.n, o.f, o.f3⟩ : Ok m.g (U.M i).c 0 N0), hg⟩
    · rw [if_pos ⟨c, b⟩, em, if_neg (by rw [decide_eq_false b]; decide)]
      exact ⟨tk.o, tk.c⟩
  · have e := (st i hi).2 (by omega)
    rw [if_neg (fun z => c z.1), e]
    exact ⟨h.ini.o i hi, h.g i hi⟩
/-- too many that are not well: the names -/
theorem LV.gp (U : LV) (i : Nat) : (!U.g (nm i) (imgS iNew)) = U.p i := by
  unfold LV.g gH LV.p
  rw [decide_eq_true rfl]
  simp
theorem itW_bad {H : Hp} {U : LV} (h : LvOk H U) : ∀ k, (itW U.F U.g k).bad = (List.range (itW U.F U.g k).t).filter U.p
  | 0 => rfl
  | k + 1 => by
    have ih := itW_bad h k
    have le := (itW_le (g := U.g) h.ini k).1
    show bdNx U.F U.g (itW U.F U.g k) = (List.range (tNx U.F (itW U.F U.g k))).filter U.p
    unfold bdNx
    have tt : (itW U.F U.g k).t ≤ tNx U.F (itW U.F U.g k) := by unfold tNx; omega
    generalize (itW U.F U.g k).t = t at *
    generalize tNx U.F (itW U.F U.g k) = t' at *
    have e1 : List.range t' = List.range t ++ List.range' t (t' - t) := by
      rw [List.range_eq_range', List.range_eq_range']
      have := List.range'_append (s := 0) (m := t) (n := t' - t) (step := 1)
      simp only [Nat.one_mul, Nat.zero_add] at this
      rw [this, show t + (t' - t) = t' by omega]
    rw [e1, List.filter_append, ih]
    congr 1
    exact List.filter_congr fun i _ => U.gp i
theorem mem_nm {n t i : Nat} (n7 : n ≤ 7) (ht : t ≤ n) (hi : i < n) : decide (nm i ∈ (List.range t).map nm) = decide (i < t) := by
  refine decide_eq_decide.mpr ⟨fun z => ?_, fun z => List.mem_map.mpr ⟨i, List.mem_range.mpr z, rfl⟩⟩
  obtain ⟨j, hj, e⟩ := List.mem_map.mp z
  have hj := List.mem_range.mp hj
  have := nm_inj n7 j (by omega) i hi e
  omega
section
variable {P : Program} {w : World} {K : PySem.W.Frag} {mg : Str → Option Value} {base : Heap} {C f c PT : Addr} {Ar : Around} {outer : List Env} {s : Shared} {H0 : Hp} {E : XK}
theorem evd_tupv {σ : L2.St} {H : Hp} {te : TE} {a : Addr} {x : Int} {y : Str} (h : Ev te σ H (.ref a)) (ha : H a = some (.tup [.int x, .str y])) : EvD te K σ H (x, y) := evd_v h (dt_pair (st_of ha) dt_int dt_str)
theorem w_in (T : TxtR K mg C) (B : BtM mg) (L : HL P w K mg base C) (hr : Room 7 (Ar.deeper (envOfC "law" (defScope sLaw) s.heap.objs.size f (.ref c)))) :
    ∃ t, PS (XL P w K mg base f c Ar outer s H0 E) (bWh.getD 7 psS) t ∧ ∀ (a pt : Addr) (U : LV) (v9 : Option V) (A : RA) (ptk ptd : Addr) (fa : Int) (wv : Int) (v18 v19 v21 : Option V) (S : Wst) (d' : Nat → Addr) (M' : Nat → Mst) (H : Hp) (D : Ends), LvOk H U → RoAt C H A U.F d' M' S.t S.w S.st S.bad → Sts U.F U.M M' S.t (decide (S.st = "back")) → S.t ≤ U.n →
      H ptk = some (.lst ((List.range S.t).map fun i => V.str (nm i))) → H ptd = some (.dK (dk dgV (flK nm U.n fun i => some (hdW U S i)))) →
      (∀ v9 v21 H1, Ex H H1 → D.nx (sgL a pt U v9 [some (.ref A.x), some (.ref ptk), some (.int fa), some (.str S.st), some (.int wv), v18, v19, some (.ref ptd), v21, none, none]) H1) →
      t D (sgL a pt U v9 [some (.ref A.x), some (.ref ptk), some (.int fa), some (.str S.st), some (.int wv), v18, v19, some (.ref ptd), v21, none, none]) H := by
  have hu := hu_of hr
  refine ⟨_, ps_for (passes_of rfl) rfl (pi_list (pv 5)) (pg_name (i := 9) scLaw.nd rfl (Or.inl rfl)) (pss_cons (ps_set (i := 21) scLaw.nd rfl (Or.inl rfl) (pe_ifExp (PW.pt (pw_and (pt_cmpR (op_in_seq) (pv 9) (pv 14) (by rfl)) (pw_and1 (pt_cmpR (op_ne) (pv 16) (pe_str) (nomark _))))) (pe_h L.dig hr (by rfl) pass0 (pa_cons (pv 4) pa_nil)) (pe_h L.dig hr (by rfl) pass0 (pa_cons (pe_ix (show IxR _ (rIxT K) from ix_tup) (pe_dget hu (pv 7) (pv 9) (fun _ _ => rfl)) (pe_int) (fun _ _ => rfl)) pa_nil))))
      (pss_cons (ps_if (PW.pt (pw_or (pt_cmpR (op_ne) (pe_dget hu (pv 20) (pv 9) (fun _ _ => rfl)) (pv 21) (nomark _)) (pw_or1 (PW.pt (pw_and (pt_cmpR (op_in_seq) (pv 9) (pv 14) (by rfl)) (pw_and (pt_cmpR (op_eq) (pv 16) (pe_str) (nomark _)) (pw_and1 (pt_cmpR (op_neT (α := Int × Str) (uD hr (by decide))) (pe_h L.cur hr (by rfl) pass0 (pa_cons (pe_dget hu (pe_fld (pv 13) rfl) (pv 9) (fun _ _ => rfl)) pa_nil)) (pe_dget hu (pv 7) (pv 9) (fun _ _ => rfl)) (nomark _))))))))) (pss_one (ps_ret pe_bl)) pss_nil)
      (pss_one (ps_if (PW.pt (pw_and (pt_cmpR (op_notIn_seq) (pv 9) (pv 14) (by rfl)) (pw_and1 (pt_cmpR (op_ne_dictA (Nat.lt_of_le_of_lt (Nat.le_succ _) hu)) (pe_dget hu (pe_fld (pv 13) rfl) (pv 9) (fun _ _ => rfl)) (pe_dget hu (pv 6) (pv 9) (fun _ _ => rfl)) (nomark _))))) (pss_one (ps_ret pe_bl)) pss_nil)))), fun a pt U v9 A ptk ptd fa wv v18 v19 v21 S d' M' H D lv ro sts ht htk htd k => ?_⟩
  have n7 := lv.n7
  have ro7 : CfgOk U.F := lv.ini.c
  refine s_forLn (ev_var rfl) (sq_of lv.nms) (fun i σ' H' => ∃ v9 v21, σ' = sgL a pt U v9 [some (.ref A.x), some (.ref ptk), some (.int fa), some (.str S.st), some (.int wv), v18, v19, some (.ref ptd), v21, none, none] ∧ Ex H H') (fun H1 e1 => ⟨v9, v21, rfl, e1⟩) (fun i σ' H' _ ⟨_, _, _, e⟩ => sq_of (e _ _ lv.nms)) (fun i x σ' H' hx ⟨w9, w21, es, e⟩ => ?_) (fun σ' H' ⟨w9, w21, es, e⟩ => by subst es; exact k w9 w21 H' e)
  subst es
  have hi : i < U.n := by
    have := (List.getElem?_eq_some_iff.mp hx).1
    rw [List.length_map, List.length_range] at this
    exact this
  rw [List.getElem?_map, List.getElem?_range hi] at hx
  cases hx
  have mm := mem_nm n7 ht hi
  have ki : KInj nm U.n := nm_inj n7
  obtain ⟨okM, gM⟩ := sts_im lv sts hi
  have ini := lv.ini
  have hIi : U.hd i ∈ Imgs := by
    have o : Ok (U.M i).g (U.M i).c 0 N0 := ini.o i hi
    exact (o.g _ _ (lv.g i hi)).1
  have hIn : iNew ∈ Imgs := by decide
  have tkS : ∀ {H1}, Ex H H1 → SqL K H1 ptk (((List.range S.t).map nm).map V.str) := fun {H1} e1 => sq_of (by rw [List.map_map]; exact e1 _ _ htk)
  have ldue : ∀ {H1 σ}, Ex H H1 → σ[9]? = some (some (.str (nm i))) → σ[7]? = some (some (.ref U.pbe)) → Ev (tDGet (tVar 7) (tVar 9)) σ H1 (.ref (U.tb i)) := fun {H1 σ} e1 s9 s7 => ev_dgetK (k := .inr (nm i)) (ev_var s7) (ev_var s9) (.inl (e1 _ _ lv.be)) (flK_val ki hi)
  refine q_asg (v := .str (dgI (hdW U S i))) (ev_if (b := decide (i < S.t) && !decide (S.st = "back")) (et_and (et_is (et_test (ev_inS (neg := false) (ev_var rfl) (ev_var rfl) (tkS e))) mm) fun _ => et_is (et_test (ev_op (ev_var rfl) ev_c (rv_ne rfl))) (by rw [str_eq])) (fun hb => ?_) (fun hb => ?_)) fun H1 e1 => ?_
  · obtain ⟨h1, h2⟩ := Bool.and_eq_true_iff.mp hb
    have h1 := of_decide_eq_true h1
    have h2 : S.st ≠ "back" := fun z => by rw [decide_eq_true z] at h2; cases h2
    have : hdW U S i = iNew := if_pos ⟨h1, h2⟩
    rw [this]
    exact evp_dig (ev_var rfl) hIn
  · have : hdW U S i = U.hd i := if_neg fun z => by
      rw [decide_eq_true z.1, decide_eq_false z.2] at hb
      cases hb
    rw [this]
    exact evp_dig (ev_op (ldue e rfl rfl) ev_c (rv_ixT (st_of (e _ _ (lv.bt i hi))) rfl)) hIi
  have e01 := e.trans e1
  have ro1 := ro.ex e01
  have dA : Ev (tDGet (tFld K (tVar 13) "fleet") (tVar 9)) _ H1 (.ref (d' i)) := ev_diskA (σ := sgL a pt U (some (.str (nm i))) [some (.ref A.x), some (.ref ptk), some (.int fa), some (.str S.st), some (.int wv), v18, v19, some (.ref ptd), some (.str (dgI (hdW U S i))), none, none]) T (ev_var rfl) (ev_var rfl) ro1 ro7 hi
  refine q_when (b := false) (et_is (et_or (a := false) (et_is (et_test (ev_op (ev_is (ev_dgetK (k := .inr (nm i)) (ev_var rfl) (ev_var rfl) (.inl (e01 _ _ htd)) (flK_val ki hi)) (show dgV (some (hdW U S i)) = .str (dgI (hdW U S i)) from rfl)) (ev_var rfl) (rv_ne rfl))) (by rw [decide_eq_true rfl]; rfl)) fun _ => et_and (a := decide (i < S.t)) (b := false) (et_is (et_test (ev_inS (neg := false) (ev_var rfl) (ev_var rfl) (tkS e01))) mm) fun h1 => et_is (et_and (a := decide (S.st = "back")) (b := false) (et_is (et_test (ev_op (ev_var rfl) ev_c (rv_eq rfl))) (str_eq _ _)) fun h2 => ?_) (by cases decide (S.st = "back") <;> rfl)) (by cases decide (i < S.t) <;> rfl)) (fun hb => nomatch hb) fun _ H2 e2 => ?_
  · have h1 := of_decide_eq_true h1
    have h2 := of_decide_eq_true h2
    obtain ⟨m, tk, em⟩ := (sts i hi).1 h1
    rw [if_pos (decide_eq_true h2)] at em
    have hh : hdW U S i = U.hd i := if_neg fun z => z.2 h2
    have ec : (M' i).c = (U.M i).c := by rw [em]; rfl
    have okM : Ok (M' i).g (M' i).c 0 N0 := okM
    refine et_is (et_test (evd_op (K := K) (evd_cur (ev_dsk dA (ro1.ms i hi)) okM gM) (evd_tupv (ldue e01 rfl rfl) (e01 _ _ (lv.bt i hi))))) ?_
    rw [hh, ec]
    exact decide_eq_false fun z => z rfl
  have e02 := e01.trans e2
  have ro2 := ro.ex e02
  refine s_when (b := false) (et_is (et_and (a := !decide (i < S.t)) (b := false) (et_is (et_test (ev_inS (neg := true) (ev_var rfl) (ev_var rfl) (tkS e02))) (by show (!decide _) = _; rw [mm])) fun h1 => ?_) (by cases decide (i < S.t) <;> rfl)) (fun hb => nomatch hb) fun _ H3 e3 => ⟨_, _, rfl, e02.trans e3⟩
  have h1 : S.t ≤ i := by
    by_cases z : i < S.t
    · rw [decide_eq_true z] at h1; cases h1
    · omega
  have em := (sts i hi).2 h1
  have d1 := ro2.ms i hi
  rw [em] at d1
  exact et_test (ev_neDA (D := (U.M i).D) (ev_dsk (ev_diskA T (ev_var rfl) (ev_var rfl) ro2 ro7 hi) d1) (ev_dsk (ev_dgetK (k := .inr (nm i)) (ev_var rfl) (ev_var rfl) (.inl (e02 _ _ lv.fl)) (flK_val ki hi)) ((lv.ms i hi).ex e02)))
end
end Mx
set_option Elab.async false
set_option linter.all false
set_option maxRecDepth 100000
set_option maxHeartbeats 1000000
namespace Mx
open PySem PySem.Spec PyProof.Rows L2 Evl TL
open PySem.W (Datum DatumOrd Tup SomeDatum)
/-! ### the law -/
open LamX (CodeO TabS Tabs ExtN TabB)
section
variable {σ : L2.St} {H H' : Hp} {te ta tb : TE} {K : PySem.W.Frag}
theorem q_asg2L {i j : Nat} {D : Ends} {tz : TS} {u : V} {xs : List V} (ha : Ev ta σ H u) (hb : EvL tb σ H xs) (k : ∀ p H1, H p = none → Ex H H1 → H1 p = some (.lst xs) → tz D ((σ.set i (some u)).set j (some (.ref p))) H1) : tSeq (tAsg (tTup (tCons ta (tCons tb tNil))) (gTup K 2 (gCons (gName i) (gCons (gName j) gNil)))) tz D σ H := by
  show tTup (tCons ta (tCons tb tNil)) σ H fun x H1 => gTup K 2 (gCons (gName i) (gCons (gName j) gNil)) x σ H1 (tz D)
  exact ha H (Ex.refl H) _ fun H1 e1 => hb H1 e1 _ fun p H2 np e2 hp => ⟨by show 2 ≤ sizeLine; decide, fun q hq => ⟨q, _, rfl, st_of upd_same, rfl, _, _, rfl, _, _, rfl, rfl, k p _ (fresh_back e1 np) (e1.trans (e2.trans (Ex.new hq))) ((Ex.new hq) _ _ hp)⟩⟩
theorem el_catV {p q : Addr} {xs zs : List V} (ha : Ev ta σ H (.ref p)) (hb : Ev tb σ H (.ref q)) (hp : H p = some (.lst xs)) (hq : H q = some (.lst zs)) (hz : xs.length + zs.length ≤ 100000) : EvL (tOp rCat ta tb) σ H (xs ++ zs) := fun H1 e Q k =>
  ha H1 e _ fun H2 e2 => hb H2 (e.trans e2) _ fun H3 e3 => ⟨p, q, xs, zs, rfl, rfl, (e.trans (e2.trans e3)) _ _ hp, (e.trans (e2.trans e3)) _ _ hq, sz_of hz, fun r hr => k r _ (fresh_back (e2.trans e3) hr) ((e2.trans e3).trans (Ex.new hr)) upd_same⟩
theorem evd_strs {xs : List Str} (h : EvL te σ H (xs.map V.str)) : EvD te K σ H xs := fun H1 e Q q => h H1 e _ fun p H2 _ e2 hp => q _ H2 e2 (dt_strs (sq_of hp))
/-- [name for name in names if t], names those of 0 .. n-1 -/
theorem el_nms {n j p : Nat} {pn : Addr} {tl : TE} {tt : TT} {vs : List Nat} {xs : List Nat} (pp : Nat → Bool) (h : Ev tl σ H (.ref pn)) (hp : SqL K H pn (xs.map fun i => V.str (nm i))) (hz : xs.length ≤ 1000) (hw : ∀ x, wipe ((wipe σ vs).set j (some x)) vs = wipe σ vs)
    (ht : ∀ i H1, Ex H H1 → i ∈ xs → EvT tt ((wipe σ vs).set j (some (.str (nm i)))) H1 (pp i)) (he : ∀ i H1, Ex H H1 → Ev te ((wipe σ vs).set j (some (.str (nm i)))) H1 (.str (nm i))) : EvL (tLc (iList K tl) (gName j) tt te vs) σ H ((xs.filter pp).map fun i => V.str (nm i)) := by
  have gm := given_map xs pp (fun i => V.str (nm i)) (fun k => pp (xs.getD k 0)) (fun k => V.str (nm (xs.getD k 0))) (fun k x hx => by rw [List.getD_eq_getElem?_getD, hx]; rfl) (fun k x hx => by rw [List.getD_eq_getElem?_getD, hx]; rfl)
  have gl : xs.length = (xs.map fun i => V.str (nm i)).length := (List.length_map _).symm
  rw [← gm, gl]
  have at_ : ∀ {k : Nat} {x : V}, (xs.map fun i => V.str (nm i))[k]? = some x → x = .str (nm (xs.getD k 0)) ∧ xs.getD k 0 ∈ xs := fun {k x} hx => by
    rw [List.getElem?_map] at hx
    cases q : xs[k]? with
    | none => rw [q] at hx; cases hx
    | some y =>
      rw [q] at hx
      cases hx
      rw [List.getD_eq_getElem?_getD, q]
      exact ⟨rfl, List.mem_of_getElem? q⟩
  refine el_lcL (K := K) _ _ h hp (by rw [List.length_map]; omega) hw (fun k x H1 e1 hx => ?_) (fun k x H1 e1 hx _ => ?_)
  · obtain ⟨ex, mx⟩ := at_ hx
    subst ex
    exact ht _ H1 e1 mx
  · obtain ⟨ex, mx⟩ := at_ hx
    subst ex
    exact he _ H1 e1
/-- images_on -/
theorem evp_ims {pf : Addr} {k : Nat → Str} {n : Nat} {d : Nat → Addr} {hdo : Nat → Option (List Nat)} {E : XK} (h : Ev te σ H (.ref pf)) (hf : H pf = some (.dK (dk V.ref (flK k n d)))) (ki : KInj k n) (n7 : n ≤ 7) (hm : ∀ i, i < n → ImAt H (d i) (hdo i)) (hdf : ∀ i, i < n → d i ≠ pf) : EvP (tCall spIms [] E (tCons te tNil)) σ H fun v H2 => ∃ p, v = .ref p ∧ H p = none ∧ H2 p = some (.dK (dk dgV (flK k n hdo))) := fun H1 e Q q =>
  h H1 e _ fun H2 e2 => ⟨pf, k, n, d, hdo, rfl, (e.trans e2) _ _ hf, ki, n7, fun i hi => (hm i hi).on fun u hu => (e.trans e2) _ _ hu, hdf, fun p H3 np e3 hp => q _ H3 (e2.trans e3) ⟨p, rfl, fresh_back (e.trans e2) np, hp⟩⟩
end
theorem ke_out {H H' : Hp} {B : List Addr} (ke : ∀ H0, ExtN H0 H → (∀ a ∈ B, H0 a = none) → ExtN H0 H') {b : Addr} {o : HO} (nb : b ∉ B) (h : H b = some o) (t : ∀ ps, o ≠ .tbl ps) : H' b = some o :=
  ke (fun a => if a ∈ B then none else H a) (fun a u hu _ => by
    have hu : (if a ∈ B then none else H a) = some u := hu
    by_cases z : a ∈ B
    · rw [if_pos z] at hu; cases hu
    · rw [if_neg z] at hu; exact hu) (fun a ha => if_pos ha) b o (by show (if b ∈ B then none else H b) = some o; rw [if_neg nb]; exact h) t
theorem RoAt.nmut {C : Addr} {H : Hp} {A : RA} {F : Cfg} {d : Nat → Addr} {M : Nat → Mst} {t w : Nat} {st : Str} {bad : List Nat} (ro : RoAt C H A F d M t w st bad) {p : Addr} (np : H p = none) : p ∉ A.mut := fun z => by
  rcases List.mem_cons.mp z with z | z
  · exact ne_none ro.ins np z.symm
  rcases List.mem_cons.mp z with z | z
  · exact ne_none ro.fl np z.symm
  rcases List.mem_cons.mp z with z | z
  · exact ne_none ro.dn np z.symm
  · exact ne_none ro.fa np (List.mem_singleton.mp z).symm
theorem ge_filter (t n : Nat) (h : t ≤ n) : (List.range n).filter (fun i => decide (t ≤ i)) = List.range' t (n - t) := by
  have e1 : List.range n = List.range t ++ List.range' t (n - t) := by
    rw [List.range_eq_range', List.range_eq_range']
    have := List.range'_append (s := 0) (m := t) (n := n - t) (step := 1)
    simp only [Nat.one_mul, Nat.zero_add] at this
    rw [this, show t + (n - t) = n by omega]
  rw [e1, List.filter_append]
  have f1 : (List.range t).filter (fun i => decide (t ≤ i)) = [] := List.filter_eq_nil_iff.mpr fun x hx z => by
    have := List.mem_range.mp hx
    have := of_decide_eq_true z
    omega
  have f2 : (List.range' t (n - t)).filter (fun i => decide (t ≤ i)) = List.range' t (n - t) := List.filter_eq_self.mpr fun x hx => by
    have := List.mem_range'.mp hx
    obtain ⟨j, _, e⟩ := this
    exact decide_eq_true (by omega)
  rw [f1, f2, List.nil_append]
theorem range_app (t t' : Nat) (h : t ≤ t') : List.range t ++ List.range' t (t' - t) = List.range t' := by
  rw [List.range_eq_range', List.range_eq_range']
  have := List.range'_append (s := 0) (m := t) (n := t' - t) (step := 1)
  simp only [Nat.one_mul, Nat.zero_add] at this
  rw [this, show t + (t' - t) = t' by omega]
theorem bd_len {H : Hp} {U : LV} (h : LvOk H U) (s : Wst) : ((bdNx U.F U.g s).length : Int) = (s.bad.length : Int) + (((List.range' s.t (tNx U.F s - s.t)).filter U.p).length : Int) := by
  unfold bdNx
  rw [List.length_append]
  have : (List.range' s.t (tNx U.F s - s.t)).filter (fun i => !U.g (nm i) (imgS U.F.img)) = (List.range' s.t (tNx U.F s - s.t)).filter U.p := List.filter_congr fun i _ => U.gp i
  rw [this]
  omega
section
variable {P : Program} {w : World} {K : PySem.W.Frag} {mg : Str → Option Value} {base : Heap} {C f c PT : Addr} {Ar : Around} {outer : List Env} {s : Shared} {H0 : Hp} {E : XK}
/-- what stands behind k waves -/
structure Wv (C PT : Addr) (HB H : Hp) (U : LV) (A : RA) (k : Nat) (ptk : Addr) (d' : Nat → Addr) (M' : Nat → Mst) : Prop where
  en : ExtN HB H
  tb : Tabs [(PT, qLam)] H
  run : ∀ j, j < k → (itW U.F U.g j).st = "running"
  ro : RoAt C H A U.F d' M' (itW U.F U.g k).t (itW U.F U.g k).w (itW U.F U.g k).st (itW U.F U.g k).bad
  sts : Sts U.F U.M M' (itW U.F U.g k).t (decide ((itW U.F U.g k).st = "back"))
  tk : H ptk = some (.lst ((List.range (itW U.F U.g k).t).map fun i => V.str (nm i)))
def sgW (a pt : Addr) (U : LV) (v9 : Option V) (A : RA) (ptk : Addr) (S : Wst) (ws : List (Option V)) : L2.St := sgL a pt U v9 ([some (.ref A.x), some (.ref ptk), some (.int (S.bad.length : Int)), some (.str S.st), some (.int (S.w : Int))] ++ ws)
theorem w_loop (T : TxtR K mg C) (B : BtM mg) (L : HL P w K mg base C) (TB : TabB base mg c PT) (hr : Room 7 (Ar.deeper (envOfC "law" (defScope sLaw) s.heap.objs.size f (.ref c)))) :
    ∃ t, PS (XL P w K mg base f c Ar outer s H0 E) sWh t ∧ ∀ (a pt : Addr) (U : LV) (v9 : Option V) (A : RA) (ptk : Addr) (d' : Nat → Addr) (HB H : Hp) (D : Ends), LvOk HB U → (∀ a ∈ A.mut, HB a = none) → (U.ps ≠ U.pbd) → A.ps = U.ps → Wv C PT HB H U A 0 ptk d' U.M →
      (∀ k ptk v9 v18 v19 v20 v21 d' M' H1, (itW U.F U.g k).st ≠ "running" → Wv C PT HB H1 U A k ptk d' M' → D.nx (sgW a pt U v9 A ptk (itW U.F U.g k) [v18, v19, v20, v21, none, none]) H1) →
      t D (sgW a pt U v9 A ptk (itW U.F U.g 0) [none, none, none, none, none, none]) H := by
  have hu := hu_of hr
  obtain ⟨tI, hIn, rI⟩ := w_in (P := P) (w := w) (outer := outer) (s := s) (H0 := H0) (E := E) T B L hr
  refine ⟨_, ps_while (passes_of rfl) (pt_cmpR (op_eq) (pv 16) (pe_str) (nomark _)) (pss_cons (ps_set (i := 18) scLaw.nd rfl (Or.inl rfl) (pe_ix (show IxR _ (rIxL K) from ix_list) (pv 11) (pe_callB (call_min2 rfl) (by rfl) T.min (by decide +kernel) (pa_cons (pv 17) (pa_cons (pe_op op_sub (pe_callB (call_len_seq) (by rfl) B.len (PySem.boot_len) (pa_cons (pv 11) pa_nil)) (pe_int)) pa_nil))) (fun _ _ => rfl)))
      (pss_cons (ps_set (i := 19) scLaw.nd rfl (Or.inl rfl) (pe_slice (show SlR _ (rSlL K) from sl_list) (pe_lc (own := [("name", 9)]) (g := gName 9) rfl scLaw.nd (pi_list (pv 5)) (blkOk_by (N := nL) (sc := defScope sLaw) (by decide +kernel)) (fun _ _ _ _ _ => pg_name (i := 9) scLaw.nd rfl (Or.inl rfl)) (fun _ _ _ _ _ => pts_one (pt_cmpR (op_niK (K' := K) rfl) (pv 9) (pv 14) (by rfl))) (fun _ _ _ _ _ => pv 9)) po_none (po_some (pv 18))))
      (pss_cons (ps_asg (pe_tup (pa_cons (pe_op op_add (pv 17) (pe_int)) (pa_cons (pe_op op_cat (pv 14) (pv 19)) pa_nil))) (pg_tup rfl (pgs_cons (pg_name (i := 17) scLaw.nd rfl (Or.inl rfl)) (pgs_cons (pg_name (i := 14) scLaw.nd rfl (Or.inr rfl)) pgs_nil))))
      (pss_cons (ps_set (i := 15) scLaw.nd rfl (Or.inl rfl) (pe_op op_add (pv 15) (pe_callB (call_len_seq) (by rfl) B.len (PySem.boot_len) (pa_cons (pe_lc (own := [("name", 9)]) (g := gName 9) rfl scLaw.nd (pi_list (pv 19)) (blkOk_by (N := nL) (sc := defScope sLaw) (by decide +kernel)) (fun _ _ _ _ _ => pg_name (i := 9) scLaw.nd rfl (Or.inl rfl)) (fun _ _ _ _ _ => pts_one (pt_cmpR (op_inK (K' := K) rfl) (pv 9) (pv 8) (by rfl))) (fun _ _ _ _ _ => pv 9)) pa_nil))))
      (pss_cut (ps_expr (pe_methF ["new", "bad"] (pv 13) T.cl L.wave hr rfl (fun _ => rfl) (show ∀ y ∈ (["new", "bad"] : List Str), (defScope sLaw).names.lookup y = some NameKind.cell by decide +kernel) (pa_cons (pe_lamV (T := [(PT, qLam)]) TB rfl (List.mem_singleton.mpr rfl) (fun p hp _ => by rw [List.mem_singleton.mp hp]; rfl) rfl (show ∀ y ∈ (laS lam1).names, y.2 = NameKind.free → (defScope sLaw).names.lookup y.1 = some NameKind.cell ∨ (defScope sLaw).names.lookup y.1 = some NameKind.free by decide +kernel)) (pa_cons (pv 10) pa_nil))))
      (pss_cut (ps_if (pt_cmpR (op_gt) (pv 15) (pv 12) (nomark _)) (pss_one (ps_set (i := 16) scLaw.nd rfl (Or.inl rfl) (pe_str))) (pss_one (ps_if (pt_cmpR (op_eq) (pe_callB (call_len_seq) (by rfl) B.len (PySem.boot_len) (pa_cons (pv 14) pa_nil)) (pe_callB (call_len_seq) (by rfl) B.len (PySem.boot_len) (pa_cons (pv 5) pa_nil)) (nomark _)) (pss_one (ps_set (i := 16) scLaw.nd rfl (Or.inl rfl) (pe_str))) pss_nil)))
      (pss_cons (ps_set (i := 20) scLaw.nd rfl (Or.inl rfl) (pe_h L.ims hr (by rfl) pass0 (pa_cons (pe_fld (pv 13) rfl) pa_nil)))
      (pss_cut (hIn)
      (pss_one (ps_if (PW.pt (pw_or (pt_cmpR (op_ne) (pe_fld (pv 13) rfl) (pv 16) (nomark _)) (pw_or (pt_cmpR (op_ne) (pe_fld (pv 13) rfl) (pv 17) (nomark _)) (pw_or (pt_cmpR (op_neT (α := List Str) (uD hr (by decide))) (pe_fld (pv 13) rfl) (pv 14) (nomark _)) (pw_or1 (pt_cmpR (op_neT (α := List Str) (uD hr (by decide))) (pe_fld (pv 13) rfl) (pe_lc (own := [("name", 9)]) (g := gName 9) rfl scLaw.nd (pi_list (pv 14)) (blkOk_by (N := nL) (sc := defScope sLaw) (by decide +kernel)) (fun _ _ _ _ _ => pg_name (i := 9) scLaw.nd rfl (Or.inl rfl)) (fun _ _ _ _ _ => pts_one (pt_cmpR (op_inK (K' := K) rfl) (pv 9) (pv 8) (by rfl))) (fun _ _ _ _ _ => pv 9)) (nomark _))))))) (pss_one (ps_ret pe_bl)) pss_nil)))))))))), fun a pt U v9 A ptk d' HB H D lvB nB psb aps wv0 k => ?_⟩
  have n7 := lvB.n7
  have o := lvB.ini
  refine s_while (fun m σ' H' => ∃ j v9 ptk v18 v19 v20 v21 d' M', m = U.n + 1 - j ∧ σ' = sgW a pt U v9 A ptk (itW U.F U.g j) [v18, v19, v20, v21, none, none] ∧ Wv C PT HB H' U A j ptk d' M') (U.n + 1) ⟨0, v9, ptk, none, none, none, none, d', U.M, rfl, rfl, wv0⟩ fun m σ' H' hW => ?_
  obtain ⟨j, w9, ptk, v18, v19, v20, v21, d', M', em, es, wv⟩ := hW
  subst es
  refine ⟨decide ((itW U.F U.g j).st = "running"), et_is (et_test (ev_op (ev_var rfl) ev_c (rv_eq rfl))) (str_eq _ _), fun hb H1 e1 => ?_, fun hb H1 e1 => ?hexit⟩
  case hexit => exact k j ptk w9 v18 v19 v20 v21 d' M' H1 (of_decide_eq_false hb) ⟨wv.en.trans (enx e1), wv.tb.ext e1, wv.run, wv.ro.ex e1, wv.sts, e1 _ _ wv.tk⟩
  have hrun := of_decide_eq_true hb
  obtain ⟨g1, g2⟩ := itW_go o j hrun wv.run
  have le := itW_le (g := U.g) o j
  refine ⟨fun σ2 H2 => ∃ v9 ptk v18 v19 v20 v21 d' M', σ2 = sgW a pt U v9 A ptk (itW U.F U.g (j + 1)) [v18, v19, v20, v21, none, none] ∧ Wv C PT HB H2 U A (j + 1) ptk d' M', fun σ2 H2 ⟨x9, q, x18, x19, x20, x21, d2, M2, es, wv2⟩ => ⟨U.n + 1 - (j + 1), by have : U.F.n = U.n := rfl; omega, j + 1, x9, q, x18, x19, x20, x21, d2, M2, rfl, es, wv2⟩, ?_⟩
  have run1 : ∀ i, i < j + 1 → (itW U.F U.g i).st = "running" := fun i hi => by
    by_cases z : i = j
    · rw [z]; exact hrun
    · exact wv.run i (by omega)
  have eS : itW U.F U.g (j + 1) = wNext U.F U.g (itW U.F U.g j) := rfl
  rw [eS]
  have ro := wv.ro.ex e1
  have sts := wv.sts
  have htk := e1 _ _ wv.tk
  have en1 : ExtN HB H1 := wv.en.trans (enx e1)
  have lv := lvB.en en1
  have bb := itW_bad lvB j
  have tb1 := wv.tb.ext e1
  clear wv0 wv
  generalize itW U.F U.g j = S at *
  obtain ⟨t, wn, bad, st⟩ := S
  have hrun : st = "running" := hrun
  subst hrun
  have g1 : t < U.n := g1
  have g2 : j ≤ t := g2
  have ro : RoAt C H1 A U.F d' M' t wn "running" bad := ro
  have sts : Sts U.F U.M M' t false := sts
  have htk : H1 ptk = some (.lst ((List.range t).map fun i => V.str (nm i))) := htk
  have bb : bad = (List.range t).filter U.p := bb
  have lb : bad.length ≤ t := le.2
  have s0 : 0 < U.sz.length := o.s0
  have hsz : (U.sz)[min wn (U.sz.length - 1)]? = some (szAt U.F wn) := by
    have lt : min wn (U.sz.length - 1) < U.sz.length := by omega
    unfold szAt
    show _ = some (U.sz.getD (min wn (U.sz.length - 1)) 0)
    rw [List.getD_eq_getElem?_getD, List.getElem?_eq_getElem lt]
    rfl
  -- size
  refine q_asg (v := .int (szAt U.F wn : Nat)) (ev_op (ev_var rfl) (ev_min2 (ev_var rfl) (ev_op (ev_len (ev_var rfl) (sq_of lv.sz)) ev_c rv_I0)) (rv_ixL (sq_of lv.sz) ?_)) fun H2 e2 => ?_
  · rw [List.length_map]
    have : (if ((U.sz.length : Nat) : Int) - 1 < ((wn : Nat) : Int) then ((U.sz.length : Nat) : Int) - 1 else ((wn : Nat) : Int)) = ((min wn (U.sz.length - 1) : Nat) : Int) := by
      split <;> omega
    show atI _ (if ((U.sz.length : Nat) : Int) - 1 < ((wn : Nat) : Int) then ((U.sz.length : Nat) : Int) - 1 else ((wn : Nat) : Int)) = _
    rw [this]
    exact atI_nat (by rw [List.getElem?_map, hsz]; rfl)
  generalize htn : tNx U.F ⟨t, wn, bad, "running"⟩ = t'
  have tn : t' ≤ U.n := by rw [← htn]; show min U.n _ ≤ U.n; omega
  have tt' : t ≤ t' := by rw [← htn]; show t ≤ min U.n (t + _); omega
  have et' : t' = min U.n (t + szAt U.F wn) := htn.symm
  -- wave
  have hw2 : EvL (tSl (rSlL K) (tLc (iList K (tVar 5)) (gName 9) (tTest (tOp (rIn K true) (tVar 9) (tVar 14))) (tVar 9) [9]) tNoPart (tPart (tVar 18))) (sgL a pt U w9 [some (.ref A.x), some (.ref ptk), some (.int (bad.length : Int)), some (.str "running"), some (.int (wn : Int)), some (.int (szAt U.F wn : Nat)), v19, v20, v21, none, none]) H2 ((List.range' t (t' - t)).map fun i => V.str (nm i)) := by
    have sl : (((List.range U.n).filter fun i => decide (t ≤ i)).map fun i => V.str (nm i)).take (szAt U.F wn) = (List.range' t (t' - t)).map fun i => V.str (nm i) := by
      rw [ge_filter t U.n (by omega), ← List.map_take, take_r', et']
      congr 2
      omega
    rw [← sl, ← cutV_take]
    refine el_slL (el_nms (n := 0) (p := 0) (fun i => decide (t ≤ i)) (ev_var rfl) (sq_of (e2 _ _ lv.nms)) (by rw [List.length_range]; omega) (fun _ => rfl) (fun i H3 e3 hi => ?_) (fun i H3 e3 => ev_var rfl)) eo_none (eo_some (ev_var rfl))
    have hi := List.mem_range.mp hi
    refine et_is (et_test (ev_inS (K := K) (neg := true) (ev_var rfl) (ev_var rfl) (sq_of (xs := ((List.range t).map nm).map V.str) (by rw [List.map_map]; exact (e2.trans e3) _ _ htk)))) ?_
    show (!decide (nm i ∈ (List.range t).map nm)) = _
    rw [mem_nm n7 (by omega) hi]
    by_cases z : i < t
    · rw [decide_eq_true z, decide_eq_false (by omega)]; rfl
    · rw [decide_eq_false z, decide_eq_true (by omega)]; rfl
  refine q_asgL hw2 fun pw H3 npw e3 hpw => ?_
  have e13 := e2.trans e3
  -- waves, taken
  refine q_asg2L (u := .int ((wn + 1 : Nat) : Int)) (xs := (List.range t').map fun i => V.str (nm i)) (ev_op (ev_var (v := .int ((wn : Nat) : Int)) rfl) (ev_c (v := .int 1)) rv_I0) ?_ fun ptk2 H4 nptk e4 htk2 => ?_
  · rw [← range_app t t' tt', List.map_append]
    exact el_catV (ev_var rfl) (ev_var rfl) (e13 _ _ htk) hpw (by rw [List.length_map, List.length_map, List.length_range, List.length_range']; omega)
  have e14 := e13.trans e4
  have lv4 := lv.en (enx e14)
  -- failed
  have bl := bd_len lvB ⟨t, wn, bad, "running"⟩
  rw [htn] at bl
  refine q_asg (v := .int ((bdNx U.F U.g ⟨t, wn, bad, "running"⟩).length : Int)) (ev_is (ev_op (ev_var rfl) (ev_lenN (K := K) (el_nms (n := 0) (p := 0) U.p (ev_var rfl) (sq_of (e4 _ _ hpw)) (by rw [List.length_range']; omega) (fun _ => rfl) (fun i H5 e5 hi => ?_) (fun i H5 e5 => ev_var rfl))) rv_I0) ?_) fun H5 e5 => ?_
  · exact et_test (ev_inS (K := K) (neg := false) (ev_var rfl) (ev_var rfl) (sq_of (e5 _ _ lv4.bd)))
  · rw [List.length_map, bl]
  have e15 := e14.trans e5
  have lv5 := lv4.en (enx e5)
  have en5 : ExtN HB H5 := en1.trans (enx e15)
  have ro5 := ro.ex e15
  -- the wave
  have nbd : ∀ p ∈ [U.pbd], p ≠ A.ps ∧ p ≠ A.pd ∧ p ≠ A.pe := fun p hp => by
    rw [List.mem_singleton.mp hp]
    refine ⟨fun z => psb (by rw [z, aps]), fun z => ?_, fun z => ?_⟩
    · have := nB A.pd (List.mem_cons_of_mem _ (List.mem_cons_of_mem _ (List.mem_cons_self ..)))
      rw [← z, lvB.bd] at this
      cases this
    · have := nB A.pe (List.mem_cons_of_mem _ (List.mem_cons_of_mem _ (List.mem_cons_of_mem _ (List.mem_cons_self ..))))
      rw [← z, lvB.bd] at this
      cases this
  have npt : ptk2 ∉ A.mut := (ro.ex e13).nmut nptk
  refine q_cut (M := fun σ6 H6 => ∃ d6 M6, σ6 = sgL a pt U w9 [some (.ref A.x), some (.ref ptk2), some (.int ((bdNx U.F U.g ⟨t, wn, bad, "running"⟩).length : Int)), some (.str "running"), some (.int ((wn + 1 : Nat) : Int)), some (.int (szAt U.F wn : Nat)), some (.ref pw), v20, v21, none, none] ∧ ExtN HB H6 ∧ Tabs [(PT, qLam)] H6 ∧ RoAt C H6 A U.F d6 M6 (wNext U.F U.g ⟨t, wn, bad, "running"⟩).t (wNext U.F U.g ⟨t, wn, bad, "running"⟩).w (wNext U.F U.g ⟨t, wn, bad, "running"⟩).st (wNext U.F U.g ⟨t, wn, bad, "running"⟩).bad ∧ Sts U.F U.M M6 (wNext U.F U.g ⟨t, wn, bad, "running"⟩).t (decide ((wNext U.F U.g ⟨t, wn, bad, "running"⟩).st = "back")) ∧ H6 ptk2 = some (.lst ((List.range t').map fun i => V.str (nm i)))) ?_ fun σ6 H6 ⟨d6, M6, es, en6, tb6, ro6, sts6, htk6⟩ => ?_
  · exact t_wavF (P := P) (w := w) (K := K) (mg := mg) (base := base) (s := ⟨t, wn, bad, "running"⟩) (lst := [U.pbd]) (ev_var rfl) ro5 o sts (Nat.le_of_lt g1) (by show bad.length ≤ 7; omega) rfl (tb1.ext e15) ⟨fun p hp => ⟨U.bn.map V.str, by rw [List.mem_singleton.mp hp]; exact lv5.bd⟩, nbd⟩ rfl lv5.ct (fun fl H2 cs hl hf fz => cp_lam1 fz rfl rfl ((hl _ (List.mem_cons_self ..)).trans lv5.bd) (List.mem_cons_self ..) hf) fun H7 d7 M7 ke tb7 ro7 sts7 => ⟨d7, M7, rfl, ke HB en5 nB, tb7, ro7, sts7, ke_out ke npt (e5 _ _ htk2) (fun _ z => by cases z)⟩
  subst es
  have hwt : (wNext U.F U.g ⟨t, wn, bad, "running"⟩).t = t' := htn
  have hww : (wNext U.F U.g ⟨t, wn, bad, "running"⟩).w = wn + 1 := rfl
  have hwb : (wNext U.F U.g ⟨t, wn, bad, "running"⟩).bad = bdNx U.F U.g ⟨t, wn, bad, "running"⟩ := rfl
  have hws : (wNext U.F U.g ⟨t, wn, bad, "running"⟩).st = if (U.al : Int) < ((bdNx U.F U.g ⟨t, wn, bad, "running"⟩).length : Int) then ("back" : Str) else if t' = U.n then "done" else "running" := by rw [← htn]; rfl
  have bbN : (wNext U.F U.g ⟨t, wn, bad, "running"⟩).bad = (List.range (wNext U.F U.g ⟨t, wn, bad, "running"⟩).t).filter U.p := by
    have := itW_bad lvB (j + 1)
    rw [eS] at this
    exact this
  have lv6 := lvB.en en6
  rw [← hwt] at htk6 tn
  generalize wNext U.F U.g ⟨t, wn, bad, "running"⟩ = S at *
  generalize bdNx U.F U.g ⟨t, wn, bad, "running"⟩ = bdn at *
  obtain ⟨tS, wS, bS, qS⟩ := S
  have hwt : tS = t' := hwt
  have hww : wS = wn + 1 := hww
  have hwb : bS = bdn := hwb
  subst hwt hww hwb
  have ro6 : RoAt C H6 A U.F d6 M6 tS (wn + 1) qS bS := ro6
  have sts6 : Sts U.F U.M M6 tS (decide (qS = "back")) := sts6
  have htk6 : H6 ptk2 = some (.lst ((List.range tS).map fun i => V.str (nm i))) := htk6
  have tn : tS ≤ U.n := tn
  have hws : qS = if (U.al : Int) < (bS.length : Int) then ("back" : Str) else if tS = U.n then "done" else "running" := hws
  have bbN : bS = (List.range tS).filter U.p := bbN
  -- status
  refine q_cut (M := fun σ7 H7 => σ7 = sgL a pt U w9 [some (.ref A.x), some (.ref ptk2), some (.int (bS.length : Int)), some (.str qS), some (.int ((wn + 1 : Nat) : Int)), some (.int (szAt U.F wn : Nat)), some (.ref pw), v20, v21, none, none] ∧ Ex H6 H7) (s_if (et_test (ev_op (ev_var rfl) (ev_var rfl) rv_I0)) (fun hb H7 e7 => ?_) (fun hb H7 e7 => ?_)) fun σ7 H7 ⟨es, e7⟩ => ?_
  · have hlt : (U.al : Int) < (bS.length : Int) := of_decide_eq_true hb
    refine s_asg (ev_c (v := .str "back")) fun H8 e8 => ⟨?_, e7.trans e8⟩
    rw [hws, if_pos hlt]
    rfl
  · have hlt : ¬ (U.al : Int) < (bS.length : Int) := of_decide_eq_false hb
    refine s_if (et_is (et_test (ev_op (ev_len (K := K) (ev_var rfl) (sq_of (e7 _ _ htk6))) (ev_len (K := K) (ev_var rfl) (sq_of (e7 _ _ lv6.nms))) (rv_eq rfl))) (show _ = decide (tS = U.n) by rw [int_eq, List.length_map, List.length_range, List.length_map, List.length_range]; exact decide_eq_decide.mpr (by omega))) (fun hb H8 e8 => ?_) (fun hb H8 e8 => ?_)
    · refine s_asg (ev_c (v := .str "done")) fun H9 e9 => ⟨?_, e7.trans (e8.trans e9)⟩
      rw [hws, if_neg hlt, if_pos (of_decide_eq_true hb)]
      rfl
    · refine ⟨?_, e7.trans e8⟩
      rw [hws, if_neg hlt, if_neg (of_decide_eq_false hb)]
  subst es
  have ro7 := ro6.ex e7
  have lv7 := lv6.en (enx e7)
  -- told
  refine q_asgP (evp_ims (hdo := fun i => some (hdW U ⟨tS, wn + 1, bS, qS⟩ i)) (ev_fleet T (ev_var rfl) ro7) ro7.fl (nm_inj n7) n7 (fun i hi => ⟨M6 i, ro7.ms i hi, sts_im (s := ⟨tS, wn + 1, bS, qS⟩) lv7 sts6 hi⟩) ro7.df) fun vt H8 e8 ⟨ptd, evt, nptd, hptd⟩ => ?_
  subst evt
  have e68 := e7.trans e8
  refine q_cut (M := fun σ9 H9 => ∃ v9 v21, σ9 = sgL a pt U v9 [some (.ref A.x), some (.ref ptk2), some (.int (bS.length : Int)), some (.str qS), some (.int ((wn + 1 : Nat) : Int)), some (.int (szAt U.F wn : Nat)), some (.ref pw), some (.ref ptd), v21, none, none] ∧ Ex H8 H9) (rI a pt U w9 A ptk2 ptd _ _ _ _ _ ⟨tS, wn + 1, bS, qS⟩ d6 M6 H8 _ (lv7.en (enx e8)) (ro7.ex e8) sts6 tn (e68 _ _ htk6) hptd fun v9 v21 H9 e9 => ⟨v9, v21, rfl, e9⟩) fun σ9 H9 ⟨x9, x21, es, e9⟩ => ?_
  subst es
  have e69 := e68.trans e9
  have ro9 := ro6.ex e69
  have tkD : ∀ {H1}, Ex H9 H1 → SqL K H1 ptk2 (((List.range tS).map nm).map V.str) := fun {H1} e1 => sq_of (by rw [List.map_map]; exact (e69.trans e1) _ _ htk6)
  have nn : ∀ x : List Str, decide (x ≠ x) = false := fun x => decide_eq_false fun z => z rfl
  refine s_when (b := false) (et_is (et_or (a := false) (b := false) (et_is (et_test (ev_op (ev_status T (ev_var rfl) ro9) (ev_var rfl) (rv_ne rfl))) (by rw [decide_eq_true rfl]; rfl)) fun _ => et_is (et_or (a := false) (b := false) (et_is (et_test (ev_op (ev_waves T (ev_var rfl) ro9) (ev_var rfl) (rv_ne rfl))) (by rw [decide_eq_true rfl]; rfl)) fun _ => et_is (et_or (a := false) (b := false) (et_is (et_test (evd_op (K := K) (α := List Str) (x := (List.range tS).map nm) (y := (List.range tS).map nm) (evd_v (ev_done T (ev_var rfl) ro9) (dt_strs (sq_of (by rw [List.map_map]; exact ro9.dn)))) (evd_v (ev_var rfl) (dt_strs (tkD (Ex.refl _)))))) (nn _)) fun _ => et_is (et_test (evd_op (K := K) (α := List Str) (x := bS.map nm) (y := bS.map nm) (evd_v (ev_failed T (ev_var rfl) ro9) (dt_strs (sq_of (by rw [List.map_map]; exact ro9.fa)))) (evd_strs ?_))) (nn _)) rfl) rfl) rfl) (fun hb => nomatch hb) fun _ H10 e10 => ?_
  · rw [List.map_map, bbN]
    exact el_nms (n := 0) (p := 0) U.p (ev_var rfl) (sq_of (e69 _ _ htk6)) (by rw [List.length_range]; omega) (fun _ => rfl) (fun i H11 e11 hi => et_test (ev_inS (K := K) (neg := false) (ev_var rfl) (ev_var rfl) (sq_of ((e69.trans e11) _ _ lv6.bd)))) (fun i H11 e11 => ev_var rfl)
  · have e610 := e69.trans e10
    exact ⟨x9, ptk2, some (.int (szAt U.F wn : Nat)), some (.ref pw), some (.ref ptd), x21, d6, M6, rfl, ⟨en6.trans (enx e610), tb6.ext e610, run1, by rw [eS]; exact ro6.ex e610, by rw [eS]; exact sts6, by rw [eS]; exact e610 _ _ htk6⟩⟩
end
end Mx
set_option Elab.async false
set_option linter.all false
set_option maxRecDepth 100000
set_option maxHeartbeats 1000000
namespace Mx
open PySem PySem.Spec PyProof.Rows L2 Evl TL
open PySem.W (Datum DatumOrd Tup SomeDatum)
/-! ### the law -/
open LamX (CodeO TabS Tabs ExtN TabB)
theorem Dsk.cg {l : List (Str × Str)} {D D' : Dm} (h : Dsk l D) (e : ∀ i ∈ ids, D i = D' i) : Dsk l D' := ⟨h.nd, fun k t => by
  rw [h.mem]
  constructor
  · rintro ⟨i, hi, ek, e1⟩
    exact ⟨i, hi, ek, by rw [← e i hi]; exact e1⟩
  · rintro ⟨i, hi, ek, e1⟩
    exact ⟨i, hi, ek, by rw [e i hi]; exact e1⟩⟩
section
variable {σ : L2.St} {H H' : Hp} {te ta tb td tv1 tv2 tk1 tk2 : TE} {K : PySem.W.Frag} {E : XK} {R1 R2 : V → Hp → Prop}
theorem evp_new {ds : List Nat} (h : Ev te σ H (.str (imgS ds))) (hI : ds ∈ Imgs) : EvP (tCall spNew [] E (tCons te tNil)) σ H fun v H2 => ∃ q, v = .ref q ∧ H q = none ∧ DAt H2 q ⟨G1 ds, 1⟩ := fun H1 e Q q =>
  h H1 e _ fun H2 e2 => ⟨ds, rfl, hI, fun p H3 l np e3 hp hd => q _ H3 (e2.trans e3) ⟨p, rfl, fresh_back (e.trans e2) np, p, l, rfl, hp, hd.cg (new_frm hI)⟩⟩
/-- {k1: v1, k2: v2} -/
theorem evp_disp2P {R1 R2 : Hp → V → Hp → Prop} {k1 k2 : Key} (hne : k1 ≠ k2) (hk1 : Ev tk1 σ H (kV k1)) (hv1 : ∀ H1, Ex H H1 → EvP tv1 σ H1 (R1 H1)) (hk2 : Ev tk2 σ H (kV k2)) (hv2 : ∀ H1, Ex H H1 → EvP tv2 σ H1 (R2 H1)) : EvP (tDisp [(tk1, tv1), (tk2, tv2)]) σ H fun v H3 => ∃ p x y J1 H1 J2 H2, v = .ref p ∧ H p = none ∧ R1 J1 x H1 ∧ R2 J2 y H2 ∧ J1 p ≠ none ∧ J2 p ≠ none ∧ Ex H1 H2 ∧ (∀ a o, a ≠ p → H2 a = some o → H3 a = some o) ∧ H3 p = some (.dK [(k1, x), (k2, y)]) := fun H0 e Q q p hp =>
  hk1 _ (e.trans (Ex.new hp)) _ fun H1 e1 => hv1 H1 ((e.trans (Ex.new hp)).trans e1) H1 (Ex.refl _) _ fun x H2 e2 r1 => hk2 H2 ((e.trans (Ex.new hp)).trans (e1.trans e2)) _ fun H3 e3 => hv2 H3 ((e.trans (Ex.new hp)).trans (e1.trans (e2.trans e3))) H3 (Ex.refl _) _ fun y H4 e4 r2 => by
    have p1 : H1 p = some (.dK []) := e1 _ _ upd_same
    have p3 : H3 p = some (.dK []) := (e2.trans e3) _ _ p1
    have p4 : H4 p = some (.dK []) := e4 _ _ p3
    refine ⟨p4, [(k1, x), (k2, y)], rfl, by show 2 ≤ 15; decide, ?_⟩
    have em : mergeK [] [(k1, x), (k2, y)] = [(k1, x), (k2, y)] := by
      unfold mergeK
      show putK (putK [] k1 x) k2 y = _
      unfold putK
      simp [hne]
    rw [em]
    have ex04 : Ex H0 (upd H4 p (.dK [(k1, x), (k2, y)])) := Ex.mut ((Ex.new hp).trans (e1.trans (e2.trans (e3.trans e4)))) hp
    exact q _ _ ex04 ⟨p, x, y, H1, H2, H3, H4, rfl, fresh_back e hp, r1, r2, by rw [p1]; simp, by rw [p3]; simp, e3.trans e4, fun a o na h => by rw [upd_ne na]; exact h, upd_same⟩
theorem ev_neD2 {f : Nat → Option (List Nat)} {k : Nat → Str} {n : Nat} (ki : KInj k n) (h : EvP ta σ H fun v H2 => ∃ p, v = .ref p ∧ H p = none ∧ H2 p = some (.dK (dk dgV (flK k n f)))) (h2 : ∀ H1, Ex H H1 → EvP tb σ H1 fun v H2 => ∃ p, v = .ref p ∧ H1 p = none ∧ H2 p = some (.dK (dk dgV (flK k n f)))) : Ev (tOp rNeDA ta tb) σ H (.bl false) := fun H1 e Q q =>
  h H1 e _ fun v H2 e2 ⟨p, ev, _, hp⟩ => h2 H2 (e.trans e2) H2 (Ex.refl _) _ fun u H3 e3 ⟨p2, eu, _, hp2⟩ => by
    subst ev eu
    refine ⟨p, p2, _, _, rfl, rfl, e3 _ _ hp, hp2, rfl, fun x hx => ?_, q H3 (e2.trans e3)⟩
    obtain ⟨y, hy, rfl⟩ := List.mem_map.mp hx
    obtain ⟨i, hi, rfl⟩ := List.mem_map.mp hy
    have hi := List.mem_range.mp hi
    refine ⟨flK_val ki hi, ?_⟩
    show flatB (dgV (f i)) = true
    cases f i <;> rfl
/-- [e for name in names] -/
theorem el_nmsV {j : Nat} {pn : Addr} {tl : TE} {vs : List Nat} {xs : List Nat} (v : Nat → V) (h : Ev tl σ H (.ref pn)) (hp : SqL K H pn (xs.map fun i => V.str (nm i))) (hz : xs.length ≤ 1000) (hw : ∀ x, wipe ((wipe σ vs).set j (some x)) vs = wipe σ vs)
    (he : ∀ i H1, Ex H H1 → i ∈ xs → Ev te ((wipe σ vs).set j (some (.str (nm i)))) H1 (v i)) : EvL (tLc (iList K tl) (gName j) tYes te vs) σ H (xs.map v) := by
  have gm := given_map xs (fun _ => true) v (fun _ => true) (fun k => v (xs.getD k 0)) (fun _ _ _ => rfl) (fun k x hx => by rw [List.getD_eq_getElem?_getD, hx]; rfl)
  have gl : xs.length = (xs.map fun i => V.str (nm i)).length := (List.length_map _).symm
  rw [List.filter_eq_self.mpr (fun _ _ => rfl)] at gm
  rw [← gm, gl]
  refine el_lcL (K := K) _ _ h hp (by rw [List.length_map]; omega) hw (fun k x H1 e1 hx => fun H2 e2 Q q => q H2 (Ex.refl _)) (fun k x H1 e1 hx _ => ?_)
  rw [List.getElem?_map] at hx
  cases q : xs[k]? with
  | none => rw [q] at hx; cases hx
  | some y =>
    rw [q] at hx
    cases hx
    rw [List.getD_eq_getElem?_getD, q]
    exact he y H1 e1 (List.mem_of_getElem? q)
theorem ev_anyNo {α : Type} {xs : List α} (h : EvL te σ H (xs.map fun _ => V.bl false)) : Ev (tCB (rAny K) (tCons te tNil)) σ H (.bl false) := by
  refine ev_is (ev_any (bs := xs.map fun _ => false) fun H1 e Q q => h H1 e _ fun p H2 np e2 hp => q _ H2 e2 ⟨p, rfl, by rw [hp, List.map_map]; rfl⟩) ?_
  have : ∀ l : List α, (l.map fun _ => false).any id = false := fun l => by
    induction l with
    | nil => rfl
    | cons _ _ ih => exact ih
  rw [this]
theorem ev_lenDt {xs : List Int} (h : EvD ta K σ H xs) : Ev (tCB (rLenS K) (tCons ta tNil)) σ H (.int (xs.length : Int)) := fun H1 e Q q =>
  h H1 e _ fun v H2 e2 d => by
    obtain ⟨a, us, rfl, hs, hd⟩ := dt_lst_inv d
    refine ⟨a, us, rfl, .inl hs, ?_⟩
    rw [(dpAll_at hd).1]
    exact q H2 e2
/-- [e for x in d.values()], d new: it stays frozen -/
theorem el_valsZ {j : Nat} {vs : List Nat} {kvs : List (Key × V)} (b : V) (h : ∀ H1, Ex H H1 → EvP td σ H1 fun v H2 => ∃ p, v = .ref p ∧ H1 p = none ∧ H2 p = some (.dK kvs)) (hz : kvs.length ≤ 1000) (hw : ∀ x, wipe ((wipe σ vs).set j (some x)) vs = wipe σ vs) (he : ∀ k v H1, Ex H H1 → (k, v) ∈ kvs → Ev te ((wipe σ vs).set j (some v)) H1 b) :
    EvL (tLc (iVals (fun σ H Q => td σ H fun x H1 => ∃ d u, x = .ref d ∧ H1 d = some u ∧ Mut (some u) ∧ ∀ od, Q x (upd H1 d (.frz od u)))) (gName j) tYes te vs) σ H (kvs.map fun _ => b) := fun H1 e Q q =>
  h H1 e H1 (Ex.refl _) _ fun v H2 e2 ⟨p, ev, np, hp⟩ => by
    subst ev
    refine ⟨p, .dK kvs, rfl, hp, trivial, fun od => ⟨p, od, kvs, rfl, upd_same, fun D hD => ?_⟩⟩
    have exH : Ex H1 (upd H2 p (.frz od (.dK kvs))) := Ex.mut e2 np
    have hd2 : upd H2 p (.frz od (.dK kvs)) p = some (.frz od (.dK kvs)) := upd_same
    generalize upd H2 p (.frz od (.dK kvs)) = J at *
    refine lc_it walk_values (fun i H' => J D = none ∧ Ex J H' ∧ H' D = some (.lst ((kvs.take i).map fun _ => b))) ⟨hD, Ex.new hD, upd_same⟩ (fun i H' _ p => p.2.1 _ _ hd2) (fun i x H' H'' hi pv y => ?_) fun H' pv => ?_
    · obtain ⟨p1, p2, p3⟩ := pv
      obtain ⟨rfl, k, hk⟩ := y
      refine ⟨hw _, yes_go ?_⟩
      refine he k x H'' (e.trans (exH.trans p2)) (List.mem_of_getElem? hk) H'' (Ex.refl _) _ fun H4 e4 => ⟨_, e4 _ _ p3, sz_lt (by rw [List.length_map, List.length_take]; omega), p1, Ex.mut (p2.trans e4) p1, ?_⟩
      rw [upd_same, List.take_succ, hk, List.map_append]
      rfl
    · obtain ⟨p1, p2, p3⟩ := pv
      rw [List.take_length] at p3
      exact q D H' (fresh_back exH p1) (exH.trans p2) p3
end
end Mx
set_option Elab.async false
set_option linter.all false
set_option maxRecDepth 100000
set_option maxHeartbeats 1000000
namespace Mx
open PySem PySem.Spec PyProof.Rows L2 Evl TL
open PySem.W (Datum DatumOrd Tup SomeDatum)
/-! ### the law -/
open LamX (CodeO TabS Tabs ExtN TabB)
theorem itW_done {F : Cfg} {g : Str → Str → Bool} : ∀ k, (itW F g k).st = "done" → (itW F g k).t = F.n
  | 0, h => absurd h (by show ¬ ("running" : Str) = "done"; decide +kernel)
  | k + 1, h => by
    have h : (if F.al < ((bdNx F g (itW F g k)).length : Int) then ("back" : Str) else if tNx F (itW F g k) = F.n then "done" else "running") = "done" := h
    show tNx F (itW F g k) = F.n
    split at h
    · exact absurd h (by decide +kernel)
    · split at h
      · assumption
      · exact absurd h (by decide +kernel)
theorem same_end {F : Cfg} {g : Str → Str → Bool} {j k : Nat} (hj : ∀ i, i < j → (itW F g i).st = "running") (hj2 : (itW F g j).st ≠ "running") (hk : ∀ i, i < k → (itW F g i).st = "running") (hk2 : (itW F g k).st ≠ "running") : j = k := by
  rcases Nat.lt_trichotomy j k with z | z | z
  · exact absurd (hk j z) hj2
  · exact z
  · exact absurd (hj k z) hk2
theorem evp_dnew {σ : L2.St} {H : Hp} : EvP tDNewK σ H fun v H2 => ∃ p, v = .ref p ∧ H p = none ∧ H2 p = some (.dK []) := fun J1 eJ1 Q1 q1 p np => q1 _ _ (Ex.new np) ⟨p, rfl, fresh_back eJ1 np, upd_same⟩
/-- the rollout back to an old image -/
def F3 (n : Nat) (M : Nat → Mst) : Cfg := ⟨n, [0], [n], (n : Int), fun i => (M i).c⟩
theorem it3 {n : Nat} {M : Nat → Mst} (h : 1 ≤ n) {j : Nat} (hj : ∀ i, i < j → (itW (F3 n M) gF0 i).st = "running") (hj2 : (itW (F3 n M) gF0 j).st ≠ "running") : itW (F3 n M) gF0 j = ⟨n, 1, List.range' 0 n, "done"⟩ := by
  have t1 : tNx (F3 n M) ⟨0, 0, [], "running"⟩ = n := by
    show min n (0 + n) = n
    omega
  have b1 : bdNx (F3 n M) gF0 ⟨0, 0, [], "running"⟩ = List.range' 0 n := by
    unfold bdNx
    rw [t1]
    show [] ++ (List.range' 0 (n - 0)).filter (fun _ => true) = _
    rw [List.nil_append, List.filter_eq_self.mpr (fun _ _ => rfl), Nat.sub_zero]
  have e1 : itW (F3 n M) gF0 1 = ⟨n, 1, List.range' 0 n, "done"⟩ := by
    show wNext (F3 n M) gF0 ⟨0, 0, [], "running"⟩ = _
    unfold wNext
    rw [b1, t1, List.length_range', if_neg (show ¬ (F3 n M).al < (n : Int) from fun z => by have z : (n : Int) < (n : Int) := z; omega), if_pos (show n = (F3 n M).n from rfl)]
  have : j = 1 := by
    rcases Nat.lt_trichotomy j 1 with z | z | z
    · have : j = 0 := by omega
      rw [this] at hj2
      exact absurd rfl hj2
    · exact z
    · have := hj 1 z
      rw [e1] at this
      exact absurd this (by show ¬ ("done" : Str) = "running"; decide +kernel)
  rw [this, e1]
def kXY (i : Nat) : Str := if i = 0 then "x" else "y"
def hXY (i : Nat) : Option (List Nat) := if i = 0 then none else some iNew
theorem kiXY : KInj kXY 2 := fun i hi j hj e => by
  have : (i = 0 ∨ i = 1) ∧ (j = 0 ∨ j = 1) := by omega
  obtain ⟨rfl | rfl, rfl | rfl⟩ := this
  · rfl
  · exact absurd e (by decide +kernel)
  · exact absurd e (by decide +kernel)
  · rfl
section
variable {σ : L2.St} {H H' : Hp} {te ta tb td : TE} {K : PySem.W.Frag} {E : XK}
theorem evp_imsP {k : Nat → Str} {n : Nat} {hdo : Nat → Option (List Nat)} (ki : KInj k n) (n7 : n ≤ 7) (h : EvP te σ H fun v H2 => ∃ (pf : Addr) (d : Nat → Addr), v = .ref pf ∧ H2 pf = some (.dK (dk V.ref (flK k n d))) ∧ (∀ i, i < n → ImAt H2 (d i) (hdo i)) ∧ ∀ i, i < n → d i ≠ pf) : EvP (tCall spIms [] E (tCons te tNil)) σ H fun v H2 => ∃ p, v = .ref p ∧ H2 p = some (.dK (dk dgV (flK k n hdo))) := fun H1 e Q q =>
  h H1 e _ fun v H2 e2 ⟨pf, d, ev, hf, hm, hdf⟩ => ⟨pf, k, n, d, hdo, by rw [ev]; rfl, hf, ki, n7, hm, hdf, fun p H3 np e3 hp => q _ H3 (e2.trans e3) ⟨p, rfl, hp⟩⟩
end
section
variable {P : Program} {w : World} {K : PySem.W.Frag} {mg : Str → Option Value} {base : Heap} {C f c PT : Addr} {Ar : Around} {outer : List Env} {s : Shared} {H0 : Hp} {E : XK}
theorem w_ret (T : TxtR K mg C) (B : BtM mg) (L : HL P w K mg base C) (TB : TabB base mg c PT) (hr : Room 7 (Ar.deeper (envOfC "law" (defScope sLaw) s.heap.objs.size f (.ref c)))) :
    ∃ t, PS (XL P w K mg base f c Ar outer s H0 E) ((defBody sLaw).getD 16 psS) t ∧ ∀ (σ : L2.St) (H : Hp) (D : Ends), σ[4]? = some (some (.str (imgS iNew))) → (∀ H', D.rt (.bl true) H') → t D σ H := by
  have hu := hu_of hr
  refine ⟨_, ps_ret (pe_cmpR (op_eq_dictA (Nat.lt_of_le_of_lt (Nat.le_succ _) hu)) (pe_h L.ims hr (by rfl) pass0 (pa_cons (pe_disp (pps_cons (pe_str) (pe_dnewK) (pps_cons (pe_str) (pe_h L.new hr (by rfl) pass0 (pa_cons (pv 4) pa_nil)) pps_nil)) (by rfl) (by rfl) (fun z => by cases z) (by decide)) pa_nil)) (pe_disp (pps_cons (pe_str) (pe_non) (pps_cons (pe_str) (pe_h L.dig hr (by rfl) pass0 (pa_cons (pv 4) pa_nil)) pps_nil)) (by rfl) (by rfl) (fun z => by cases z) (by decide)) (nomark _)), fun σ H D s4 k => ?_⟩
  have hIn : iNew ∈ Imgs := by decide
  have o1 : Ok (G1 iNew) 1 0 N0 := ok1 hIn
  refine s_ret (v := .bl true) (fun H1 e1 Q q => evp_imsP (k := kXY) (n := 2) (hdo := hXY) kiXY (by decide) (EvP.imp (evp_disp2P (R1 := fun J v H2 => ∃ p, v = .ref p ∧ J p = none ∧ H2 p = some (.dK [])) (R2 := fun J v H2 => ∃ p, v = .ref p ∧ J p = none ∧ DAt H2 p ⟨G1 iNew, 1⟩) (k1 := .inr "x") (k2 := .inr "y") (by decide +kernel) ev_c (fun J eJ => evp_dnew) ev_c (fun J eJ => evp_new (ev_var s4) hIn)) fun v H2 e2 hR => ?_) H1 e1 _ fun v H2 e2 ⟨p, ev, hp⟩ => ?_) fun H' _ => k H'
  · obtain ⟨p, x, y, J1, J2, J3, J4, ev, np, ⟨px, ex, npx, hpx⟩, ⟨py, ey, npy, hpy⟩, j1, j3, e24, kp, hp⟩ := hR
    subst ev ex ey
    have nx : px ≠ p := fun z => j1 (by rw [← z]; exact npx)
    have ny : py ≠ p := fun z => j3 (by rw [← z]; exact npy)
    refine ⟨p, fun i => if i = 0 then px else py, rfl, hp, fun i hi => ?_, fun i hi => ?_⟩
    · have : i = 0 ∨ i = 1 := by omega
      rcases this with rfl | rfl
      · exact kp px _ nx (e24 _ _ hpx)
      · obtain ⟨d2, l, e3, h3, h4⟩ := hpy
        cases e3
        exact ⟨⟨G1 iNew, 1⟩, ⟨_, l, rfl, kp _ _ ny h3, h4⟩, o1, rfl⟩
    · have : i = 0 ∨ i = 1 := by omega
      rcases this with rfl | rfl
      · exact nx
      · exact ny
  · subst ev
    refine evp_disp2P (R1 := fun J v H2 => v = .non) (R2 := fun J v H2 => v = .str (dgI iNew)) (k1 := .inr "x") (k2 := .inr "y") (by decide +kernel) ev_c (fun J eJ => Ev.p (ev_c (v := .non))) ev_c (fun J eJ => Ev.p (evp_dig (ev_var s4) hIn)) H2 (e1.trans e2) _ fun v H3 e3 ⟨p2, x, y, J1, J2, J3, J4, ev, np, ex, ey, _, _, _, _, hp2⟩ => ?_
    subst ev ex ey
    refine ⟨p, p2, _, _, rfl, rfl, e3 _ _ hp, hp2, rfl, fun z hz => ?_, q _ (e2.trans e3)⟩
    obtain ⟨y, hy, rfl⟩ := List.mem_map.mp hz
    obtain ⟨i, hi, rfl⟩ := List.mem_map.mp hy
    have hi := List.mem_range.mp hi
    have : i = 0 ∨ i = 1 := by omega
    rcases this with rfl | rfl
    · exact ⟨by decide +kernel, rfl⟩
    · exact ⟨by decide +kernel, rfl⟩
end
end Mx
set_option Elab.async false
set_option linter.all false
set_option maxRecDepth 100000
set_option maxHeartbeats 1000000
namespace Mx
open PySem PySem.Spec PyProof.Rows L2 Evl TL
open PySem.W (Datum DatumOrd Tup SomeDatum)
/-! ### the law -/
open LamX (CodeO TabS Tabs ExtN TabB)
section
variable {P : Program} {w : World} {K : PySem.W.Frag} {mg : Str → Option Value} {base : Heap} {C f c PT : Addr} {Ar : Around} {outer : List Env} {s : Shared} {H0 : Hp} {E : XK}
theorem w_again (T : TxtR K mg C) (B : BtM mg) (L : HL P w K mg base C) (TB : TabB base mg c PT) (hr : Room 7 (Ar.deeper (envOfC "law" (defScope sLaw) s.heap.objs.size f (.ref c)))) :
    ∃ t, PS (XL P w K mg base f c Ar outer s H0 E) sAg t ∧ ∀ (a pt : Addr) (U : LV) (v9 : Option V) (A : RA) (ptk : Addr) (v18 v19 v20 v21 v22 : Option V) (S : Wst) (d' : Nat → Addr) (M' : Nat → Mst) (H : Hp) (D : Ends), LvOk H U → RoAt C H A U.F d' M' S.t S.w S.st S.bad → Sts U.F U.M M' S.t (decide (S.st = "back")) → (S.st = "done" → S.t = U.n) → Tabs [(PT, qLam)] H →
      (∀ σ' H', σ'[4]? = some (some (.str (imgS iNew))) → D.nx σ' H') → t D (sgW a pt U v9 A ptk S [v18, v19, v20, v21, v22, none]) H := by
  have hu := hu_of hr
  refine ⟨_, ps_if (pt_cmpR (op_eq) (pv 16) (pe_str) (nomark _)) (pss_cons (ps_set (i := 23) scLaw.nd rfl (Or.inr rfl) (pe_roll L.rol hr (by rfl) (pa_cons (pe_callTy (call_dictD) (by rfl) B.dict (by decide +kernel) (pa_cons (pe_fld (pv 13) rfl) pa_nil)) (pa_cons (pe_ix (show IxR _ (rIxL K) from ix_list) (pv 2) (pe_int) (fun _ _ => rfl)) (pa_cons (pe_lst (pa_cons (pe_callB (call_len_seq) (by rfl) B.len (PySem.boot_len) (pa_cons (pv 5) pa_nil)) pa_nil)) (pa_cons (pe_callB (call_len_seq) (by rfl) B.len (PySem.boot_len) (pa_cons (pv 5) pa_nil)) pa_nil))))))
      (pss_cons (ps_expr (pe_methF [] (pv 23) T.cl L.run hr rfl (fun _ => rfl) (show ∀ y ∈ ([] : List Str), (defScope sLaw).names.lookup y = some NameKind.cell by decide +kernel) (pa_cons (pe_lamV (T := [(PT, qLam)]) TB rfl (List.mem_singleton.mpr rfl) (fun p hp _ => by rw [List.mem_singleton.mp hp]; rfl) rfl (show ∀ y ∈ (laS lam3).names, y.2 = NameKind.free → (defScope sLaw).names.lookup y.1 = some NameKind.cell ∨ (defScope sLaw).names.lookup y.1 = some NameKind.free by decide +kernel)) (pa_cons (pv 10) pa_nil))))
      (pss_cons (ps_if (PW.pt (pw_or (pt_cmpR (op_ne) (pe_fld (pv 23) rfl) (pe_str) (nomark _)) (pw_or (pt_val (pe_callB (cr_any rfl) (by rfl) B.any (by decide +kernel) (pa_cons (pe_lc (own := [("told", 20)]) (g := gName 20) (tt := tYes) rfl scLaw.nd (pi_values (pe_frzN (pe_h L.ims hr (by rfl) pass0 (pa_cons (pe_fld (pv 23) rfl) pa_nil)))) (blkOk_by (N := nL) (sc := defScope sLaw) (by decide +kernel)) (fun _ _ _ _ _ => pg_name (i := 20) scLaw.nd rfl (Or.inl rfl)) (fun _ _ _ _ _ => pts_nil) (fun _ _ _ _ _ => pe_cmpR op_ne (pv 20) (pe_h L.dig hr (by rfl) pass0 (pa_cons (pe_ix (show IxR _ (rIxL K) from ix_list) (pv 2) (pe_int) (fun _ _ => rfl)) pa_nil)) (nomark _))) pa_nil))) (pw_or1 (pt_cmpR (op_ne) (pe_fld (pv 23) rfl) (pe_int) (nomark _)))))) (pss_one (ps_ret pe_bl)) pss_nil)
      (pss_one (ps_if (pt_val (pe_callB (cr_any rfl) (by rfl) B.any (by decide +kernel) (pa_cons (pe_lc (own := [("name", 9)]) (g := gName 9) (tt := tYes) rfl scLaw.nd (pi_list (pv 5)) (blkOk_by (N := nL) (sc := defScope sLaw) (by decide +kernel)) (fun _ _ _ _ _ => pg_name (i := 9) scLaw.nd rfl (Or.inl rfl)) (fun _ _ _ _ _ => pts_nil) (fun _ _ _ _ _ => pe_cmpR op_lt (pe_callB (call_len_seqK (K' := K) rfl) (by rfl) B.len (PySem.boot_len) (pa_cons (pe_h L.whl hr (by rfl) pass0 (pa_cons (pe_dget hu (pe_fldK (K' := K) rfl (pv 23) rfl) (pv 9) (fun _ _ => rfl)) pa_nil)) pa_nil)) (pe_int) (nomark _))) pa_nil))) (pss_one (ps_ret pe_bl)) pss_nil))))) pss_nil, fun a pt U v9 A ptk v18 v19 v20 v21 v22 S d' M' H D lv ro sts hdone tb k => ?_⟩
  have n7 := lv.n7
  have n2 := lv.n2
  refine s_if (et_is (et_test (ev_op (ev_var rfl) ev_c (rv_eq rfl))) (str_eq _ _)) (fun hb H1 e1 => ?_) (fun hb H1 e1 => k _ _ rfl)
  have hd := of_decide_eq_true hb
  have hS := hdone hd
  have tk : ∀ i, i < U.n → Taken iNew (U.M i) (M' i) := fun i hi => by
    obtain ⟨m, t1, em⟩ := (sts i hi).1 (by omega)
    rw [if_neg (by rw [hd, decide_eq_false (by decide +kernel)]; decide)] at em
    rw [em]
    exact t1
  have ini : Ini (F3 U.n M') M' := ⟨⟨by show 1 ≤ U.n; omega, n7, by show ([0] : List Nat) ∈ Imgs; decide⟩, by show 0 < 1; decide, fun x hx => by rw [List.mem_singleton.mp (show x ∈ [U.n] from hx)]; omega, fun i hi => (tk i hi).o, fun i hi => ⟨iNew, (tk i hi).c, by show iNew ≠ [0]; decide⟩, fun i hi j hj => by have := (tk i hi).t 2 (lv.top i hi) j hj; omega, fun i hi => rfl⟩
  have lv1 := lv.en (enx e1)
  have ro1 := ro.ex e1
  have hlen : ∀ {σ : L2.St} {H2 : Hp}, Ex H1 H2 → σ[5]? = some (some (.ref U.pn)) → Ev (tCB (rLenS K) (tCons (tVar 5) tNil)) σ H2 (.int (U.n : Int)) := fun e2 s5 => ev_is (ev_len (ev_var s5) (sq_of (e2 _ _ lv1.nms))) (by rw [List.length_map, List.length_range])
  refine q_asgP (evp_roll (C := C) (fun _ => True) (F := F3 U.n M') (d := d') (M := M') (evp_copyD (ev_fleet T (ev_var rfl) ro1) ro1.fl) (ev_op (ev_var rfl) ev_c (rv_ixL (sq_of lv1.old) (atI_nat (j := 0) rfl))) (fun H2 e2 => EvP.imp (EvL.p (el_lst (ea_cons (hlen e2 rfl) ea_nil) (by show 1 ≤ 100000; decide))) fun v H3 e3 ⟨p, ev, hp⟩ => ⟨p, ev, trivial, hp⟩) (hlen (Ex.refl _) rfl) ro1.ms ini) fun v H2 e2 ⟨A3, ev, ro3, nA3, _⟩ => ?_
  subst ev
  have nin : ∀ p ∈ ([] : List Addr), False := fun p hp => by cases hp
  refine t_runF (P := P) (w := w) (K := K) (mg := mg) (base := base) (g := gF0) (lst := []) (F := F3 U.n M') (ev_var rfl) ro3 ini ((tb.ext e1).ext e2) ⟨fun p hp => (nin p hp).elim, fun p hp => (nin p hp).elim⟩ (fun Hx ex H3 e3 Q q => ?_) (fun fl H3 cs hl hf fz => cp_lam3 hf) fun j H3 d3 M3 ke tb3 hj1 hj2 ro4 sts4 => ?_
  · exact ev_var (v := .ref U.pc) rfl H3 (Ex.refl _) _ fun H4 e4 => q _ H4 e4 ⟨U.pc, U.cl, rfl, e4 _ _ (e3 _ _ (ex _ _ (e2 _ _ lv1.ct) (fun _ z => by cases z))), ne_none lv1.ct (nA3 A3.pf (List.mem_cons_of_mem _ (List.mem_cons_self ..)))⟩
  rw [it3 (by omega) hj1 hj2] at ro4 sts4
  have en : ExtN H1 H3 := ke H1 (enx e2) nA3
  have lv3 := lv1.en en
  have ro4 : RoAt C H3 A3 (F3 U.n M') d3 M3 U.n 1 "done" (List.range' 0 U.n) := ro4
  have tk3 : ∀ i, i < U.n → Taken [0] (M' i) (M3 i) := fun i hi => by
    obtain ⟨m, t1, em⟩ := (sts4 i hi).1 hi
    rw [if_neg (by rw [decide_eq_false (show ¬ ("done" : Str) = "back" by decide +kernel)]; decide)] at em
    rw [em]
    exact t1
  have hI0 : ([0] : List Nat) ∈ Imgs := by decide
  refine q_when (b := false) (et_is (et_or (a := false) (b := false) (et_is (et_test (ev_op (ev_status T (ev_var rfl) ro4) ev_c (rv_ne rfl))) (by rw [decide_eq_true rfl]; rfl)) fun _ => et_is (et_or (a := false) (b := false) (et_B (ev_anyNo (el_valsZ (kvs := dk dgV (flK nm U.n fun _ => some [0])) (.bl false) (fun H4 e4 => evp_ims (hdo := fun _ => some [0]) (ev_fleet T (ev_var rfl) (ro4.ex e4)) (ro4.ex e4).fl (nm_inj n7) n7 (fun i hi => ⟨M3 i, (ro4.ex e4).ms i hi, (tk3 i hi).o, (tk3 i hi).c⟩) ro4.df) (by rw [dk_len, flK_len]; omega) (fun _ => rfl) (fun kx v H4 e4 hkv => ?_)))) fun _ => et_is (et_test (ev_op (ev_waves T (ev_var rfl) ro4) ev_c (rv_ne rfl))) (by rw [decide_eq_true (show V.int ((1 : Nat) : Int) = V.int 1 from rfl)]; rfl)) rfl) rfl) (fun hb => nomatch hb) fun _ H4 e4 => ?_
  · obtain ⟨y, hy, e5⟩ := List.mem_map.mp hkv
    obtain ⟨i, hi, rfl⟩ := List.mem_map.mp hy
    cases e5
    exact ev_is (ev_op (ev_var (v := .str (dgI [0])) rfl) (evp_dig (ev_op (ev_var rfl) ev_c (rv_ixL (sq_of (e4 _ _ lv3.old)) (atI_nat (j := 0) rfl))) hI0) (rv_ne rfl)) (by rw [decide_eq_true rfl]; rfl)
  · have ro5 := ro4.ex e4
    have lv4 := lv3.en (enx e4)
    refine s_when (b := false) (et_B (ev_anyNo (el_nmsV (fun _ => .bl false) (ev_var rfl) (sq_of lv4.nms) (by rw [List.length_range]; omega) (fun _ => rfl) fun i H5 e5 hi => ?_))) (fun hb => nomatch hb) fun _ H5 e5 => k _ _ rfl
    have hi := List.mem_range.mp hi
    have ro6 := ro5.ex e5
    have okm : Ok (M3 i).g (M3 i).c 0 N0 := (tk3 i hi).o
    have l1 := lv.wl i hi
    have l2 := (tk i hi).l
    have l3 := (tk3 i hi).l
    refine ev_is (ev_op (ev_lenDt (K := K) (evd_whl (ev_dsk (ev_diskA T (ev_var rfl) (ev_var rfl) ro6 ini.c hi) (ro6.ms i hi)) okm)) ev_c rv_I0) ?_
    rw [List.length_map]
    show V.bl (decide ((((wG (M3 i).g).length : Nat) : Int) < 3)) = _
    rw [decide_eq_false (by omega)]
theorem w_tail (T : TxtR K mg C) (B : BtM mg) (L : HL P w K mg base C) (TB : TabB base mg c PT) (hr : Room 7 (Ar.deeper (envOfC "law" (defScope sLaw) s.heap.objs.size f (.ref c)))) :
    ∃ t, PSs (XL P w K mg base f c Ar outer s H0 E) ((defBody sLaw).drop 11) t ∧ ∀ (a pt : Addr) (U : LV) (v9 : Option V) (A : RA) (k : Nat) (ptk : Addr) (v18 v19 v20 v21 : Option V) (d' : Nat → Addr) (M' : Nat → Mst) (HB H : Hp) (D : Ends), LvOk HB U → (U.ps ≠ U.pbd) → (itW U.F U.g k).st ≠ "running" → Wv C PT HB H U A k ptk d' M' → (∀ H', D.rt (.bl true) H') →
      t D (sgW a pt U v9 A ptk (itW U.F U.g k) [v18, v19, v20, v21, none, none]) H := by
  have hu := hu_of hr
  obtain ⟨tA, hAg, rA⟩ := w_again (P := P) (w := w) (outer := outer) (s := s) (H0 := H0) (E := E) T B L TB hr
  obtain ⟨tR, hRet, rR⟩ := w_ret (P := P) (w := w) (outer := outer) (s := s) (H0 := H0) (E := E) T B L TB hr
  refine ⟨_, (pss_cons (ps_set (i := 22) scLaw.nd rfl (Or.inl rfl) (pe_roll L.rol hr (by rfl) (pa_cons (pe_callTy (call_dictD) (by rfl) B.dict (by decide +kernel) (pa_cons (pv 6) pa_nil)) (pa_cons (pv 4) (pa_cons (pv 11) (pa_cons (pv 12) pa_nil)))))) (pss_cons (ps_expr (pe_methF ["new", "bad"] (pv 22) T.cl L.run hr rfl (fun _ => rfl) (show ∀ y ∈ (["new", "bad"] : List Str), (defScope sLaw).names.lookup y = some NameKind.cell by decide +kernel) (pa_cons (pe_lamV (T := [(PT, qLam)]) TB rfl (List.mem_singleton.mpr rfl) (fun p hp _ => by rw [List.mem_singleton.mp hp]; rfl) rfl (show ∀ y ∈ (laS lam2).names, y.2 = NameKind.free → (defScope sLaw).names.lookup y.1 = some NameKind.cell ∨ (defScope sLaw).names.lookup y.1 = some NameKind.free by decide +kernel)) (pa_cons (pe_dnewK) pa_nil)))) (pss_cons (ps_if (PW.pt (pw_or (pt_cmpR (op_ne) (pe_fld (pv 22) rfl) (pv 16) (nomark _)) (pw_or (pt_cmpR (op_ne_dictA (Nat.lt_of_le_of_lt (Nat.le_succ _) hu)) (pe_h L.ims hr (by rfl) pass0 (pa_cons (pe_fld (pv 22) rfl) pa_nil)) (pe_h L.ims hr (by rfl) pass0 (pa_cons (pe_fld (pv 13) rfl) pa_nil)) (nomark _)) (pw_or1 (pt_cmpR (op_neT (α := List Str) (uD hr (by decide))) (pe_fld (pv 22) rfl) (pv 14) (nomark _)))))) (pss_one (ps_ret pe_bl)) pss_nil) (pss_cons (ps_if (pt_val (pe_callB (cr_any rfl) (by rfl) B.any (by decide +kernel) (pa_cons (pe_lc (own := [("name", 9)]) (g := gName 9) (tt := tYes) rfl scLaw.nd (pi_list (pv 5)) (blkOk_by (N := nL) (sc := defScope sLaw) (by decide +kernel)) (fun _ _ _ _ _ => pg_name (i := 9) scLaw.nd rfl (Or.inl rfl)) (fun _ _ _ _ _ => pts_nil) (fun _ _ _ _ _ => pe_cmpR (op_neTK (K' := K) (α := Int × Str) rfl (uD hr (by decide))) (pe_h L.cur hr (by rfl) pass0 (pa_cons (pe_dget hu (pv 6) (pv 9) (fun _ _ => rfl)) pa_nil)) (pe_dget hu (pv 7) (pv 9) (fun _ _ => rfl)) (nomark _))) pa_nil))) (pss_one (ps_ret pe_bl)) pss_nil) (pss_cut hAg (pss_one hRet)))))), fun a pt U v9 A k ptk v18 v19 v20 v21 d' M' HB H D lvB psb hnr wv kk => ?_⟩
  have lv := lvB.en wv.en
  have n7 := lv.n7
  have ki : KInj nm U.n := nm_inj n7
  refine q_asgP (evp_roll (C := C) (fun p => p = U.ps) (F := U.F) (d := U.d) (M := U.M) (evp_copyD (ev_var rfl) lv.fl) (ev_var rfl) (fun H1 e1 => EvP.imp (Ev.p (ev_var rfl)) fun v H2 e2 ev => ⟨U.ps, ev, rfl, (e1.trans e2) _ _ lv.sz⟩) (ev_var rfl) lv.ms lv.ini) fun v H1 e1 ⟨A2, ev, ro2, nA2, hps⟩ => ?_
  subst ev
  have lv1 := lv.en (enx e1)
  have nbd : ∀ p ∈ [U.pbd], p ≠ A2.ps ∧ p ≠ A2.pd ∧ p ≠ A2.pe := fun p hp => by
    rw [List.mem_singleton.mp hp]
    exact ⟨fun z => psb (by rw [z, hps]), ne_none lv.bd (nA2 _ (List.mem_cons_of_mem _ (List.mem_cons_of_mem _ (List.mem_cons_self ..)))), ne_none lv.bd (nA2 _ (List.mem_cons_of_mem _ (List.mem_cons_of_mem _ (List.mem_cons_of_mem _ (List.mem_cons_self ..)))))⟩
  refine t_runF (P := P) (w := w) (K := K) (mg := mg) (base := base) (g := U.g) (lst := [U.pbd]) (F := U.F) (ev_var rfl) ro2 lv.ini (wv.tb.ext e1) ⟨fun p hp => ⟨U.bn.map V.str, by rw [List.mem_singleton.mp hp]; exact lv1.bd⟩, nbd⟩ (fun Hx ex => EvP.imp evp_dnew fun v H3 e3 ⟨p, ev, np, hp⟩ => ⟨p, [], ev, hp, (ne_none (ex _ _ ro2.fl (fun _ z => by cases z)) np).symm⟩)
    (fun fl H3 cs hl hf fz => cp_lam2 fz rfl rfl ((hl _ (List.mem_cons_self ..)).trans lv1.bd) (List.mem_cons_self ..) hf) fun j H2 d2 M2 ke tb2 hj1 hj2 ro3 sts3 => ?_
  have jk := same_end hj1 hj2 wv.run hnr
  subst jk
  have en : ExtN H H2 := ke H (enx e1) nA2
  have lv2 := lv.en en
  have roA := wv.ro.en en
  have stA := wv.sts
  have htk := en _ _ wv.tk (fun _ z => by cases z)
  have hdn := itW_done (F := U.F) (g := U.g) j
  generalize itW U.F U.g j = S at *
  have nn : ∀ x : List Str, decide (x ≠ x) = false := fun x => decide_eq_false fun z => z rfl
  refine q_when (b := false) (et_is (et_or (a := false) (b := false) (et_is (et_test (ev_op (ev_status T (ev_var rfl) ro3) (ev_var rfl) (rv_ne rfl))) (by rw [decide_eq_true rfl]; rfl)) fun _ => et_is (et_or (a := false) (b := false) (et_test (ev_neD2 ki (evp_ims (hdo := fun i => some (hdW U S i)) (ev_fleet T (ev_var rfl) ro3) ro3.fl ki n7 (fun i hi => ⟨M2 i, ro3.ms i hi, sts_im lv2 sts3 hi⟩) ro3.df) fun H3 e3 => evp_ims (hdo := fun i => some (hdW U S i)) (ev_fleet T (ev_var rfl) (roA.ex e3)) (roA.ex e3).fl ki n7 (fun i hi => ⟨M' i, (roA.ex e3).ms i hi, sts_im lv2 stA hi⟩) roA.df)) fun _ => et_is (et_test (evd_op (K := K) (α := List Str) (x := (List.range S.t).map nm) (y := (List.range S.t).map nm) (evd_v (ev_done T (ev_var rfl) ro3) (dt_strs (sq_of (by rw [List.map_map]; exact ro3.dn)))) (evd_v (ev_var rfl) (dt_strs (sq_of (by rw [List.map_map]; exact htk)))))) (nn _)) rfl) rfl) (fun hb => nomatch hb) fun _ H3 e3 => ?_
  have lv3 := lv2.en (enx e3)
  refine q_when (b := false) (et_B (ev_anyNo (el_nmsV (fun _ => .bl false) (ev_var rfl) (sq_of lv3.nms) (by rw [List.length_range]; omega) (fun _ => rfl) fun i H4 e4 hi => ?_))) (fun hb => nomatch hb) fun _ H4 e4 => ?_
  · have hi := List.mem_range.mp hi
    have lv4 := lv3.en (enx e4)
    have okm : Ok (U.M i).g (U.M i).c 0 N0 := lv.ini.o i hi
    refine ev_is (evd_op (K := K) (evd_cur (ev_dsk (ev_dgetK (k := .inr (nm i)) (ev_var rfl) (ev_var rfl) (.inl lv4.fl) (flK_val ki hi)) (lv4.ms i hi)) okm (lv4.g i hi)) (evd_tupv (ev_dgetK (k := .inr (nm i)) (ev_var rfl) (ev_var rfl) (.inl lv4.be) (flK_val ki hi)) (lv4.bt i hi))) ?_
    exact congrArg V.bl (decide_eq_false fun z => z rfl)
  · exact q_cut (M := fun σ' H' => σ'[4]? = some (some (.str (imgS iNew)))) (rA a pt U v9 A ptk v18 v19 v20 v21 _ S d' M' H4 _ (lv3.en (enx e4)) ((roA.ex e3).ex e4) stA hdn ((tb2.ext e3).ext e4) fun σ' H' h => h) fun σ' H' h => rR σ' H' D h kk
end
end Mx
set_option Elab.async false
set_option linter.all false
set_option maxRecDepth 100000
set_option maxHeartbeats 1000000
namespace Mx
open PySem PySem.Spec PyProof.Rows L2 Evl TL
open PySem.W (Datum DatumOrd Tup SomeDatum)
/-! ### the law -/
open LamX (CodeO TabS Tabs ExtN TabB)
theorem flK_ext {α : Type} {k : Nat → Str} {i : Nat} {d : Nat → α} {a : α} : flK k i d ++ [(k i, a)] = flK k (i + 1) (fset d i a) := by
  rw [flK_snoc, fset_at]
  congr 1
  unfold flK
  exact List.map_congr_left fun j hj => by rw [fset_ne (by have := List.mem_range.mp hj; omega)]
theorem flK_out {α : Type} {i n : Nat} {d : Nat → α} (n7 : n ≤ 7) (hi : i < n) : nm i ∉ (flK nm i d).map (·.1) := fun z => by
  rw [flK_keys] at z
  obtain ⟨j, hj, e⟩ := List.mem_map.mp z
  have hj := List.mem_range.mp hj
  have := nm_inj n7 j (by omega) i hi e
  omega
theorem dat_ne {H : Hp} {a b : Addr} {m : Mst} {l' : List (Str × Addr)} (h : DAt H a m) (hb : H b = some (.dK (dk V.ref l'))) : a ≠ b := fun z => by
  obtain ⟨d, l, e, h1, h2⟩ := h
  cases e
  rw [z, hb] at h1
  have e1 := HO.dK.inj (Option.some.inj h1)
  have h3 : valV (dk V.str l) (Sum.inr (kst 0)) = some (.str (numI (m.c : Nat))) := by
    rw [valV_dk, h2.look (List.mem_cons_self ..)]
    show (frm m.g m.c 0 N0 0).map V.str = _
    rw [frm_0]
    rfl
  rw [← e1, valV_dk] at h3
  cases q : l'.lookup (kst 0) with
  | none => rw [q] at h3; cases h3
  | some x => rw [q] at h3; cases h3
theorem nats_of {Pd : Nat → Prop} : ∀ {vs : List V}, (∀ v ∈ vs, ∃ d : Nat, v = .int (d : Int) ∧ Pd d) → ∃ ns : List Nat, vs = ns.map (fun s => V.int ((s : Nat) : Int)) ∧ ∀ n ∈ ns, Pd n
  | [], _ => ⟨[], rfl, fun _ h => absurd h (by simp)⟩
  | v :: vs, h => by
    obtain ⟨d, rfl, hd⟩ := h v (List.mem_cons_self ..)
    obtain ⟨ns, rfl, hl⟩ := nats_of (vs := vs) fun v hv => h v (List.mem_cons_of_mem _ hv)
    refine ⟨d :: ns, rfl, fun n hn => ?_⟩
    rcases List.mem_cons.mp hn with rfl | hn
    · exact hd
    · exact hl n hn
theorem mergeK_dk {α : Type} {f : α → V} : ∀ (more l : List (Str × α)), ∃ l', mergeK (dk f l) (dk f more) = dk f l'
  | [], l => ⟨l, rfl⟩
  | e :: r, l => by
    obtain ⟨l', h⟩ := mergeK_dk r (putA l e.1 e.2)
    refine ⟨l', ?_⟩
    rw [← h, ← putK_dk]
    rfl
section
variable {σ : L2.St} {H H' : Hp} {te te0 ta tb tc td ty tv : TE} {tt : TT} {K : PySem.W.Frag} {E : XK}
theorem ev_wim {ds : List Nat} (h : EvP te σ H fun v H2 => ∃ p, v = .ref p ∧ H2 p = some (.dK (dk V.str (filesL ds)))) (hd : ((filesL ds).map (·.1)).Nodup) (hs : sortedS ((filesL ds).map (·.1)) = true) (hl : (filesL ds).length ≤ 10) (hz : ∀ e ∈ filesL ds, e.1.length ≤ 100 ∧ e.2.length ≤ 100) : Ev (tCall spWim [] E (tCons te tNil)) σ H (.str (imgS ds)) := fun H1 e Q q =>
  h H1 e _ fun v H2 e2 ⟨p, ev, hp⟩ => by
    subst ev
    exact ⟨p, _, filesL ds, rfl, hp, List.Perm.refl _, hd, hs, hl, hz, fun H3 e3 => q H3 (e2.trans e3)⟩
theorem evp_disp1 {k : Key} {tk : TE} {v : V} (hk : Ev tk σ H (kV k)) (hv : Ev tv σ H v) : EvP (tDisp [(tk, tv)]) σ H fun u H2 => ∃ p, u = .ref p ∧ H2 p = some (.dK [(k, v)]) := fun H1 e Q q p hp =>
  ev_pairs (trs := [(tk, tv)]) (kvs := [(kV k, v)]) (.cons ⟨hk, hv⟩ .nil) _ (e.trans (Ex.new hp)) _ fun H2 e2 => ⟨e2 _ _ upd_same, [(k, v)], rfl, by show 1 ≤ 15; decide, q _ _ (Ex.mut ((Ex.new hp).trans e2) hp) ⟨p, rfl, upd_same⟩⟩
/-- [elt for _ in range(n)]: n known by a predicate, the list new -/
theorem evp_lcRx {N : Nat} {Pn : Nat → Prop} {j : Nat} {vs : List Nat} {R : Nat → V → Prop} (hN : N ≤ 40000) (h : EvP te0 σ H (fun v _ => ∃ n : Nat, v = .int (n : Int) ∧ n ≤ N ∧ Pn n)) (hw : ∀ x, wipe ((wipe σ vs).set j (some x)) vs = wipe σ vs)
    (he : ∀ (i : Nat) H1, Ex H H1 → i < N → EvP te ((wipe σ vs).set j (some (.int (i : Int)))) H1 (fun v _ => R i v)) : EvP (tLc (iRng1 (tCons te0 tNil)) (gName j) tYes te vs) σ H (fun v H2 => ∃ p xs, Pn xs.length ∧ xs.length ≤ N ∧ v = .ref p ∧ H p = none ∧ H2 p = some (.lst xs) ∧ ∀ k x, xs[k]? = some x → R k x) := fun H0 e Q q =>
  h H0 e _ fun v H1 e1 ⟨n, ev, hn, pn⟩ => by
    subst ev
    refine ⟨(n : Int), rfl, by omega, by omega, fun D hD => ?_⟩
    rw [Int.toNat_natCast]
    refine lc_range (lo := 0) (n := n) (fun i H' => H1 D = none ∧ Ex H1 H' ∧ ∃ acc, H' D = some (.lst acc) ∧ acc.length = i ∧ ∀ k x, acc[k]? = some x → R k x) ⟨hD, Ex.new hD, [], upd_same, rfl, fun k x z => by simp at z⟩ (fun i H' hi p => ?_) fun H' p => ?_
    · obtain ⟨p1, p2, acc, p3, p4, p5⟩ := p
      refine ⟨hw _, ?_⟩
      rw [Int.zero_add]
      refine he i H' ((e.trans e1).trans p2) (by omega) H' (Ex.refl H') _ fun y H4 e4 r => ⟨acc, e4 _ _ p3, sz_lt (by omega), p1, Ex.mut (p2.trans e4) p1, acc ++ [y], upd_same, by simp [p4], fun k x hx => ?_⟩
      rcases get_snoc hx with z | ⟨z1, z2⟩
      · exact p5 k x z
      · rw [z1, p4, z2]
        exact r
    · obtain ⟨p1, p2, acc, p3, p4, p5⟩ := p
      exact q _ H' (e1.trans p2) ⟨D, acc, by rw [p4]; exact pn, by omega, rfl, fresh_back (e.trans e1) p1, p3, p5⟩
/-- [elt for x in a list if drawn] -/
theorem evp_lcLd {p : Addr} {xs : List V} {tl : TE} {j : Nat} {vs : List Nat} {R : V → Hp → Prop} (hm : Mono R) (h : Ev tl σ H (.ref p)) (hp : SqL K H p xs) (hz : xs.length ≤ 1000) (hw : ∀ x, wipe ((wipe σ vs).set j (some x)) vs = wipe σ vs)
    (ht : ∀ (x : V) H1, Ex H H1 → x ∈ xs → ∀ Q : Bool → Hp → Prop, (∀ b H2, Ex H1 H2 → Q b H2) → tt ((wipe σ vs).set j (some x)) H1 Q)
    (he : ∀ (x : V) H1, Ex H H1 → x ∈ xs → EvP te ((wipe σ vs).set j (some x)) H1 R) : EvP (tLc (iList K tl) (gName j) tt te vs) σ H (fun v H2 => ∃ q acc, v = .ref q ∧ H2 q = some (.lst acc) ∧ ∀ y ∈ acc, R y H2) := fun H0 e Q q =>
  h H0 e _ fun H1 e1 => by
    refine ⟨p, rfl, ⟨xs, ex_l (e.trans e1) hp⟩, fun D hD => ?_⟩
    have E := e.trans e1
    refine lc_list (xs := xs) (fun i H' => H1 D = none ∧ Ex H1 H' ∧ ∃ acc, H' D = some (.lst acc) ∧ acc.length ≤ i ∧ ∀ y ∈ acc, R y H') ⟨hD, Ex.new hD, [], upd_same, Nat.le_refl _, fun y z => by simp at z⟩ (fun i H' _ pv => ex_l (E.trans pv.2.1) hp) (fun i x H' hi pv => ?_) fun H' pv => ?_
    · obtain ⟨p1, p2, acc, p3, p4, p5⟩ := pv
      have mx := List.mem_of_getElem? hi
      have lt := (List.getElem?_eq_some_iff.mp hi).1
      refine ⟨hw _, ?_⟩
      refine ht x H' (E.trans p2) mx _ fun b H3 e3 => ?_
      cases b with
      | true =>
        rw [if_pos rfl]
        refine he x H3 (E.trans (p2.trans e3)) mx H3 (Ex.refl _) _ fun y H4 e4 r => ⟨acc, (e3.trans e4) _ _ p3, sz_lt (by omega), p1, Ex.mut (p2.trans (e3.trans e4)) p1, acc ++ [y], upd_same, by rw [List.length_append]; show acc.length + 1 ≤ i + 1; omega, fun z hz => ?_⟩
        have tx : Tx H4 (upd H4 D (.lst (acc ++ [y]))) := Tx.lst ((e3.trans e4) _ _ p3)
        rcases List.mem_append.mp hz with hz | hz
        · exact hm _ _ _ ((Tx.of (e3.trans e4)).trans tx) (p5 z hz)
        · rw [List.mem_singleton.mp hz]
          exact hm _ _ _ tx r
      | false =>
        rw [if_neg (by decide)]
        exact ⟨p1, p2.trans e3, acc, e3 _ _ p3, by omega, fun y hy => hm _ _ _ (Tx.of e3) (p5 y hy)⟩
    · obtain ⟨p1, p2, acc, p3, p4, p5⟩ := pv
      exact q _ H' (e1.trans p2) ⟨D, acc, rfl, p3, p5⟩
theorem evt_drawn (h : EvP te σ H fun v _ => ∃ d : Nat, v = .int (d : Int)) {Q : Bool → Hp → Prop} (q : ∀ b H2, Ex H H2 → Q b H2) : tTest (tOp rEq te (tC (.int 0))) σ H Q := h H (Ex.refl H) _ fun v H1 e1 ⟨d, ev⟩ => by
  subst ev
  exact ⟨rfl, _, rfl, q _ H1 e1⟩
theorem q_if0J {tu tz : TS} {D : Ends} (h : EvP te σ H fun v _ => ∃ d : Nat, v = .int (d : Int)) (M : L2.St → Hp → Prop) (k1 : ∀ H1 (D' : Ends), Ex H H1 → (∀ σ2 H2, M σ2 H2 → D'.nx σ2 H2) → tu D' σ H1) (k2 : ∀ H1, Ex H H1 → M σ H1) (k : ∀ σ' H', M σ' H' → tz D σ' H') : tSeq (tIfS (tTest (tOp rEq te (tC (.int 0)))) tu tNext) tz D σ H := by
  refine evt_drawn h fun b H2 e2 => ?_
  cases b with
  | true =>
    rw [if_pos rfl]
    exact k1 H2 _ e2 fun σ2 H3 m => k σ2 H3 m
  | false =>
    rw [if_neg (by decide)]
    exact k σ H2 (k2 H2 e2)
theorem s_if0 {tu : TS} {D : Ends} (h : EvP te σ H fun v _ => ∃ d : Nat, v = .int (d : Int)) (k1 : ∀ H1, Ex H H1 → tu D σ H1) (k2 : ∀ H1, Ex H H1 → D.nx σ H1) : tIfS (tTest (tOp rEq te (tC (.int 0)))) tu tNext D σ H := by
  refine evt_drawn h fun b H2 e2 => ?_
  cases b with
  | true =>
    rw [if_pos rfl]
    exact k1 H2 e2
  | false =>
    rw [if_neg (by decide)]
    exact k2 H2 e2
theorem q_dputP {D : Ends} {tz : TS} {d : Addr} {kvs : List (Key × V)} {k : Key} {R : V → Hp → Prop} (hv : EvP tv σ H R) (hd : Ev td σ H (.ref d)) (hk : Ev ty σ H (kV k)) (h : H d = some (.dK kvs)) (hl : kvs.length ≤ 50000) (n : ∀ v H1 H3, Ex H H1 → R v H1 → Ex H1 H3 → tz D σ (upd H3 d (.dK (putK kvs k v)))) : tSeq (sDPut td ty tv) tz D σ H := s_dputP (D := { D with nx := tz D }) hv hd hk h hl n
theorem q_tri {i j l : Nat} {D : Ends} {tz : TS} (k : ∀ p1 p2 p3 H1, H p1 = none → H p2 = none → H p3 = none → p1 ≠ p2 → p1 ≠ p3 → p2 ≠ p3 → Ex H H1 → H1 p1 = some (.dK []) → H1 p2 = some (.dK []) → H1 p3 = some (.lst []) → tz D (((σ.set i (some (.ref p1))).set j (some (.ref p2))).set l (some (.ref p3))) H1) : tSeq (tAsg (tTup (tCons tDNewK (tCons tDNewK (tCons (tLst tNil) tNil)))) (gTup K 3 (gCons (gName i) (gCons (gName j) (gCons (gName l) gNil))))) tz D σ H := by
  show tTup (tCons tDNewK (tCons tDNewK (tCons (tLst tNil) tNil))) σ H fun x H1 => gTup K 3 (gCons (gName i) (gCons (gName j) (gCons (gName l) gNil))) x σ H1 (tz D)
  intro p1 n1 p2 n2
  refine el_lst (vs := []) ea_nil (by decide) _ (Ex.refl _) _ fun p3 H3 n3 e3 h3 => ⟨by show 3 ≤ sizeLine; decide, fun q hq => ?_⟩
  have h12 : p1 ≠ p2 := fun z => by rw [← z, upd_same] at n2; cases n2
  have m2 : H p2 = none := by rw [upd_ne h12.symm] at n2; exact n2
  have h13 : p1 ≠ p3 := fun z => by rw [← z, upd_ne h12, upd_same] at n3; cases n3
  have h23 : p2 ≠ p3 := fun z => by rw [← z, upd_same] at n3; cases n3
  have m3 : H p3 = none := by rw [upd_ne h23.symm, upd_ne h13.symm] at n3; exact n3
  refine ⟨q, _, rfl, st_of upd_same, rfl, _, _, rfl, _, _, rfl, _, _, rfl, rfl, k p1 p2 p3 _ n1 m2 m3 h12 h13 h23 (((Ex.new n1).trans (Ex.new n2)).trans (e3.trans (Ex.new hq))) ?_ ?_ ((Ex.new hq) _ _ h3)⟩
  · exact (e3.trans (Ex.new hq)) _ _ (by rw [upd_ne h12, upd_same])
  · exact (e3.trans (Ex.new hq)) _ _ upd_same
theorem q_parPH {i j : Nat} {D : Ends} {tz : TS} {R1 R2 : V → Hp → Prop} (ha : EvP ta σ H R1) (hb : ∀ H1, Ex H H1 → EvP tb σ H1 R2) (k : ∀ u v H1 H2, Ex H H1 → R1 u H1 → Ex H1 H2 → R2 v H2 → tz D ((σ.set i (some u)).set j (some v)) H2) : tSeq (tPar i j (tCons ta (tCons tb tNil))) tz D σ H := by
  show tCons ta (tCons tb tNil) σ H fun vs H1 => ∃ v w, vs = [v, w] ∧ tz D ((σ.set i (Option.some v)).set j (Option.some w)) H1
  exact ha H (Ex.refl H) _ fun u H1 e1 r1 => hb H1 e1 H1 (Ex.refl _) _ fun v H2 e2 r2 => ⟨_, _, rfl, k u v H1 H2 e1 r1 e2 r2⟩
theorem q_four {tl : TE} {i j l m : Nat} {D : Ends} {tz : TS} {x y z : V} {xs : List V} (hl : EvL tl σ H xs) (k : ∀ p H1, H p = none → Ex H H1 → H1 p = some (.lst xs) → tz D ((((σ.set i (some (.ref p))).set j (some x)).set l (some y)).set m (some z)) H1) : tSeq (tAsg (tTup (tCons tl (tCons (tC x) (tCons (tC y) (tCons (tC z) tNil))))) (gTup K 4 (gCons (gName i) (gCons (gName j) (gCons (gName l) (gCons (gName m) gNil)))))) tz D σ H := by
  show tTup (tCons tl (tCons (tC x) (tCons (tC y) (tCons (tC z) tNil)))) σ H fun x H1 => gTup K 4 (gCons (gName i) (gCons (gName j) (gCons (gName l) (gCons (gName m) gNil)))) x σ H1 (tz D)
  exact hl H (Ex.refl H) _ fun p H1 np e1 hp => ⟨by show 4 ≤ sizeLine; decide, fun q hq => ⟨q, _, rfl, st_of upd_same, rfl, _, _, rfl, _, _, rfl, _, _, rfl, _, _, rfl, rfl, k p _ np (e1.trans (Ex.new hq)) ((Ex.new hq) _ _ hp)⟩⟩
/-- dict([(k, v), ..]) -/
theorem evp_dictP (h : EvP te σ H fun v H2 => ∃ q acc, v = .ref q ∧ H2 q = some (.lst acc) ∧ ∀ y ∈ acc, ∃ a i d, y = .ref a ∧ H2 a = some (.tup [.str i, .int ((d : Nat) : Int)])) : EvP (tCB (fun xs H Q => ∃ (a : Addr) (ps : List Addr) (kvs : List (Key × V)), xs = [.ref a] ∧ SqL K H a (ps.map V.ref) ∧ Paired (fun p kv => SqT K H p [kV kv.1, kv.2]) ps kvs ∧ ∀ p, H p = none → Q (.ref p) (upd H p (.dK (mergeK [] kvs)))) (tCons te tNil)) σ H fun v H2 => ∃ q cl, v = .ref q ∧ H2 q = some (.dK (dk (fun c : Nat => V.int (c : Int)) cl)) := fun H1 e Q q =>
  h H1 e _ fun v H2 e2 ⟨p, acc, ev, hp, ha⟩ => by
    subst ev
    have key : ∀ acc : List V, (∀ y ∈ acc, ∃ a i d, y = .ref a ∧ H2 a = some (.tup [.str i, .int ((d : Nat) : Int)])) → ∃ ps l, acc = ps.map V.ref ∧ Paired (fun p kv => SqT K H2 p [kV kv.1, kv.2]) ps (dk (fun c : Nat => V.int (c : Int)) l) := fun acc => by
      induction acc with
      | nil => exact fun _ => ⟨[], [], rfl, .nil⟩
      | cons y r ih =>
        intro hy
        obtain ⟨a, i, d, ey, h1⟩ := hy y (List.mem_cons_self ..)
        obtain ⟨ps, l, e1, e2⟩ := ih fun z hz => hy z (List.mem_cons_of_mem _ hz)
        exact ⟨a :: ps, (i, d) :: l, by rw [ey, e1]; rfl, .cons (st_of h1) e2⟩
    obtain ⟨ps, l, e3, e4⟩ := key acc ha
    subst e3
    obtain ⟨l', hl⟩ := mergeK_dk (f := fun c : Nat => V.int (c : Int)) l []
    have hl : mergeK [] (dk (fun c : Nat => V.int (c : Int)) l) = dk (fun c : Nat => V.int (c : Int)) l' := hl
    exact ⟨p, ps, _, rfl, sq_of hp, e4, fun r hr => q _ _ (e2.trans (Ex.new hr)) ⟨r, l', rfl, by rw [hl]; exact upd_same⟩⟩
end
end Mx
set_option Elab.async false
set_option linter.all false
set_option maxRecDepth 100000
set_option maxHeartbeats 1000000
namespace Mx
open PySem PySem.Spec PyProof.Rows L2 Evl TL
open PySem.W (Datum DatumOrd Tup SomeDatum)
/-! ### the law -/
open LamX (CodeO TabS Tabs ExtN TabB)
/-- what the first loop leaves at the i-th name -/
theorem DAt.upd {H : Hp} {a q : Addr} {o : HO} {m : Mst} (h : DAt H a m) (n : a ≠ q) : DAt (L2.upd H q o) a m := by
  obtain ⟨d, l, e, h1, h2⟩ := h
  cases e
  exact ⟨_, l, rfl, by rw [upd_ne n]; exact h1, h2⟩
theorem DAt.nl {H : Hp} {a q : Addr} {xs : List V} {m : Mst} (h : DAt H a m) (hq : H q = some (.lst xs)) : a ≠ q := fun z => by
  obtain ⟨d, l, e, h1, h2⟩ := h
  cases e
  rw [z, hq] at h1
  cases h1
def m0 : Mst := ⟨G1 [0], 1⟩
def m1 : Mst := ⟨Gset (G1 [0]) 2 (some [1]), 2⟩
def GoodM (m : Mst) (hd : List Nat) : Prop := m.O ∧ m.g m.c = some hd ∧ hd ≠ iNew ∧ (∀ x, (m.g x).isSome = true → x ≤ 2) ∧ 1 ≤ (wG m.g).length
theorem ok_m0 : Ok (G1 [0]) 1 0 N0 := ok1 (by decide)
theorem top0 : ∀ x, (G1 [0] x).isSome = true → x ≤ 1 := fun x hx => by
  unfold G1 at hx
  by_cases z : x = 1
  · omega
  · rw [if_neg z] at hx
    cases hx
theorem good0 : GoodM m0 [0] := ⟨ok_m0, rfl, by decide, fun x hx => Nat.le_succ_of_le (top0 x hx), by show 1 ≤ (wG (G1 [0])).length; rw [wG1]; decide⟩
theorem good1 : GoodM m1 [1] := ⟨ok_m0.add (m := 2) (ds := [1]) (by decide) (by decide) (.inr rfl), rfl, by decide, fun x hx => (by
  have hx : (Gset (G1 [0]) 2 (some [1]) x).isSome = true := hx
  unfold Gset at hx
  by_cases z : x = 2
  · omega
  · rw [if_neg z] at hx
    have := top0 x hx
    omega), by show 1 ≤ (wG (Gset (G1 [0]) 2 (some [1]))).length; decide⟩
theorem fset2 {α : Type} {d : Nat → α} {i : Nat} {a b : α} : fset (fset d i a) i b = fset d i b := by
  funext j
  unfold fset
  split <;> rfl
structure Fl (H : Hp) (pfl pbe pbd : Addr) (i : Nat) (d : Nat → Addr) (M : Nat → Mst) (hd : Nat → List Nat) (tb : Nat → Addr) (bl : List Nat) : Prop where
  fl : H pfl = some (.dK (dk V.ref (flK nm i d)))
  be : H pbe = some (.dK (dk V.ref (flK nm i tb)))
  bd : H pbd = some (.lst (bl.map fun j => V.str (nm j)))
  ms : ∀ j, j < i → DAt H (d j) (M j)
  bt : ∀ j, j < i → H (tb j) = some (.tup [.int ((M j).c : Int), .str (imgS (hd j))])
  o : ∀ j, j < i → GoodM (M j) (hd j)
  ln : bl.length ≤ i
theorem Fl.kp {H H' : Hp} {pfl pbe pbd : Addr} {i : Nat} {d : Nat → Addr} {M : Nat → Mst} {hd : Nat → List Nat} {tb : Nat → Addr} {bl : List Nat} (h : Fl H pfl pbe pbd i d M hd tb bl) (e : Ex H H') : Fl H' pfl pbe pbd i d M hd tb bl :=
  ⟨e _ _ h.fl, e _ _ h.be, e _ _ h.bd, fun j hj => (h.ms j hj).ex e, fun j hj => e _ _ (h.bt j hj), h.o, h.ln⟩
section
variable {P : Program} {w : World} {K : PySem.W.Frag} {mg : Str → Option Value} {base : Heap} {C f c PT : Addr} {Ar : Around} {outer : List Env} {s : Shared} {H0 : Hp} {E : XK}
def sgF (a pt po pn pfl pbe pbd : Addr) (v9 : Option V) : L2.St := [some (.ref a), some (.ref pt), some (.ref po), none, some (.str (imgS iNew)), some (.ref pn), some (.ref pfl), some (.ref pbe), some (.ref pbd), v9, none, none, none, none, none, none, none, none, none, none, none, none, none, none]
theorem w_fill (B : BtM mg) (L : HL P w K mg base C) (hr : Room 7 (Ar.deeper (envOfC "law" (defScope sLaw) s.heap.objs.size f (.ref c)))) :
    ∃ t, PS (XL P w K mg base f c Ar outer s H0 E) ((defBody sLaw).getD 5 psS) t ∧ ∀ (a pt po pn pfl pbe pbd : Addr) (n : Nat) (HB H : Hp) (D : Ends), n ≤ 7 → TapeAt P w HB pt → HB po = some (.lst [.str (imgS [0]), .str (imgS [1])]) → HB pn = some (.lst ((List.range n).map fun i => V.str (nm i))) → HB pfl = none → HB pbe = none → HB pbd = none → pfl ≠ pbe → pfl ≠ pbd → pbe ≠ pbd → Ex HB H →
      H pfl = some (.dK []) → H pbe = some (.dK []) → H pbd = some (.lst []) → (∀ v9 d M hd tb bl H', Ex HB H' → Fl H' pfl pbe pbd n d M hd tb bl → D.nx (sgF a pt po pn pfl pbe pbd v9) H') → t D (sgF a pt po pn pfl pbe pbd none) H := by
  have hu := hu_of hr
  refine ⟨_, ps_for (passes_of rfl) rfl (pi_list (pv 5)) (pg_name (i := 9) scLaw.nd rfl (Or.inl rfl)) (pss_cons (ps_dput hu (pv 6) (pv 9) (pe_h L.new hr (by rfl) pass0 (pa_cons (pe_ix (show IxR _ (rIxL K) from ix_list) (pv 2) (pe_int) (fun _ _ => rfl)) pa_nil)) rfl)
      (pss_cons (ps_if (pt_cmpR (op_eq) (pe_h L.take hr (by rfl) pass0 (pa_cons (pv 1) (pa_cons (pe_int) pa_nil))) (pe_int) (nomark _)) (pss_one (ps_dput hu (pv 6) (pv 9) (pe_h L.aft hr (by rfl) pass0 (pa_cons (pe_dget hu (pv 6) (pv 9) (fun _ _ => rfl)) (pa_cons (pe_h L.inst hr (by rfl) pass0 (pa_cons (pe_dget hu (pv 6) (pv 9) (fun _ _ => rfl)) (pa_cons (pe_ix (show IxR _ (rIxL K) from ix_list) (pv 2) (pe_int) (fun _ _ => rfl)) pa_nil))) (pa_cons (pe_int) pa_nil)))) rfl)) pss_nil)
      (pss_cons (ps_dput hu (pv 7) (pv 9) (pe_h L.cur hr (by rfl) pass0 (pa_cons (pe_dget hu (pv 6) (pv 9) (fun _ _ => rfl)) pa_nil)) rfl)
      (pss_one (ps_if (pt_cmpR (op_eq) (pe_h L.take hr (by rfl) pass0 (pa_cons (pv 1) (pa_cons (pe_int) pa_nil))) (pe_int) (nomark _)) (pss_one (ps_expr (pe_bm PySem.F.plainAttrs_list PySem.F.slot_list_append PySem.F.type_list_append mt_append (pv 8) (pa_cons (pv 9) pa_nil)))) pss_nil))))), fun a pt po pn pfl pbe pbd n HB H D n7 tp hpo hpn nfl nbe nbd n1 n2 n3 eB hfl hbe hbd k => ?_⟩
  refine s_forLn (ev_var rfl) (sq_of (eB _ _ hpn)) (fun i σ' H' => ∃ v9 d M hd tb bl, σ' = sgF a pt po pn pfl pbe pbd v9 ∧ Ex HB H' ∧ Fl H' pfl pbe pbd i d M hd tb bl)
    (fun H1 e1 => ⟨none, fun _ => 0, fun _ => ⟨fun _ => none, 0⟩, fun _ => [], fun _ => 0, [], rfl, eB.trans e1, ⟨e1 _ _ hfl, e1 _ _ hbe, e1 _ _ hbd, fun j hj => absurd hj (Nat.not_lt_zero _), fun j hj => absurd hj (Nat.not_lt_zero _), fun j hj => absurd hj (Nat.not_lt_zero _), Nat.le_refl _⟩⟩)
    (fun i σ' H' _ ⟨_, _, _, _, _, _, _, e, _⟩ => sq_of (e _ _ hpn)) (fun i x σ' H1 hx ⟨v9, d, M, hd, tb, bl, es, e1, fl⟩ => ?_) (fun σ' H1 ⟨v9, d, M, hd, tb, bl, es, e1, fl⟩ => ?_)
  · subst es
    have hi : i < n := by
      have := (List.getElem?_eq_some_iff.mp hx).1
      rw [List.length_map, List.length_range] at this
      exact this
    rw [List.getElem?_map, List.getElem?_range hi] at hx
    cases hx
    have ki : KInj nm (i + 1) := nm_inj (by omega)
    have hI0 : ([0] : List Nat) ∈ Imgs := by decide
    have hI1 : ([1] : List Nat) ∈ Imgs := by decide
    -- a new disk
    refine q_dputP (k := .inr (nm i)) (evp_new (ev_op (ev_var rfl) ev_c (rv_ixL (sq_of (e1 _ _ hpo)) (atI_nat (j := 0) rfl))) hI0) (ev_var rfl) (ev_var rfl) fl.fl (by rw [dk_len, flK_len]; omega) fun v H2 H3 e2 ⟨a1, ev, na1, dA⟩ e3 => ?_
    subst ev
    rw [putK_dk, putA_new (flK_out n7 hi), flK_ext]
    have fl3 := fl.kp (e2.trans e3)
    have eB3 := e1.trans (e2.trans e3)
    have dA3 := dA.ex e3
    -- before the name's old state is noted
    let Mid : L2.St → Hp → Prop := fun σ2 H2 => ∃ d' m hdi, σ2 = sgF a pt po pn pfl pbe pbd (some (.str (nm i))) ∧ Ex HB H2 ∧ H2 pfl = some (.dK (dk V.ref (flK nm (i + 1) (fset d i d')))) ∧ H2 pbe = some (.dK (dk V.ref (flK nm i tb))) ∧ H2 pbd = some (.lst (bl.map fun j => V.str (nm j))) ∧ (∀ j, j < i → DAt H2 (d j) (M j)) ∧ (∀ j, j < i → H2 (tb j) = some (.tup [.int ((M j).c : Int), .str (imgS (hd j))])) ∧ DAt H2 d' m ∧ GoodM m hdi
    have mk : ∀ {H4 : Hp} {d' : Addr} {m : Mst} {hdi : List Nat} {l' : List (Str × Addr)}, Ex HB H4 → H4 pfl = some (.dK (dk V.ref l')) → H4 pbe = some (.dK (dk V.ref (flK nm i tb))) → H4 pbd = some (.lst (bl.map fun j => V.str (nm j))) → (∀ j, j < i → DAt H4 (d j) (M j)) → (∀ j, j < i → H4 (tb j) = some (.tup [.int ((M j).c : Int), .str (imgS (hd j))])) → DAt H4 d' m → GoodM m hdi →
        Mid (sgF a pt po pn pfl pbe pbd (some (.str (nm i)))) (upd H4 pfl (.dK (dk V.ref (flK nm (i + 1) (fset d i d'))))) := fun {H4 d' m hdi l'} x1 x2 x3 x4 x5 x6 x7 x8 => by
      refine ⟨d', m, hdi, rfl, Ex.mut x1 nfl, upd_same, by rw [upd_ne n1.symm]; exact x3, by rw [upd_ne n2.symm]; exact x4, fun j hj => (x5 j hj).upd (dat_ne (x5 j hj) x2), fun j hj => ?_, x7.upd (dat_ne x7 x2), x8⟩
      rw [upd_ne (fun z => by have := x6 j hj; rw [z, x2] at this; cases this)]
      exact x6 j hj
    have mid0 := mk eB3 fl3.fl fl3.be fl3.bd fl3.ms fl3.bt dA3 good0
    refine q_if0J (evp_take (m := 2) (ev_var rfl) (ev_c (v := .int ((2 : Nat) : Int))) (tp.ex (Ex.mut eB3 nfl)) (by decide) (by decide) |> fun h => EvP.imp h fun v H2 e2 ⟨d, ev, _⟩ => ⟨d, ev⟩) Mid (fun H4 D' e4 hn => ?_) (fun H4 e4 => ?_) fun σ4 H4 md => ?_
    · obtain ⟨d', m, hdi, _, x1, x2, x3, x4, x5, x6, x7, x8⟩ := mid0
      have y2 := e4 _ _ x2
      have dg : Ev (tDGet (tVar 6) (tVar 9)) (sgF a pt po pn pfl pbe pbd (some (.str (nm i)))) H4 (.ref a1) := ev_is (ev_dgetK (k := .inr (nm i)) (ev_var rfl) (ev_var rfl) (.inl (e4 _ _ upd_same)) (flK_val ki (Nat.lt_succ_self i))) (by rw [fset_at])
      have dA4 : DskAt H4 (.ref a1) (frm (G1 [0]) 1 0 N0) := (dA3.upd (o := .dK (dk V.ref (flK nm (i + 1) (fset d i a1)))) (dat_ne dA3 fl3.fl)).ex e4
      obtain ⟨m', xs, ew, en, mt, m7, mz⟩ := next_facts (T := 0) ok_m0 top0 (by omega)
      have em : m' = 1 := by
        rw [wG1] at ew
        have := congrArg List.length ew
        rw [List.length_append] at this
        simp at this
        subst this
        simpa using ew.symm
      subst em
      refine s_dputP (D := D') (k := .inr (nm i)) (ev_aft (K := K) (n := 99) (ev_dsk dg dA4) (evp_inst (K := K) (ev_dsk dg dA4) (ev_op (ev_var rfl) ev_c (rv_ixL (sq_of ((Ex.mut eB3 nfl).trans e4 _ _ hpo)) (atI_nat (j := 1) rfl))) hI1 en (by decide)) (ev_c (v := .int ((99 : Nat) : Int))) (inst_ids (by decide) (by decide)) (by rw [instD_len]; decide)) (ev_var rfl) (ev_var rfl) y2 (by rw [dk_len, flK_len]; omega) fun v H5 H6 e5 dC e6 => ?_
      rw [List.take_of_length_le (by rw [instD_len]; decide), inst_full hI1 (by decide) rfl] at dC
      obtain ⟨d2, l2, ev2, hd2, hD2⟩ := dC
      subst ev2
      have dD : DAt H6 d2 m1 := ⟨d2, l2, rfl, e6 _ _ hd2, hD2⟩
      rw [putK_dk, flK_put ki (Nat.lt_succ_self i), fset2]
      have e46 := e4.trans (e5.trans e6)
      exact hn _ _ (mk (x1.trans e46) ((e5.trans e6) _ _ y2) (e46 _ _ x3) (e46 _ _ x4) (fun j hj => (x5 j hj).ex e46) (fun j hj => e46 _ _ (x6 j hj)) dD good1)
    · obtain ⟨d', m, hdi, es, x1, x2, x3, x4, x5, x6, x7, x8⟩ := mid0
      exact ⟨d', m, hdi, es, x1.trans e4, e4 _ _ x2, e4 _ _ x3, e4 _ _ x4, fun j hj => (x5 j hj).ex e4, fun j hj => e4 _ _ (x6 j hj), x7.ex e4, x8⟩
    · obtain ⟨d', m, hdi, es, x1, x2, x3, x4, x5, x6, x7, x8⟩ := md
      subst es
      have okm : Ok m.g m.c 0 N0 := x8.1
      refine q_dputP (k := .inr (nm i)) (evp_cur (ev_dsk (ev_is (ev_dgetK (k := .inr (nm i)) (ev_var rfl) (ev_var rfl) (.inl x2) (flK_val ki (Nat.lt_succ_self i))) (by rw [fset_at])) x7) okm x8.2.1) (ev_var rfl) (ev_var rfl) x3 (by rw [dk_len, flK_len]; omega) fun v H5 H6 e5 ⟨tq, ev, htq⟩ e6 => ?_
      subst ev
      rw [putK_dk, putA_new (flK_out n7 hi), flK_ext]
      have e46 := e5.trans e6
      have y3 := e46 _ _ x3
      have dj : ∀ j, j < i + 1 → DAt (upd H6 pbe (.dK (dk V.ref (flK nm (i + 1) (fset tb i tq))))) (fset d i d' j) (fset M i m j) := fun j hj => by
        by_cases z : j = i
        · rw [z, fset_at, fset_at]
          exact (x7.ex e46).upd (dat_ne (x7.ex e46) y3)
        · rw [fset_ne z, fset_ne z]
          have := (x5 j (by omega)).ex e46
          exact this.upd (dat_ne this y3)
      have tj : ∀ j, j < i + 1 → upd H6 pbe (.dK (dk V.ref (flK nm (i + 1) (fset tb i tq)))) (fset tb i tq j) = some (.tup [.int ((fset M i m j).c : Int), .str (imgS (fset hd i hdi j))]) := fun j hj => by
        by_cases z : j = i
        · rw [z, fset_at, fset_at, fset_at]
          have := e6 _ _ htq
          rw [upd_ne (fun z => by rw [z, y3] at this; cases this)]
          exact this
        · rw [fset_ne z, fset_ne z, fset_ne z]
          have := e46 _ _ (x6 j (by omega))
          rw [upd_ne (fun z => by rw [z, y3] at this; cases this)]
          exact this
      have oj : ∀ j, j < i + 1 → GoodM (fset M i m j) (fset hd i hdi j) := fun j hj => by
        by_cases z : j = i
        · rw [z, fset_at, fset_at]; exact x8
        · rw [fset_ne z, fset_ne z]; exact fl.o j (by omega)
      have eBF : Ex HB (upd H6 pbe (.dK (dk V.ref (flK nm (i + 1) (fset tb i tq))))) := Ex.mut (x1.trans e46) nbe
      have hfl6 : upd H6 pbe (.dK (dk V.ref (flK nm (i + 1) (fset tb i tq)))) pfl = some (.dK (dk V.ref (flK nm (i + 1) (fset d i d')))) := by rw [upd_ne n1]; exact e46 _ _ x2
      have hbd6 : upd H6 pbe (.dK (dk V.ref (flK nm (i + 1) (fset tb i tq)))) pbd = some (.lst (bl.map fun j => V.str (nm j))) := by rw [upd_ne n3.symm]; exact e46 _ _ x4
      have hbe6 : upd H6 pbe (.dK (dk V.ref (flK nm (i + 1) (fset tb i tq)))) pbe = some (.dK (dk V.ref (flK nm (i + 1) (fset tb i tq)))) := upd_same
      generalize upd H6 pbe (.dK (dk V.ref (flK nm (i + 1) (fset tb i tq)))) = J at *
      refine s_if0 (EvP.imp (evp_take (m := 4) (ev_var rfl) (ev_c (v := .int ((4 : Nat) : Int))) (tp.ex eBF) (by decide) (by decide)) fun v H2 e2 ⟨d, ev, _⟩ => ⟨d, ev⟩) (fun H7 e7 => ?_) (fun H7 e7 => ?_)
      · refine s_app (K := K) (e7 _ _ hbd6) (ev_var rfl) (ev_var rfl) (by rw [List.length_map]; have := fl.ln; omega) fun H8 e8 => ?_
        have e78 := e7.trans e8
        refine ⟨_, fset d i d', fset M i m, fset hd i hdi, fset tb i tq, bl ++ [i], rfl, Ex.mut (eBF.trans e78) nbd, ⟨by rw [upd_ne n2]; exact e78 _ _ hfl6, by rw [upd_ne n3]; exact e78 _ _ hbe6, by rw [upd_same, List.map_append]; rfl, fun j hj => ((dj j hj).ex e78).upd (((dj j hj).ex e78).nl (e78 _ _ hbd6)), fun j hj => ?_, oj, by rw [List.length_append]; have := fl.ln; show bl.length + 1 ≤ i + 1; omega⟩⟩
        rw [upd_ne (fun z => by have := e78 _ _ (tj j hj); rw [z, e78 _ _ hbd6] at this; cases this)]
        exact e78 _ _ (tj j hj)
      · exact ⟨_, fset d i d', fset M i m, fset hd i hdi, fset tb i tq, bl, rfl, eBF.trans e7, ⟨e7 _ _ hfl6, e7 _ _ hbe6, e7 _ _ hbd6, fun j hj => (dj j hj).ex e7, fun j hj => e7 _ _ (tj j hj), oj, Nat.le_succ_of_le fl.ln⟩⟩
  · subst es
    rw [List.length_map, List.length_range] at fl
    exact k v9 d M hd tb bl H1 e1 fl
end
end Mx
set_option Elab.async false
set_option linter.all false
set_option maxRecDepth 100000
set_option maxHeartbeats 1000000
namespace Mx
open PySem PySem.Spec PyProof.Rows L2 Evl TL
open PySem.W (Datum DatumOrd Tup SomeDatum)
/-! ### the law -/
open LamX (CodeO TabS Tabs ExtN TabB)
def spLaw (K : PySem.W.Frag) (PT : Addr) : Sp := fun vs H Q _ => ∃ (a : Addr) (ns : List Int), vs = [.ref a] ∧ SqL K H a (ns.map V.int) ∧ ns.length ≤ 63 ∧ Tabs [(PT, qLam)] H ∧ ∀ H', Q (.bl true) H'
theorem evp_addN {σ : L2.St} {H : Hp} {te : TE} {r m : Nat} (h : EvP te σ H fun v _ => ∃ d : Nat, v = .int (d : Int) ∧ d < m) : EvP (tOp (rI0 fun i j => .int (i + j)) (tC (.int (r : Int))) te) σ H (fun v _ => ∃ n : Nat, v = .int (n : Int) ∧ n < r + m ∧ r ≤ n) := fun H1 e Q q =>
  h H1 e _ fun v H2 e2 ⟨d, ev, hd⟩ => by
    subst ev
    exact ⟨(r : Int), (d : Int), rfl, rfl, q _ H2 e2 ⟨r + d, by rw [Int.natCast_add], by omega, by omega⟩⟩
theorem files_n : ∀ i : Nat, i < 2 → filesL [i] = [(("a/o" : Str), val i)] ∧ ((filesL [i]).map (·.1)).Nodup ∧ sortedS ((filesL [i]).map (·.1)) = true ∧ (filesL [i]).length ≤ 10 ∧ (∀ e ∈ filesL [i], e.1.length ≤ 100 ∧ e.2.length ≤ 100) ∧ ("old" : Str) ++ toString ((i : Nat) : Int) = val i ∧ (toString ((i : Nat) : Int) : Str).length ≤ 10 := by decide +kernel
theorem files_new : filesL iNew = [(("a/o" : Str), ("new" : Str)), (("b/o" : Str), ("more" : Str))] ∧ ((filesL iNew).map (·.1)).Nodup ∧ sortedS ((filesL iNew).map (·.1)) = true ∧ (filesL iNew).length ≤ 10 ∧ (∀ e ∈ filesL iNew, e.1.length ≤ 100 ∧ e.2.length ≤ 100) := by decide +kernel
section
variable {P : Program} {w : World} {K : PySem.W.Frag} {mg : Str → Option Value} {base : Heap} {C f c PT : Addr}
theorem ok_law {fd : FuncData} (F : FunL K "law" "law" sLaw f fd c) (T : TxtR K mg C) (B : BtM mg) (L : HL P w K mg base C) (TB : TabB base mg c PT) : FnOk P w K mg base (L2.CX P w) 8 f fd ["script"] (spLaw K PT) := by
  refine F.okX scLaw (fun vs H Q E h => ?_) (fun Ar outer s H vs Q E hr h => ?_)
  · obtain ⟨a, ns, rfl, _⟩ := h
    rfl
  · obtain ⟨a, ns, rfl, hA, hlen, tb0, kk⟩ := h
    have hu := hu_of hr
    obtain ⟨tF, hFill, rF⟩ := w_fill (P := P) (w := w) (outer := outer) (s := s) (H0 := H) (E := E) B L hr
    obtain ⟨tW, hLoop, rL⟩ := w_loop (P := P) (w := w) (outer := outer) (s := s) (H0 := H) (E := E) T B L TB hr
    obtain ⟨tT, hTail, rT⟩ := w_tail (P := P) (w := w) (outer := outer) (s := s) (H0 := H) (E := E) T B L TB hr
    refine ⟨_, (pss_cons (ps_set (i := 1) scLaw.nd rfl (Or.inr rfl) (pe_h L.tape hr (by rfl) pass0 (pa_cons (pv 0) pa_nil)))
      (pss_cons (ps_set (i := 2) scLaw.nd rfl (Or.inr rfl) (pe_lc (own := [("k", 3)]) (g := gName 3) (tt := tYes) rfl scLaw.nd (pi_range1 (by rfl) B.range (pa_cons (pe_int) pa_nil)) (blkOk_by (N := nL) (sc := defScope sLaw) (by decide +kernel)) (fun _ _ _ _ _ => pg_name (i := 3) scLaw.nd rfl (Or.inl rfl)) (fun _ _ _ _ _ => pts_nil) (fun _ _ _ _ _ => pe_h L.wim hr (by rfl) pass0 (pa_cons (pe_disp (pps_cons (pe_str) (pe_op op_add_str (pe_str) (pe_callTy (call_str_int) (by rfl) B.str (by decide +kernel) (pa_cons (pv 3) pa_nil))) pps_nil) (by rfl) (by rfl) (fun z => by cases z) (by decide)) pa_nil))))
      (pss_cons (ps_set (i := 4) scLaw.nd rfl (Or.inr rfl) (pe_h L.wim hr (by rfl) pass0 (pa_cons (pe_disp (pps_cons (pe_str) (pe_str) (pps_cons (pe_str) (pe_str) pps_nil)) (by rfl) (by rfl) (fun z => by cases z) (by decide)) pa_nil)))
      (pss_cons (ps_setLc (i := 5) (own := [("k", 3)]) (g := gName 3) (tt := tYes) rfl scLaw.nd rfl rfl (sw_true rfl rfl rfl (by decide +kernel)) (pi_range1 (by rfl) B.range (pa_cons (pe_op op_add (pe_int) (pe_h L.take hr (by rfl) pass0 (pa_cons (pv 1) (pa_cons (pe_int) pa_nil)))) pa_nil)) (blkOk_by (N := nL) (sc := defScope sLaw) (by decide +kernel)) (fun _ _ _ _ _ => pg_name (i := 3) scLaw.nd rfl (Or.inl rfl)) (fun _ _ _ _ _ => pts_nil) (fun _ _ _ _ _ => pe_op op_add_str (pe_str) (pe_callTy (call_str_int) (by rfl) B.str (by decide +kernel) (pa_cons (pv 3) pa_nil))))
      (pss_cons (ps_asg (pe_tup (pa_cons (pe_dnewK) (pa_cons (pe_dnewK) (pa_cons (pe_lst pa_nil) pa_nil)))) (pg_tup rfl (pgs_cons (pg_name (i := 6) scLaw.nd rfl (Or.inr rfl)) (pgs_cons (pg_name (i := 7) scLaw.nd rfl (Or.inr rfl)) (pgs_cons (pg_name (i := 8) scLaw.nd rfl (Or.inr rfl)) pgs_nil)))))
      (pss_cut hFill
      (pss_cons (ps_set (i := 10) scLaw.nd rfl (Or.inl rfl) (pe_callTy (call_dictP rfl) (by rfl) B.dict (by decide +kernel) (pa_cons (pe_lc (own := [("name", 9)]) (g := gName 9) rfl scLaw.nd (pi_list (pv 5)) (blkOk_by (N := nL) (sc := defScope sLaw) (by decide +kernel)) (fun _ _ _ _ _ => pg_name (i := 9) scLaw.nd rfl (Or.inl rfl)) (fun _ _ _ _ _ => pts_one (pt_cmpR (op_eq) (pe_h L.take hr (by rfl) pass0 (pa_cons (pv 1) (pa_cons (pe_int) pa_nil))) (pe_int) (nomark _))) (fun _ _ _ _ _ => pe_tup (pa_cons (pv 9) (pa_cons (pe_h L.take hr (by rfl) pass0 (pa_cons (pv 1) (pa_cons (pe_int) pa_nil))) pa_nil)))) pa_nil)))
      (pss_cons (ps_par (i := 11) (j := 12) rfl scLaw.nd rfl rfl (by decide) rfl rfl (pa_cons (pe_lc (own := [("k", 3)]) (g := gName 3) (tt := tYes) rfl scLaw.nd (pi_range1 (by rfl) B.range (pa_cons (pe_op op_add (pe_int) (pe_h L.take hr (by rfl) pass0 (pa_cons (pv 1) (pa_cons (pe_int) pa_nil)))) pa_nil)) (blkOk_by (N := nL) (sc := defScope sLaw) (by decide +kernel)) (fun _ _ _ _ _ => pg_name (i := 3) scLaw.nd rfl (Or.inl rfl)) (fun _ _ _ _ _ => pts_nil) (fun _ _ _ _ _ => pe_op op_add (pe_int) (pe_h L.take hr (by rfl) pass0 (pa_cons (pv 1) (pa_cons (pe_int) pa_nil))))) (pa_cons (pe_h L.take hr (by rfl) pass0 (pa_cons (pv 1) (pa_cons (pe_int) pa_nil))) pa_nil)) (by rfl))
      (pss_cons (ps_set (i := 13) scLaw.nd rfl (Or.inl rfl) (pe_roll L.rol hr (by rfl) (pa_cons (pe_callTy (call_dictD) (by rfl) B.dict (by decide +kernel) (pa_cons (pv 6) pa_nil)) (pa_cons (pv 4) (pa_cons (pv 11) (pa_cons (pv 12) pa_nil))))))
      (pss_cons (ps_asg (pe_tup (pa_cons (pe_lst pa_nil) (pa_cons (pe_int) (pa_cons (pe_str) (pa_cons (pe_int) pa_nil))))) (pg_tup rfl (pgs_cons (pg_name (i := 14) scLaw.nd rfl (Or.inr rfl)) (pgs_cons (pg_name (i := 15) scLaw.nd rfl (Or.inl rfl)) (pgs_cons (pg_name (i := 16) scLaw.nd rfl (Or.inl rfl)) (pgs_cons (pg_name (i := 17) scLaw.nd rfl (Or.inl rfl)) pgs_nil))))))
      (pss_cut hLoop hTail))))))))))), ?_⟩
    have s3 : ("old" : Str).length = 3 := by decide +kernel
    have sm : ("m" : Str).length = 1 := by decide +kernel
    refine q_asgP (R := fun v H2 => ∃ p, v = .ref p ∧ TapeAt P w H2 p) (fun H1 e1 Q1 q1 => t_callQ (ea_cons (ev_var rfl) ea_nil) fun H2 e2 => ⟨a, ns, rfl, ex_l (e1.trans e2) hA, hlen, fun p H3 e3 tp => q1 _ H3 (e2.trans e3) ⟨p, rfl, tp⟩⟩) fun v H1 e1 ⟨pt, ev, tp⟩ => ?_
    subst ev
    -- old
    refine q_asgL (xs := given 2 (fun _ => true) fun k => V.str (imgS [k])) (el_lcR1 (n := 2) (fun _ => true) (fun k => V.str (imgS [k])) (ea_cons ev_c ea_nil) (by decide) (fun _ => rfl) (fun i H2 e2 hi => fun H3 e3 Q q => q H3 (Ex.refl _)) (fun i H2 e2 hi _ => ?_)) fun po H2 npo e2 hpo => ?_
    · have hi : i < 2 := by omega
      obtain ⟨f1, f2, f3, f4, f5, f6, f7⟩ := files_n i hi
      refine ev_wim (ds := [i]) (EvP.imp (evp_disp1 (k := .inr "a/o") (v := .str (val i)) ev_c (ev_is (ev_addS ev_c (ev_strI (ev_var rfl) (by omega)) (by omega)) (by rw [f6]))) fun v H3 e3 ⟨p, ev, hp⟩ => ⟨p, ev, by rw [f1]; exact hp⟩) f2 f3 f4 f5
    have hpo : H2 po = some (.lst [.str (imgS [0]), .str (imgS [1])]) := hpo
    -- new
    obtain ⟨g1, g2, g3, g4, g5⟩ := files_new
    refine q_asg (v := .str (imgS iNew)) (ev_wim (ds := iNew) (EvP.imp (evp_disp2P (R1 := fun _ v _ => v = .str "new") (R2 := fun _ v _ => v = .str "more") (k1 := .inr "a/o") (k2 := .inr "b/o") (by decide +kernel) ev_c (fun J eJ => Ev.p ev_c) ev_c (fun J eJ => Ev.p ev_c)) fun v H3 e3 ⟨p, x, y, J1, J2, J3, J4, ev, np, ex, ey, _, _, _, _, hp⟩ => ⟨p, ev, by rw [ex, ey] at hp; rw [g1]; exact hp⟩) g2 g3 g4 g5) fun H3 e3 => ?_
    -- names
    have e13 := e2.trans e3
    refine q_asgP (evp_lcRx (N := 7) (Pn := fun n => 2 ≤ n) (R := fun i v => v = .str (nm i)) (by decide) (EvP.imp (evp_addN (r := 2) (m := 6) (evp_take (m := 6) (ev_var rfl) (ev_c (v := .int ((6 : Nat) : Int))) (tp.ex e13) (by decide) (by decide))) fun v H4 e4 ⟨n, ev, h1, h2⟩ => ⟨n, ev, by omega, h2⟩) (fun _ => rfl) (fun i H4 e4 hi => Ev.p (ev_is (ev_addS ev_c (ev_strI (ev_var rfl) (by omega)) ?_) ?_))) fun v H4 e4 ⟨pn, xs, n2, n7, ev, npn, hpn, hx⟩ => ?_
    · have := (show ∀ i : Nat, i < 7 → (toString ((i : Nat) : Int) : Str).length ≤ 10 by decide +kernel) i hi
      omega
    · rfl
    subst ev
    obtain ⟨n, hn⟩ : ∃ n, xs.length = n := ⟨_, rfl⟩
    have ex : xs = (List.range n).map fun i => V.str (nm i) := by
      refine List.ext_getElem (by rw [List.length_map, List.length_range, hn]) fun i h1 h2 => ?_
      rw [hx i _ (List.getElem?_eq_getElem h1)]
      simp
    rw [hn] at n2 n7
    subst ex
    have n2 : 2 ≤ n := n2
    clear hx hn
    have e14 := e13.trans e4
    -- fleet, before, bad
    refine q_tri fun pfl pbe pbd H5 nfl nbe nbd n1 n12 n3 e5 hfl hbe hbd => ?_
    refine q_cut (M := fun σ' H' => ∃ v9 d M hd tb bl, σ' = sgF a pt po pn pfl pbe pbd v9 ∧ Ex H4 H' ∧ Fl H' pfl pbe pbd n d M hd tb bl) (rF a pt po pn pfl pbe pbd n H4 H5 _ n7 (tp.ex e14) ((e3.trans e4) _ _ hpo) hpn nfl nbe nbd n1 n12 n3 e5 hfl hbe hbd fun v9 d M hd tb bl H' eH fl => ⟨v9, d, M, hd, tb, bl, rfl, eH, fl⟩) fun σ6 H6 ⟨v9, d, M, hd, tb, bl, es, e46, fl⟩ => ?_
    subst es
    have tp6 := tp.ex (e14.trans e46)
    have hpn6 := e46 _ _ hpn
    -- cuts
    have drawn : ∀ {σ : L2.St} {J : Hp} {m : Nat}, Ex H6 J → σ[1]? = some (some (.ref pt)) → 0 < m → m < 1000000 → EvP (tCall (spTake P w) [] E0 (tCons (tVar 1) (tCons (tC (.int (m : Int))) tNil))) σ J (fun v _ => ∃ d : Nat, v = .int (d : Int) ∧ d < m) := fun eJ s1 m0 m1 => evp_take (ev_var s1) ev_c (tp6.ex eJ) m0 m1
    refine q_asgP (evp_dictP (K := K) (EvP.imp (evp_lcLd (K := K) (R := fun y J => ∃ a i d, y = .ref a ∧ J a = some (.tup [.str i, .int ((d : Nat) : Int)])) (fun y J J' tx ⟨a, i, d, h1, h2⟩ => ⟨a, i, d, h1, tx _ _ h2⟩) (ev_var rfl) (sq_of hpn6) (by rw [List.length_map, List.length_range]; omega) (fun _ => rfl) (fun x J eJ hx Q q => evt_drawn (EvP.imp (drawn (m := 2) eJ rfl (by decide) (by decide)) fun v J2 e2 ⟨d, ev, _⟩ => ⟨d, ev⟩) q) (fun x J eJ hx => ?_)) fun v J eJ hv => hv)) fun v H7 e7 ⟨pc, cl, ev, hpc⟩ => ?_
    · obtain ⟨i, _, rfl⟩ := List.mem_map.mp hx
      exact EvP.imp (evp_tup2 (x := .str (nm i)) (R := fun v => ∃ d : Nat, v = .int (d : Int) ∧ d < 7) (ev_var rfl) (drawn (m := 7) eJ rfl (by decide) (by decide))) fun v J2 e2 ⟨a, y, h1, h2, d, h3, _⟩ => ⟨a, nm i, d, h1, by rw [h2, h3]⟩
    subst ev
    -- sizes, allowed
    refine q_parPH (R2 := fun v _ => ∃ d : Nat, v = .int (d : Int)) (evp_lcRx (N := 3) (Pn := fun n => 1 ≤ n) (R := fun i v => ∃ d : Nat, v = .int (d : Int) ∧ 1 ≤ d) (by decide) (EvP.imp (evp_addN (r := 1) (m := 3) (drawn (m := 3) e7 rfl (by decide) (by decide))) fun v J eJ ⟨n, ev, h1, h2⟩ => ⟨n, ev, by omega, h2⟩) (fun _ => rfl) (fun i J eJ hi => EvP.imp (evp_addN (r := 1) (m := 3) (drawn (m := 3) (e7.trans eJ) rfl (by decide) (by decide))) fun v J2 e2 ⟨n, ev, h1, h2⟩ => ⟨n, ev, h2⟩)) (fun J eJ => EvP.imp (drawn (m := 3) (e7.trans eJ) rfl (by decide) (by decide)) fun v J2 e2 ⟨d, ev, _⟩ => ⟨d, ev⟩) fun u v H8 H9 e8 ⟨ps, zs, z1, z2, eu, nps, hps, hz⟩ e9 ⟨al, ev⟩ => ?_
    subst eu ev
    obtain ⟨sz, ez, hsz⟩ := nats_of (Pd := fun d => 1 ≤ d) (vs := zs) fun v hv => by
      obtain ⟨k, hk⟩ := List.getElem?_of_mem hv
      exact hz k v hk
    subst ez
    have z1 : 1 ≤ (sz.map fun s => V.int ((s : Nat) : Int)).length := z1
    rw [List.length_map] at z1
    have e69 := e7.trans (e8.trans e9)
    have fl9 := fl.kp e69
    let U : LV := ⟨po, pn, pfl, pbe, pbd, pc, ps, n, d, M, hd, tb, bl, cl, sz, al⟩
    have lv : LvOk H9 U := ⟨(e3.trans (e4.trans (e46.trans e69))) _ _ hpo, e69 _ _ hpn6, fl9.fl, fl9.ms, fl9.be, fl9.bt, by show H9 pbd = some (.lst ((bl.map nm).map V.str)); rw [List.map_map]; exact fl9.bd, (e8.trans e9) _ _ hpc, e9 _ _ hps, ⟨⟨by show 1 ≤ n; omega, n7, by show iNew ∈ Imgs; decide⟩, by show 0 < sz.length; omega, hsz, fun i hi => (fl9.o i hi).1, fun i hi => ⟨hd i, (fl9.o i hi).2.1, (fl9.o i hi).2.2.1⟩, fun i hi j hj => Nat.le_trans ((fl9.o i hi).2.2.2.1 j hj) (by decide), fun i hi => rfl⟩, fun i hi => (fl9.o i hi).2.1, fun i hi => (fl9.o i hi).2.2.2.1, fun i hi => (fl9.o i hi).2.2.2.2, n2⟩
    have psb : U.ps ≠ U.pbd := fun z => by
      have h1 : H7 pbd = some _ := (fl.kp e7).bd
      have z : ps = pbd := z
      rw [← z, nps] at h1
      cases h1
    have tb9 : Tabs [(PT, qLam)] H9 := tb0.ext (((e1.trans (e14.trans e46))).trans e69)
    -- the rollout
    refine q_asgP (evp_roll (C := C) (fun p => p = U.ps) (F := U.F) (d := U.d) (M := U.M) (evp_copyD (ev_var rfl) lv.fl) (ev_var rfl) (fun J eJ => EvP.imp (Ev.p (ev_var rfl)) fun v J2 e2 ev => ⟨U.ps, ev, rfl, (eJ.trans e2) _ _ lv.sz⟩) (ev_var rfl) lv.ms lv.ini) fun v H10 e10 ⟨A, ev, ro, nA, hps⟩ => ?_
    subst ev
    refine q_four (xs := []) (el_lst ea_nil (by decide)) fun ptk H11 nptk e11 hptk => ?_
    have e911 := e10.trans e11
    have wv : Wv C PT H9 H11 U A 0 ptk U.d U.M := ⟨enx e911, tb9.ext e911, fun j hj => absurd hj (Nat.not_lt_zero _), ro.ex e11, fun i hi => ⟨fun h => absurd h (Nat.not_lt_zero _), fun _ => rfl⟩, hptk⟩
    exact q_cut (M := fun σ' H' => ∃ k ptk v9 v18 v19 v20 v21 d' M', σ' = sgW a pt U v9 A ptk (itW U.F U.g k) [v18, v19, v20, v21, none, none] ∧ (itW U.F U.g k).st ≠ "running" ∧ Wv C PT H9 H' U A k ptk d' M') (rL a pt U v9 A ptk U.d H9 H11 _ lv nA psb hps wv fun k ptk v9 v18 v19 v20 v21 d' M' J hn wv' => ⟨k, ptk, v9, v18, v19, v20, v21, d', M', rfl, hn, wv'⟩) fun σ' H' ⟨k, ptk, x9, v18, v19, v20, v21, d', M', es, hn, wv'⟩ => by
      subst es
      exact rT a pt U x9 A k ptk v18 v19 v20 v21 d' M' H9 H' _ lv psb hn wv' kk
end
end Mx
set_option Elab.async false
set_option linter.all false
set_option maxRecDepth 100000
set_option maxHeartbeats 1000000
namespace Mx
open PySem PySem.Spec PyProof.Rows L2 Evl TL
open PySem.W (Datum DatumOrd Tup SomeDatum)
/-! ### the end -/
theorem cx_false {P : Program} {w : World} {H : Hp} {s s' : Shared} {e : Value} (z : L2.CX P w [] H s (fun _ _ _ => False) e s') : False := by
  obtain ⟨_, _, _, _, _, _, _, _, _, _, _, _, z⟩ := z
  exact z
theorem law_tab {K : PySem.W.Frag} {h : Heap} {mg : Str → Option Value} {x : Str} {f c PT : Addr} {oc cc0 : Value} {od ddc : Option Addr} {fd : FuncData} {vs : Array Value} {sl slc : Array (Option Value)} (X : K.In h) (hf : mg x = some (.ref f)) (l : K.lookup f = some ⟨oc, od, .func fd, sl⟩) (hc : fd.code = .ref c) (co : K.lookup c = some ⟨cc0, ddc, .fields vs, slc⟩) (cv : vs[11]? = some (.ref PT))
    (tab : ∃ (a : Addr) (o : Obj) (fd : FuncData) (c P : Addr), mg x = some (.ref a) ∧ h.get? a = some o ∧ o.data = .func fd ∧ fd.code = .ref c ∧ h.IsCode c P #[] ∧ h.TableAt c P #[]) : h.get? PT = some { cls := .none, data := .fields #[] } ∧ PySem.W.CodeHd h c PT := by
  obtain ⟨a, o', fd', c', P, h1, h2, h3, h4, h5, h6⟩ := tab
  rw [hf] at h1
  cases h1
  rw [X _ _ l] at h2
  cases h2
  cases h3
  rw [hc] at h4
  cases h4
  have hd := PySem.W.CodeHd.of h5 h6
  obtain ⟨⟨o2, vs2, e1, e2, e3, e4⟩, hP⟩ := h6
  rw [X _ _ co] at e1
  cases e1
  cases e3
  rw [cv] at e4
  cases e4
  exact ⟨hP, hd⟩
theorem exm_self {K : PySem.W.Frag} {S : Addr} (h1 : PySem.W.subIn K (.ref S) (.type "BaseException") = some true) (h2 : PySem.W.isClsIn K S = true) (h3 : PySem.W.typeIn K (.ref S) = some (.type "type")) (h4 : PySem.W.subIn K (.ref S) (.ref S) = some true) :
    PySem.W.exmOne K (.ref S) (.ref S) = some true := by
  have e1 : (PySem.W.subIn K (.ref S) (.type "BaseException") == some true) = true := by rw [h1] <;> rfl
  have e2 : ((PySem.W.clsIn K S).isSome && PySem.W.typeIn K (.ref S) == some (.type "type")) = true := by
    have h2' : (PySem.W.clsIn K S).isSome = true := h2
    rw [h2', h3] <;> rfl
  show (if (PySem.W.subIn K (.ref S) (.type "BaseException") == some true) = true then (if ((PySem.W.clsIn K S).isSome && PySem.W.typeIn K (.ref S) == some (.type "type")) = true then PySem.W.subIn K (.ref S) (.ref S) else none) else none) = some true
  rw [if_pos e1, if_pos e2]
  exact h4
theorem all_mk {P : Program} {w : World} {K : PySem.W.Frag} {h : Heap} {mg : Str → Option Value} {fa CB CS cL PT : Addr} {f0 f1 f2 f3 f4 f5 f6 f7 f8 f9 f10 f11 f12 f13 f14 f15 f16 f17 f18 f19 f20 f21 f22 f23 f24 : Addr}
    {od0 an0 : Option Addr} {sl0 : Array (Option Value)} {oc0 kV0 dc0 pm0 cd0 ct0 : Value}
    {od1 an1 : Option Addr} {sl1 : Array (Option Value)} {oc1 kV1 dc1 pm1 cd1 ct1 : Value}
    {od2 an2 : Option Addr} {sl2 : Array (Option Value)} {oc2 kV2 dc2 pm2 cd2 ct2 : Value}
    {od3 an3 : Option Addr} {sl3 : Array (Option Value)} {oc3 kV3 dc3 pm3 cd3 ct3 : Value}
    {od4 an4 : Option Addr} {sl4 : Array (Option Value)} {oc4 kV4 dc4 pm4 cd4 ct4 : Value}
    {od5 an5 : Option Addr} {sl5 : Array (Option Value)} {oc5 kV5 dc5 pm5 cd5 ct5 : Value}
    {od6 an6 : Option Addr} {sl6 : Array (Option Value)} {oc6 kV6 dc6 pm6 cd6 ct6 : Value}
    {od7 an7 : Option Addr} {sl7 : Array (Option Value)} {oc7 kV7 dc7 pm7 cd7 ct7 : Value}
    {od8 an8 : Option Addr} {sl8 : Array (Option Value)} {oc8 kV8 dc8 pm8 cd8 ct8 : Value}
    {od9 an9 : Option Addr} {sl9 : Array (Option Value)} {oc9 kV9 dc9 pm9 cd9 ct9 : Value}
    {od10 an10 : Option Addr} {sl10 : Array (Option Value)} {oc10 kV10 dc10 pm10 cd10 ct10 : Value}
    {od11 an11 : Option Addr} {sl11 : Array (Option Value)} {oc11 kV11 dc11 pm11 cd11 ct11 : Value}
    {od12 an12 : Option Addr} {sl12 : Array (Option Value)} {oc12 kV12 dc12 pm12 cd12 ct12 : Value}
    {od13 an13 : Option Addr} {sl13 : Array (Option Value)} {oc13 kV13 dc13 pm13 cd13 ct13 : Value}
    {od14 an14 : Option Addr} {sl14 : Array (Option Value)} {oc14 kV14 dc14 pm14 cd14 ct14 : Value}
    {od15 an15 : Option Addr} {sl15 : Array (Option Value)} {oc15 kV15 dc15 pm15 cd15 ct15 : Value}
    {od16 an16 : Option Addr} {sl16 : Array (Option Value)} {oc16 kV16 dc16 pm16 cd16 ct16 : Value}
    {od17 an17 : Option Addr} {sl17 : Array (Option Value)} {oc17 kV17 dc17 pm17 cd17 ct17 : Value}
    {od18 an18 : Option Addr} {sl18 : Array (Option Value)} {oc18 kV18 dc18 pm18 ct18 : Value}
    {od19 an19 : Option Addr} {sl19 : Array (Option Value)} {oc19 kV19 dc19 pm19 cd19 ct19 : Value}
    {od20 an20 : Option Addr} {sl20 : Array (Option Value)} {oc20 kV20 dc20 pm20 cd20 ct20 : Value}
    {od21 an21 : Option Addr} {sl21 : Array (Option Value)} {oc21 kV21 dc21 pm21 cd21 ct21 : Value}
    {od22 an22 : Option Addr} {sl22 : Array (Option Value)} {oc22 kV22 dc22 pm22 cd22 ct22 : Value}
    {od23 an23 : Option Addr} {sl23 : Array (Option Value)} {oc23 kV23 dc23 pm23 cd23 ct23 : Value}
    {od24 an24 : Option Addr} {sl24 : Array (Option Value)} {oc24 kV24 dc24 pm24 cd24 ct24 : Value}
    {tP tB tS tI tM : Tok} {ccL : Value} {ddL : Option Addr} {vsL : Array Value} {slL : Array (Option Value)} (X : K.In h) (G : h.Ns mainGlobals mg) (hfa : mg "law" = some (.ref fa)) (hTab : (∃ (a : Addr) (o : Obj) (fd : FuncData) (c P : Addr), mg "law" = some (.ref a) ∧ h.get? a = some o ∧ o.data = .func fd ∧ fd.code = .ref c ∧ h.IsCode c P #[] ∧ h.TableAt c P #[]))
    (gC : PySem.W.nsIn K mainGlobals "BrokenDisk" = some (some (.ref CB))) (xC : PySem.W.excIn K CB [.type "ValueError", .type "Exception", .type "BaseException", .type "object"] "ValueError.__new__" = true) (kC : PySem.W.keepIn K (.ref CB) = true) (xB : PySem.W.subIn K (.ref CB) (.type "BaseException") = some true) (tC : PySem.W.typeIn K (.ref CB) = some (.type "type")) (jC : PySem.W.isClsIn K CB = true) (sC : PySem.W.subIn K (.ref CB) (.ref CB) = some true)
    (a0 : PySem.W.nsIn K mainGlobals "number_of" = some (some (.ref f0))) (l0 : K.lookup f0 = some ⟨oc0, od0, .func (PySem.W.fnOf "number_of" "number_of" (defArgs sNum) (defBody sNum) (defScope sNum) .none kV0 dc0 pm0 an0 cd0 ct0), sl0⟩) (c0 : PySem.W.codeIn K cd0 "number_of" = true) (k0 : PySem.W.keepIn K (.ref f0) = true)
    (a1 : PySem.W.nsIn K mainGlobals "digest" = some (some (.ref f1))) (l1 : K.lookup f1 = some ⟨oc1, od1, .func (PySem.W.fnOf "digest" "digest" (defArgs sDig) (defBody sDig) (defScope sDig) .none kV1 dc1 pm1 an1 cd1 ct1), sl1⟩) (c1 : PySem.W.codeIn K cd1 "digest" = true) (k1 : PySem.W.keepIn K (.ref f1) = true)
    (a2 : PySem.W.nsIn K mainGlobals "write_image" = some (some (.ref f2))) (l2 : K.lookup f2 = some ⟨oc2, od2, .func (PySem.W.fnOf "write_image" "write_image" (defArgs sWim) (defBody sWim) (defScope sWim) .none kV2 dc2 pm2 an2 cd2 ct2), sl2⟩) (c2 : PySem.W.codeIn K cd2 "write_image" = true) (k2 : PySem.W.keepIn K (.ref f2) = true)
    (a3 : PySem.W.nsIn K mainGlobals "number_at" = some (some (.ref f3))) (l3 : K.lookup f3 = some ⟨oc3, od3, .func (PySem.W.fnOf "number_at" "number_at" (defArgs sNat) (defBody sNat) (defScope sNat) .none kV3 dc3 pm3 an3 cd3 ct3), sl3⟩) (c3 : PySem.W.codeIn K cd3 "number_at" = true) (k3 : PySem.W.keepIn K (.ref f3) = true)
    (a4 : PySem.W.nsIn K mainGlobals "read_image" = some (some (.ref f4))) (l4 : K.lookup f4 = some ⟨oc4, od4, .func (PySem.W.fnOf "read_image" "read_image" (defArgs sRd) (defBody sRd) (defScope sRd) .none kV4 dc4 pm4 an4 cd4 ct4), sl4⟩) (c4 : PySem.W.codeIn K cd4 "read_image" = true) (k4 : PySem.W.keepIn K (.ref f4) = true)
    (a5 : PySem.W.nsIn K mainGlobals "new_disk" = some (some (.ref f5))) (l5 : K.lookup f5 = some ⟨oc5, od5, .func (PySem.W.fnOf "new_disk" "new_disk" (defArgs sNew) (defBody sNew) (defScope sNew) .none kV5 dc5 pm5 an5 cd5 ct5), sl5⟩) (c5 : PySem.W.codeIn K cd5 "new_disk" = true) (k5 : PySem.W.keepIn K (.ref f5) = true)
    (a6 : PySem.W.nsIn K mainGlobals "put" = some (some (.ref f6))) (l6 : K.lookup f6 = some ⟨oc6, od6, .func (PySem.W.fnOf "put" "put" (defArgs sPut) (defBody sPut) (defScope sPut) .none kV6 dc6 pm6 an6 cd6 ct6), sl6⟩) (c6 : PySem.W.codeIn K cd6 "put" = true) (k6 : PySem.W.keepIn K (.ref f6) = true)
    (a7 : PySem.W.nsIn K mainGlobals "numbers" = some (some (.ref f7))) (l7 : K.lookup f7 = some ⟨oc7, od7, .func (PySem.W.fnOf "numbers" "numbers" (defArgs sNums) (defBody sNums) (defScope sNums) .none kV7 dc7 pm7 an7 cd7 ct7), sl7⟩) (c7 : PySem.W.codeIn K cd7 "numbers" = true) (k7 : PySem.W.keepIn K (.ref f7) = true)
    (a8 : PySem.W.nsIn K mainGlobals "whole_numbers" = some (some (.ref f8))) (l8 : K.lookup f8 = some ⟨oc8, od8, .func (PySem.W.fnOf "whole_numbers" "whole_numbers" (defArgs sWhl) (defBody sWhl) (defScope sWhl) .none kV8 dc8 pm8 an8 cd8 ct8), sl8⟩) (c8 : PySem.W.codeIn K cd8 "whole_numbers" = true) (k8 : PySem.W.keepIn K (.ref f8) = true)
    (a9 : PySem.W.nsIn K mainGlobals "files_of" = some (some (.ref f9))) (l9 : K.lookup f9 = some ⟨oc9, od9, .func (PySem.W.fnOf "files_of" "files_of" (defArgs sFo) (defBody sFo) (defScope sFo) .none kV9 dc9 pm9 an9 cd9 ct9), sl9⟩) (c9 : PySem.W.codeIn K cd9 "files_of" = true) (k9 : PySem.W.keepIn K (.ref f9) = true)
    (a10 : PySem.W.nsIn K mainGlobals "install_writes" = some (some (.ref f10))) (l10 : K.lookup f10 = some ⟨oc10, od10, .func (PySem.W.fnOf "install_writes" "install_writes" (defArgs sInst) (defBody sInst) (defScope sInst) .none kV10 dc10 pm10 an10 cd10 ct10), sl10⟩) (c10 : PySem.W.codeIn K cd10 "install_writes" = true) (k10 : PySem.W.keepIn K (.ref f10) = true)
    (a11 : PySem.W.nsIn K mainGlobals "current" = some (some (.ref f11))) (l11 : K.lookup f11 = some ⟨oc11, od11, .func (PySem.W.fnOf "current" "current" (defArgs sCur) (defBody sCur) (defScope sCur) .none kV11 dc11 pm11 an11 cd11 ct11), sl11⟩) (c11 : PySem.W.codeIn K cd11 "current" = true) (k11 : PySem.W.keepIn K (.ref f11) = true)
    (a12 : PySem.W.nsIn K mainGlobals "recovered" = some (some (.ref f12))) (l12 : K.lookup f12 = some ⟨oc12, od12, .func (PySem.W.fnOf "recovered" "recovered" (defArgs sRec) (defBody sRec) (defScope sRec) .none kV12 dc12 pm12 an12 cd12 ct12), sl12⟩) (c12 : PySem.W.codeIn K cd12 "recovered" = true) (k12 : PySem.W.keepIn K (.ref f12) = true)
    (a13 : PySem.W.nsIn K mainGlobals "back_writes" = some (some (.ref f13))) (l13 : K.lookup f13 = some ⟨oc13, od13, .func (PySem.W.fnOf "back_writes" "back_writes" (defArgs sBk) (defBody sBk) (defScope sBk) .none kV13 dc13 pm13 an13 cd13 ct13), sl13⟩) (c13 : PySem.W.codeIn K cd13 "back_writes" = true) (k13 : PySem.W.keepIn K (.ref f13) = true)
    (a14 : PySem.W.nsIn K mainGlobals "after" = some (some (.ref f14))) (l14 : K.lookup f14 = some ⟨oc14, od14, .func (PySem.W.fnOf "after" "after" (defArgs sAft) (defBody sAft) (defScope sAft) .none kV14 dc14 pm14 an14 cd14 ct14), sl14⟩) (c14 : PySem.W.codeIn K cd14 "after" = true) (k14 : PySem.W.keepIn K (.ref f14) = true)
    (a15 : PySem.W.nsIn K mainGlobals "images_on" = some (some (.ref f15))) (l15 : K.lookup f15 = some ⟨oc15, od15, .func (PySem.W.fnOf "images_on" "images_on" (defArgs sIms) (defBody sIms) (defScope sIms) .none kV15 dc15 pm15 an15 cd15 ct15), sl15⟩) (c15 : PySem.W.codeIn K cd15 "images_on" = true) (k15 : PySem.W.keepIn K (.ref f15) = true)
    (a16 : PySem.W.nsIn K mainGlobals "_law_tape" = some (some (.ref f16))) (l16 : K.lookup f16 = some ⟨oc16, od16, .func (PySem.W.fnOf "_law_tape" "_law_tape" (defArgs sTape) (defBody sTape) (defScope sTape) .none kV16 dc16 pm16 an16 cd16 ct16), sl16⟩) (c16 : PySem.W.codeIn K cd16 "_law_tape" = true) (k16 : PySem.W.keepIn K (.ref f16) = true)
    (a17 : PySem.W.nsIn K mainGlobals "_law_take" = some (some (.ref f17))) (l17 : K.lookup f17 = some ⟨oc17, od17, .func (PySem.W.fnOf "_law_take" "_law_take" (defArgs sTake) (defBody sTake) (defScope sTake) .none kV17 dc17 pm17 an17 cd17 ct17), sl17⟩) (c17 : PySem.W.codeIn K cd17 "_law_take" = true) (k17 : PySem.W.keepIn K (.ref f17) = true)
    (a18 : PySem.W.nsIn K mainGlobals "law" = some (some (.ref f18))) (l18 : K.lookup f18 = some ⟨oc18, od18, .func (PySem.W.fnOf "law" "law" (defArgs sLaw) (defBody sLaw) (defScope sLaw) .none kV18 dc18 pm18 an18 (.ref cL) ct18), sl18⟩) (c18 : PySem.W.codeIn K (.ref cL) "law" = true) (k18 : PySem.W.keepIn K (.ref f18) = true)
    (coL : K.lookup cL = some ⟨ccL, ddL, .fields vsL, slL⟩) (cvL : vsL[11]? = some (.ref PT)) (nPL : K.lookup PT = none)
    (gR : PySem.W.nsIn K mainGlobals "Rollout" = some (some (.ref CS))) (cPg : PySem.W.plainGet K CS Str.empty = true) (cHd : PySem.W.hasDictIn K CS = true) (cPo : PySem.W.plainOver K CS = true) (cSa : PySem.W.findIn K (.ref CS) "__setattr__" = some (some (.builtin "object.__setattr__"))) (cMk : PySem.W.makesIn K CS = true) (cKp : PySem.W.keepIn K (.ref CS) = true)
    (nA_fleet : PySem.W.findIn K (.ref CS) "fleet" = some none)
    (nA_image : PySem.W.findIn K (.ref CS) "image" = some none)
    (nA_sizes : PySem.W.findIn K (.ref CS) "sizes" = some none)
    (nA_allowed : PySem.W.findIn K (.ref CS) "allowed" = some none)
    (nA_done : PySem.W.findIn K (.ref CS) "done" = some none)
    (nA_failed : PySem.W.findIn K (.ref CS) "failed" = some none)
    (nA_waves : PySem.W.findIn K (.ref CS) "waves" = some none)
    (nA_status : PySem.W.findIn K (.ref CS) "status" = some none)
    (nA_before : PySem.W.findIn K (.ref CS) "before" = some none)
    (a19 : PySem.W.findIn K (.ref CS) "__init__" = some (some (.ref f19))) (m19 : PySem.W.isFn K (.ref f19) = true) (l19 : K.lookup f19 = some ⟨oc19, od19, .func (PySem.W.fnOf "__init__" "Rollout.__init__" (defArgs sInit) (defBody sInit) (defScope sInit) .none kV19 dc19 pm19 an19 cd19 ct19), sl19⟩) (c19 : PySem.W.codeIn K cd19 "Rollout.__init__" = true) (k19 : PySem.W.keepIn K (.ref f19) = true)
    (a20 : PySem.W.findIn K (.ref CS) "left" = some (some (.ref f20))) (m20 : PySem.W.isFn K (.ref f20) = true) (l20 : K.lookup f20 = some ⟨oc20, od20, .func (PySem.W.fnOf "left" "Rollout.left" (defArgs sLeft) (defBody sLeft) (defScope sLeft) .none kV20 dc20 pm20 an20 cd20 ct20), sl20⟩) (c20 : PySem.W.codeIn K cd20 "Rollout.left" = true) (k20 : PySem.W.keepIn K (.ref f20) = true)
    (a21 : PySem.W.findIn K (.ref CS) "take" = some (some (.ref f21))) (m21 : PySem.W.isFn K (.ref f21) = true) (l21 : K.lookup f21 = some ⟨oc21, od21, .func (PySem.W.fnOf "take" "Rollout.take" (defArgs sTak) (defBody sTak) (defScope sTak) .none kV21 dc21 pm21 an21 cd21 ct21), sl21⟩) (c21 : PySem.W.codeIn K cd21 "Rollout.take" = true) (k21 : PySem.W.keepIn K (.ref f21) = true)
    (a22 : PySem.W.findIn K (.ref CS) "wave" = some (some (.ref f22))) (m22 : PySem.W.isFn K (.ref f22) = true) (l22 : K.lookup f22 = some ⟨oc22, od22, .func (PySem.W.fnOf "wave" "Rollout.wave" (defArgs sWav) (defBody sWav) (defScope sWav) .none kV22 dc22 pm22 an22 cd22 ct22), sl22⟩) (c22 : PySem.W.codeIn K cd22 "Rollout.wave" = true) (k22 : PySem.W.keepIn K (.ref f22) = true)
    (a23 : PySem.W.findIn K (.ref CS) "back" = some (some (.ref f23))) (m23 : PySem.W.isFn K (.ref f23) = true) (l23 : K.lookup f23 = some ⟨oc23, od23, .func (PySem.W.fnOf "back" "Rollout.back" (defArgs sBak) (defBody sBak) (defScope sBak) .none kV23 dc23 pm23 an23 cd23 ct23), sl23⟩) (c23 : PySem.W.codeIn K cd23 "Rollout.back" = true) (k23 : PySem.W.keepIn K (.ref f23) = true)
    (a24 : PySem.W.findIn K (.ref CS) "run" = some (some (.ref f24))) (m24 : PySem.W.isFn K (.ref f24) = true) (l24 : K.lookup f24 = some ⟨oc24, od24, .func (PySem.W.fnOf "run" "Rollout.run" (defArgs sRun) (defBody sRun) (defScope sRun) .none kV24 dc24 pm24 an24 cd24 ct24), sl24⟩) (c24 : PySem.W.codeIn K cd24 "Rollout.run" = true) (k24 : PySem.W.keepIn K (.ref f24) = true)
    (gP : PySem.W.nsIn K mainGlobals "PRIME" = some (some (.int 2305843009213693951 tP))) (gB : PySem.W.nsIn K mainGlobals "BASE" = some (some (.int 2000003 tB))) (gS : PySem.W.nsIn K mainGlobals "SIGNS" = some (some (.str "0123456789abcdef" tS))) (gI : PySem.W.nsIn K mainGlobals "DIGITS_images" = some (some (.str "0123456789" tI))) (gM : PySem.W.nsIn K mainGlobals "DIGITS_machines" = some (some (.str "0123456789" tM)))
    (z_int : PySem.W.nsIn K mainGlobals "int" = some none)
    (z_len : PySem.W.nsIn K mainGlobals "len" = some none)
    (z_abs : PySem.W.nsIn K mainGlobals "abs" = some none)
    (z_ord : PySem.W.nsIn K mainGlobals "ord" = some none)
    (z_range : PySem.W.nsIn K mainGlobals "range" = some none)
    (z_all : PySem.W.nsIn K mainGlobals "all" = some none)
    (z_any : PySem.W.nsIn K mainGlobals "any" = some none)
    (z_str : PySem.W.nsIn K mainGlobals "str" = some none)
    (z_dict : PySem.W.nsIn K mainGlobals "dict" = some none)
    (z_sorted : PySem.W.nsIn K mainGlobals "sorted" = some none)
    (z_min : PySem.W.nsIn K mainGlobals "min" = some none) :
    ∃ (fd : FuncData) (c PT : Addr), K.lookup PT = none ∧ h.get? PT = some { cls := .none, data := .fields #[] } ∧ PySem.W.CodeHd h c PT ∧ (∀ (s : Shared) (v : Value), BindsTo s fd ⟨[v], []⟩ [("script", v)]) ∧ ∀ base : Heap, K.In base → base.Ns mainGlobals mg → LamX.TabB base mg c PT → FnOk P w K mg base (L2.CX P w) 8 fa fd ["script"] (spLaw K PT) := by
  have e := hfa.symm.trans (PySem.W.mg_of X G a18)
  cases e
  obtain ⟨hT1, hT2⟩ := law_tab X hfa l18 rfl coL cvL hTab
  have F0 := fun_mk (st := sNum) l0 c0 k0
  have b0 := F0.binds (ps := ["text"]) fun _ _ _ _ _ _ us hl => match us, hl with | [_], _ => rfl
  have F1 := fun_mk (st := sDig) l1 c1 k1
  have b1 := F1.binds (ps := ["text"]) fun _ _ _ _ _ _ us hl => match us, hl with | [_], _ => rfl
  have F2 := fun_mk (st := sWim) l2 c2 k2
  have b2 := F2.binds (ps := ["files"]) fun _ _ _ _ _ _ us hl => match us, hl with | [_], _ => rfl
  have F3 := fun_mk (st := sNat) l3 c3 k3
  have b3 := F3.binds (ps := ["text", "at"]) fun _ _ _ _ _ _ us hl => match us, hl with | [_, _], _ => rfl
  have F4 := fun_mk (st := sRd) l4 c4 k4
  have b4 := F4.binds (ps := ["text"]) fun _ _ _ _ _ _ us hl => match us, hl with | [_], _ => rfl
  have F5 := fun_mk (st := sNew) l5 c5 k5
  have b5 := F5.binds (ps := ["image"]) fun _ _ _ _ _ _ us hl => match us, hl with | [_], _ => rfl
  have F6 := fun_mk (st := sPut) l6 c6 k6
  have b6 := F6.binds (ps := ["disk", "write"]) fun _ _ _ _ _ _ us hl => match us, hl with | [_, _], _ => rfl
  have F7 := fun_mk (st := sNums) l7 c7 k7
  have b7 := F7.binds (ps := ["disk"]) fun _ _ _ _ _ _ us hl => match us, hl with | [_], _ => rfl
  have F8 := fun_mk (st := sWhl) l8 c8 k8
  have b8 := F8.binds (ps := ["disk"]) fun _ _ _ _ _ _ us hl => match us, hl with | [_], _ => rfl
  have F9 := fun_mk (st := sFo) l9 c9 k9
  have b9 := F9.binds (ps := ["disk", "number"]) fun _ _ _ _ _ _ us hl => match us, hl with | [_, _], _ => rfl
  have F10 := fun_mk (st := sInst) l10 c10 k10
  have b10 := F10.binds (ps := ["disk", "image"]) fun _ _ _ _ _ _ us hl => match us, hl with | [_, _], _ => rfl
  have F11 := fun_mk (st := sCur) l11 c11 k11
  have b11 := F11.binds (ps := ["disk"]) fun _ _ _ _ _ _ us hl => match us, hl with | [_], _ => rfl
  have F12 := fun_mk (st := sRec) l12 c12 k12
  have b12 := F12.binds (ps := ["disk"]) fun _ _ _ _ _ _ us hl => match us, hl with | [_], _ => rfl
  have F13 := fun_mk (st := sBk) l13 c13 k13
  have b13 := F13.binds (ps := ["disk", "number"]) fun _ _ _ _ _ _ us hl => match us, hl with | [_, _], _ => rfl
  have F14 := fun_mk (st := sAft) l14 c14 k14
  have b14 := F14.binds (ps := ["disk", "writes", "count"]) fun _ _ _ _ _ _ us hl => match us, hl with | [_, _, _], _ => rfl
  have F15 := fun_mk (st := sIms) l15 c15 k15
  have b15 := F15.binds (ps := ["fleet"]) fun _ _ _ _ _ _ us hl => match us, hl with | [_], _ => rfl
  have F16 := fun_mk (st := sTape) l16 c16 k16
  have b16 := F16.binds (ps := ["script"]) fun _ _ _ _ _ _ us hl => match us, hl with | [_], _ => rfl
  have F17 := fun_mk (st := sTake) l17 c17 k17
  have b17 := F17.binds (ps := ["tape", "many"]) fun _ _ _ _ _ _ us hl => match us, hl with | [_, _], _ => rfl
  have F19 := fun_mk (st := sInit) l19 c19 k19
  have b19 := F19.binds (ps := ["self", "fleet", "image", "sizes", "allowed"]) fun _ _ _ _ _ _ us hl => match us, hl with | [_, _, _, _, _], _ => rfl
  have F20 := fun_mk (st := sLeft) l20 c20 k20
  have b20 := F20.binds (ps := ["self"]) fun _ _ _ _ _ _ us hl => match us, hl with | [_], _ => rfl
  have F21 := fun_mk (st := sTak) l21 c21 k21
  have b21 := F21.binds (ps := ["self", "name", "cut"]) fun _ _ _ _ _ _ us hl => match us, hl with | [_, _, _], _ => rfl
  have F22 := fun_mk (st := sWav) l22 c22 k22
  have b22 := F22.binds (ps := ["self", "health", "cuts"]) fun _ _ _ _ _ _ us hl => match us, hl with | [_, _, _], _ => rfl
  have F23 := fun_mk (st := sBak) l23 c23 k23
  have b23 := F23.binds (ps := ["self"]) fun _ _ _ _ _ _ us hl => match us, hl with | [_], _ => rfl
  have F24 := fun_mk (st := sRun) l24 c24 k24
  have b24 := F24.binds (ps := ["self", "health", "cuts"]) fun _ _ _ _ _ _ us hl => match us, hl with | [_, _, _], _ => rfl
  have M := fun {x : Str} (z : PySem.W.nsIn K mainGlobals x = some none) => PySem.W.mg_none_of X G z
  have BD : BtDig mg := ⟨M z_len, M z_ord, M z_range, ⟨_, PySem.W.mg_of X G gP⟩, ⟨_, PySem.W.mg_of X G gB⟩, ⟨_, PySem.W.mg_of X G gS⟩⟩
  have B : BtM mg := ⟨M z_len, M z_str, M z_sorted, M z_all, M z_int, M z_dict, M z_range, M z_any, ⟨_, PySem.W.mg_of X G gI⟩, ⟨_, PySem.W.mg_of X G gM⟩⟩
  have BT : BtTape mg := ⟨M z_int, M z_abs⟩
  have BK : BtTake mg := ⟨M z_int, M z_len⟩
  have R : Own1 K mg "BrokenDisk" CB := ⟨PySem.W.mg_of X G gC, xC, kC, xB, tC, exm_self xB jC tC sC⟩
  have T : TxtR K mg CS := ⟨⟨cPg, cHd, cPo, cSa⟩, nA_fleet, nA_image, nA_sizes, nA_allowed, nA_done, nA_failed, nA_waves, nA_status, nA_before, M z_min⟩
  refine ⟨PySem.W.fnOf "law" "law" (defArgs sLaw) (defBody sLaw) (defScope sLaw) .none kV18 dc18 pm18 an18 (.ref cL) ct18, cL, PT, nPL, hT1, hT2, fun s v => .of_eq rfl, fun base _ _ TB => ?_⟩
  have hNum : Has P w K mg base CX0 1 "number_of" ["text"] spNum := ⟨f0, _, PySem.W.mg_of X G a0, k0, b0, ok_num F0 BD⟩
  have hDig : Has P w K mg base CX0 2 "digest" ["text"] spDig := ⟨f1, _, PySem.W.mg_of X G a1, k1, b1, ok_dig F1 BD hNum⟩
  have hWim : Has P w K mg base CX0 1 "write_image" ["files"] spWim := ⟨f2, _, PySem.W.mg_of X G a2, k2, b2, ok_wim F2 B⟩
  have hNat : Has P w K mg base CX0 1 "number_at" ["text", "at"] spNat := ⟨f3, _, PySem.W.mg_of X G a3, k3, b3, ok_nat F3 B⟩
  have hRd : Has P w K mg base CX0 2 "read_image" ["text"] spRd := ⟨f4, _, PySem.W.mg_of X G a4, k4, b4, ok_rd F4 B hNat hWim⟩
  have hPut : Has P w K mg base CX0 1 "put" ["disk", "write"] (spPut K) := ⟨f6, _, PySem.W.mg_of X G a6, k6, b6, ok_put F6⟩
  have hNu : Has P w K mg base CX0 1 "numbers" ["disk"] spNums := ⟨f7, _, PySem.W.mg_of X G a7, k7, b7, ok_nums F7 B⟩
  have hFo : Has P w K mg base CX0 3 "files_of" ["disk", "number"] spFo := ⟨f9, _, PySem.W.mg_of X G a9, k9, b9, ok_fo F9 B hDig hWim⟩
  have hWhl : Has P w K mg base CX0 4 "whole_numbers" ["disk"] spWhl := ⟨f8, _, PySem.W.mg_of X G a8, k8, b8, ok_whl F8 hNu hFo⟩
  have hIn : Has P w K mg base CX0 3 "install_writes" ["disk", "image"] (spInst K) := ⟨f10, _, PySem.W.mg_of X G a10, k10, b10, ok_inst F10 B hRd hNu hDig⟩
  have hNew : Has P w K mg base CX0 4 "new_disk" ["image"] spNew := ⟨f5, _, PySem.W.mg_of X G a5, k5, b5, ok_new F5 hIn hPut⟩
  have hCur : Has P w K mg base CX0 4 "current" ["disk"] spCur := ⟨f11, _, PySem.W.mg_of X G a11, k11, b11, ok_cur F11 B hFo hWim⟩
  have hCurU : Has P w K mg base (L2.CX P w) 4 "current" ["disk"] (spCurU CB) := ⟨f11, _, PySem.W.mg_of X G a11, k11, b11, FnOk.union (ok_cur F11 B hFo hWim) (ok_curX F11 B R hFo hWim)⟩
  have hRec : Has P w K mg base CX0 2 "recovered" ["disk"] (spRec K) := ⟨f12, _, PySem.W.mg_of X G a12, k12, b12, ok_rec F12 B hNu⟩
  have hBk : Has P w K mg base CX0 4 "back_writes" ["disk", "number"] (spBk K) := ⟨f13, _, PySem.W.mg_of X G a13, k13, b13, ok_bk F13 B hFo⟩
  have hAft : Has P w K mg base CX0 2 "after" ["disk", "writes", "count"] (spAft K) := ⟨f14, _, PySem.W.mg_of X G a14, k14, b14, ok_aft F14 B hPut⟩
  have HMm : HM P w K mg base := ⟨hDig, hIn, hCur, hRec, hBk, hAft⟩
  have hIms : Has P w K mg base CX0 5 "images_on" ["fleet"] spIms := ⟨f15, _, PySem.W.mg_of X G a15, k15, b15, ok_ims F15 R B HMm hCurU⟩
  have hTp : Has P w K mg base CX0 1 "_law_tape" ["script"] (spTape P w K) := ⟨f16, _, PySem.W.mg_of X G a16, k16, b16, ok_tape F16 BT⟩
  have hTk : Has P w K mg base CX0 1 "_law_take" ["tape", "many"] (spTake P w) := ⟨f17, _, PySem.W.mg_of X G a17, k17, b17, ok_take F17 BK⟩
  have hLeft : HasM P w K mg base CX0 1 CS "left" ["self"] (spLeft CS) := ⟨f20, _, ⟨a20, m20, k20⟩, b20, ok_left F20 T B⟩
  have hTake : HasM P w K mg base CX0 5 CS "take" ["self", "name", "cut"] (spTak CS) := ⟨f21, _, ⟨a21, m21, k21⟩, b21, ok_tak F21 T B HMm⟩
  have hBak : HasM P w K mg base CX0 5 CS "back" ["self"] (spBack CS) := ⟨f23, _, ⟨a23, m23, k23⟩, b23, ok_bak F23 T B HMm⟩
  have hWave : HasM P w K mg base CX0 6 CS "wave" ["self", "health", "cuts"] (spWave P w K mg base CS) := ⟨f22, _, ⟨a22, m22, k22⟩, b22, ok_wav F22 T B ⟨hDig, hCur, hLeft, hTake, hBak⟩⟩
  have hRun : HasM P w K mg base CX0 7 CS "run" ["self", "health", "cuts"] (spRun P w K mg base CS) := ⟨f24, _, ⟨a24, m24, k24⟩, b24, ok_run F24 T B ⟨hWave⟩⟩
  have hRo : HasRo P w K mg base CS := ⟨PySem.W.mg_of X G gR, f19, _, ⟨cMk, a19, m19, cKp⟩, b19, ok_init F19 T B HMm⟩
  exact ok_law ⟨⟨_, _, _, _, _, _, _, _, rfl, l18, c18⟩, k18⟩ T B ⟨hTp, hTk, hWim, hDig, hWhl, hIn, hNew, hCur, hAft, hIms, hRo, hWave, hRun⟩ TB
theorem walk {l : PySem.W.OpenLaw} {q : Program} {loose : List Str} {XP : (Str → Option Value) → Heap → Prop} {YP : World → Heap → Prop} {d : DefRec} {K : Params → PySem.W.Frag} (hn : l.most = some 63) (hdf : d.params.defaults = [])
    (hY : ∀ (w : World) (h : Heap), YP w h → (K w.params).In h) (hr : (recsOf q).find? (fun e => e.name == ("law" : Str)) = some d)
    (F : ∀ (w : World) (mg : Str → Option Value) (fa : Addr) (h : Heap), (K w.params).In h → h.Ns mainGlobals mg → mg d.name = some (.ref fa) → (∃ (a : Addr) (o : Obj) (fd : FuncData) (c P : Addr), mg d.name = some (.ref a) ∧ h.get? a = some o ∧ o.data = .func fd ∧ fd.code = .ref c ∧ h.IsCode c P #[] ∧ h.TableAt c P #[]) →
      ∃ (fd : FuncData) (c PT : Addr), (K w.params).lookup PT = none ∧ h.get? PT = some { cls := .none, data := .fields #[] } ∧ PySem.W.CodeHd h c PT ∧ (∀ (s : Shared) (v : Value), BindsTo s fd ⟨[v], []⟩ [("script", v)]) ∧ ∀ base : Heap, (K w.params).In base → base.Ns mainGlobals mg → LamX.TabB base mg c PT → FnOk l.prog w (K w.params) mg base (L2.CX l.prog w) 8 fa fd ["script"] (spLaw (K w.params) PT)) :
    PySem.W.WalkO q loose XP YP l.row.toRowW d [] (fun f vs => PySem.call f vs) := by
  refine Att.attach_callB hn hdf fun w s₀ s₁ mg mb fa o pm cd doc a vs ns G Y ho hd hcd hmg hobj hints hlen hbits hg => ?_
  have KX := hY w _ Y
  obtain ⟨fd, c, PT, nT, hT, hC, hb, hF⟩ := F w mg fa _ KX G.T.g hmg (G.T.tab d (List.mem_of_find?_eq_some hr))
  have one : ∀ {Q : Addr × Addr → Prop}, Q (c, PT) → ∀ p ∈ [(c, PT)], Q p := fun h p hp => by rw [List.mem_singleton.mp hp]; exact h
  exact LamX.law_callTs (k := 8) (cs := [(c, PT)]) (sp := spLaw (K w.params) PT) (CX := L2.CX l.prog w) KX G.T.g G.T.b G.T.builtins G.T.nolimit hg (one hT) (one nT) (one hC) G.T.bmain hobj hints (Nat.le_trans hlen (by decide)) ⟨rfl, by decide, by decide⟩ (fun base h1 h2 h3 => hF base h1 h2 (h3 _ (List.mem_singleton.mpr rfl))) hb (fun H hH hS => ⟨a, ns, rfl, hS, hlen, fun p hp => by
    rw [List.mem_singleton.mp hp]
    exact ⟨#[], hH _ (List.mem_singleton.mpr rfl), trivial, fun pos cv hcv => by cases hcv⟩, fun _ => rfl⟩) fun H e s' z => cx_false z
end Mx
open PySem PySem.W PyProof.Rows
set_option maxRecDepth 100000 in
set_option maxHeartbeats 0 in
theorem PySem.Challenge.cw_sameinsameout_k15_whole_waves_of_machine_holds : PySem.Challenge.rw_sameinsameout_k15_whole_waves_of_machine.Holds := by
  w_on; o_law; k_head; (case hw => w_witness2)
  k_fill
  refine Mx.walk (l := PySem.Challenge.rw_sameinsameout_k15_whole_waves_of_machine) rfl rfl (fun w h Y => PySem.W.km_in_of Y) rfl ?F
  case F =>
    intro w mg fa h KX G hmg hTab
    refine' Mx.all_mk KX G hmg hTab ?gC ?xC ?kC ?xB ?tC ?jC ?sC ?a0 ?l0 ?c0 ?k0 ?a1 ?l1 ?c1 ?k1 ?a2 ?l2 ?c2 ?k2 ?a3 ?l3 ?c3 ?k3 ?a4 ?l4 ?c4 ?k4 ?a5 ?l5 ?c5 ?k5 ?a6 ?l6 ?c6 ?k6 ?a7 ?l7 ?c7 ?k7 ?a8 ?l8 ?c8 ?k8 ?a9 ?l9 ?c9 ?k9 ?a10 ?l10 ?c10 ?k10 ?a11 ?l11 ?c11 ?k11 ?a12 ?l12 ?c12 ?k12 ?a13 ?l13 ?c13 ?k13 ?a14 ?l14 ?c14 ?k14 ?a15 ?l15 ?c15 ?k15 ?a16 ?l16 ?c16 ?k16 ?a17 ?l17 ?c17 ?k17 ?a18 ?l18 ?c18 ?k18 ?coL ?cvL ?nPL ?gR ?cPg ?cHd ?cPo ?cSa ?cMk ?cKp ?nA_fleet ?nA_image ?nA_sizes ?nA_allowed ?nA_done ?nA_failed ?nA_waves ?nA_status ?nA_before ?a19 ?m19 ?l19 ?c19 ?k19 ?a20 ?m20 ?l20 ?c20 ?k20 ?a21 ?m21 ?l21 ?c21 ?k21 ?a22 ?m22 ?l22 ?c22 ?k22 ?a23 ?m23 ?l23 ?c23 ?k23 ?a24 ?m24 ?l24 ?c24 ?k24 ?gP ?gB ?gS ?gI ?gM ?z_int ?z_len ?z_abs ?z_ord ?z_range ?z_all ?z_any ?z_str ?z_dict ?z_sorted ?z_min
    (case gC => k_is)
    (case xC => k_exc)
    (case kC => k_is)
    (case xB => k_is)
    (case tC => k_is)
    (case jC => k_is)
    (case sC => first | rfl | k_is)
    (case a0 => k_is)
    (case l0 => k_is)
    (case c0 => k_is)
    (case k0 => k_is)
    (case a1 => k_is)
    (case l1 => k_is)
    (case c1 => k_is)
    (case k1 => k_is)
    (case a2 => k_is)
    (case l2 => k_is)
    (case c2 => k_is)
    (case k2 => k_is)
    (case a3 => k_is)
    (case l3 => k_is)
    (case c3 => k_is)
    (case k3 => k_is)
    (case a4 => k_is)
    (case l4 => k_is)
    (case c4 => k_is)
    (case k4 => k_is)
    (case a5 => k_is)
    (case l5 => k_is)
    (case c5 => k_is)
    (case k5 => k_is)
    (case a6 => k_is)
    (case l6 => k_is)
    (case c6 => k_is)
    (case k6 => k_is)
    (case a7 => k_is)
    (case l7 => k_is)
    (case c7 => k_is)
    (case k7 => k_is)
    (case a8 => k_is)
    (case l8 => k_is)
    (case c8 => k_is)
    (case k8 => k_is)
    (case a9 => k_is)
    (case l9 => k_is)
    (case c9 => k_is)
    (case k9 => k_is)
    (case a10 => k_is)
    (case l10 => k_is)
    (case c10 => k_is)
    (case k10 => k_is)
    (case a11 => k_is)
    (case l11 => k_is)
    (case c11 => k_is)
    (case k11 => k_is)
    (case a12 => k_is)
    (case l12 => k_is)
    (case c12 => k_is)
    (case k12 => k_is)
    (case a13 => k_is)
    (case l13 => k_is)
    (case c13 => k_is)
    (case k13 => k_is)
    (case a14 => k_is)
    (case l14 => k_is)
    (case c14 => k_is)
    (case k14 => k_is)
    (case a15 => k_is)
    (case l15 => k_is)
    (case c15 => k_is)
    (case k15 => k_is)
    (case a16 => k_is)
    (case l16 => k_is)
    (case c16 => k_is)
    (case k16 => k_is)
    (case a17 => k_is)
    (case l17 => k_is)
    (case c17 => k_is)
    (case k17 => k_is)
    (case a18 => k_is)
    (case l18 => k_is)
    (case c18 => k_is)
    (case k18 => k_is)
    (case coL => k_is)
    (case cvL => first | rfl | k_is)
    (case nPL => first | kernel_rfl | rfl)
    (case gR => k_is)
    (case cPg => k_is)
    (case cHd => k_is)
    (case cPo => k_is)
    (case cSa => k_is)
    (case cMk => k_is)
    (case cKp => k_is)
    (case nA_fleet => k_is)
    (case nA_image => k_is)
    (case nA_sizes => k_is)
    (case nA_allowed => k_is)
    (case nA_done => k_is)
    (case nA_failed => k_is)
    (case nA_waves => k_is)
    (case nA_status => k_is)
    (case nA_before => k_is)
    (case a19 => k_is)
    (case m19 => k_is)
    (case l19 => k_is)
    (case c19 => k_is)
    (case k19 => k_is)
    (case a20 => k_is)
    (case m20 => k_is)
    (case l20 => k_is)
    (case c20 => k_is)
    (case k20 => k_is)
    (case a21 => k_is)
    (case m21 => k_is)
    (case l21 => k_is)
    (case c21 => k_is)
    (case k21 => k_is)
    (case a22 => k_is)
    (case m22 => k_is)
    (case l22 => k_is)
    (case c22 => k_is)
    (case k22 => k_is)
    (case a23 => k_is)
    (case m23 => k_is)
    (case l23 => k_is)
    (case c23 => k_is)
    (case k23 => k_is)
    (case a24 => k_is)
    (case m24 => k_is)
    (case l24 => k_is)
    (case c24 => k_is)
    (case k24 => k_is)
    (case gP => k_is)
    (case gB => k_is)
    (case gS => k_is)
    (case gI => k_is)
    (case gM => k_is)
    (case z_int => k_is)
    (case z_len => k_is)
    (case z_abs => k_is)
    (case z_ord => k_is)
    (case z_range => k_is)
    (case z_all => k_is)
    (case z_any => k_is)
    (case z_str => k_is)
    (case z_dict => k_is)
    (case z_sorted => k_is)
    (case z_min => k_is)
