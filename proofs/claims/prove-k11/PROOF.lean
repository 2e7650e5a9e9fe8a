import PyProof.Rows.All
import Wide.All
import OpenK.AllK
import Wide.FinOn
import HandS.ForMost
import HandS.Exc
import HandS.ExcOwn
import HandS.TryOnly
import HandS.ExcField
import HandS.Evl
import HandS.Conv
import HandS.Text
import KE.DatumOrd
import HandS.Walk
import HandS.ExcInit
import KE.KSuper
import KE.KExcSuper
import KE.GoesRaise
import HandS.WordsExc
import KE.SortData
import HandS.ForDict
import HandS.Codes
import HandS.Style
import HandS.Words
import HandS.DictComp
import PyProof.Rows.StrRev
import HandS.More
import HandS.Ends
import KE.RegKSuper
import PySem.Challenge.RW_sameinsameout_k11_whole_stores
set_option Elab.async false
set_option linter.all false
set_option maxRecDepth 100000
set_option maxHeartbeats 2000000
/-! Helpers: a def of the text as one fact (Has); another view of what is tracked (retype). -/
namespace Mx
open PySem PySem.Spec PyProof.Rows L2

/-! ### a def as one fact -/
def Has (P : Program) (w : World) (K : PySem.W.Frag) (mg : Str → Option Value) (base : Heap) (CX : CXT) (k : Nat) (x : Str) (ps : List Str) (sp : Sp) : Prop :=
  ∃ (f : Addr) (fd : FuncData), mg x = some (.ref f) ∧ PySem.W.keepIn K (.ref f) = true ∧ Binds K fd ps [] ∧ FnOk P w K mg base CX k f fd ps sp
section
variable {X : Cx} {CX : CXT} {k : Nat} {x : Str} {ps : List Str} {sp : Sp} {p pos : Pos} {e : Expr} {es : List Expr} {t : TA}
theorem pe_h {j : Nat} (F : Has X.prog X.w X.K X.mg X.base CX k x ps sp) (hr : Room j X.A) (hg : Gl X x) {E : XK} (hx : Passes CX X E) (ha : PA X (e :: es) t) (hj : k ≤ j := by decide) (hdb : (x == ("__debug__" : Str)) = false := by decide +kernel)
    (he : starEach (e :: es) X.env = (false, eval e X.env) :: starEach es X.env := by rfl) (hpl : (backTo pos (starEach es X.env)).any (·.1) = false := by rfl) : PE X (.Call (.Name x p) (e :: es) [] pos) (tCall sp [] E t) := by
  obtain ⟨f, fd, hm, hk, hb, G⟩ := F
  exact pe_call G (hr.mono hj) hg hm hk hb .nil hx ha hdb he hpl
theorem pe_hS {j : Nat} {E : L2.St → XK} (F : Has X.prog X.w X.K X.mg X.base CX k x ps sp) (hr : Room j X.A) (hg : Gl X x) (hx : ∀ σ, PassesAt CX X σ (E σ)) (ha : PA X (e :: es) t) (hj : k ≤ j := by decide) (hdb : (x == ("__debug__" : Str)) = false := by decide +kernel)
    (he : starEach (e :: es) X.env = (false, eval e X.env) :: starEach es X.env := by rfl) (hpl : (backTo pos (starEach es X.env)).any (·.1) = false := by rfl) : PE X (.Call (.Name x p) (e :: es) [] pos) (tCallS sp E t) := by
  obtain ⟨f, fd, hm, hk, hb, G⟩ := F
  exact pe_callS G (hr.mono hj) hg hm hk hb hx ha hdb he hpl
end

/-! ### rules whose reading names the fragment, for use within a comprehension -/
section
variable {X : Cx} {K' : PySem.W.Frag} {a o e tg : Expr} {ta to te : TE} {p pos apos : Pos}
theorem pe_tupleK (hK : X.K = K') (hg : Gl X "tuple") (hm : X.mg "tuple" = none) (ha : PE X a ta) (na : starEach [a] X.env = (false, eval a X.env) :: starEach [] X.env := by rfl) :
    PE X (.Call (.Name "tuple" p) [a] [] pos) (tThen ta (kTup K')) := by
  subst hK
  exact pe_tupleOf hg hm ha na
abbrev rJoin (K : PySem.W.Frag) : V → List V → Hp → VK → Prop := fun x xs H Q => ∃ a p, ∃ ys : List Str, x = .str a ∧ xs = [.ref p] ∧ (SqL K H p (ys.map V.str) ∨ SqT K H p (ys.map V.str)) ∧
      (ys.map (·.length)).sum + ys.length * a.length ≤ 16777216 ∧ Q (.str (Txt.join a ys)) H
theorem pe_joinK (hK : X.K = K') (ho : PE X o to) (he : PE X e te) (hs : starEach [e] X.env = [(false, eval e X.env)] := by rfl) (hbase : attributeBase o "join" X.env (eval o X.env) = eval o X.env := by rfl) (hline : (apos.endLine == pos.line) = true := by rfl) :
    PE X (.Call (.Attribute o "join" apos) [e] [] pos) (tM1 (rJoin K') to te) := by
  subst hK
  exact pe_join ho he hs hbase hline
theorem pi_tupK (hK : X.K = K') (he : PE X e te) : PI X tg e (iTup K' te) := by
  subst hK
  exact pi_tup he
end

/-! ### another view of what is tracked -/
structure Compat (H H' : Hp) : Prop where
  none : ∀ b, H b = none ↔ H' b = none
  tup : ∀ b xs, H b = some (.tup xs) ↔ H' b = some (.tup xs)
  frz : ∀ b o u, H b = some (.frz o u) ↔ H' b = some (.frz o u)
  tbl : ∀ b ps, H b = some (.tbl ps) ↔ H' b = some (.tbl ps)
def plainO : HO → Bool
  | .lst _ => true
  | .dK _ => true
  | .dT _ => true
  | .set _ _ => true
  | .ext _ => true
  | _ => false
theorem Compat.upd {H : Hp} {p : Addr} {o1 o2 : HO} (h : H p = some o1) (h1 : plainO o1 = true) (h2 : plainO o2 = true) : Compat H (L2.upd H p o2) := by
  have key : ∀ (b : Addr) (o : HO), plainO o = false → (H b = some o ↔ L2.upd H p o2 b = some o) := fun b o ho => by
    by_cases e : b = p
    · rw [e, upd_same, h]
      constructor
      · intro q
        cases q
        rw [h1] at ho
        cases ho
      · intro q
        cases q
        rw [h2] at ho
        cases ho
    · rw [upd_ne e]
  refine ⟨fun b => ?_, fun b xs => key b _ rfl, fun b o u => key b _ rfl, fun b ps => key b _ rfl⟩
  by_cases e : b = p
  · rw [e, upd_same, h]
    constructor <;> intro q <;> cases q
  · rw [upd_ne e]
theorem Compat.refl (H : Hp) : Compat H H := ⟨fun _ => Iff.rfl, fun _ _ => Iff.rfl, fun _ _ _ => Iff.rfl, fun _ _ => Iff.rfl⟩
theorem HOk.retype {P : Program} {w : World} {H : Hp} {h : Heap} {p : Addr} {o1 o2 : HO} (ok : HOk P w H h) (hp : H p = some o1) (h1 : plainO o1 = true) (new : ObjOk P w (L2.upd H p o2) h p o2) : HOk P w (L2.upd H p o2) h := fun b o e => by
  by_cases hb : b = p
  · subst hb
    rw [upd_same] at e
    cases e
    exact new
  · rw [upd_ne hb] at e
    refine (ok b o e).stay (fun _ _ _ q => q) (fun c q => ?_) fun c xs q => ?_
    · rw [upd_ne (fun z => by rw [z, hp] at q; cases q; cases h1)]
      exact q
    · rw [upd_ne (fun z => by rw [z, hp] at q; cases q; cases h1)]
      exact q
theorem FnOk.retype {P : Program} {w : World} {K : PySem.W.Frag} {mg : Str → Option Value} {base : Heap} {k : Nat} {f : Addr} {fd : FuncData} {ps : List Str} {sp0 sp : Sp} (F : FnOk P w K mg base CX0 k f fd ps sp0)
    (len : ∀ vs H Q E, sp vs H Q E → vs.length = ps.length)
    (h : ∀ (vs : List V) (H : Hp) (Q : VK) (E : XK) (hp : Heap), HOk P w H hp → sp vs H Q E → ∃ H0, HOk P w H0 hp ∧ Compat H H0 ∧
      sp0 vs H0 (fun v H1 => ∀ h', HOk P w H1 h' → ∃ H', HOk P w H' h' ∧ Compat H1 H' ∧ Q v H') E) : FnOk P w K mg base CX0 k f fd ps sp := by
  refine ⟨len, fun A outer s H args us vs Q E hr e0 hb hv hs => ?_⟩
  obtain ⟨H0, ok0, c0, q0⟩ := h vs H Q E s.heap e0.hok hs
  have e1 : Env0 P w K mg base A outer s H0 := ⟨e0.frames, e0.mod, fun b o e => ⟨(e0.bs b o e).1, (c0.none b).mp (e0.bs b o e).2⟩, e0.bsz, e0.funs, fun b hb => (c0.none b).mp (e0.frf b hb), ok0, e0.bare⟩
  refine codeAny_mono (F.run A outer s H0 args us vs _ E hr e1 hb hv q0) fun r s' z => ?_
  cases r with
  | error e => exact z
  | ok fl =>
    cases fl with
    | ret u =>
      obtain ⟨v, H1, os, bare, un, ok1, rv, q⟩ := z
      obtain ⟨H', ok', c1, qv⟩ := q _ ok1
      refine ⟨v, H', os, bare, ⟨fun b o e n => un.keep b o e ((c0.none b).mp n), fun b o e n => un.slot b o e ((c0.none b).mp n), fun b o e n hx => (c1.none b).mp (un.free b o e ((c0.none b).mp n) hx), un.there,
        fun b xs e => (c1.tup b xs).mp (un.tups b xs ((c0.tup b xs).mp e)), fun b o u e => (c1.frz b o u).mp (un.frzs b o u ((c0.frz b o u).mp e)), fun b ps e => ?_⟩, ok', rv, qv⟩
      obtain ⟨more, e'⟩ := un.tbls b ps ((c0.tbl b ps).mp e)
      exact ⟨more, (c1.tbl b _).mp e'⟩
    | next => exact z
    | brk => exact z
    | cont => exact z
end Mx
set_option Elab.async false
set_option linter.all false
set_option maxRecDepth 100000
set_option maxHeartbeats 2000000
/-! Values of which a predicate is known, over growing heaps. -/
namespace Mx
open PySem PySem.Spec PyProof.Rows L2 Evl

def EvP (te : TE) (σ : L2.St) (H : Hp) (R : V → Hp → Prop) : Prop := ∀ H1, Ex H H1 → ∀ Q : VK, (∀ v H2, Ex H1 H2 → R v H2 → Q v H2) → te σ H1 Q
/-- a predicate that growing keeps -/
def Tx (H H' : Hp) : Prop := ∀ a xs, H a = some (.tup xs) → H' a = some (.tup xs)
theorem Tx.of {H H' : Hp} (e : Ex H H') : Tx H H' := fun a _ h => e a _ h
theorem Tx.trans {H H1 H2 : Hp} (a : Tx H H1) (b : Tx H1 H2) : Tx H H2 := fun c o h => b c o (a c o h)
theorem Tx.lst {H : Hp} {p : Addr} {xs : List V} {o : HO} (h : H p = some (.lst xs)) : Tx H (upd H p o) := fun a ys e => by
  rw [upd_ne (fun z => by rw [z, h] at e; cases e)]
  exact e
def Mono (R : V → Hp → Prop) : Prop := ∀ v H H', Tx H H' → R v H → R v H'
section
variable {σ : L2.St} {H H' : Hp} {te ta tb : TE} {R R1 RB : V → Hp → Prop} {v : V} {K : PySem.W.Frag}
theorem Ev.p (h : Ev te σ H v) : EvP te σ H (fun u _ => u = v) := fun H1 e Q q => h H1 e Q fun H2 e2 => q v H2 e2 rfl
theorem EvL.p {xs : List V} (h : EvL te σ H xs) : EvP te σ H (fun u H2 => ∃ p, u = .ref p ∧ H2 p = some (.lst xs)) := fun H1 e Q q => h H1 e Q fun p H2 _ e2 h2 => q _ H2 e2 ⟨p, rfl, h2⟩
theorem EvU.p {xs : List V} (h : EvU te σ H xs) : EvP te σ H (fun u H2 => ∃ p, u = .ref p ∧ H2 p = some (.tup xs)) := fun H1 e Q q => h H1 e Q fun p H2 _ e2 h2 => q _ H2 e2 ⟨p, rfl, h2⟩
theorem EvP.mono (e : Ex H H') (h : EvP te σ H R) : EvP te σ H' R := fun H1 a Q q => h H1 (e.trans a) Q q
theorem EvP.imp (h : EvP te σ H R) (hr : ∀ v H2, Ex H H2 → R v H2 → R1 v H2) : EvP te σ H R1 := fun H1 e Q q => h H1 e Q fun v H2 e2 r => q v H2 e2 (hr v H2 (e.trans e2) r)
theorem evp_op {r : R2} (ha : EvP ta σ H R1) (hb : ∀ v H1, Ex H H1 → R1 v H1 → EvP tb σ H1 RB)
    (hr : ∀ x y H1 H2, Ex H H1 → R1 x H1 → Ex H1 H2 → RB y H2 → ∀ Q : VK, (∀ z H3, Ex H2 H3 → R z H3 → Q z H3) → r x y H2 Q) : EvP (tOp r ta tb) σ H R := fun H1 e Q q =>
  ha H1 e _ fun x H2 e2 r1 => hb x H2 (e.trans e2) r1 H2 (Ex.refl H2) _ fun y H3 e3 r2 => hr x y H2 H3 (e.trans e2) r1 e3 r2 Q fun z H4 e4 => q z H4 ((e2.trans e3).trans e4)
/-- what a list at p is known of -/
def LstOf (n : Nat) (R : Nat → V → Hp → Prop) (v : V) (H : Hp) : Prop := ∃ p xs, v = .ref p ∧ H p = some (.lst xs) ∧ xs.length = n ∧ ∀ i x, xs[i]? = some x → R i x H
def TupOf (n : Nat) (R : Nat → V → Hp → Prop) (v : V) (H : Hp) : Prop := ∃ p xs, v = .ref p ∧ H p = some (.tup xs) ∧ xs.length = n ∧ ∀ i x, xs[i]? = some x → R i x H
theorem LstOf.ex {n : Nat} {R : Nat → V → Hp → Prop} (hm : ∀ i, Mono (R i)) {v : V} {H H' : Hp} (e : Ex H H') : LstOf n R v H → LstOf n R v H' := fun ⟨p, xs, a, b, c, d⟩ => ⟨p, xs, a, e _ _ b, c, fun i x hx => hm i _ _ _ (.of e) (d i x hx)⟩
theorem TupOf.mono {n : Nat} {R : Nat → V → Hp → Prop} (hm : ∀ i, Mono (R i)) : Mono (TupOf n R) := fun v H H' e ⟨p, xs, a, b, c, d⟩ => ⟨p, xs, a, e _ _ b, c, fun i x hx => hm i _ _ _ e (d i x hx)⟩
theorem get_snoc {α : Type} {xs : List α} {y x : α} {i : Nat} (h : (xs ++ [y])[i]? = some x) : (xs[i]? = some x) ∨ (i = xs.length ∧ x = y) := by
  rw [List.getElem?_append] at h
  split at h
  · exact .inl h
  · rename_i hn
    have : i - xs.length = 0 := by
      cases q : i - xs.length with
      | zero => rfl
      | succ m => rw [q] at h; simp at h
    rw [this] at h
    exact .inr ⟨by omega, (Option.some.inj h).symm⟩
/-- [elt for _ in range(n)]: n known by a predicate -/
theorem evp_lcR {N : Nat} {te0 : TE} {j : Nat} {vs : List Nat} {R : Nat → V → Hp → Prop} (hN : N ≤ 40000) (hm : ∀ i, Mono (R i)) (h : EvP te0 σ H (fun v _ => ∃ n : Nat, v = .int (n : Int) ∧ n ≤ N)) (hw : ∀ x, wipe ((wipe σ vs).set j (some x)) vs = wipe σ vs)
    (he : ∀ (i : Nat) H1, Ex H H1 → i < N → EvP te ((wipe σ vs).set j (some (.int (i : Int)))) H1 (R i)) : EvP (tLc (iRng1 (tCons te0 tNil)) (gName j) tYes te vs) σ H (fun v H2 => ∃ n, n ≤ N ∧ LstOf n R v H2) := fun H0 e Q q =>
  h H0 e _ fun v H1 e1 ⟨n, ev, hn⟩ => by
    subst ev
    refine ⟨(n : Int), rfl, by omega, by omega, fun D hD => ?_⟩
    rw [Int.toNat_natCast]
    refine lc_range (lo := 0) (n := n) (fun i H' => H1 D = none ∧ Ex H1 H' ∧ ∃ acc, H' D = some (.lst acc) ∧ acc.length = i ∧ ∀ k x, acc[k]? = some x → R k x H') ⟨hD, Ex.new hD, [], upd_same, rfl, fun k x z => by simp at z⟩ (fun i H' hi p => ?_) fun H' p => ?_
    · obtain ⟨p1, p2, acc, p3, p4, p5⟩ := p
      refine ⟨hw _, ?_⟩
      rw [Int.zero_add]
      refine he i H' ((e.trans e1).trans p2) (by omega) H' (Ex.refl H') _ fun y H4 e4 r => ⟨acc, e4 _ _ p3, sz_lt (by omega), p1, Ex.mut (p2.trans e4) p1, acc ++ [y], upd_same, by simp [p4], fun k x hx => ?_⟩
      have tx : Tx H4 (upd H4 D (.lst (acc ++ [y]))) := Tx.lst (e4 _ _ p3)
      rcases get_snoc hx with z | ⟨z1, z2⟩
      · exact hm k _ _ _ ((Tx.of e4).trans tx) (p5 k x z)
      · rw [z1, p4, z2]
        exact hm _ _ _ _ tx r
    · obtain ⟨p1, p2, acc, p3, p4, p5⟩ := p
      exact q _ H' (e1.trans p2) ⟨n, hn, D, acc, rfl, p3, p4, p5⟩
/-- [elt for _ in range(n)]: n known -/
theorem evp_lcRn {N : Nat} {te0 : TE} {j : Nat} {vs : List Nat} {R : Nat → V → Hp → Prop} (hN : N ≤ 40000) (hm : ∀ i, Mono (R i)) (h : Ev te0 σ H (.int (N : Int))) (hw : ∀ x, wipe ((wipe σ vs).set j (some x)) vs = wipe σ vs)
    (he : ∀ (i : Nat) H1, Ex H H1 → i < N → EvP te ((wipe σ vs).set j (some (.int (i : Int)))) H1 (R i)) : EvP (tLc (iRng1 (tCons te0 tNil)) (gName j) tYes te vs) σ H (LstOf N R) := fun H0 e Q q =>
  h H0 e _ fun H1 e1 => by
    refine ⟨(N : Int), rfl, by omega, by omega, fun D hD => ?_⟩
    rw [Int.toNat_natCast]
    refine lc_range (lo := 0) (n := N) (fun i H' => H1 D = none ∧ Ex H1 H' ∧ ∃ acc, H' D = some (.lst acc) ∧ acc.length = i ∧ ∀ k x, acc[k]? = some x → R k x H') ⟨hD, Ex.new hD, [], upd_same, rfl, fun k x z => by simp at z⟩ (fun i H' hi p => ?_) fun H' p => ?_
    · obtain ⟨p1, p2, acc, p3, p4, p5⟩ := p
      refine ⟨hw _, ?_⟩
      rw [Int.zero_add]
      refine he i H' ((e.trans e1).trans p2) (by omega) H' (Ex.refl H') _ fun y H4 e4 r => ⟨acc, e4 _ _ p3, sz_lt (by omega), p1, Ex.mut (p2.trans e4) p1, acc ++ [y], upd_same, by simp [p4], fun k x hx => ?_⟩
      have tx : Tx H4 (upd H4 D (.lst (acc ++ [y]))) := Tx.lst (e4 _ _ p3)
      rcases get_snoc hx with z | ⟨z1, z2⟩
      · exact hm k _ _ _ ((Tx.of e4).trans tx) (p5 k x z)
      · rw [z1, p4, z2]
        exact hm _ _ _ _ tx r
    · obtain ⟨p1, p2, acc, p3, p4, p5⟩ := p
      exact q _ H' (e1.trans p2) ⟨D, acc, rfl, p3, p4, p5⟩
/-- [elt for x in a list] -/
theorem evp_lcL {N : Nat} {tl : TE} {j : Nat} {vs : List Nat} {S R : Nat → V → Hp → Prop} (hN : N ≤ 40000) (hs : ∀ i, Mono (S i)) (hm : ∀ i, Mono (R i)) (h : EvP tl σ H (fun v H2 => ∃ n, n ≤ N ∧ LstOf n S v H2)) (hw : ∀ x, wipe ((wipe σ vs).set j (some x)) vs = wipe σ vs)
    (he : ∀ (i : Nat) (x : V) H1, Ex H H1 → i < N → S i x H1 → EvP te ((wipe σ vs).set j (some x)) H1 (R i)) : EvP (tLc (iList K tl) (gName j) tYes te vs) σ H (fun v H2 => ∃ n, n ≤ N ∧ LstOf n R v H2) := fun H0 e Q q =>
  h H0 e _ fun v H1 e1 ⟨n, hn, a, xs, ev, ha, hl, hx⟩ => by
    subst ev
    refine ⟨a, rfl, ⟨xs, sq_of ha⟩, fun D hD => ?_⟩
    refine lc_list (xs := xs) (fun i H' => H1 D = none ∧ Ex H1 H' ∧ ∃ acc, H' D = some (.lst acc) ∧ acc.length = i ∧ ∀ k x, acc[k]? = some x → R k x H') ⟨hD, Ex.new hD, [], upd_same, rfl, fun k x z => by simp at z⟩ (fun i H' _ p => sq_of (p.2.1 _ _ ha)) (fun i x H' hi p => ?_) fun H' p => ?_
    · obtain ⟨p1, p2, acc, p3, p4, p5⟩ := p
      have lt : i < xs.length := (List.getElem?_eq_some_iff.mp hi).1
      refine ⟨hw _, ?_⟩
      refine he i x H' ((e.trans e1).trans p2) (by omega) (hs i _ _ _ (.of p2) (hx i x hi)) H' (Ex.refl H') _ fun y H4 e4 r => ⟨acc, e4 _ _ p3, sz_lt (by omega), p1, Ex.mut (p2.trans e4) p1, acc ++ [y], upd_same, by simp [p4], fun k x hx => ?_⟩
      have tx : Tx H4 (upd H4 D (.lst (acc ++ [y]))) := Tx.lst (e4 _ _ p3)
      rcases get_snoc hx with z | ⟨z1, z2⟩
      · exact hm k _ _ _ ((Tx.of e4).trans tx) (p5 k x z)
      · rw [z1, p4, z2]
        exact hm _ _ _ _ tx r
    · obtain ⟨p1, p2, acc, p3, p4, p5⟩ := p
      exact q _ H' (e1.trans p2) ⟨n, hn, D, acc, rfl, p3, p4.trans hl, p5⟩
/-- tuple(a list) -/
theorem evp_tup {N : Nat} {R : Nat → V → Hp → Prop} (hm : ∀ i, Mono (R i)) (h : EvP te σ H (fun v H2 => ∃ n, n ≤ N ∧ LstOf n R v H2)) : EvP (tThen te (kTup K)) σ H (fun v H2 => ∃ n, n ≤ N ∧ TupOf n R v H2) := fun H0 e Q q =>
  h H0 e _ fun v H1 e1 ⟨n, hn, a, xs, ev, ha, hl, hx⟩ => by
    subst ev
    exact .inl ⟨a, xs, rfl, sq_of ha, fun p hp => q _ _ (e1.trans (Ex.new hp)) ⟨n, hn, p, xs, rfl, upd_same, hl, fun i x z => hm i _ _ _ (.of (Ex.new hp)) (hx i x z)⟩⟩
theorem evp_tupn {N : Nat} {R : Nat → V → Hp → Prop} (hm : ∀ i, Mono (R i)) (h : EvP te σ H (LstOf N R)) : EvP (tThen te (kTup K)) σ H (TupOf N R) := fun H0 e Q q =>
  h H0 e _ fun v H1 e1 ⟨a, xs, ev, ha, hl, hx⟩ => by
    subst ev
    exact .inl ⟨a, xs, rfl, sq_of ha, fun p hp => q _ _ (e1.trans (Ex.new hp)) ⟨p, xs, rfl, upd_same, hl, fun i x z => hm i _ _ _ (.of (Ex.new hp)) (hx i x z)⟩⟩
end
end Mx
set_option Elab.async false
set_option linter.all false
set_option maxRecDepth 100000
set_option maxHeartbeats 2000000
/-! Comparisons of data that a Lean type tells. -/
namespace Mx
open PySem PySem.Spec PyProof.Rows L2
open PySem.W (Datum DatumOrd Tup)

def Dt {α : Type} [DecidableEq α] [Datum α] (K : PySem.W.Frag) (H : Hp) (v : V) (x : α) : Prop := Dp K H v (Datum.toD x)
section
variable {α β : Type} [DecidableEq α] [DecidableEq β] {X : Cx} {K : PySem.W.Frag} {H : Hp}
theorem Dt.holds [Datum α] {pins : List (Addr × Obj)} {σ : L2.St} {s : Shared} {v : V} {u : Value} {x : α} (I : Inv X pins σ H s) (h : Dt X.K H v x) (r : RelV v u) : PySem.W.Holds s.heap u x := Dp.reads I _ v u h r
theorem dt_int {i : Int} : Dt K H (.int i) i := Dp.int i
theorem dt_str {x : Str} : Dt K H (.str x) x := Dp.str x
theorem dpAll_map [Datum α] {f : α → V} : ∀ {xs : List α}, (∀ x ∈ xs, Dt K H (f x) x) → DpAll K H (xs.map f) (xs.map Datum.toD)
  | [], _ => .nil
  | x :: xs, h => .cons (h x (List.mem_cons_self ..)) (dpAll_map fun y hy => h y (List.mem_cons_of_mem _ hy))
theorem dpAll_pair [Datum α] : ∀ {vs : List V} {xs : List α}, Paired (fun v x => Dt K H v x) vs xs → DpAll K H vs (xs.map Datum.toD)
  | _, _, .nil => .nil
  | _, _, .cons h t => .cons h (dpAll_pair t)
theorem dt_tup [Datum α] {a : Addr} {vs : List V} {xs : List α} (h : SqT K H a vs) (hp : DpAll K H vs (xs.map Datum.toD)) : Dt K H (.ref a) (Tup.mk xs) := Dp.tup h hp
theorem dt_lst [Datum α] {a : Addr} {vs : List V} {xs : List α} (h : SqL K H a vs) (hp : DpAll K H vs (xs.map Datum.toD)) : Dt K H (.ref a) xs := Dp.lst h hp
theorem dt_pair [Datum α] [Datum β] {a : Addr} {v u : V} {x : α} {y : β} (h : SqT K H a [v, u]) (hx : Dt K H v x) (hy : Dt K H u y) : Dt K H (.ref a) (x, y) := Dp.tup h (.cons hx (.cons hy .nil))
theorem dt_ints {a : Addr} {ns : List Int} (h : SqT K H a (ns.map V.int)) : Dt K H (.ref a) (Tup.mk ns) := dt_tup h (dpAll_map fun _ _ => dt_int)
/-- two data compared, the answer a Bool of them -/
def rDt (α : Type) [DecidableEq α] [Datum α] (K : PySem.W.Frag) (f : α → α → Bool) : R2 := fun x y H Q => ∃ a b : α, Dt K H x a ∧ Dt K H y b ∧ Q (.bl (f a b)) H
theorem op_eqT [Datum α] (hu : X.A.units + Datum.depth α < cLine) : OpR X (compareOp .Eq) (rDt α X.K fun a b => decide (a = b)) := by
  intro pins s σ H x y v u Q I rx ry h
  obtain ⟨a, b, ha, hb, q⟩ := h
  exact PySem.W.eq_datum (ha.holds I rx) (hb.holds I ry) hu ⟨.bl _, H, I, rfl, q⟩
theorem op_neT [Datum α] (hu : X.A.units + Datum.depth α < cLine) : OpR X (compareOp .NotEq) (rDt α X.K fun a b => decide (a ≠ b)) := by
  intro pins s σ H x y v u Q I rx ry h
  obtain ⟨a, b, ha, hb, q⟩ := h
  exact PySem.W.ne_datum (ha.holds I rx) (hb.holds I ry) hu ⟨.bl _, H, I, rfl, q⟩
theorem op_ltD [DatumOrd α] (hu : X.A.units + Datum.depth α < cLine) : OpR X (compareOp .Lt) (rDt α X.K fun a b => DatumOrd.lt a b) := by
  intro pins s σ H x y v u Q I rx ry h
  obtain ⟨a, b, ha, hb, q⟩ := h
  exact PySem.W.lt_datum (ha.holds I rx) (hb.holds I ry) hu ⟨.bl _, H, I, rfl, q⟩
theorem op_gtD [DatumOrd α] (hu : X.A.units + Datum.depth α < cLine) : OpR X (compareOp .Gt) (rDt α X.K fun a b => DatumOrd.lt b a) := by
  intro pins s σ H x y v u Q I rx ry h
  obtain ⟨a, b, ha, hb, q⟩ := h
  exact PySem.W.gt_datum (ha.holds I rx) (hb.holds I ry) hu ⟨.bl _, H, I, rfl, q⟩
theorem op_leD [DatumOrd α] (hu : X.A.units + Datum.depth α < cLine) : OpR X (compareOp .LtE) (rDt α X.K fun a b => !DatumOrd.lt b a) := by
  intro pins s σ H x y v u Q I rx ry h
  obtain ⟨a, b, ha, hb, q⟩ := h
  exact PySem.W.le_datum (ha.holds I rx) (hb.holds I ry) hu ⟨.bl _, H, I, rfl, q⟩
theorem op_geD [DatumOrd α] (hu : X.A.units + Datum.depth α < cLine) : OpR X (compareOp .GtE) (rDt α X.K fun a b => !DatumOrd.lt a b) := by
  intro pins s σ H x y v u Q I rx ry h
  obtain ⟨a, b, ha, hb, q⟩ := h
  exact PySem.W.ge_datum (ha.holds I rx) (hb.holds I ry) hu ⟨.bl _, H, I, rfl, q⟩
end
/-- tuples of numbers -/
abbrev TI := Tup Int
theorem uT {k : Nat} {A : Around} (r : Room k A) : A.units + Datum.depth TI < cLine := Nat.lt_of_le_of_lt (Nat.add_le_add_left (by decide : 1 ≤ 64) _) r.units
end Mx
set_option Elab.async false
set_option linter.all false
set_option maxRecDepth 100000
set_option maxHeartbeats 2000000
/-! More of what evaluates: texts walked, calls by values. -/
namespace Mx
open PySem PySem.Spec PyProof.Rows L2 Evl TL
open PySem.W (Datum DatumOrd Tup)
section
variable {σ : L2.St} {H H' : Hp} {te ta tb te0 : TE} {v : V} {K : PySem.W.Frag}
/-- data stays while the heap grows -/
theorem sqT_ex {a : Addr} {xs : List V} (e : Ex H H') (h : SqT K H a xs) : SqT K H' a xs := ex_t e h
mutual
theorem dp_ex (e : Ex H H') : ∀ (d : PyData) (v : V), Dp K H v d → Dp K H' v d
  | .none, _, h => by cases h; exact .non
  | .bool b, _, h => by cases h; exact .bl b
  | .int i, _, h => by cases h; exact .int i
  | .str x, _, h => by cases h; exact .str x
  | .list ds, _, h => by
    cases h with
    | lst hs ha => exact .lst (ex_l e hs) (dpAll_ex e ds _ ha)
  | .tuple ds, _, h => by
    cases h with
    | tup hs ha => exact .tup (ex_t e hs) (dpAll_ex e ds _ ha)
  | .dict _, _, h => by cases h
theorem dpAll_ex (e : Ex H H') : ∀ (ds : List PyData) (vs : List V), DpAll K H vs ds → DpAll K H' vs ds
  | [], _, h => by cases h; exact .nil
  | d :: ds, _, h => by
    cases h with
    | cons h1 h2 => exact .cons (dp_ex e d _ h1) (dpAll_ex e ds _ h2)
end
theorem Dt.ex {α : Type} [DecidableEq α] [Datum α] {x : α} (e : Ex H H') (h : Dt K H v x) : Dt K H' v x := dp_ex e _ _ h
theorem dt_tup_inv {α : Type} [DecidableEq α] [Datum α] {xs : List α} (h : Dt K H v (Tup.mk xs)) : ∃ a vs, v = .ref a ∧ SqT K H a vs ∧ DpAll K H vs (xs.map Datum.toD) := by
  have h' : Dp K H v (.tuple (xs.map Datum.toD)) := h
  cases h' with
  | tup hs ha => exact ⟨_, _, rfl, hs, ha⟩
theorem dpAll_int : ∀ {ns : List Int} {vs : List V}, DpAll K H vs (ns.map (Datum.toD (α := Int))) → vs = ns.map V.int
  | [], _, h => by cases h; rfl
  | n :: ns, _, h => by
    cases h with
    | cons h1 h2 =>
      have e : Dp K H _ (.int n) := h1
      cases e
      rw [dpAll_int h2]
      rfl
theorem dt_ti {ns : List Int} (h : Dt K H v (Tup.mk ns : TI)) : ∃ a, v = .ref a ∧ SqT K H a (ns.map V.int) := by
  obtain ⟨a, vs, e, hs, ha⟩ := dt_tup_inv h
  rw [dpAll_int ha] at hs
  exact ⟨a, e, hs⟩
theorem dpAll_at {α : Type} [DecidableEq α] [Datum α] : ∀ {xs : List α} {vs : List V}, DpAll K H vs (xs.map Datum.toD) → vs.length = xs.length ∧ ∀ (i : Nat) (v : V), vs[i]? = some v → ∃ x, xs[i]? = some x ∧ Dt K H v x
  | [], _, h => by
    cases h
    exact ⟨rfl, fun i v e => by simp at e⟩
  | x :: xs, _, h => by
    cases h with
    | cons h1 h2 =>
      obtain ⟨l, f⟩ := dpAll_at h2
      refine ⟨by simp [l], fun i v e => ?_⟩
      cases i with
      | zero =>
        rw [List.getElem?_cons_zero] at e
        cases e
        exact ⟨x, rfl, h1⟩
      | succ i =>
        rw [List.getElem?_cons_succ] at e
        exact f i v e
theorem dt_pair_inv {α β : Type} [DecidableEq α] [Datum α] [DecidableEq β] [Datum β] {x : α} {y : β} (h : Dt K H v (x, y)) : ∃ a u z, v = .ref a ∧ SqT K H a [u, z] ∧ Dt K H u x ∧ Dt K H z y := by
  have h' : Dp K H v (.tuple [Datum.toD x, Datum.toD y]) := h
  cases h' with
  | tup hs ha =>
    cases ha with
    | cons h1 h2 =>
      cases h2 with
      | cons h3 h4 =>
        cases h4
        exact ⟨_, _, _, rfl, hs, h1, h3⟩
theorem dt_str_inv {x : Str} (h : Dt K H v x) : v = .str x := by
  have h' : Dp K H v (.str x) := h
  cases h'
  rfl
/-- [elt for c in a text] -/
theorem el_lcS {x : Str} {j : Nat} {vs : List Nat} (g : Nat → V) (h : Ev te0 σ H (.str x)) (hz : (tl x).length ≤ 40000) (hw : ∀ x, wipe ((wipe σ vs).set j (some x)) vs = wipe σ vs)
    (he : ∀ (c : Nat) H1, Ex H H1 → c ∈ tl x → Ev te ((wipe σ vs).set j (some (.str ⟨#[c]⟩))) H1 (g c)) : EvL (tLc (iStr te0) (gName j) tYes te vs) σ H ((tl x).map g) := fun H0 e Q q =>
  h H0 e _ fun H1 e1 => ⟨x, rfl, fun D hD => by
    refine lc_it walk_str (fun i H' => H1 D = none ∧ Ex H1 H' ∧ H' D = some (.lst (((tl x).take i).map g))) ⟨hD, Ex.new hD, upd_same⟩ (fun _ _ _ _ => trivial) (fun i y H' H2 hi p ⟨e2, c, hc, ey⟩ => ?_) fun H' p => ?_
    · subst e2
      subst ey
      obtain ⟨p1, p2, p3⟩ := p
      have hc' : (tl x)[i]? = some c := by rw [Array.getElem?_toList]; exact hc
      have lt : i < (tl x).length := (List.getElem?_eq_some_iff.mp hc').1
      refine ⟨hw _, ?_⟩
      refine he c H2 ((e.trans e1).trans p2) (List.mem_of_getElem? hc') H2 (Ex.refl H2) _ fun H4 e4 => ⟨_, e4 _ _ p3, sz_lt (by rw [List.length_map, List.length_take]; omega), p1, Ex.mut (p2.trans e4) p1, ?_⟩
      rw [upd_same, List.take_succ, hc']
      simp
    · obtain ⟨p1, p2, p3⟩ := p
      rw [show x.cps.size = (tl x).length from by simp [tl], List.take_length] at p3
      exact q D H' (fresh_back e1 p1) (e1.trans p2) p3⟩
/-- [elt for x in a tuple] -/
theorem el_lcT {a : Addr} {xs : List V} {j : Nat} {vs : List Nat} {tt0 : TE} (g : Nat → V) (h : Ev tt0 σ H (.ref a)) (hx : SqT K H a xs) (hz : xs.length ≤ 40000) (hw : ∀ x, wipe ((wipe σ vs).set j (some x)) vs = wipe σ vs)
    (he : ∀ (i : Nat) (x : V) H1, Ex H H1 → xs[i]? = some x → Ev te ((wipe σ vs).set j (some x)) H1 (g i)) : EvL (tLc (iTup K tt0) (gName j) tYes te vs) σ H ((List.range xs.length).map g) := fun H0 e Q q =>
  h H0 e _ fun H1 e1 => ⟨a, rfl, ⟨xs, ex_t (e.trans e1) hx⟩, fun D hD => by
    refine lc_tup (xs := xs) (fun i H' => H1 D = none ∧ Ex H1 H' ∧ H' D = some (.lst ((List.range i).map g))) ⟨hD, Ex.new hD, upd_same⟩ (fun i H' _ p => ex_t ((e.trans e1).trans p.2.1) hx) (fun i y H' hi p => ?_) fun H' p => ?_
    · obtain ⟨p1, p2, p3⟩ := p
      have lt : i < xs.length := (List.getElem?_eq_some_iff.mp hi).1
      refine ⟨hw _, ?_⟩
      refine he i y H' ((e.trans e1).trans p2) hi H' (Ex.refl H') _ fun H4 e4 => ⟨_, e4 _ _ p3, sz_lt (by rw [List.length_map, List.length_range]; omega), p1, Ex.mut (p2.trans e4) p1, ?_⟩
      rw [upd_same, List.range_succ, List.map_append]
      rfl
    · obtain ⟨p1, p2, p3⟩ := p
      exact q D H' (fresh_back e1 p1) (e1.trans p2) p3⟩
theorem range_map {α : Type} (f : α → V) (d : α) : ∀ l : List α, (List.range l.length).map (fun i => f (l.getD i d)) = l.map f := fun l => by
  refine List.ext_getElem (by simp) fun i h1 h2 => ?_
  have hi : i < l.length := by simpa using h2
  simp [List.getElem?_eq_getElem hi]
theorem ev_lenS {x : Str} (h : Ev te σ H (.str x)) (hx : x.length ≤ 100000) : Ev (tCB (fun xs H Q => ∃ z, xs = [.str z] ∧ z.length ≤ sizeLine ∧ Q (.int z.length) H) (tCons te tNil)) σ H (.int (x.length : Nat)) := fun H1 e Q q =>
  h H1 e _ fun H2 e2 => ⟨x, rfl, sz_of hx, q H2 e2⟩
theorem ev_all {bs : List Bool} (h : EvL te σ H (bs.map V.bl)) : Ev (tCB (rAll K) (tCons te tNil)) σ H (.bl (bs.all id)) := fun H1 e Q q =>
  h H1 e _ fun p H2 _ e2 h2 => ⟨p, bs, rfl, sq_of h2, q H2 e2⟩
theorem rv_inS {c : Nat} {z : Str} : RV (fun x y H Q => ∃ (c : Nat) (z : Str), x = .str ⟨#[c]⟩ ∧ y = .str z ∧ Q (.bl (decide (c ∈ z.cps.toList))) H) (.str ⟨#[c]⟩) (.str z) H (.bl (decide (c ∈ tl z))) := fun H1 _ Q q => ⟨c, z, rfl, rfl, q H1 (Ex.refl H1)⟩
theorem str_eq (x y : Str) : decide (V.str x = V.str y) = decide (x = y) := by
  by_cases z : x = y
  · rw [z]
    simp
  · rw [decide_eq_false z, decide_eq_false (fun h => z (V.str.inj h))]
end
end Mx
set_option Elab.async false
set_option linter.all false
set_option maxRecDepth 100000
set_option maxHeartbeats 2000000
/-! An own exception's __init__ that says super().__init__(a text) and stores its fields: as a def that keeps a promise. -/
namespace Mx
open PySem PySem.Spec PyProof.Rows L2

/-- the frame's environment of a method that knows its class by a cell -/
abbrev senv (qual : Str) (scope : Scope) (L f : Addr) (cd : Value) (cc : Addr) : Env := PySem.W.ksEnv qual scope L f cd cc
abbrev cxS (CX : CXT) (P : Program) (w : World) (K : PySem.W.Frag) (mg : Str → Option Value) (base : Heap) (N : List Str) (qual : Str) (scope : Scope) (f : Addr) (cd : Value) (cc : Addr) (A : Around) (outer : List Env) (s : Shared) (H : Hp) (E : XK) : Cx where
  prog := P
  w := w
  K := K
  mg := mg
  base := base
  A := A.deeper (senv qual scope s.heap.objs.size f cd cc)
  N := N
  s_0 := s
  H_0 := H
  env := senv qual scope s.heap.objs.size f cd cc
  outer := outer
  stack := senv qual scope s.heap.objs.size f cd cc :: outer
  ex := []
  fn := fun _ => false
  calm := true
  pn := []
  xe := fun e s' => wpAny (model P w) (A.deeper (senv qual scope s.heap.objs.size f cd cc)) (leaving (senv qual scope s.heap.objs.size f cd cc) e) (fun _ s'' => CX outer H s E e s'') (fun e' s'' => CX outer H s E e' s'') s'

structure SScope (ps : List Str) (scope : Scope) : Prop where
  kind : scope.kind = .function
  co : scope.isCoroutine = false
  gen : scope.isGenerator = false
  nd : ps.Nodup
  par : ∀ p ∈ ps, scope.names.lookup p = some .local
  nocell : ∀ x ∈ scope.names, x.2 ≠ NameKind.cell
  free : ∀ x, scope.names.lookup x = some .free → x = ("__class__" : Str)
  fre : scope.names.lookup ("__class__" : Str) = some .free
  sup : scope.names.lookup ("super" : Str) = some .globalImplicit

theorem lookup_append {α : Type} (x : Str) : ∀ (l r : List (Str × α)), (l ++ r).lookup x = (l.lookup x).or (r.lookup x)
  | [], r => rfl
  | (y, v) :: l, r => by
    show List.lookup x ((y, v) :: (l ++ r)) = _
    rw [List.lookup_cons, List.lookup_cons]
    cases x == y with
    | true => rfl
    | false => exact lookup_append x l r
theorem zip_lookup {α : Type} : ∀ {ps : List Str} {us : List α} {i : Nat} {x : Str} {u : α}, ps.Nodup → ps[i]? = some x → us[i]? = some u → (ps.zip us).reverse.lookup x = some u
  | [], _, _, _, _, _, h, _ => by simp at h
  | _ :: _, [], _, _, _, _, _, h => by simp at h
  | p :: ps, v :: us, 0, x, u, nd, h1, h2 => by
    have e1 : p = x := by simpa using h1
    have e2 : v = u := by simpa using h2
    subst e1; subst e2
    rw [List.zip_cons_cons, List.reverse_cons, lookup_append]
    have hn : (ps.zip us).reverse.lookup p = none := by
      cases q : (ps.zip us).reverse.lookup p with
      | none => rfl
      | some z =>
        have m := PySem.mem_of_lookup q
        rw [List.mem_reverse] at m
        exact absurd (List.of_mem_zip m).1 (List.nodup_cons.mp nd).1
    rw [hn]
    simp
  | p :: ps, v :: us, i + 1, x, u, nd, h1, h2 => by
    rw [List.zip_cons_cons, List.reverse_cons, lookup_append, zip_lookup (List.nodup_cons.mp nd).2 (by simpa using h1) (by simpa using h2)]
    rfl

theorem inv_s {CX : CXT} {P : Program} {w : World} {K : PySem.W.Frag} {mg : Str → Option Value} {base : Heap} {ps : List Str} {qual : Str} {scope : Scope} {f cc : Addr} {cd : Value} {A : Around} {outer : List Env} {s : Shared} {h0 : Heap} {tk : Nat} {H : Hp} {E : XK} {us : List Value} {vs : List V} {oc : Obj} {vc : Option Value}
    (S : SScope ps scope) (hd : A.handled = none) (e0 : Env0 P w K mg base A outer s H) (hl : vs.length = ps.length) (r : Vals vs us) (hcc : K.lookup cc = some oc) (hcd : oc.data = .cell vc)
    (hn : h0.Ns s.heap.objs.size (fun x => (ps.zip us).reverse.lookup x)) (hk : ∀ b o, s.heap.get? b = some o → h0.get? b = some o) :
    Inv (cxS CX P w K mg base ps qual scope f cd cc A outer s H E) [] (L2.start ps vs) H { s with heap := h0, toks := tk } := by
  have noA : ∀ b : Addr, b ∉ (cxS CX P w K mg base ps qual scope f cd cc A outer s H E).ex := fun b z => absurd (show b ∈ ([] : List Addr) from z) (by simp)
  have cl : ∀ x c, (senv qual scope s.heap.objs.size f cd cc).cells.lookup x = some c → x = "__class__" ∧ c = cc := fun x c h => by
    have h' : List.lookup x [(("__class__" : Str), cc)] = some c := h
    rw [List.lookup_cons] at h'
    cases q : x == ("__class__" : Str) with
    | true =>
      rw [q] at h'
      exact ⟨beq_iff_eq.mp q, (Option.some.inj h').symm⟩
    | false =>
      rw [q] at h'
      cases h'
  have hb := e0.bs cc oc (e0.mod.kin _ _ hcc)
  refine ⟨⟨e0.mod, S.kind, rfl, rfl, Nat.le_refl _, fun y z c h1 h2 => (cl _ _ h1).1.trans (cl _ _ h2).1.symm, fun y hy => ?_, fun y c h _ => Bool.noConfusion h, fun _ => hd, Around.frames_deeper e0.frames, .inr ⟨rfl, rfl⟩, fun b z => absurd z (noA b), e0.bs, e0.bsz, fun b _ _ => noA b, fun b z => absurd z (noA b), e0.funs, e0.frf⟩,
    rfl, e0.bare, Un.kept hk, ⟨_, hn, fun i y v h1 h2 h3 => ?_⟩, fun y c h => ?_, e0.hok.fresh (Nat.le_refl _), fun y c h => ?_, fun p hp => absurd (show p ∈ ([] : List (Addr × Obj)) from hp) (by simp), e0.hok.kept hk, ?_⟩
  · have hy : scope.names.lookup y = some .cell ∨ scope.names.lookup y = some .free := hy
    rcases hy with hy | hy
    · exact absurd rfl (S.nocell _ (PySem.mem_of_lookup hy))
    · refine ⟨cc, ?_⟩
      rw [S.free y hy]
      show List.lookup _ [(("__class__" : Str), cc)] = some cc
      rw [List.lookup_cons, beq_self_eq_true]
  · have e : L2.start ps vs = vs.map some := by
      unfold L2.start
      rw [hl, Nat.sub_self]
      simp
    rw [e, List.getElem?_map] at h2
    cases q : vs[i]? with
    | none => rw [q] at h2; cases h2
    | some a =>
      rw [q] at h2
      cases h2
      obtain ⟨u, hu, rv⟩ := r.get q
      exact ⟨u, rv, .inl ⟨S.par y (List.mem_of_getElem? h1), zip_lookup S.nd h1 hu⟩⟩
  · obtain ⟨_, rfl⟩ := cl y c h
    exact ⟨vc, oc, hk _ _ hb.1, hcd⟩
  · obtain ⟨_, rfl⟩ := cl y c h
    exact hb.2
  · unfold L2.start
    show _ = ps.length
    rw [List.length_append, List.length_map, List.length_replicate]
    omega

/-- what the written part says of such a class and its __init__ -/
structure SupTxt (P : Program) (K : PySem.W.Frag) (mg : Str → Option Value) (C fI cc cda : Addr) (qual : Str) (ps : List Str) (st : Stmt) : Prop where
  T : OexC K C
  fn : ∃ (oc : Value) (od : Option Addr) (kV doc pm : Value) (an : Option Addr) (ct : Value) (osl : Array (Option Value)),
    K.lookup fI = some ⟨oc, od, .func (PySem.W.ksFn "__init__" qual (defArgs st) (defBody st) (defScope st) .none kV doc pm an (.ref cda) ct cc), osl⟩
  code : PySem.W.codeIn K (.ref cda) qual = true
  S : SScope ps (defScope st)
  hp : ∃ ar, ((defArgs st).posonlyargs ++ (defArgs st).args).head? = some ar ∧ ps[0]? = some ar.arg
  co : ∃ (c : Value) (dd : Option Addr) (vs : Array Value) (sl : Array (Option Value)) (file : Str) (tf : Tok), K.lookup cda = some ⟨c, dd, .fields vs, sl⟩ ∧ vs[2]? = some (.str file tf) ∧ ((P.main.file : Str) == file) = true
  cell : ∃ (cl : Value) (cld : Option Addr) (csl : Array (Option Value)), K.lookup cc = some ⟨cl, cld, .cell (some (.ref C)), csl⟩
  sub : PySem.W.mroIn K C (.ref C) = some true
  subV : PySem.W.subIn K (.ref C) (.type "ValueError") = some true
  sup : mg "super" = none
  along : PySem.W.ks_superIn K C C "__init__" = some (some (.builtin "ValueError.__init__"))
  opq : PySem.W.nsIn K cStatics "thirdparty.any" = some none
  top : (P.main.scope.names.lookup ("super" : Str)).isSome = false

section
variable {P : Program} {w : World} {K : PySem.W.Frag} {mg : Str → Option Value} {base : Heap} {C fI cc cda : Addr} {qual : Str} {ps : List Str} {st : Stmt}
/-- THE RULE: such an __init__ by what follows its first row -/
theorem fn_sup {CX : CXT} {k : Nat} {sp : Sp} {x : Str} {j : Nat} {p0 p1 p2 p3 p4 p5 : Pos} {rest : List Stmt} {fd : FuncData} (W : SupTxt P K mg C fI cc cda qual ps st) (hfd : ∃ oc od osl, K.lookup fI = some ⟨oc, od, .func fd, osl⟩)
    (hb : defBody st = .Expr (.Call (.Attribute (.Call (.Name "super" p0) [] [] p1) "__init__" p2) [.Constant (.str x) j p3] [] p4) p5 :: rest)
    (hev : ∀ env : Env, ∃ pl : Sem Bool, eval (.Call (.Attribute (.Call (.Name "super" p0) [] [] p1) "__init__" p2) [.Constant (.str x) j p3] [] p4) env = (do
      let ov ← attributeBase (.Call (.Name "super" p0) [] [] p1) "__init__" env (eval (.Call (.Name "super" p0) [] [] p1) env)
      standAt p2.atName
      let (f, first) ← holding [ov] (getMethod ov "__init__" pl)
      callWith p4 f first (backTo p4 (starEach [.Constant (.str x) j p3] env)) []))
    (len : ∀ vs H Q E, sp vs H Q E → vs.length = ps.length) (self : ∀ vs H Q E, sp vs H Q E → ∃ a, vs[0]? = some (.ref a) ∧ H a = some (exo a C none))
    (hbody : ∀ (A : Around) (outer : List Env) (s : Shared) (H : Hp) (vs : List V) (Q : VK) (E : XK), sp vs H Q E →
      ∃ t, PSs (cxS CX P w K mg base ps qual (defScope st) fI (.ref cda) cc A outer s H E) rest t ∧ t { nx := fun _ H' => Q .non H', rt := Q } (L2.start ps vs) H) :
    FnOk P w K mg base CX (k + 1) fI fd ps sp := by
  obtain ⟨oc, od, kV, doc, pm, an, ct, osl, lk⟩ := W.fn
  obtain ⟨oc', od', osl', lk'⟩ := hfd
  rw [lk] at lk'
  cases lk'
  obtain ⟨cl, cld, csl, hcell⟩ := W.cell
  refine ⟨len, fun A outer s H args us vs Q E hr e0 hbn r hsp => ?_⟩
  have hl := len _ _ _ _ hsp
  have KX : K.In s.heap := e0.mod.kin.keeps fun b o e => (e0.bs b o e).1
  have lim : s.heap.NoLimit := e0.mod.nolimit.keeps fun b o e => (e0.bs b o e).1
  refine PySem.ks_codeAny_call_defAt hr.depth (KX _ _ lk) rfl lim (PySem.W.codeRec_of KX W.code) rfl hbn W.S.nocell (fun y hy => W.S.par _ (List.of_mem_zip hy).1) (fun h0 hn hk => ?_) W.S.co W.S.gen W.S.kind
  have I0 : Inv (cxS CX P w K mg base ps qual (defScope st) fI (.ref cda) cc A outer s H E) [] (L2.start ps vs) H { s with heap := h0, toks := s.toks + (ps.zip us).length } := inv_s W.S hr.hd e0 hl r hcell rfl hn hk
  obtain ⟨t, ht, hq⟩ := hbody A outer s H vs Q E hsp
  obtain ⟨a, ha, hea⟩ := self _ _ _ _ hsp
  obtain ⟨ar, har, hps⟩ := W.hp
  obtain ⟨c1, dd1, vs1, sl1, file, tf, hcode, hvs, hfile⟩ := W.co
  have X0 : K.In h0 := KX.keeps hk
  have hself : (ps.zip us).reverse.lookup ar.arg = some (.ref a) := by
    obtain ⟨u, hu, rv⟩ := r.get ha
    have e : u = .ref a := rv
    rw [← e]
    exact zip_lookup W.S.nd hps hu
  obtain ⟨nm, q, N, bs, bm, sn, sub, ab, col, dd, k0, k1, k2, k3, k5, hC, hbm⟩ := W.T.cls
  obtain ⟨t1, ho⟩ := exo_at I0.hok hea
  have hC0 : h0.get? C = _ := X0 _ _ hC
  have hcl : PySem.W.clsIn K C = some { name := nm, bases := bs, mro := .ref C :: bm, ns := N, qualname := q, hasDict := true, slotNames := sn, subclasses := sub, abstract := ab, collection := col, hasDel := false } := by unfold PySem.W.clsIn; rw [hC] <;> rfl
  have hne : a ≠ C := PySem.W.ks_ne X0 (show PySem.W.InstAt h0 a _ C none from ⟨ho, rfl, rfl, trivial⟩) hcl
  have hint : interactive (senv qual (defScope st) s.heap.objs.size fI (.ref cda) cc) = false := by
    show (_ && _) = false
    simp [interactive, W.S.kind]
  obtain ⟨pl, hpl⟩ := hev (senv qual (defScope st) s.heap.objs.size fI (.ref cda) cc)
  show PySem.wpAt _ _ (.func (defBody st) _) (execs (defBody st) (senv qual (defScope st) s.heap.objs.size fI (.ref cda) cc)) _ _ _
  rw [hb]
  refine PySem.ks_wpAt_execs_cons (PySem.ks_wpAt_Expr_any (PySem.ks_wpAt_MethodCall
    (PySem.ks_wpAt_super_base W.S.sup W.S.fre (by decide +kernel) rfl (X0 _ _ lk) rfl har rfl (X0 _ _ hcode) rfl hvs hfile W.top ?_) hpl) hint (by rfl))
  all_goals clear hpl
  refine PySem.W.ks_loadName_global W.S.kind W.S.sup ?_
  obtain ⟨mb, hm1, hm2⟩ := e0.mod.blt
  have kb : ∀ b o, base.get? b = some o → h0.get? b = some o := fun b o e => hk b o (e0.bs b o e).1
  refine Calls.loadGlobal_builtin (env := senv qual (defScope st) s.heap.objs.size fI (.ref cda) cc) (e0.mod.glob.keeps kb) W.sup (hm1.keeps kb) ((hm2 "super" (by decide +kernel)).trans (by decide +kernel)) ⟨rfl, ?_⟩
  refine wpAny_loadName_free W.S.kind W.S.fre rfl ⟨_, X0 _ _ hcell, rfl⟩ ?_
  refine wpAny_loadName_local W.S.kind (W.S.par _ (List.mem_of_getElem? hps)) hn hself ?_
  refine PySem.ks_wpAny_isType_cls hC0 rfl ⟨rfl, ?_⟩
  refine PySem.ks_wpAny_call_super hC0 rfl ho rfl (fun c e => by cases e) (PySem.W.looks_mroIn X0 W.sub) (fun h1 e1 kk1 => ?_)
  have X1 : K.In h1 := X0.keeps kk1
  have ho1 := kk1 _ _ ho
  have hC1 := kk1 _ _ hC0
  have hal : PySem.W.alongIn K "__init__" (((Value.ref C :: bm).dropWhile (· != .ref C)).drop 1) = some (some (.builtin "ValueError.__init__")) := by
    have z := W.along
    unfold PySem.W.ks_superIn at z
    rw [hcl] at z
    exact z
  have IA : PySem.W.InstAt h1 a _ C none := ⟨ho1, rfl, rfl, trivial⟩
  refine PySem.W.kxs_getMethod PySem.W.kxs_ValueError e1 (PySem.W.looks_opaque X1 W.opq) (l₀ := Value.ref C :: bm) (fun A Q E s k q => wpAny_bind ((PySem.W.looks_clsIn X1 hcl) A _ E s k (wpAny_pure q))) rfl X1 hal (IA.type.andThen (PySem.W.looks_subIn X1 W.subV)) hne (by decide +kernel) ?_
  have kk2 : ∀ b o, h0.get? b = some o → (h1.push (PySem.W.kxs_mw "ValueError.__init__" a)).get? b = some o := fun b o e => Heap.get?_push_of_some _ (kk1 b o e)
  have I2 : Inv (cxS CX P w K mg base ps qual (defScope st) fI (.ref cda) cc A outer s H E) [] (L2.start ps vs) H { heap := h1.push (PySem.W.kxs_mw "ValueError.__init__" a), gens := s.gens, drawn := s.drawn, toks := s.toks + (ps.zip us).length + 1, os := s.os } := I0.kept (t' := s.toks + (ps.zip us).length + 1) kk2
  have hu2 : (h1.push (PySem.W.kxs_mw "ValueError.__init__" a)).get? h1.objs.size = some (PySem.W.kxs_mw "ValueError.__init__" a) := Heap.get?_push_at rfl rfl
  refine PySem.W.kxs_callWith (i := "ValueError.__init__") (x := a) (by rfl) (Calls.evalArgs_plain ?_)
  show wpAny _ _ (spliced ((false, eval (.Constant (.str x) j p3) (senv qual (defScope st) s.heap.objs.size fI (.ref cda) cc)) :: [])) _ _ _
  refine Calls.spliced_cons (Calls.Constant_str (k := j) (pos := p3) (Calls.spliced_nil ⟨hu2, ?_⟩))
  have I3 := I2.tok (s.toks + (ps.zip us).length + 1 + 1)
  have hC2 : (h1.push (PySem.W.kxs_mw "ValueError.__init__" a)).get? C = _ := Heap.get?_push_of_some _ hC1
  have ho2 : (h1.push (PySem.W.kxs_mw "ValueError.__init__" a)).get? a = _ := Heap.get?_push_of_some _ ho1
  refine wpAny_call (codeAny_of_tree ?_)
  show wpAny _ (Around.in1 _) (callAny (.ref h1.objs.size) ⟨_, []⟩) _ _ _
  simp only [callAny]
  refine wpAny_bind (wpAny_load hu2 ?_)
  simp only [PySem.W.kxs_mw, show (Value.type "method-wrapper" == Value.type "method" || Value.type "method-wrapper" == Value.type "builtin_function_or_method" || Value.type "method-wrapper" == Value.type "method-wrapper") = true by decide, if_true]
  refine PySem.W.KFB.if_so (by decide) ?_
  refine wpAny_bind (PySem.W.check_bound_init F.excBase_ValueError.toExcCallFacts hC2 ho2 rfl ?_)
  refine wpAny_bind (wpAny_pure (wpAny_pure ?_))
  refine ⟨PySem.plainId_quiet F.excBase_ValueError.init.plain _, codeAny_builtin F.excBase_ValueError.initEntry ?_⟩
  refine PySem.W.exc_init_tree (cls := .ref C) (t0 := t1) (dv := none) (c2 := .none) (c3 := .none) (b4 := .bool false) ho2 (by rw [sizeLine_eq]; exact (by decide : 1 ≤ 16777216)) (fun h3 k3 e3 _ => ?_)
  have J := I2.write (h' := h3) (t' := s.toks + (ps.zip us).length + 1 + 1) (x := a) (e := a) (o := exo a C none) (by rw [hea]; exact True.intro) (.inl rfl) k3 ⟨_, e3⟩ (exo_ok e3)
  have eu : upd H a (exo a C none) = H := by
    funext b
    by_cases hb : b = a
    · rw [hb, upd_same, hea]
    · rw [upd_ne hb]
  rw [eu] at J
  refine PySem.wpAt_of_wpAny (wpAny_mono (ht.run [] _ (L2.start ps vs) H _ J hq) (fun fl s' hs => ?_) fun e s' hs => hs)
  have fin : ∀ {σ' : L2.St} {H' : Hp} {v : V} {u : Value}, Inv (cxS CX P w K mg base ps qual (defScope st) fI (.ref cda) cc A outer s H E) [] σ' H' s' → RelV v u → Q v H' → CE outer P w H s Q u s' :=
    fun {σ' H' v u} J rv q => ⟨v, H', J.os, J.bare, J.base, J.hok, rv, q⟩
  cases fl with
  | ret u =>
    obtain ⟨v, σ', H', J, rv, q⟩ := hs
    exact fin J rv q
  | next =>
    obtain ⟨σ', H', J, q⟩ := hs
    exact fin (v := V.non) (u := Value.none) J rfl q
  | brk =>
    obtain ⟨_, _, _, q⟩ := hs
    exact False.elim q
  | cont =>
    obtain ⟨_, _, _, q⟩ := hs
    exact False.elim q

/-! ### two fields -/
/-- what an error with two fields holds, the last stored first -/
def two (f1 f2 : Str) (v1 v2 : V) : List (Str × V) := [(f2, v2), (f1, v1)]
def spTwo (C : Addr) (f1 f2 : Str) : Sp := fun vs H Q _ => ∃ (a : Addr) (v1 v2 : V), vs = [.ref a, v1, v2] ∧ H a = some (exo a C none) ∧
  ∀ dx, H dx = none → dx ≠ a → Q .non (upd (upd (upd H dx (exd dx [(f1, v1)])) a (exo a C (some dx))) dx (exd dx (two f1 f2 v1 v2)))
theorem ok_two {k : Nat} {s1 f1 f2 x : Str} {j : Nat} {p0 p1 p2 p3 p4 p5 q1 q2 q3 q4 q5 q6 q7 q8 : Pos} {fd : FuncData} (W : SupTxt P K mg C fI cc cda qual [s1, f1, f2] st) (hfd : ∃ oc od osl, K.lookup fI = some ⟨oc, od, .func fd, osl⟩)
    (hb : defBody st = [.Expr (.Call (.Attribute (.Call (.Name "super" p0) [] [] p1) "__init__" p2) [.Constant (.str x) j p3] [] p4) p5,
      .Assign [.Attribute (.Name s1 q1) f1 q2] (.Name f1 q3) q4, .Assign [.Attribute (.Name s1 q5) f2 q6] (.Name f2 q7) q8])
    (hev : ∀ env : Env, ∃ pl : Sem Bool, eval (.Call (.Attribute (.Call (.Name "super" p0) [] [] p1) "__init__" p2) [.Constant (.str x) j p3] [] p4) env = (do
      let ov ← attributeBase (.Call (.Name "super" p0) [] [] p1) "__init__" env (eval (.Call (.Name "super" p0) [] [] p1) env)
      standAt p2.atName
      let (f, first) ← holding [ov] (getMethod ov "__init__" pl)
      callWith p4 f first (backTo p4 (starEach [.Constant (.str x) j p3] env)) []))
    (n1 : PySem.W.findIn K (.ref C) f1 = some none) (n2 : PySem.W.findIn K (.ref C) f2 = some none)
    (d0 : (s1 == ("__debug__" : Str)) = false := by decide) (c0 : (s1 == ("__classdict__" : Str)) = false := by decide) (d1 : (f1 == ("__debug__" : Str)) = false := by decide) (c1 : (f1 == ("__classdict__" : Str)) = false := by decide) (d2 : (f2 == ("__debug__" : Str)) = false := by decide) (c2 : (f2 == ("__classdict__" : Str)) = false := by decide) :
    FnOk P w K mg base CX0 (k + 1) fI fd [s1, f1, f2] (spTwo C f1 f2) := by
  refine fn_sup W hfd hb hev (fun vs H Q E h => ?_) (fun vs H Q E h => ?_) (fun A outer s H vs Q E h => ?_)
  · obtain ⟨a, v1, v2, rfl, _⟩ := h
    rfl
  · obtain ⟨a, v1, v2, rfl, ha, _⟩ := h
    exact ⟨a, rfl, ha⟩
  · obtain ⟨a, v1, v2, rfl, ha, kk⟩ := h
    have v0 : Vis (defScope st) s1 := .inl (W.S.par _ (by simp))
    have w1 : Vis (defScope st) f1 := .inl (W.S.par _ (by simp))
    have w2 : Vis (defScope st) f2 := .inl (W.S.par _ (by simp))
    refine ⟨_, pss_cons (ps_ost (pe_var (i := 0) rfl v0 d0 c0) (pe_var (i := 1) rfl w1 d1 c1) (by rfl)) (pss_one (ps_ost (pe_var (i := 0) rfl v0 d0 c0) (pe_var (i := 2) rfl w2 d2 c2) (by rfl))), ?_⟩
    refine ⟨_, rfl, _, rfl, a, C, rfl, W.T, n1, .inl ⟨ha, fun dx hn hd => ?_⟩⟩
    refine ⟨_, rfl, _, rfl, a, C, rfl, W.T, n2, .inr ⟨dx, _, upd_same, by rw [upd_ne hd, upd_same], (by show 1 ≤ 900; decide), ?_⟩⟩
    exact kk dx hn hd
/-- the end of raise C(e1, e2) -/
theorem mk2 {C : Addr} {f1 f2 : Str} {v1 v2 : V} {H1 : Hp} {Q : XK} (h : ∀ d, H1 d = none → Q (.ref C) (some d) (upd H1 d (.xd (two f1 f2 v1 v2)))) :
    ([v1, v2] : List V).length ≤ 1000 ∧ ∀ a, H1 a = none → spTwo C f1 f2 (.ref a :: ([v1, v2] ++ [])) (upd H1 a (exo a C none))
      (fun v H2 => v = .non ∧ ∃ (d : Addr) (fs : List (Str × V)), H2 a = some (exo a C (some d)) ∧ H2 d = some (exd d fs) ∧ H1 d = none ∧ Q (.ref C) (some d) (upd (del H2 a) d (.xd fs))) (fun _ _ _ => False) := by
  refine ⟨by show 2 ≤ 1000; decide, fun a ha => ⟨a, v1, v2, rfl, upd_same, fun dx hd hne => ⟨rfl, dx, two f1 f2 v1 v2, ?_, upd_same, ?_, ?_⟩⟩⟩
  · rw [upd_ne (Ne.symm hne), upd_same]
  · rw [upd_ne hne] at hd
    exact hd
  · rw [upd_ne hne] at hd
    have e : upd (del (upd (upd (upd (upd H1 a (exo a C none)) dx (exd dx [(f1, v1)])) a (exo a C (some dx))) dx (exd dx (two f1 f2 v1 v2))) a) dx (.xd (two f1 f2 v1 v2)) = upd H1 dx (.xd (two f1 f2 v1 v2)) := by
      funext b
      by_cases hb : b = dx
      · rw [hb, upd_same, upd_same]
      · rw [upd_ne hb, upd_ne hb]
        by_cases hba : b = a
        · rw [hba, del_same, ha]
        · rw [del_ne hba, upd_ne hb, upd_ne hba, upd_ne hb, upd_ne hba]
    rw [e]
    exact h dx hd
/-! ### reading a field of such an error in an except suite -/
end
end Mx
set_option Elab.async false
set_option linter.all false
set_option maxRecDepth 100000
set_option maxHeartbeats 2000000
/-! A list comprehension whose element may raise by a call: the error flies out of the comprehension into the def's own frame. -/
namespace Mx
open PySem PySem.Spec PyProof.Rows L2

section
variable {X : Cx} {W : WX}
/-- what stands without the address C -/
theorem heldZ_less {B h h2 : Heap} {l : List Env} {a L C : Addr} {Z : Obj → Prop} {m m2 : Str → Option Value} (hh : HandSPX.HeldZ B l a Z L h) (hsb : Heap.SameBut C h h2) (hn : h.Ns C m) (hn2 : h2.Ns C m2)
    {B2 : Heap} (k1 : ∀ b, b ≠ C → B2.get? b = B.get? b) (k2 : B2.get? C = none) : HandSPX.HeldZ B2 l a Z L h2 := by
  obtain ⟨st, ba, fr, oe, vs, T, oT, ts, g1, gz, g2, g3, g4, g5, g6, g7, g8⟩ := hh
  obtain ⟨oC, es, ep, eC, dC, _⟩ := hn
  have noC : ∀ {b : Addr} {o : Obj} {us : Array Value}, h.get? b = some o → o.data = .fields us → b ≠ C := fun {b o us} e1 e2 z => by
    rw [z, eC] at e1
    cases e1
    rw [dC] at e2
    cases e2
  have aC := noC g1 g2
  have TC := noC g6 g7
  have fr2 : h2.FunFrames B l := Heap.FunFrames.sameBut hsb hn2 fr
  refine ⟨fun b o e => ?_, ?_, ?_, oe, vs, T, oT, ts, (hsb.2 a aC).trans g1, gz, g2, g3, ?_, g5, (hsb.2 T TC).trans g6, g7, g8⟩
  · have bC : b ≠ C := fun z => by rw [z, k2] at e; cases e
    rw [k1 b bC] at e
    exact (hsb.2 b bC).trans (st b o e)
  · rw [k1 a aC]
    exact ba
  · refine funFrames_none fr2 fun b hb => ?_
    by_cases z : b = C
    · rw [z]
      exact k2
    · rw [k1 b z]
      exact (fr2.mem hb).1
  · rw [k1 T TC]
    exact g4

theorem lcx_fly {pins pins1 : List (Addr × Obj)} {σ σ1 : L2.St} {H3 H1 : Hp} {s3 s1 s' : Shared} {scope : Scope} {ce : Env} {fp : List Addr} {u : Value}
    (hs : X.stack = X.env :: X.outer) (hf : X.env.frame = some X.env.locals) (tk : Takes X W) (I3 : Inv X pins σ H3 s3) (cL : ce.locals = s3.heap.objs.size) (cf : ce.frame = X.env.frame)
    (hfp : ∀ b ∈ fp, (b ∈ X.ex ∨ X.s_0.heap.objs.size ≤ b) ∧ b ≠ X.env.locals ∧ (∀ x c, X.env.cells.lookup x = some c → c ≠ b) ∧ ∀ p ∈ X.pn ++ pins, p.1 ≠ b)
    (I1 : Inv (X.blk s3 H3 scope ce fp) pins1 σ1 H1 s1) (c : L2.CX X.prog X.w X.stack H1 s1 (fun cls d H => W cls d σ H) u s') :
    notedBy (model X.prog X.w) X.A ce (CompFails (model X.prog X.w) X.A X.xe ce) u s' := by
  obtain ⟨a, B, H', cls, d, rfl, fl, hok, ub, na, hos, ag, w⟩ := c
  have hfr : X.A.frames = some (X.env :: X.outer) := by rw [I3.ok.frames, hs]
  -- the block's own names
  obtain ⟨m, hmn, _⟩ := I1.loc
  have hmn : s1.heap.Ns ce.locals m := hmn
  have fC : H1 ce.locals = none := I1.free
  have nst : ce.locals ∉ frs X.stack := fun hb => by
    obtain ⟨_, o, e, _⟩ := I3.stack.mem hb
    have := Heap.lt_size e
    rw [cL] at this
    exact absurd this (Nat.lt_irrefl _)
  have bkeep : ∀ b o, s1.heap.get? b = some o → H1 b = none → b ∉ frs X.stack → B.get? b = some o := ub.keep
  have nsB : ∀ h : Heap, B.StaysIn h → h.Ns ce.locals m := fun h st => by
    obtain ⟨o, es, ep, e, r⟩ := hmn
    exact ⟨o, es, ep, st _ _ (bkeep _ _ e fC nst), r⟩
  show wpAny _ _ (noteFrame (.ref a) ce) _ _ s'
  rw [noteFrame_env _ cf]
  rw [hs] at fl
  refine HandSPX.looks_onZ Zc.steady hfr hf fl fun h1 hh up1 => ?_
  refine ⟨m, nsB _ hh.1, fun h2 m2 hn2 hsb => ?_⟩
  obtain ⟨B2, r1, r2⟩ := restrict B fun b => decide (b ≠ ce.locals)
  have hh2 : HandSPX.HeldZ B2 (X.env :: X.outer) a (Zc cls d) X.env.locals h2 := heldZ_less hh hsb (nsB _ hh.1) hn2 (fun b hb => r1 b (decide_eq_true hb)) (r2 _ (by simp))
  unfold PySem.passOn
  obtain ⟨_, _, _, oe, vs, T, oT, ts, g1, gz, g2, g3, _⟩ := id hh2
  refine wpAny_bind (wpAny_field g1 g2 g3 ?_)
  rw [if_neg (show ¬ ((Value.ref T == Value.none) = true) from by simp), cf, hf]
  refine wpAny_bind (HandSPX.setFlight_onZ hh2 fun h4 hh4 up4 => wpAny_throw ?_)
  -- the state without the error
  obtain ⟨G, q1, q2⟩ := restrict h4 fun b => (B2.get? b).isSome || decide (b ∈ frs X.stack)
  have B2c : ∀ {b : Addr} {o : Obj}, B2.get? b = some o → b ≠ ce.locals ∧ B.get? b = some o := fun {b o} e => by
    by_cases z : b = ce.locals
    · rw [z, r2 _ (by simp)] at e
      cases e
    · rw [r1 b (decide_eq_true z)] at e
      exact ⟨z, e⟩
  have B2of : ∀ {b : Addr} {o : Obj}, b ≠ ce.locals → B.get? b = some o → B2.get? b = some o := fun {b o} z e => (r1 b (decide_eq_true z)).trans e
  have GB : ∀ {b : Addr} {o : Obj}, B2.get? b = some o → G.get? b = some o := fun {b o} e => (q1 b (by simp [e])).trans (hh4.1 b o e)
  have GF : ∀ {b : Addr}, b ∈ frs X.stack → G.get? b = h4.get? b := fun {b} hb => q1 b (by simp [hb])
  have Gof : ∀ {b : Addr} {o : Obj}, G.get? b = some o → h4.get? b = some o ∧ ((B2.get? b).isSome = true ∨ b ∈ frs X.stack) := fun {b o} e => by
    cases z : ((B2.get? b).isSome || decide (b ∈ frs X.stack)) with
    | false => rw [q2 b z] at e; cases e
    | true => exact ⟨(q1 b z).symm.trans e, by simpa [Bool.or_eq_true] using z⟩
  have up2 : h1.UpToSlots h2 → True := fun _ => trivial
  have frame4 : ∀ {b : Addr} {o : Obj}, b ∈ frs X.stack → s'.heap.get? b = some o → ∃ sl, h4.get? b = some { o with slots := sl } := fun {b o} hb e => by
    have nf : ∀ vs : Array Value, o.data ≠ .fields vs := by
      obtain ⟨_, o', e', hd⟩ := fl.2.2.1.mem (show b ∈ frs (X.env :: X.outer) from by rw [← hs]; exact hb)
      rw [e] at e'; cases e'
      exact hd
    obtain ⟨sl1, e1⟩ := up1 b o e nf
    have bc : b ≠ ce.locals := fun z => nst (z ▸ hb)
    have e2 := (hsb.2 b bc).trans e1
    obtain ⟨sl2, e3⟩ := up4 b _ e2 nf
    exact ⟨sl2, e3⟩
  have nC : H' ce.locals = none := by
    obtain ⟨o, _, _, e, _⟩ := hmn
    exact ub.free _ _ e fC
  have neC : ∀ {b : Addr} {o : Obj}, s3.heap.get? b = some o → b ≠ ce.locals := fun {b o} e => by
    rw [cL]
    exact Nat.ne_of_lt (Heap.lt_size e)
  have hokG : HOk X.prog X.w H' G := fun b o e => by
    have bC : ∀ {b : Addr} {o : HO}, H' b = some o → b ≠ ce.locals := fun {b o} e z => by rw [z, nC] at e; cases e
    refine (hok b o e).stay (fun c v hc q => ?_) (fun _ q => q) fun _ _ q => q
    rcases hc with rfl | hc
    · exact GB (B2of (bC e) q)
    · exact GB (B2of (bC hc) q)
  have un : Un (frs X.stack) fp H3 H' s3.heap G := {
    keep := fun b o e n hb hx => GB (B2of (neC e) (bkeep b o (I1.base.keep b o e n hb hx) (I1.base.free b o e n hx) hb))
    slot := fun b o e n hb hx => by
      obtain ⟨sl, e1⟩ := I1.base.slot b o e n hb hx
      obtain ⟨sl2, e2⟩ := ub.slot b _ e1 hb
      obtain ⟨sl3, e3⟩ := frame4 hb e2
      exact ⟨sl3, (GF hb).trans e3⟩
    free := fun b o e n hx => by
      obtain ⟨o', e1⟩ := I1.base.there b o e hx
      exact ub.free b o' e1 (I1.base.free b o e n hx)
    there := fun b o e hx => by
      obtain ⟨o', e1⟩ := I1.base.there b o e hx
      by_cases hb : b ∈ frs X.stack
      · obtain ⟨sl2, e2⟩ := ub.slot b _ e1 hb
        obtain ⟨sl3, e3⟩ := frame4 hb e2
        exact ⟨_, (GF hb).trans e3⟩
      · obtain ⟨o2, e2⟩ := ub.there b o' e1 hb
        exact ⟨o2, GB (B2of (neC e) e2)⟩
    tups := fun b xs e => ub.tups b xs (I1.base.tups b xs e)
    frzs := fun b o v e => ub.frzs b o v (I1.base.frzs b o v e)
    tbls := fun b ps e => by
      obtain ⟨m1, e1⟩ := I1.base.tbls b ps e
      obtain ⟨m2, e2⟩ := ub.tbls b _ e1
      exact ⟨m1 ++ m2, by rw [e2, Array.append_assoc]⟩ }
  have J : Inv X pins σ H' { s' with heap := G } := I3.call' (s' := { s' with heap := G }) (ch := fp) (hos.trans I1.os) un hokG ag hfp
  refine tk _ _ ⟨a, B2, { s' with heap := G }, pins, σ, H', cls, d, rfl, J, fun b o e hb => ?_, Heap.UpToSlots.of_keeps fun b o e => (Gof e).1, .inr (.inr (by rw [hs]; exact hh4)), na, rfl, ag, w⟩
  obtain ⟨e', z⟩ := Gof e
  rcases z with z | z
  · obtain ⟨o', e2⟩ := Option.isSome_iff_exists.mp z
    have e3 := hh4.1 b o' e2
    rw [e'] at e3
    cases e3
    exact e2
  · exact absurd z hb

/-- the block's context for an element that may raise by a call -/
abbrev blkX (X : Cx) (s : Shared) (H : Hp) (scope : Scope) (ce : Env) (fp : List Addr) (EW : XK) : Cx :=
  (X.blk s H scope ce fp).wish fun e s' => ∃ (pins : List (Addr × Obj)) (σ : L2.St) (H1 : Hp) (s1 : Shared), Inv (X.blk s H scope ce fp) pins σ H1 s1 ∧ L2.CX X.prog X.w X.stack H1 s1 EW e s'
theorem passB {s : Shared} {H : Hp} {scope : Scope} {ce : Env} {fp : List Addr} {EW : XK} : Passes (L2.CX X.prog X.w) (blkX X s H scope ce fp EW) EW :=
  fun pins σ H1 s1 _ _ I c => ⟨pins, σ, H1, s1, I.unwish, c⟩
def tLcX (W : WX) (wi : L2.TI) (g : TG) (te : XK → TE) (vs : List Nat) : TE := fun σ H Q => tLc wi g tYes (te fun cls d H => W cls d σ H) vs σ H Q

theorem pe_lcx {elt tg iter : Expr} {scope : Scope} {own : List (Str × Nat)} {pos : Pos} {wi : L2.TI} {g : TG} {te : XK → TE}
    (hs : X.stack = X.env :: X.outer) (hf : X.env.frame = some X.env.locals) (tk : Takes X W) (hc : X.calm = true) (hN : X.N.Nodup) (hi : PI X tg iter wi) (ok : BlkOk X.N X.env.scope scope own)
    (hg : ∀ (s : Shared) (H : Hp) (C : Addr) (cl : List (Str × Addr)) (fp : List Addr), PG (X.blk s H scope (compEnvC scope cl C X.env) fp) tg g)
    (he : ∀ (EW : XK) (s : Shared) (H : Hp) (C : Addr) (cl : List (Str × Addr)) (fp : List Addr), PE (blkX X s H scope (compEnvC scope cl C X.env) fp EW) elt (te EW))
    (hfs : ∀ x, foldedSetIterable iter X.env x = pure x := by intro _; rfl) : PE X (.ListComp elt [⟨tg, iter, [], 0⟩] scope pos) (tLcX W wi g te (own.map (·.2))) := by
  refine ⟨fun pins s σ H Q I h => ?_⟩
  rw [eval_ListComp]
  have hclos : closureFor scope X.env = pure (cloFrom X.env.cells scope.names []) := closure_ok fun y hy e => (ok.free y hy e).elim (fun z => I.ok.has _ (.inl z)) fun z => I.ok.has _ (.inr z)
  refine comprehension_at (g := ⟨tg, iter, [], 0⟩) (gs := []) rfl hfs hclos ok.kind (fun y hy e => (ok.uniq y hy).trans (congrArg some e)) ?_
  refine thn (hi.run pins s σ H _ I h) fun _ _ z => thn z fun _ s2 pie => ?_
  obtain ⟨it, fp, tn, J, H2, rfl, I2, T, st2, fp2, rd⟩ := pie
  refine wpAny_newObj_type (newEnv_comp ?_) (by show 0 ≤ sizeLine; decide)
  -- the new list at D
  obtain ⟨D, hD⟩ : ∃ D, D = s2.heap.objs.size := ⟨_, rfl⟩
  obtain ⟨s3, hs3⟩ : ∃ s3 : Shared, s3 = { s2 with heap := s2.heap.push { cls := .type "list", data := .seq ([] : List Value).toArray } } := ⟨_, rfl⟩
  have hh3 : s3.heap = s2.heap.push { cls := .type "list", data := .seq ([] : List Value).toArray } := by rw [hs3]
  rw [← hD, ← hs3]
  obtain ⟨Wv, ⟨m0, w0⟩, turn⟩ := rd D (I2.hok.fresh (Nat.le_of_eq hD.symm))
  have old3 : ∀ b o, s2.heap.get? b = some o → s3.heap.get? b = some o := fun b o e => by rw [hh3]; exact Heap.get?_push_of_some _ e
  have I3 : Inv X pins σ (upd H2 D (.lst [])) s3 := by
    have obj : ObjOk X.prog X.w (upd H2 D (.lst [])) s3.heap D (.lst []) := ⟨Nat.zero_le _, [], 0, .nil, by rw [hh3, hD]; exact Heap.get?_push_size _ rfl⟩
    have z := I2.laid (t' := s2.toks) (h' := s3.heap) old3 (Nat.le_of_eq hD.symm) obj
    rw [hs3] at z ⊢
    exact z
  obtain ⟨H3, hH3⟩ : ∃ H3, H3 = upd H2 D (.lst []) := ⟨_, rfl⟩
  rw [← hH3] at I3 w0
  have fpD : ∀ b ∈ fp, b < D := fun b hb => by
    obtain ⟨o, e, _⟩ := T.obj _ _ st2 b hb
    rw [hD]
    exact Heap.lt_size e
  have fp3 : ∀ b ∈ fp, FpOk X pins H3 b ∧ b < s3.heap.objs.size := fun b hb => by
    obtain ⟨z, r⟩ := fp2 b hb
    refine ⟨⟨?_, r⟩, ?_⟩
    · rw [hH3, upd_ne (Nat.ne_of_lt (fpD b hb))]
      exact z
    · rw [hh3, Heap.size_push]
      exact Nat.lt_succ_of_lt (hD ▸ fpD b hb)
  have st3 : tn 0 s3.heap := T.keep _ _ _ st2 fun b _ => old3 b
  -- the block
  obtain ⟨ce, hce⟩ : ∃ ce, ce = compEnvC scope (cellsFrom (s3.heap.objs.size + 1) scope.names (cloFrom X.env.cells scope.names [])) s3.heap.objs.size X.env := ⟨_, rfl⟩
  have cL : ce.locals = s3.heap.objs.size := by rw [hce]; rfl
  have cf : ce.frame = X.env.frame := by rw [hce]; rfl
  obtain ⟨s4, hs4⟩ : ∃ s4 : Shared, s4 = { s3 with heap := pushCells (s3.heap.push { cls := .type "dict", data := .dict #[] }) scope.names } := ⟨_, rfl⟩
  have I4 : Inv (X.blk s3 H3 scope ce fp) [] (wipe σ (own.map (·.2))) H3 s4 := by
    rw [hs4, hce]
    exact block_start I3 ok hN fp3
  have st4 : tn 0 s4.heap := T.keep _ _ _ st3 fun b _ o e => by rw [hs4]; exact pushCells_keeps _ _ _ _ (Heap.get?_push_of_some _ e)
  have pg := hg s3 H3 s3.heap.objs.size (cellsFrom (s3.heap.objs.size + 1) scope.names (cloFrom X.env.cells scope.names [])) fp
  have pe := he (fun cls d H => W cls d σ H) s3 H3 s3.heap.objs.size (cellsFrom (s3.heap.objs.size + 1) scope.names (cloFrom X.env.cells scope.names [])) fp
  rw [← hce] at pg pe
  have hch : ∀ b ∈ fp, (b ∈ X.ex ∨ X.s_0.heap.objs.size ≤ b) ∧ b ≠ X.env.locals ∧ (∀ x c, X.env.cells.lookup x = some c → c ≠ b) ∧ ∀ p ∈ X.pn ++ pins, p.1 ≠ b := fun b hb => by
    obtain ⟨⟨_, a2, _, a4, a5, a6⟩, _⟩ := fp3 b hb
    exact ⟨a4, a2, a5, a6⟩
  have nfp : ∀ b ∈ fp, H3 b = none := fun b hb => (fp3 b hb).1.1
  have stat : ∀ {σ' : L2.St} {H' : Hp} {s' : Shared}, Inv (X.blk s3 H3 scope ce fp) [] σ' H' s' → (∀ b ∈ fp, H' b = none) → ∀ b ∈ fp, FpOk (X.blk s3 H3 scope ce fp) [] H' b := fun {σ' H' s'} J hn b hb =>
    ⟨hn b hb, (J.ok.exf b hb).1, J.ok.exfs b hb, .inl hb, fun x c => (J.ok.exf b hb).2 x c, fun p hp => absurd (show p ∈ ([] : List (Addr × Obj)) ++ [] from hp) (by simp)⟩
  change codeAny _ _ (.compStart (.ListComp elt [⟨tg, iter, [], 0⟩] scope pos) 0 (.ref it) (.ref D) (compEnvC scope (cellsFrom (s3.heap.objs.size + 1) scope.names (cloFrom X.env.cells scope.names [])) s3.heap.objs.size X.env))
    (compEnds (model X.prog X.w) X.A X.xe none (EP X pins σ Q) (.ref D) (compEnvC scope (cellsFrom (s3.heap.objs.size + 1) scope.names (cloFrom X.env.cells scope.names [])) s3.heap.objs.size X.env))
    { s3 with heap := pushCells (s3.heap.push { cls := .type "dict", data := .dict #[] }) scope.names }
  rw [← hce, ← hs4]
  have fails : ∀ {u : Value} {s' : Shared} {pins1 : List (Addr × Obj)} {σ1 : L2.St} {H1 : Hp} {s1 : Shared}, Inv (X.blk s3 H3 scope ce fp) pins1 σ1 H1 s1 → L2.CX X.prog X.w X.stack H1 s1 (fun cls d H => W cls d σ H) u s' →
      notedBy (model X.prog X.w) X.A ce (fun e s'' => compEnds (model X.prog X.w) X.A X.xe none (EP X pins σ Q) (.ref D) ce (.error e) s'') u s' := fun I1 c => lcx_fly hs hf tk I3 cL cf hch I1 c
  have loop : codeAny (model X.prog X.w) X.A (.compLoop (.ListComp elt [⟨tg, iter, [], 0⟩] scope pos) 0 (.ref it) (.ref D) ce) (compEnds (model X.prog X.w) X.A X.xe none (EP X pins σ Q) (.ref D) ce) s4 := by
    refine compLoop_any (fun n s' => ∃ i H', Inv (X.blk s3 H3 scope ce fp) [] (wipe σ (own.map (·.2))) H' s' ∧ tn i s'.heap ∧ (∀ b ∈ fp, H' b = none) ∧ Wv i n H') (fun n s5 hI => ?_) m0 ⟨0, H3, I4, st4, nfp, w0⟩
    obtain ⟨i, H5, I5, st5, n5, w5⟩ := hI
    rcases turn i n H5 w5 with ⟨stop, qd⟩ | ⟨go, Nx, nxt, body⟩
    · refine thnF (T.done (X.blk s3 H3 scope ce fp) rfl rfl rfl hc i [] s5 _ H5 (fun _ _ => False) I5 (stat I5 n5) st5 stop) fun r s6 ⟨er, I6⟩ => ?_
      rw [er]
      obtain ⟨m, hn, _⟩ := I6.loc
      refine ⟨m, hn, fun h9 sb => ?_⟩
      have J : Inv X pins σ H5 s6 := I3.call' (ch := fp) I6.os I6.base I6.hok I6.bare hch
      have fC : H5 ce.locals = none := I6.free
      obtain ⟨b0, b1, _, b3, b4, b5⟩ := I3.fpOk (H' := H5) (b := ce.locals) (Nat.le_of_eq cL.symm) fC
      exact ⟨.ref D, H5, J.turned (t' := s6.toks) (fun b o hb e => (sb.2 b hb).trans e) b0 b1 b3 b4 b5, rfl, qd⟩
    · refine thnF (T.item (X.blk s3 H3 scope ce fp) rfl rfl rfl hc i [] s5 _ H5 (fun _ _ => False) I5 (stat I5 n5) st5 go) fun r s6 ⟨u, er, g6⟩ => ?_
      rw [er]
      refine thnF g6 fun _ s7 ⟨x, H7, I7, r7, y7, st7, n7⟩ => ?_
      refine thnF (pg.run _ s7 _ H7 x u _ (I7.pinned (stat I7 n7) (T.obj _ _ st7)) r7 (body x H7 y7)) fun _ s8 ⟨σ8, H8, I8, same, q8⟩ => ?_
      refine wpAny_tests_nil ?_
      simp only [if_true]
      have turned : ∀ {s' : Shared} {H' : Hp}, Inv (X.blk s3 H3 scope ce fp) ([] ++ pinsAt fp s7.heap) σ8 H' s' → Nx H' → ∃ m, m < n ∧ ∃ i H', Inv (X.blk s3 H3 scope ce fp) [] (wipe σ (own.map (·.2))) H' s' ∧ tn i s'.heap ∧ (∀ b ∈ fp, H' b = none) ∧ Wv i m H' := fun {s' H'} J nx => by
        obtain ⟨m', lt, w'⟩ := nxt H' nx
        have kept : ∀ {b : Addr} {o : Obj}, b ∈ fp → s7.heap.get? b = some o → s'.heap.get? b = some o ∧ H' b = none := fun {b o} hb e =>
          have z := J.pin (b, o) (List.mem_append_right _ (List.mem_append_right _ (mem_pinsAt hb e)))
          ⟨z.1, z.2.1⟩
        refine ⟨m', lt, i + 1, H', (J.unpinned (pins := [])).weak (by rw [← same, wipe_length]) (fun j v e => ?_), T.keep _ _ _ st7 fun b hb o e => (kept hb e).1, fun b hb => ?_, w'⟩
        · rw [← same] at e
          exact (wipe_some e).1
        · obtain ⟨o, e, _⟩ := T.obj _ _ st7 b hb
          exact (kept hb e).2
      refine wpAny_mono (pe.run _ s8 σ8 H8 _ (I8.wish _) q8) (fun z s10 ⟨yv, H10, I10, r10, acc, d10, l10, nx⟩ => ?_) fun u s' ⟨p1, σ1, H1, s1, J, c⟩ => fails J c
      exact app_ok (X := X.blk s3 H3 scope ce fp) I10.unwish d10 l10 r10 fun s11 I11 => turned I11 nx
  exact codeAny_compStart_list loop (T.self X.A 0 _ _ _ st4 loop)
end
end Mx
set_option Elab.async false
set_option linter.all false
set_option maxRecDepth 100000
set_option maxHeartbeats 2000000
/-! Data without lists stays while lists are written. -/
namespace Mx
open PySem PySem.Spec PyProof.Rows L2 Evl TL
open PySem.W (Datum DatumOrd Tup)
def firm : HO → Bool
  | .tup _ => true
  | .frz _ (.tup _) => true
  | _ => false
/-- what is firm stays -/
def Ux (H H' : Hp) : Prop := ∀ a u, H a = some u → firm u = true → H' a = some u
theorem Ux.of {H H' : Hp} (e : Ex H H') : Ux H H' := fun a u h _ => e a u h
theorem Ux.trans {H H1 H2 : Hp} (a : Ux H H1) (b : Ux H1 H2) : Ux H H2 := fun x u h f => b x u (a x u h f) f
theorem Ux.upd {H : Hp} {p : Addr} {o o' : HO} (h : H p = some o) (f : firm o = false) : Ux H (L2.upd H p o') := fun a u ha fa => by
  rw [upd_ne]
  · exact ha
  · intro e
    rw [e, h] at ha
    cases ha
    rw [f] at fa
    cases fa
theorem ux_t {K : PySem.W.Frag} {H H' : Hp} {a : Addr} {xs : List V} (e : Ux H H') (h : SqT K H a xs) : SqT K H' a xs := by
  rcases h with h | h
  · rcases h with h | ⟨o, h⟩
    · exact .inl (.inl (e _ _ h rfl))
    · exact .inl (.inr ⟨o, e _ _ h rfl⟩)
  · exact .inr h
mutual
def tupD : PyData → Bool
  | .list _ => false
  | .dict _ => false
  | .tuple ds => tupDs ds
  | _ => true
def tupDs : List PyData → Bool
  | [] => true
  | d :: ds => tupD d && tupDs ds
end
mutual
theorem dp_ux {K : PySem.W.Frag} {H H' : Hp} (e : Ux H H') : ∀ (d : PyData) (v : V), tupD d = true → Dp K H v d → Dp K H' v d
  | .none, _, _, h => by cases h; exact .non
  | .bool b, _, _, h => by cases h; exact .bl b
  | .int i, _, _, h => by cases h; exact .int i
  | .str x, _, _, h => by cases h; exact .str x
  | .list ds, _, f, _ => by cases f
  | .tuple ds, _, f, h => by
    cases h with
    | tup hs ha => exact .tup (ux_t e hs) (dpAll_ux e ds _ f ha)
  | .dict _, _, f, _ => by cases f
theorem dpAll_ux {K : PySem.W.Frag} {H H' : Hp} (e : Ux H H') : ∀ (ds : List PyData) (vs : List V), tupDs ds = true → DpAll K H vs ds → DpAll K H' vs ds
  | [], _, _, h => by cases h; exact .nil
  | d :: ds, _, f, h => by
    have f1 : tupD d = true := by
      have : (tupD d && tupDs ds) = true := f
      exact (Bool.and_eq_true_iff.mp this).1
    have f2 : tupDs ds = true := by
      have : (tupD d && tupDs ds) = true := f
      exact (Bool.and_eq_true_iff.mp this).2
    cases h with
    | cons h1 h2 => exact .cons (dp_ux e d _ f1 h1) (dpAll_ux e ds _ f2 h2)
end
/-- a type whose data hold no lists -/
class Firm (α : Type) [DecidableEq α] [Datum α] : Prop where
  firm : ∀ x : α, tupD (Datum.toD x) = true
instance : Firm Int := ⟨fun _ => rfl⟩
instance : Firm Str := ⟨fun _ => rfl⟩
instance : Firm Bool := ⟨fun _ => rfl⟩
theorem tupDs_map {α : Type} [DecidableEq α] [Datum α] [Firm α] : ∀ xs : List α, tupDs (xs.map Datum.toD) = true
  | [] => rfl
  | x :: r => by
    show (tupD (Datum.toD x) && tupDs (r.map Datum.toD)) = true
    rw [Firm.firm x, tupDs_map r]
    rfl
instance {α : Type} [DecidableEq α] [Datum α] [Firm α] : Firm (Tup α) := ⟨fun x => tupDs_map x.items⟩
instance {α β : Type} [DecidableEq α] [Datum α] [Firm α] [DecidableEq β] [Datum β] [Firm β] : Firm (α × β) := ⟨fun x => by
  show (tupD (Datum.toD x.1) && (tupD (Datum.toD x.2) && true)) = true
  rw [Firm.firm x.1, Firm.firm x.2]
  rfl⟩
theorem Dt.ux {α : Type} [DecidableEq α] [Datum α] [Firm α] {K : PySem.W.Frag} {H H' : Hp} {v : V} {x : α} (e : Ux H H') (h : Dt K H v x) : Dt K H' v x := dp_ux e _ _ (Firm.firm x) h
theorem dpAll_uxT {α : Type} [DecidableEq α] [Datum α] [Firm α] {K : PySem.W.Frag} {H H' : Hp} {vs : List V} {xs : List α} (e : Ux H H') (h : DpAll K H vs (xs.map Datum.toD)) : DpAll K H' vs (xs.map Datum.toD) := dpAll_ux e _ _ (tupDs_map xs) h
theorem dpAll_snoc {α : Type} [DecidableEq α] [Datum α] {K : PySem.W.Frag} {H : Hp} {v : V} {x : α} : ∀ {vs : List V} {xs : List α}, DpAll K H vs (xs.map Datum.toD) → Dt K H v x → DpAll K H (vs ++ [v]) ((xs ++ [x]).map Datum.toD)
  | _, [], h, hx => by cases h; exact .cons hx .nil
  | _, _ :: _, h, hx => by
    cases h with
    | cons h1 h2 => exact .cons h1 (dpAll_snoc h2 hx)
theorem dpAll_len {α : Type} [DecidableEq α] [Datum α] {K : PySem.W.Frag} {H : Hp} {vs : List V} {xs : List α} (h : DpAll K H vs (xs.map Datum.toD)) : vs.length = xs.length := (dpAll_at h).1
end Mx
set_option Elab.async false
set_option linter.all false
set_option maxRecDepth 100000
set_option maxHeartbeats 4000000
namespace Mx
open PySem PySem.Spec PyProof.Rows L2 Evl TL
open PySem.W (Datum DatumOrd Tup)
/-! ### an error class with two fields -/
structure Err2 (P : Program) (w : World) (K : PySem.W.Frag) (mg : Str → Option Value) (base : Heap) (x f1 f2 : Str) (C : Addr) : Prop where
  mgC : mg x = some (.ref C)
  T : OexC K C
  ini : ∃ (fI : Addr) (fd : FuncData) (s1 : Str), PySem.W.findIn K (.ref C) "__init__" = some (some (.ref fI)) ∧ PySem.W.typeIn K (.ref fI) = some (.type "function") ∧ FnOk P w K mg base CX0 1 fI fd [s1, f1, f2] (spTwo C f1 f2) ∧ Binds K fd [s1, f1, f2] []
  xf : XfC K C
  n1 : PySem.W.findIn K (.ref C) f1 = some none
  n2 : PySem.W.findIn K (.ref C) f2 = some none
  te : PySem.W.exmOne K (.ref C) (.ref C) = some true
theorem pmk_err {X : Cx} {x f1 f2 : Str} {C : Addr} {k : Nat} {p pos : Pos} {e : Expr} {es : List Expr} {ta : TA} (R : Err2 X.prog X.w X.K X.mg X.base x f1 f2 C) (hr : Room k X.A) (hg : Gl X x) (ha : PA X (e :: es) ta) (hk : 2 ≤ k := by decide) (hdb : (x == ("__debug__" : Str)) = false := by decide +kernel)
    (he : starEach (e :: es) X.env = (false, eval e X.env) :: starEach es X.env := by rfl) (hpl : (backTo pos (starEach es X.env)).any (·.1) = false := by rfl) : PMk X (.Call (.Name x p) (e :: es) [] pos) (tMkO C (spTwo C f1 f2) [] ta) := by
  obtain ⟨fI, fd, s1, iC, tI, F1, hb⟩ := R.ini
  exact pmk_oex R.T iC tI F1 (hr.mono hk) hb .nil pass0 hg R.mgC ha hdb he hpl
end Mx
set_option Elab.async false
set_option linter.all false
set_option maxRecDepth 100000
set_option maxHeartbeats 4000000
namespace Mx
open PySem PySem.Spec PyProof.Rows L2 Evl TL
open PySem.W (Datum DatumOrd Tup)
/-! ### values of which a type is known -/
section
variable {σ : L2.St} {H H' : Hp} {te ta tb : TE} {K : PySem.W.Frag} {α β : Type} [DecidableEq α] [Datum α] [DecidableEq β] [Datum β]
def EvD (te : TE) (K : PySem.W.Frag) (σ : L2.St) (H : Hp) (x : α) : Prop := EvP te σ H fun v H2 => Dt K H2 v x
theorem evd_int {i : Int} (h : Ev te σ H (.int i)) : EvD te K σ H i := fun H1 e Q q => h H1 e Q fun H2 e2 => q _ H2 e2 dt_int
theorem evd_str {s : Str} (h : Ev te σ H (.str s)) : EvD te K σ H s := fun H1 e Q q => h H1 e Q fun H2 e2 => q _ H2 e2 dt_str
theorem evd_v {v : V} {x : α} (h : Ev te σ H v) (d : Dt K H v x) : EvD te K σ H x := fun H1 e Q q => h H1 e Q fun H2 e2 => q _ H2 e2 (d.ex (e.trans e2))
theorem evd_pair {x : α} {y : β} (ha : EvD ta K σ H x) (hb : EvD tb K σ H y) : EvD (tTup (tCons ta (tCons tb tNil))) K σ H (x, y) := fun H1 e Q q =>
  ha H1 e _ fun v H2 e2 dv => hb H2 (e.trans e2) _ fun u H3 e3 du => ⟨by show 2 ≤ sizeLine; decide, fun p hp => q _ _ ((e2.trans e3).trans (Ex.new hp)) (dt_pair (st_of upd_same) ((dv.ex e3).ex (Ex.new hp)) (du.ex (Ex.new hp)))⟩
theorem evd_op {f : α → α → Bool} {x y : α} (ha : EvD ta K σ H x) (hb : EvD tb K σ H y) : Ev (tOp (rDt α K f) ta tb) σ H (.bl (f x y)) := fun H1 e Q q =>
  ha H1 e _ fun v H2 e2 dv => hb H2 (e.trans e2) _ fun u H3 e3 du => ⟨x, y, dv.ex e3, du, q H3 (e2.trans e3)⟩
end
section
variable {K : PySem.W.Frag}
theorem rv_dt {α : Type} [DecidableEq α] [Datum α] {H : Hp} {x y : V} {a b : α} {f : α → α → Bool} (hx : Dt K H x a) (hy : Dt K H y b) : RV (rDt α K f) x y H (.bl (f a b)) :=
  fun H1 e Q q => ⟨a, b, hx.ex e, hy.ex e, q H1 (Ex.refl H1)⟩
end
theorem q_asgP {te : TE} {i : Nat} {σ : L2.St} {H : Hp} {D : Ends} {tz : TS} {R : V → Hp → Prop} (h : EvP te σ H R) (k : ∀ v H1, Ex H H1 → R v H1 → tz D (σ.set i (some v)) H1) : tSeq (tAsg te (gName i)) tz D σ H := h H (Ex.refl H) _ fun v H1 e r => k v H1 e r
theorem dp_pick {α : Type} [DecidableEq α] [Datum α] {K : PySem.W.Frag} {H : Hp} {P : α → Prop} : ∀ {vs : List V}, (∀ v ∈ vs, ∃ x : α, Dt K H v x ∧ P x) → ∃ xs : List α, DpAll K H vs (xs.map Datum.toD) ∧ ∀ x ∈ xs, P x
  | [], _ => ⟨[], .nil, fun _ h => absurd h (by simp)⟩
  | v :: vs, h => by
    obtain ⟨x, d, p⟩ := h v (List.mem_cons_self ..)
    obtain ⟨xs, ds, ps⟩ := dp_pick (vs := vs) fun v hv => h v (List.mem_cons_of_mem _ hv)
    refine ⟨x :: xs, .cons d ds, fun y hy => ?_⟩
    rcases List.mem_cons.mp hy with rfl | hy
    · exact p
    · exact ps y hy
section
variable {σ : L2.St} {H H' : Hp} {te ta tb : TE} {K : PySem.W.Frag} {E : XK} {P : Program} {w : World}
abbrev rAddS : R2 := fun x y H Q => ∃ i j, x = .str i ∧ y = .str j ∧ i.length + j.length ≤ sizeLine ∧ Q (.str (i ++ j)) H
theorem ev_addS {x y : Str} (h : Ev ta σ H (.str x)) (h2 : Ev tb σ H (.str y)) (hz : x.length + y.length ≤ 100000) : Ev (tOp rAddS ta tb) σ H (.str (x ++ y)) := ev_op h h2 fun H1 _ Q q => ⟨x, y, rfl, rfl, sz_of hz, q H1 (Ex.refl H1)⟩
theorem ev_pairs : ∀ {trs : List (TE × TE)} {kvs : List (V × V)}, Paired (fun (t : TE × TE) (kv : V × V) => Ev t.1 σ H kv.1 ∧ Ev t.2 σ H kv.2) trs kvs → ∀ H1, Ex H H1 → ∀ Q : List (V × V) → Hp → Prop, (∀ H2, Ex H1 H2 → Q kvs H2) → tPairs trs σ H1 Q
  | _, _, .nil, H1, e, Q, q => q H1 (Ex.refl H1)
  | _, _, .cons h t, H1, e, Q, q => h.1 H1 e _ fun H2 e2 => h.2 H2 (e.trans e2) _ fun H3 e3 => ev_pairs t H3 ((e.trans e2).trans e3) _ fun H4 e4 => q H4 ((e2.trans e3).trans e4)
theorem ev_dispGet {trs : List (TE × TE)} {ty : TE} {kvs : List (Key × V)} {key : Key} {v : V} (h : Paired (fun (t : TE × TE) (kv : V × V) => Ev t.1 σ H kv.1 ∧ Ev t.2 σ H kv.2) trs (kvs.map fun kv => (kV kv.1, kv.2))) (hk : Ev ty σ H (kV key)) (h15 : kvs.length ≤ 15) (hv : valV (mergeK [] kvs) key = some v) :
    Ev (tDGet (tDisp trs) ty) σ H v := fun H1 e Q q p hp =>
  ev_pairs h (upd H1 p (.dK [])) (e.trans (Ex.new hp)) _ fun H2 e2 => ⟨e2 _ _ upd_same, kvs, rfl, h15, hk _ (Ex.mut ((e.trans (Ex.new hp)).trans e2) (fresh_back e hp)) _ fun H3 e3 => ⟨p, v, rfl, by
    have z := DGet.k (H := H3) (a := p) (k := key) (kvs := mergeK [] kvs) (e3 _ _ upd_same)
    rw [hv] at z
    exact z, q H3 ((Ex.mut ((Ex.new hp).trans e2) hp).trans e3)⟩⟩
theorem valV_look (s : Str) : ∀ l : List (Str × Bool), valV (l.map fun kb => ((Sum.inr kb.1 : Key), V.bl kb.2)) (Sum.inr s) = (l.lookup s).map V.bl
  | [] => rfl
  | (k, b) :: r => by
    by_cases h : k = s
    · rw [List.map_cons, valV_pos (by rw [h]), List.lookup_cons, h]
      simp
    · have h2 : ¬ (Sum.inr k : Key) = Sum.inr s := fun z => h (Sum.inr.inj z)
      have h3 : (s == k) = false := by simpa using fun z => h z.symm
      have z := valV_look s r
      rw [List.map_cons, List.lookup_cons, h3]
      unfold valV at z ⊢
      rw [List.find?_cons_of_neg (by simpa using h2)]
      exact z
theorem look_mem (s : Str) : ∀ l : List (Str × Bool), s ∈ l.map (·.1) → l.lookup s = some ((l.lookup s).getD false)
  | [], h => absurd h (by simp)
  | (k, b) :: r, h => by
    by_cases e : s = k
    · rw [List.lookup_cons, e]
      simp
    · have h3 : (s == k) = false := by simpa using e
      rw [List.lookup_cons, h3]
      refine look_mem s r ?_
      rcases List.mem_cons.mp h with z | z
      · exact absurd z e
      · exact z
theorem int_eq (i j : Int) : decide (V.int i = V.int j) = decide (i = j) := decide_eq_decide.mpr ⟨V.int.inj, fun h => by rw [h]⟩
section
variable {α : Type} [DecidableEq α] [Datum α]
def EvDA (ta : TA) (K : PySem.W.Frag) (σ : L2.St) (H : Hp) (xs : List α) : Prop := ∀ H1, Ex H H1 → ∀ Q : List V → Hp → Prop, (∀ vs H2, Ex H1 H2 → DpAll K H2 vs (xs.map Datum.toD) → Q vs H2) → ta σ H1 Q
theorem eda_nil : EvDA tNil K σ H ([] : List α) := fun H1 _ Q q => q [] H1 (Ex.refl H1) .nil
theorem eda_cons {tr : TA} {x : α} {xs : List α} (h : EvD te K σ H x) (hr : EvDA tr K σ H xs) : EvDA (tCons te tr) K σ H (x :: xs) := fun H1 e Q q =>
  h H1 e _ fun v H2 e2 d => hr H2 (e.trans e2) _ fun vs H3 e3 ds => q (v :: vs) H3 (e2.trans e3) (.cons (d.ex e3) ds)
theorem evd_tup {ta : TA} {xs : List α} (h : EvDA ta K σ H xs) (hl : xs.length ≤ 1000) : EvD (tTup ta) K σ H (Tup.mk xs) := fun H1 e Q q =>
  h H1 e _ fun vs H2 e2 ds => ⟨by rw [dpAll_len ds]; exact Nat.le_trans hl (by decide), fun p hp => q _ _ (e2.trans (Ex.new hp)) (dt_tup (st_of upd_same) (dpAll_ex (Ex.new hp) _ _ ds))⟩
/-- a loop over a tuple of which a type is known -/
theorem q_forD {tl : TE} {g : TG} {tu tz : TS} {D : Ends} {xs : List α} (h : EvD tl K σ H (Tup.mk xs)) (Pv : Nat → L2.St → Prop) (h0 : Pv 0 σ)
    (hs : ∀ H1 i x v σ' H', Ex H H1 → xs[i]? = some x → Dt K H' v x → Ex H1 H' → Pv i σ' → g v σ' H' fun σ2 H2 => tu { D with nx := fun σ'' H'' => Ex H1 H'' ∧ Pv (i + 1) σ'', ct := fun σ'' H'' => Ex H1 H'' ∧ Pv (i + 1) σ'', bk := tz D } σ2 H2)
    (hd : ∀ H1 σ' H', Ex H H1 → Ex H1 H' → Pv xs.length σ' → tz D σ' H') : tSeq (tFor (iTup K tl) g tu) tz D σ H :=
  h H (Ex.refl H) _ fun v H1 e d => by
    obtain ⟨a, vs, rfl, ha, da⟩ := dt_tup_inv d
    obtain ⟨lv, fv⟩ := dpAll_at da
    refine ⟨a, rfl, ⟨vs, ha⟩, for_tup (D := { D with nx := tz D }) (fun i σ'' H'' => Ex H1 H'' ∧ Pv i σ'') ⟨Ex.refl H1, h0⟩ (fun i σ'' H'' _ z => ex_t z.1 ha) (fun i y σ'' H'' hy z => ?_) fun σ'' H'' z => hd H1 σ'' H'' e z.1 (lv ▸ z.2)⟩
    obtain ⟨x, hx, dx⟩ := fv i y hy
    exact hs H1 i x y σ'' H'' e hx (dx.ex z.1) z.1 z.2
end
theorem ints_of {Pd : Int → Prop} : ∀ {vs : List V}, (∀ v ∈ vs, ∃ d : Int, v = .int d ∧ Pd d) → ∃ ns : List Int, vs = ns.map V.int ∧ ∀ n ∈ ns, Pd n
  | [], _ => ⟨[], rfl, fun _ h => absurd h (by simp)⟩
  | v :: vs, h => by
    obtain ⟨d, rfl, hd⟩ := h v (List.mem_cons_self ..)
    obtain ⟨ns, rfl, hl⟩ := ints_of (vs := vs) fun v hv => h v (List.mem_cons_of_mem _ hv)
    refine ⟨d :: ns, rfl, fun n hn => ?_⟩
    rcases List.mem_cons.mp hn with rfl | hn
    · exact hd
    · exact hl n hn
end
end Mx
set_option Elab.async false
set_option linter.all false
set_option maxRecDepth 100000
set_option maxHeartbeats 4000000
/-! sorted(xs) where the items are data of a type. -/
namespace Mx
open PySem PySem.Spec PyProof.Rows L2 Evl TL
open PySem.W (Datum DatumOrd Tup EachIs)
def sortD {α : Type} [DecidableEq α] [Datum α] (xs : List α) : List α := xs.mergeSort (PySem.W.dataLe false (Datum.toD (α := α)))
class Srt (α : Type) [DecidableEq α] [Datum α] : Prop where
  srt : ∀ xs : List α, PySem.W.Sortable (xs.map Datum.toD)
instance : Srt Int := ⟨fun _ => .others fun b => ⟨fun e => (by cases e), fun _ e => (by cases e)⟩⟩
instance : Srt Str := ⟨fun _ => .others fun b => ⟨fun e => (by cases e), fun _ e => (by cases e)⟩⟩
instance {α β : Type} [DecidableEq α] [Datum α] [DecidableEq β] [Datum β] : Srt (α × β) := ⟨fun _ => .tuples fun b => ⟨_, _, rfl⟩⟩
section
variable {X : Cx} {α : Type} [DecidableEq α] [DatumOrd α] [Srt α]
abbrev rSortedD (α : Type) [DecidableEq α] [Datum α] (K : PySem.W.Frag) : List V → Hp → VK → Prop := fun vs H Q => ∃ (a : Addr) (us : List V) (xs : List α), vs = [.ref a] ∧ SqL K H a us ∧ DpAll K H us (xs.map Datum.toD) ∧ xs.length ≤ 100000 ∧
  ∀ (us' : List V) (p : Addr), H p = none → DpAll K H us' ((sortD xs).map Datum.toD) → Q (.ref p) (upd H p (.lst us'))
theorem each_lift {R : Value → α → Prop} {S : V → Value → α → Prop} (hS : ∀ u b, R u b → ∃ v, RelV v u ∧ S v u b) : ∀ {us : List Value} {bs : List α}, EachIs R us bs → ∃ vs : List V, Vals vs us ∧ Paired (fun v b => ∃ u, S v u b) vs bs
  | _, _, .nil => ⟨[], .nil, .nil⟩
  | _, _, .cons h t => by
    obtain ⟨v, r, s⟩ := hS _ _ h
    obtain ⟨vs, rs, ps⟩ := each_lift hS t
    exact ⟨v :: vs, .cons r rs, .cons ⟨_, s⟩ ps⟩
theorem each_of {K : PySem.W.Frag} {H : Hp} : ∀ {vs : List V} {us : List Value} {xs : List α}, Vals vs us → DpAll K H vs (xs.map Datum.toD) → EachIs (fun u b => ∃ v, RelV v u ∧ Dt K H v b) us xs
  | _, _, [], r, h => by
    cases h
    cases r
    exact .nil
  | _, _, x :: xs, r, h => by
    cases h with
    | cons h1 h2 =>
      cases r with
      | cons r1 r2 => exact .cons ⟨_, r1, h1⟩ (each_of r2 h2)
theorem cr_sortedD (hu : X.A.units + 2 + Datum.depth α < cLine) : CallR X (.builtin "sorted") (rSortedD α X.K) := by
  intro pins s σ H vs us Q I r h
  obtain ⟨a, vs', xs, rfl, hs, hd, hl, q⟩ := h
  obtain ⟨its, rv, hlst, _⟩ := I.list hs
  rw [Vals.ref1 r]
  have e := each_of (α := α) rv hd
  refine PySem.W.sorted_data (enc := Datum.toD) hlst.isList e (e.mono fun u b ⟨v, rv, dv⟩ => dv.holds I rv) (PySem.W.AllAlike.of fun b b' => DatumOrd.alike b b') (Srt.srt xs) (by rw [sizeLine_eq]; omega)
    (fun b _ => Nat.lt_of_le_of_lt (Nat.add_le_add_left (Datum.depth_le b) _) hu) fun out ho eo => ?_
  obtain ⟨vs2, rv2, ps⟩ := each_lift (S := fun v u b => Dt X.K H v b) (fun u b ⟨v, r, d⟩ => ⟨v, r, d⟩) eo
  obtain ⟨ep, he'⟩ := PyProof.Rows.sortedAll_at s.heap its out.toArray
  have hlen : vs2.length ≤ sizeLine := by
    have := rv2.length
    rw [sizeLine_eq]
    omega
  refine ⟨.ref _, upd H (s.heap.objs.size + 1) (.lst vs2), I.laid (t' := s.toks) (fun _ _ => PyProof.Rows.sortedAll_old) (Nat.le_succ _) ⟨hlen, out, ep, rv2, he'⟩, rfl, q vs2 _ (I.hok.fresh (Nat.le_succ _)) ?_⟩
  refine dpAll_pair ?_
  have : ∀ {vs : List V} {bs : List α}, Paired (fun v b => ∃ u : Value, Dt X.K H v b) vs bs → Paired (fun v x => Dt X.K H v x) vs bs := fun p => by
    induction p with
    | nil => exact .nil
    | cons h _ ih => exact .cons (h.elim fun _ d => d) ih
  exact this ps
end
end Mx
set_option Elab.async false
set_option linter.all false
set_option maxRecDepth 100000
set_option maxHeartbeats 4000000
/-! Objects, dicts: methods as facts, what evaluates, statements. -/
namespace Mx
open PySem PySem.Spec PyProof.Rows L2 Evl TL
open PySem.W (Datum DatumOrd Tup)
/-! ### methods -/
def HasM (P : Program) (w : World) (K : PySem.W.Frag) (mg : Str → Option Value) (base : Heap) (CX : CXT) (k : Nat) (C : Addr) (m : Str) (ps : List Str) (sp : Sp) : Prop :=
  ∃ (f : Addr) (fd : FuncData), Meth K C m f ∧ Binds K fd ps [] ∧ FnOk P w K mg base CX k f fd ps sp
section
variable {X : Cx} {CX : CXT} {k : Nat} {C : Addr} {m : Str} {ps : List Str} {sp : Sp} {o e : Expr} {es : List Expr} {ta : TE} {t : TA} {apos pos : Pos}
theorem pe_m {pl : Sem Bool} {j : Nat} {E : XK} (he : PE X o ta) (c : Cls X.K C) (F : HasM X.prog X.w X.K X.mg X.base CX k C m ps sp) (hr : Room j X.A) (hx : Passes CX X E) (ha : PA X (e :: es) t) (hj : k ≤ j := by decide)
    (hst : starEach (e :: es) X.env = (false, eval e X.env) :: starEach es X.env := by rfl) (hpl : (backTo pos (starEach es X.env)).any (·.1) = false := by rfl)
    (ht : eval (.Call (.Attribute o m apos) (e :: es) [] pos) X.env = (do
      let ov ← eval o X.env
      standAt apos.atName
      let (f, first) ← holding [ov] (getMethod ov m pl)
      callWith pos f first (backTo pos (starEach (e :: es) X.env)) (backToKw pos (keywordEach [] X.env))) := by rfl) :
    PE X (.Call (.Attribute o m apos) (e :: es) [] pos) (tMeth C m sp [] E ta t) := by
  obtain ⟨f, fd, hm, hb, G⟩ := F
  exact pe_meth he c hm G (hr.mono hj) hb .nil hx ha hst hpl ht
theorem pe_m0' {pl : Sem Bool} {j : Nat} {E : XK} (he : PE X o ta) (c : Cls X.K C) (F : HasM X.prog X.w X.K X.mg X.base CX k C m ps sp) (hr : Room j X.A) (hx : Passes CX X E) (hj : k ≤ j := by decide)
    (ht : eval (.Call (.Attribute o m apos) [] [] pos) X.env = (do
      let ov ← eval o X.env
      standAt apos.atName
      let (f, first) ← holding [ov] (getMethod ov m pl)
      callWith pos f first (backTo pos (starEach [] X.env)) (backToKw pos (keywordEach [] X.env))) := by rfl) :
    PE X (.Call (.Attribute o m apos) [] [] pos) (tMeth C m sp [] E ta tNil) := by
  obtain ⟨f, fd, hm, hb, G⟩ := F
  exact pe_meth0 he c hm G (hr.mono hj) hb .nil hx ht
/-- in a try's body -/
def tMethT (C : Addr) (m : Str) (sp : Sp) (E : L2.St → XK) (ta : TE) (t : TA) : TE := fun σ H Q => ta σ H fun x H1 => ∃ a dx fs, x = .ref a ∧ H1 a = some (.ins C dx fs) ∧ fs.lookup m = none ∧
  t σ H1 fun vs H2 => sp (x :: vs) H2 Q (E σ)
theorem pe_mS {pl : Sem Bool} {j : Nat} {E : L2.St → XK} (he : PE X o ta) (c : Cls X.K C) (F : HasM X.prog X.w X.K X.mg X.base CX k C m ps sp) (hr : Room j X.A) (hx : ∀ σ, PassesAt CX X σ (E σ)) (ha : PA X (e :: es) t) (hj : k ≤ j := by decide)
    (hst : starEach (e :: es) X.env = (false, eval e X.env) :: starEach es X.env := by rfl) (hpl : (backTo pos (starEach es X.env)).any (·.1) = false := by rfl)
    (ht : eval (.Call (.Attribute o m apos) (e :: es) [] pos) X.env = (do
      let ov ← eval o X.env
      standAt apos.atName
      let (f, first) ← holding [ov] (getMethod ov m pl)
      callWith pos f first (backTo pos (starEach (e :: es) X.env)) (backToKw pos (keywordEach [] X.env))) := by rfl) :
    PE X (.Call (.Attribute o m apos) (e :: es) [] pos) (tMethT C m sp E ta t) := by
  obtain ⟨f, fd, hm, hb, G⟩ := F
  refine ⟨fun pins s σ H Q I h => ?_⟩
  refine PySem.W.methodCall_KW (pl := pl) (thn (he.run pins s σ H _ I h) fun u s1 ⟨x, H1, I1, rx, a, dx, fs, ex, ea, l, q⟩ => ?_) ht
  subst ex
  obtain rfl : u = Value.ref a := rx
  refine getmeth_ok I1 ea c hm l ?_
  refine PySem.W.callWith_K (first := [.ref a]) (h₀ := X.base) I.ok.mod.kin hm.kp (thn (ha.run pos pins s1 σ H1 _ I1 q) fun us s2 ⟨vs, H2, I2, r, q2⟩ => ⟨I2.kIn, ?_⟩) hst hpl
  exact run_fnS (us := .ref a :: us) (vs := .ref a :: vs) G (hr.mono hj) hb (hx σ) I2 (.cons rfl r) q2
end
/-! ### what evaluates -/
section
variable {σ : L2.St} {H H' : Hp} {te ta tb to td ty tx : TE} {v z : V} {K : PySem.W.Frag} {d x dx C : Addr} {kvs : List (Key × V)} {k : Key} {fs : List (Str × V)} {f : Str}
theorem rd_ex (e : Ex H H') {a : Addr} {u : HO} (h : Rd H a u) : Rd H' a u := ex_rd e h
theorem ev_fld (h : Ev to σ H (.ref x)) (hx : H x = some (.ins C dx fs)) (c : Cls K C) (n : NoAttr K C f) (l : fs.lookup f = some v) : Ev (tFld K to f) σ H v := fun H1 e Q q =>
  h H1 e _ fun H2 e2 => ⟨x, C, dx, fs, v, rfl, e2 _ _ (e _ _ hx), c, n, l, q H2 e2⟩
theorem dget_rd (h : Rd H d (.dK kvs)) : DGet H d (kV k) (valV kvs k) := .inl ⟨kvs, k, h, rfl, rfl⟩
theorem ev_dgetK (h : Ev td σ H (.ref d)) (hk : Ev ty σ H (kV k)) (hd : Rd H d (.dK kvs)) (hv : valV kvs k = some v) : Ev (tDGet td ty) σ H v := fun H1 e Q q =>
  h H1 e _ fun H2 e2 => hk H2 (e.trans e2) _ fun H3 e3 => ⟨d, v, rfl, hv ▸ dget_rd (rd_ex ((e.trans e2).trans e3) hd), q H3 (e2.trans e3)⟩
theorem ev_dget2K (h : Ev td σ H (.ref d)) (hk : Ev ty σ H (kV k)) (hz : Ev tx σ H z) (hd : Rd H d (.dK kvs)) : Ev (tDGet2 td ty tx) σ H ((valV kvs k).getD z) := fun H1 e Q q =>
  h H1 e _ fun H2 e2 => ⟨d, rfl, .inl ⟨kvs, rd_ex (e.trans e2) hd⟩, hk H2 (e.trans e2) _ fun H3 e3 => hz H3 ((e.trans e2).trans e3) _ fun H4 e4 => ⟨_, dget_rd (rd_ex (((e.trans e2).trans e3).trans e4) hd), q H4 ((e2.trans e3).trans e4)⟩⟩
theorem et_din (hk : Ev ty σ H (kV k)) (h : Ev td σ H (.ref d)) (hd : Rd H d (.dK kvs)) : EvT (tB (tDIn ty td)) σ H (valV kvs k).isSome := fun H1 e Q q =>
  hk H1 e _ fun H2 e2 => h H2 (e.trans e2) _ fun H3 e3 => ⟨d, _, rfl, dget_rd (rd_ex ((e.trans e2).trans e3) hd), _, rfl, q H3 (e2.trans e3)⟩
theorem et_dnin (hk : Ev ty σ H (kV k)) (h : Ev td σ H (.ref d)) (hd : Rd H d (.dK kvs)) : EvT (tB (tDNotIn ty td)) σ H (!(valV kvs k).isSome) := fun H1 e Q q =>
  hk H1 e _ fun H2 e2 => h H2 (e.trans e2) _ fun H3 e3 => ⟨d, _, rfl, dget_rd (rd_ex ((e.trans e2).trans e3) hd), _, rfl, q H3 (e2.trans e3)⟩
theorem ev_din (hk : Ev ty σ H (kV k)) (h : Ev td σ H (.ref d)) (hd : Rd H d (.dK kvs)) : Ev (tDIn ty td) σ H (.bl (valV kvs k).isSome) := fun H1 e Q q =>
  hk H1 e _ fun H2 e2 => h H2 (e.trans e2) _ fun H3 e3 => ⟨d, _, rfl, dget_rd (rd_ex ((e.trans e2).trans e3) hd), q H3 (e2.trans e3)⟩
/-! ### comprehensions over a dict -/
theorem ex_lock {u : HO} {o : Obj} (e : Ex (upd H d (.frz o u)) H') (hd : H d = some u) : Ex H (upd H' d u) := fun a w h => by
  by_cases c : a = d
  · rw [c] at h ⊢
    rw [upd_same]
    rw [hd] at h
    exact h
  · rw [upd_ne c]
    exact e a w (by rw [upd_ne c]; exact h)
/-- [e for k in d if t] : new list of what is given -/
theorem el_lcK {j : Nat} {vs : List Nat} {tt : TT} (f : Nat → Bool) (g : Nat → V) (h : ∀ o, Ev td σ (upd H d (.frz o (.dK kvs))) (.ref d)) (hd : H d = some (.dK kvs)) (hz : kvs.length ≤ 40000) (hw : ∀ x, wipe ((wipe σ vs).set j (some x)) vs = wipe σ vs)
    (ht : ∀ (i : Nat) (k : Key) (v : V) o H1, kvs[i]? = some (k, v) → Ex (upd H d (.frz o (.dK kvs))) H1 → EvT tt ((wipe σ vs).set j (some (kV k))) H1 (f i))
    (he : ∀ (i : Nat) (k : Key) (v : V) o H1, kvs[i]? = some (k, v) → f i = true → Ex (upd H d (.frz o (.dK kvs))) H1 → Ev te ((wipe σ vs).set j (some (kV k))) H1 (g i)) :
    EvL (tLockE (tLc (iKeys td) (gName j) tt te vs)) σ H (given kvs.length f g) := fun H1 e0 Q q => by
  have hd1 := e0 _ _ hd
  refine ⟨d, .dK kvs, hd1, trivial, fun o => ?_⟩
  have eL : Ex (upd H d (.frz o (.dK kvs))) (upd H1 d (.frz o (.dK kvs))) := fun a w z => by
    by_cases c : a = d
    · rw [c] at z ⊢
      rw [upd_same] at z ⊢
      exact z
    · rw [upd_ne c] at z ⊢
      exact e0 a w z
  refine h o _ eL _ fun H2 e2 => ⟨d, o, rfl, .inl ⟨kvs, e2 _ _ upd_same, fun D hD => ?_⟩⟩
  have base := eL.trans e2
  have hd2 : H2 d = some (.frz o (.dK kvs)) := e2 _ _ upd_same
  refine lc_it walk_keys (fun i H' => H2 D = none ∧ Ex H2 H' ∧ H' D = some (.lst (given i f g))) ⟨hD, Ex.new hD, upd_same⟩ (fun i H' _ p => p.2.1 _ _ hd2) (fun i x H' H'' hi p y => ?_) fun H' p => ?_
  · obtain ⟨p1, p2, p3⟩ := p
    obtain ⟨rfl, k, v, hk, rfl⟩ := y
    refine ⟨hw _, ?_⟩
    refine ht i k v o _ hk (base.trans p2) H'' (Ex.refl _) _ fun H3 e3 => ?_
    have gl := given_len i f g
    cases hf : f i with
    | true =>
      rw [if_pos rfl]
      refine he i k v o _ hk hf ((base.trans p2).trans e3) H3 (Ex.refl _) _ fun H4 e4 => ⟨_, e4 _ _ (e3 _ _ p3), sz_lt (by omega), p1, Ex.mut ((p2.trans e3).trans e4) p1, ?_⟩
      rw [upd_same, given_yes hf]
    | false =>
      rw [if_neg (by decide)]
      refine ⟨p1, p2.trans e3, ?_⟩
      rw [given_no hf]
      exact e3 _ _ p3
  · obtain ⟨p1, p2, p3⟩ := p
    have nD : D ≠ d := fun z => by rw [z, hd2] at p1; cases p1
    refine ⟨p2 _ _ hd2, q D _ ?_ (ex_lock (e2.trans p2) hd1) (by rw [upd_ne nD]; exact p3)⟩
    have := fresh_back e2 p1
    rw [upd_ne nD] at this
    exact this
/-- given over a list that maps: filter and map -/
theorem given_map {α : Type} (l : List α) (p : α → Bool) (gg : α → V) (f : Nat → Bool) (g : Nat → V) (hf : ∀ (i : Nat) x, l[i]? = some x → f i = p x) (hg : ∀ (i : Nat) x, l[i]? = some x → g i = gg x) : given l.length f g = (l.filter p).map gg := by
  have key : ∀ n, n ≤ l.length → given n f g = ((l.take n).filter p).map gg := fun n => by
    induction n with
    | zero => exact fun _ => rfl
    | succ n ih =>
      intro hn
      have hx : l[n]? = some l[n] := List.getElem?_eq_getElem (by omega)
      have ih := ih (by omega)
      rw [List.take_succ, hx, List.filter_append, List.map_append, ← ih]
      cases q : p l[n] with
      | true =>
        rw [given_yes ((hf n _ hx).trans q), hg n _ hx]
        simp [q]
      | false =>
        rw [given_no ((hf n _ hx).trans q)]
        simp [q]
  rw [key l.length (Nat.le_refl _), List.take_length]
/-! ### statements -/
theorem s_dput {tv : TE} {D : Ends} (hv : Ev tv σ H v) (hd : Ev td σ H (.ref d)) (hk : Ev ty σ H (kV k)) (h : H d = some (.dK kvs)) (hl : kvs.length ≤ 50000) (n : ∀ H1, Ex H H1 → D.nx σ (upd H1 d (.dK (putK kvs k v)))) : sDPut td ty tv D σ H :=
  hv H (Ex.refl H) _ fun H1 e1 => hd H1 e1 _ fun H2 e2 => hk H2 (e1.trans e2) _ fun H3 e3 => ⟨d, _, rfl, DPut.k (((e1.trans e2).trans e3) _ _ h) (sz_lt (by omega)), n H3 ((e1.trans e2).trans e3)⟩
theorem q_dput {tv : TE} {D : Ends} {tz : TS} (hv : Ev tv σ H v) (hd : Ev td σ H (.ref d)) (hk : Ev ty σ H (kV k)) (h : H d = some (.dK kvs)) (hl : kvs.length ≤ 50000) (n : ∀ H1, Ex H H1 → tz D σ (upd H1 d (.dK (putK kvs k v)))) : tSeq (sDPut td ty tv) tz D σ H :=
  s_dput (D := { D with nx := tz D }) hv hd hk h hl n
theorem s_fldaug {tv : TE} {rd : V → V → Hp → VK → Prop} {D : Ends} {y z : V} (h : Ev to σ H (.ref x)) (hx : H x = some (.ins C dx fs)) (c : Cls K C) (n : NoAttr K C f) (l : fs.lookup f = some v) (hv : Ev tv σ H y) (hr : RV rd v y H z) (hl : fs.length < 1000)
    (k : ∀ H1, Ex H H1 → D.nx σ (upd H1 x (.ins C dx (putF f z fs)))) : sFldAug K to tv rd f D σ H :=
  h H (Ex.refl H) _ fun H1 e1 => ⟨x, C, dx, fs, v, rfl, e1 _ _ hx, c, n, l, hv H1 e1 _ fun H2 e2 => hr H2 (e1.trans e2) _ fun H3 e3 => ⟨dx, fs, ((e1.trans e2).trans e3) _ _ hx, hl, k H3 ((e1.trans e2).trans e3)⟩⟩
theorem q_fldaug {tv : TE} {rd : V → V → Hp → VK → Prop} {D : Ends} {tz : TS} {y z : V} (h : Ev to σ H (.ref x)) (hx : H x = some (.ins C dx fs)) (c : Cls K C) (n : NoAttr K C f) (l : fs.lookup f = some v) (hv : Ev tv σ H y) (hr : RV rd v y H z) (hl : fs.length < 1000)
    (k : ∀ H1, Ex H H1 → tz D σ (upd H1 x (.ins C dx (putF f z fs)))) : tSeq (sFldAug K to tv rd f) tz D σ H := s_fldaug (D := { D with nx := tz D }) h hx c n l hv hr hl k
theorem s_fld {tv : TE} {D : Ends} {y : V} (hv : Ev tv σ H y) (h : Ev to σ H (.ref x)) (hx : H x = some (.ins C dx fs)) (c : Cls K C) (n : NoAttr K C f) (hl : fs.length < 1000)
    (k : ∀ H1, Ex H H1 → D.nx σ (upd H1 x (.ins C dx (putF f y fs)))) : sFld K to tv f D σ H :=
  hv H (Ex.refl H) _ fun H1 e1 => h H1 e1 _ fun H2 e2 => ⟨x, C, dx, fs, rfl, (e1.trans e2) _ _ hx, c, n, hl, k H2 (e1.trans e2)⟩
/-- d.pop(k) as a value -/
theorem t_dpop {Q : VK} (h : Ev td σ H (.ref d)) (hk : Ev ty σ H (kV k)) (hd : H d = some (.dK kvs)) (hv : valV kvs k = some v) (q : ∀ H1, Ex H H1 → Q v (upd H1 d (.dK (dropK kvs k)))) : tDPop1 td ty σ H Q :=
  h H (Ex.refl H) _ fun H1 e1 => ⟨d, rfl, .inl ⟨kvs, .inl (e1 _ _ hd)⟩, hk H1 e1 _ fun H2 e2 => ⟨kvs, k, v, (e1.trans e2) _ _ hd, rfl, hv, q H2 (e1.trans e2)⟩⟩
theorem q_dpop {D : Ends} {tz : TS} (h : Ev td σ H (.ref d)) (hk : Ev ty σ H (kV k)) (hd : H d = some (.dK kvs)) (hv : valV kvs k = some v) (q : ∀ H1, Ex H H1 → tz D σ (upd H1 d (.dK (dropK kvs k)))) : tSeq (tDrop (tDPop1 td ty)) tz D σ H := t_dpop h hk hd hv q
theorem s_dpop {D : Ends} (h : Ev td σ H (.ref d)) (hk : Ev ty σ H (kV k)) (hd : H d = some (.dK kvs)) (hv : valV kvs k = some v) (q : ∀ H1, Ex H H1 → D.nx σ (upd H1 d (.dK (dropK kvs k)))) : tDrop (tDPop1 td ty) D σ H := t_dpop h hk hd hv q
/-- a method's call -/
theorem t_meth {m : Str} {sp : Sp} {E : XK} {t : TA} {Q : VK} {vs : List V} (h : Ev to σ H (.ref x)) (hx : H x = some (.ins C dx fs)) (l : fs.lookup m = none) (ha : EvA t σ H vs) (q : ∀ H1, Ex H H1 → sp (.ref x :: vs) H1 Q E) : tMeth C m sp [] E to t σ H Q :=
  h H (Ex.refl H) _ fun H1 e1 => ⟨x, dx, fs, rfl, e1 _ _ hx, l, ha H1 e1 _ fun H2 e2 => by
    rw [List.append_nil]
    exact q H2 (e1.trans e2)⟩
theorem q_meth {m : Str} {sp : Sp} {E : XK} {t : TA} {D : Ends} {tz : TS} {vs : List V} (h : Ev to σ H (.ref x)) (hx : H x = some (.ins C dx fs)) (l : fs.lookup m = none) (ha : EvA t σ H vs) (q : ∀ H1, Ex H H1 → sp (.ref x :: vs) H1 (fun _ H2 => tz D σ H2) E) : tSeq (tDrop (tMeth C m sp [] E to t)) tz D σ H := t_meth h hx l ha q
theorem s_meth {m : Str} {sp : Sp} {E : XK} {t : TA} {D : Ends} {vs : List V} (h : Ev to σ H (.ref x)) (hx : H x = some (.ins C dx fs)) (l : fs.lookup m = none) (ha : EvA t σ H vs) (q : ∀ H1, Ex H H1 → sp (.ref x :: vs) H1 (fun _ H2 => D.nx σ H2) E) : tDrop (tMeth C m sp [] E to t) D σ H := t_meth h hx l ha q
/-- o.f -= len(o.g.pop(k)) -/
theorem q_augpop {D : Ends} {tz : TS} {u : Int} {t : Str} (h : Ev to σ H (.ref x)) (hx : H x = some (.ins C dx fs)) (c : Cls K C) (n : NoAttr K C f) (l : fs.lookup f = some (.int u)) (hl : fs.length < 1000) (hd : Ev td σ H (.ref d)) (hk : Ev ty σ H (kV k)) (hdd : H d = some (.dK kvs)) (hv : valV kvs k = some (.str t))
    (hz : t.length ≤ 100000) (ne : x ≠ d) (q : ∀ H1, Ex H H1 → tz D σ (upd (upd H1 d (.dK (dropK kvs k))) x (.ins C dx (putF f (.int (u - (t.length : Nat))) fs)))) :
    tSeq (sFldAug K to (tCB (fun xs H Q => ∃ z, xs = [.str z] ∧ z.length ≤ sizeLine ∧ Q (.int z.length) H) (tCons (tDPop1 td ty) tNil)) (rI0 fun i j => .int (i - j)) f) tz D σ H :=
  h H (Ex.refl H) _ fun H1 e1 => ⟨x, C, dx, fs, _, rfl, e1 _ _ hx, c, n, l, t_dpop (hd.mono e1) (hk.mono e1) (e1 _ _ hdd) hv fun H2 e2 => ⟨t, rfl, sz_of hz, u, _, rfl, rfl, dx, fs, by rw [upd_ne ne]; exact (e1.trans e2) _ _ hx, hl, q H2 (e1.trans e2)⟩⟩
end
end Mx
set_option Elab.async false
set_option linter.all false
set_option maxRecDepth 100000
set_option maxHeartbeats 4000000
/-! Comprehensions over dicts whose items are data of a type; sorted lists. -/
namespace Mx
open PySem PySem.Spec PyProof.Rows L2 Evl TL
open PySem.W (Datum DatumOrd Tup)
section
variable {σ : L2.St} {H H' : Hp} {te ta tb to td ty tx : TE} {v z : V} {K : PySem.W.Frag} {d : Addr} {kvs : List (Key × V)}
theorem dt_lst_inv {α : Type} [DecidableEq α] [Datum α] {xs : List α} (h : Dt K H v xs) : ∃ a vs, v = .ref a ∧ SqL K H a vs ∧ DpAll K H vs (xs.map Datum.toD) := by
  have h' : Dp K H v (.list (xs.map Datum.toD)) := h
  cases h' with
  | lst hs ha => exact ⟨_, _, rfl, hs, ha⟩
theorem lock_ex {o : Obj} {H1 : Hp} {u : HO} (e0 : Ex H H1) : Ex (upd H d (.frz o u)) (upd H1 d (.frz o u)) := fun a w z => by
  by_cases c : a = d
  · rw [c] at z ⊢
    rw [upd_same] at z ⊢
    exact z
  · rw [upd_ne c] at z ⊢
    exact e0 a w z
def pickI {β : Type} (n : Nat) (f : Nat → Bool) (g : Nat → β) : List β := ((List.range n).filter f).map g
theorem pickI_yes {β : Type} {n : Nat} {f : Nat → Bool} {g : Nat → β} (h : f n = true) : pickI (n + 1) f g = pickI n f g ++ [g n] := by
  unfold pickI
  rw [List.range_succ, List.filter_append, List.map_append]
  simp [h]
theorem pickI_no {β : Type} {n : Nat} {f : Nat → Bool} {g : Nat → β} (h : f n = false) : pickI (n + 1) f g = pickI n f g := by
  unfold pickI
  rw [List.range_succ, List.filter_append, List.map_append]
  simp [h]
theorem pickI_len {β : Type} (n : Nat) (f : Nat → Bool) (g : Nat → β) : (pickI n f g).length ≤ n := by
  unfold pickI
  rw [List.length_map]
  exact Nat.le_trans (List.length_filter_le _ _) (by rw [List.length_range]; exact Nat.le_refl _)
/-- picked over a list that maps: filter and map -/
theorem pickI_map {α β : Type} (l : List α) (p : α → Bool) (gg : α → β) (f : Nat → Bool) (g : Nat → β) (hf : ∀ (i : Nat) x, l[i]? = some x → f i = p x) (hg : ∀ (i : Nat) x, l[i]? = some x → g i = gg x) : pickI l.length f g = (l.filter p).map gg := by
  have key : ∀ n, n ≤ l.length → pickI n f g = ((l.take n).filter p).map gg := fun n => by
    induction n with
    | zero => exact fun _ => rfl
    | succ n ih =>
      intro hn
      have hx : l[n]? = some l[n] := List.getElem?_eq_getElem (by omega)
      have ih := ih (by omega)
      rw [List.take_succ, hx, List.filter_append, List.map_append, ← ih]
      cases q : p l[n] with
      | true =>
        rw [pickI_yes ((hf n _ hx).trans q), hg n _ hx]
        simp [q]
      | false =>
        rw [pickI_no ((hf n _ hx).trans q)]
        simp [q]
  rw [key l.length (Nat.le_refl _), List.take_length]
/-- [e for k in d if t], data of a type -/
theorem evd_lcK {β : Type} [DecidableEq β] [Datum β] [Firm β] {j : Nat} {vs : List Nat} {tt : TT} (f : Nat → Bool) (g : Nat → β) (h : ∀ o, Ev td σ (upd H d (.frz o (.dK kvs))) (.ref d)) (hd : H d = some (.dK kvs)) (hz : kvs.length ≤ 40000) (hw : ∀ x, wipe ((wipe σ vs).set j (some x)) vs = wipe σ vs)
    (ht : ∀ (i : Nat) (k : Key) (v : V) o H1, kvs[i]? = some (k, v) → Ex (upd H d (.frz o (.dK kvs))) H1 → EvT tt ((wipe σ vs).set j (some (kV k))) H1 (f i))
    (he : ∀ (i : Nat) (k : Key) (v : V) o H1, kvs[i]? = some (k, v) → f i = true → Ex (upd H d (.frz o (.dK kvs))) H1 → EvD te K ((wipe σ vs).set j (some (kV k))) H1 (g i)) :
    EvD (tLockE (tLc (iKeys td) (gName j) tt te vs)) K σ H (pickI kvs.length f g) := fun H1 e0 Q q => by
  have hd1 := e0 _ _ hd
  refine ⟨d, .dK kvs, hd1, trivial, fun o => ?_⟩
  refine h o _ (lock_ex e0) _ fun H2 e2 => ⟨d, o, rfl, .inl ⟨kvs, e2 _ _ upd_same, fun D hD => ?_⟩⟩
  have base := (lock_ex (d := d) (o := o) (u := .dK kvs) e0).trans e2
  have hd2 : H2 d = some (.frz o (.dK kvs)) := e2 _ _ upd_same
  refine lc_it walk_keys (fun i H' => H2 D = none ∧ Ex H2 H' ∧ ∃ acc, H' D = some (.lst acc) ∧ DpAll K H' acc ((pickI i f g).map Datum.toD)) ⟨hD, Ex.new hD, [], upd_same, .nil⟩ (fun i H' _ p => p.2.1 _ _ hd2) (fun i x H' H'' hi p y => ?_) fun H' p => ?_
  · obtain ⟨p1, p2, acc, p3, p4⟩ := p
    obtain ⟨rfl, k, v, hk, rfl⟩ := y
    refine ⟨hw _, ?_⟩
    refine ht i k v o _ hk (base.trans p2) H'' (Ex.refl _) _ fun H3 e3 => ?_
    have gl := pickI_len i f g
    have al := dpAll_len p4
    cases hf : f i with
    | true =>
      rw [if_pos rfl]
      refine he i k v o _ hk hf ((base.trans p2).trans e3) H3 (Ex.refl _) _ fun y H4 e4 dy => ⟨acc, e4 _ _ (e3 _ _ p3), sz_lt (by omega), p1, Ex.mut ((p2.trans e3).trans e4) p1, acc ++ [y], upd_same, ?_⟩
      have U : Ux H4 (upd H4 D (.lst (acc ++ [y]))) := Ux.upd (e4 _ _ (e3 _ _ p3)) rfl
      rw [pickI_yes hf]
      exact dpAll_snoc (dpAll_uxT ((Ux.of (e3.trans e4)).trans U) p4) (dy.ux U)
    | false =>
      rw [if_neg (by decide)]
      refine ⟨p1, p2.trans e3, acc, e3 _ _ p3, ?_⟩
      rw [pickI_no hf]
      exact dpAll_ex e3 _ _ p4
  · obtain ⟨p1, p2, acc, p3, p4⟩ := p
    have nD : D ≠ d := fun z => by rw [z, hd2] at p1; cases p1
    refine ⟨p2 _ _ hd2, q _ _ (ex_lock (e2.trans p2) hd1) (dt_lst (sq_of (by rw [upd_ne nD]; exact p3)) (dpAll_uxT (Ux.upd (p2 _ _ hd2) rfl) p4))⟩
/-- [e for k, v in d.items() if t], data of a type -/
theorem evd_lcI {β : Type} [DecidableEq β] [Datum β] [Firm β] {a1 j : Nat} {vs : List Nat} {tt : TT} (f : Nat → Bool) (g : Nat → β) (h : ∀ o, Ev td σ (upd H d (.frz o (.dK kvs))) (.ref d)) (hd : H d = some (.dK kvs)) (hz : kvs.length ≤ 40000) (hw : ∀ x y, wipe (((wipe σ vs).set a1 (some x)).set j (some y)) vs = wipe σ vs)
    (ht : ∀ (i : Nat) (k : Key) (v : V) o H1, kvs[i]? = some (k, v) → Ex (upd H d (.frz o (.dK kvs))) H1 → EvT tt (((wipe σ vs).set a1 (some (kV k))).set j (some v)) H1 (f i))
    (he : ∀ (i : Nat) (k : Key) (v : V) o H1, kvs[i]? = some (k, v) → f i = true → Ex (upd H d (.frz o (.dK kvs))) H1 → EvD te K (((wipe σ vs).set a1 (some (kV k))).set j (some v)) H1 (g i)) :
    EvD (tLockE (tLc (iItems td) (gTup K 2 (gCons (gName a1) (gCons (gName j) gNil))) tt te vs)) K σ H (pickI kvs.length f g) := fun H1 e0 Q q => by
  have hd1 := e0 _ _ hd
  refine ⟨d, .dK kvs, hd1, trivial, fun o => ?_⟩
  refine h o _ (lock_ex e0) _ fun H2 e2 => ⟨d, o, kvs, rfl, e2 _ _ upd_same, fun D hD => ?_⟩
  have base := (lock_ex (d := d) (o := o) (u := .dK kvs) e0).trans e2
  have hd2 : H2 d = some (.frz o (.dK kvs)) := e2 _ _ upd_same
  refine lc_it walk_items (fun i H' => H2 D = none ∧ Ex H2 H' ∧ ∃ acc, H' D = some (.lst acc) ∧ DpAll K H' acc ((pickI i f g).map Datum.toD)) ⟨hD, Ex.new hD, [], upd_same, .nil⟩ (fun i H' _ p => p.2.1 _ _ hd2) (fun i x H' H'' hi p y => ?_) fun H' p => ?_
  · obtain ⟨p1, p2, acc, p3, p4⟩ := p
    obtain ⟨TT, x1, y1, rfl, hT, rfl, hx1, hy1⟩ := y
    have hk0 : kvs[i]? = some kvs[i] := List.getElem?_eq_getElem hi
    obtain ⟨k, v, hk⟩ : ∃ k v, kvs[i]? = some (k, v) := ⟨_, _, hk0⟩
    have hx1 : (kvs[i]?.map fun kv => kV kv.1) = some x1 := hx1
    have hy1 : kvs[i]?.map Prod.snd = some y1 := hy1
    rw [hk] at hx1 hy1
    cases hx1
    cases hy1
    have p3 : upd H' TT (.tup [kV k, v]) D = some (.lst acc) := by rw [upd_ne (fun z => by rw [← z, p3] at hT; cases hT)]; exact p3
    have p2 := p2.trans (Ex.new (o := .tup [kV k, v]) hT)
    have p4 := dpAll_ex (Ex.new (o := .tup [kV k, v]) hT) _ _ p4
    refine ⟨TT, _, rfl, st_of upd_same, rfl, _, _, rfl, _, _, rfl, rfl, hw _ _, ?_⟩
    refine ht i k v o _ hk (base.trans p2) _ (Ex.refl _) _ fun H3 e3 => ?_
    have gl := pickI_len i f g
    have al := dpAll_len p4
    cases hf : f i with
    | true =>
      rw [if_pos rfl]
      refine he i k v o _ hk hf ((base.trans p2).trans e3) H3 (Ex.refl _) _ fun y H4 e4 dy => ⟨acc, e4 _ _ (e3 _ _ p3), sz_lt (by omega), p1, Ex.mut ((p2.trans e3).trans e4) p1, acc ++ [y], upd_same, ?_⟩
      have U : Ux H4 (upd H4 D (.lst (acc ++ [y]))) := Ux.upd (e4 _ _ (e3 _ _ p3)) rfl
      rw [pickI_yes hf]
      exact dpAll_snoc (dpAll_uxT ((Ux.of (e3.trans e4)).trans U) p4) (dy.ux U)
    | false =>
      rw [if_neg (by decide)]
      refine ⟨p1, p2.trans e3, acc, e3 _ _ p3, ?_⟩
      rw [pickI_no hf]
      exact dpAll_ex e3 _ _ p4
  · obtain ⟨p1, p2, acc, p3, p4⟩ := p
    have nD : D ≠ d := fun z => by rw [z, hd2] at p1; cases p1
    refine ⟨p2 _ _ hd2, q _ _ (ex_lock (e2.trans p2) hd1) (dt_lst (sq_of (by rw [upd_ne nD]; exact p3)) (dpAll_uxT (Ux.upd (p2 _ _ hd2) rfl) p4))⟩
/-- sorted(x), x a list of data -/
theorem evd_sorted {α : Type} [DecidableEq α] [Datum α] {xs : List α} (h : EvD ta K σ H xs) (hl : xs.length ≤ 100000) : EvP (tCB (rSortedD α K) (tCons ta tNil)) σ H (fun v H2 => ∃ (p : Addr) (vs : List V), v = .ref p ∧ H p = none ∧ H2 p = some (.lst vs) ∧ DpAll K H2 vs ((sortD xs).map Datum.toD)) := fun H1 e Q q =>
  h H1 e _ fun v H2 e2 d => by
    obtain ⟨a, us, rfl, hs, hd⟩ := dt_lst_inv d
    exact ⟨a, us, xs, rfl, hs, hd, hl, fun us' p hp hd' => q _ _ (e2.trans (Ex.new hp)) ⟨p, us', rfl, fresh_back (e.trans e2) hp, upd_same, dpAll_ex (Ex.new hp) _ _ hd'⟩⟩
theorem sortD_perm {α : Type} [DecidableEq α] [Datum α] (xs : List α) : (sortD xs).Perm xs := List.mergeSort_perm _ _
/-- xs.pop(0)[i], xs a list of tuples -/
theorem t_pop0 {Q : VK} {tl : TE} {p a : Addr} {i : Int} {vs ys : List V} {y : V} (hl : Ev tl σ H (.ref p)) (hp : H p = some (.lst (.ref a :: vs))) (ha : SqT K H a ys) (hy : atI ys i = some y) (q : ∀ H1, Ex H H1 → Q y (upd H1 p (.lst vs))) :
    tOp (rIxT K) (tBM K "list" rPopAt tl (tCons (tC (.int 0)) tNil)) (tC (.int i)) σ H Q :=
  hl H (Ex.refl H) _ fun H1 e1 => ⟨.inl ⟨rfl, _, sq_of (e1 _ _ hp)⟩, p, _, 0, 0, _, rfl, rfl, e1 _ _ hp, by decide, by decide, by simp [seqIndex?], rfl, a, ys, i, y, rfl, rfl, ux_t (Ux.upd (e1 _ _ hp) rfl) (ex_t e1 ha), hy, q H1 e1⟩
theorem s_methM {m : Str} {sp : Sp} {E : XK} {t : TA} {D : Ends} {x C dx : Addr} {fs : List (Str × V)} (h : Ev to σ H (.ref x)) (hx : H x = some (.ins C dx fs)) (l : fs.lookup m = none) (q : ∀ H1, Ex H H1 → t σ H1 fun vs H2 => sp (.ref x :: (vs ++ [])) H2 (fun _ H3 => D.nx σ H3) E) : tDrop (tMeth C m sp [] E to t) D σ H :=
  h H (Ex.refl H) _ fun H1 e1 => ⟨x, dx, fs, rfl, e1 _ _ hx, l, q H1 e1⟩
theorem et_truL {p : Addr} {vs : List V} (h : Ev ta σ H (.ref p)) (hp : H p = some (.lst vs)) : EvT (fun σ H Q => ta σ H fun x H' => ∃ k, TruV K x H' k ∧ Q k H') σ H (!vs.isEmpty) := fun H1 e Q q =>
  h H1 e _ fun H2 e2 => ⟨_, .inl ⟨vs, sq_of ((e.trans e2) _ _ hp), rfl⟩, q H2 e2⟩
theorem uS {k : Nat} {A : Around} (r : Room k A) {α : Type} [DecidableEq α] [Datum α] (h : Datum.depth α ≤ 60) : A.units + 2 + Datum.depth α < cLine := by
  have := r.units
  omega
end
/-! ### rules by an explicit fragment -/
section
variable {X : Cx} {K' : PySem.W.Frag} {e : Expr} {f : Str} {pos : Pos} {ta : TE}
theorem pe_fldK (hK : X.K = K') (he : PE X e ta) (hb : attributeBase e f X.env (eval e X.env) = eval e X.env) : PE X (.Attribute e f pos) (tFld K' ta f) := by
  subst hK
  exact pe_fld he hb
end
/-! ### d.update(e), e another dict -/
section
variable {X : Cx} {o e : Expr} {apos cpos : Pos} {td ty : TE}
/-- both are dicts with plain keys; the first takes what the other has -/
def tDUpd (td ty : TE) : TE := fun σ H Q => td σ H fun x H1 => ∃ a, x = .ref a ∧ IsD H1 a ∧ ty σ H1 fun y H2 => ∃ kvs b more, H2 a = some (.dK kvs) ∧ y = .ref b ∧ Rd H2 b (.dK more) ∧ a ≠ b ∧ kvs.length + more.length ≤ sizeLine ∧ Q .non (upd H2 a (.dK (mergeK kvs more)))
theorem merge_len : ∀ (more kvs : List (Key × V)), (mergeK kvs more).length ≤ kvs.length + more.length
  | [], kvs => by
    show kvs.length ≤ _
    omega
  | m :: r, kvs => by
    show (mergeK (putK kvs m.1 m.2) r).length ≤ _
    have h1 := merge_len r (putK kvs m.1 m.2)
    have h2 : (putK kvs m.1 m.2).length ≤ kvs.length + 1 := by
      unfold putK
      split
      · rw [List.length_map]; omega
      · rw [List.length_append]; exact Nat.le_refl _
    simp only [List.length_cons]
    omega
theorem pe_dupd (ho : PE X o td) (he : PE X e ty) (m : M1 X o "update" apos e cpos) : PE X (.Call (.Attribute o "update" apos) [e] [] cpos) (tDUpd td ty) := by
  refine ⟨fun pins s σ H Q I h => ?_⟩
  refine wpAny_Call_method m.base m.few m.line PySem.F.plainAttrs_dict PySem.F.slot_dict_update PySem.F.type_dict_update (thn (ho.run pins s σ H _ I h) fun u s1 ⟨x, H1, I1, rx, a, ex, d, q1⟩ => ?_)
  subst ex
  obtain rfl : u = Value.ref a := rx
  obtain ⟨t1, t2, _⟩ := isD_at I1 d
  refine ⟨t1, t2, ?_⟩
  rw [m.trees]
  refine Calls.callWith_builtin rfl (Calls.evalArgs_plain (Calls.spliced_cons (thn (he.run pins s1 σ H1 _ I1 q1) fun iv s2 ⟨y, H2, I2, ry, kvs, b, more, ea, ey, eb, ne, hz, q2⟩ => Calls.spliced_nil ?_)))
  subst ey
  obtain rfl : iv = Value.ref b := ry
  obtain ⟨z, hd, vs, rel, dd⟩ := dk_of I2.hok ea
  obtain ⟨z2, hd2, vs2, rel2, dd2⟩ := dk_rd I2.hok eb
  refine call_meetsIn PySem.F.slot_dict_update dd.typeIs PySem.F.entry_dict_update (PySem.F.args_dict_update_2 _ _) (meets_dict_update (mixKind X.prog X.w) a b ne hd2)
    ⟨vs, vs2, dd, dd2, by rw [← rel.length, ← rel2.length]; exact hz, fun h' dd' _ hs => ?_⟩
  have hq : ∃ q, h'.get? a = some q := let ⟨q, _, _, hq, _⟩ := dd'; ⟨q, hq⟩
  refine ⟨.non, _, I2.write (e := a) (t' := s2.toks) (by rw [ea]; trivial) (.inl rfl) (fun c u hb hu => (hs.2 c hb).trans hu) hq (dk_new (Nat.le_trans (merge_len _ _) hz) hd (KV.merge rel2 rel) dd'), rfl, q2⟩
end
end Mx
set_option Elab.async false
set_option linter.all false
set_option maxRecDepth 100000
set_option maxHeartbeats 4000000
/-! Comprehensions over lists and tuples of data. -/
namespace Mx
open PySem PySem.Spec PyProof.Rows L2 Evl TL
open PySem.W (Datum DatumOrd Tup)
section
variable {σ : L2.St} {H H' : Hp} {te : TE} {v : V} {K : PySem.W.Frag} {α β : Type} [DecidableEq α] [Datum α] [DecidableEq β] [Datum β] [Firm β]
/-- one turn's end: the list so far grows by an item -/
theorem dp_step {H2 H4 : Hp} {D : Addr} {acc : List V} {y : V} {l : List β} {x : β} (hD : H2 D = some (.lst acc)) (e : Ex H2 H4) (d : DpAll K H2 acc (l.map Datum.toD)) (dy : Dt K H4 y x) : DpAll K (upd H4 D (.lst (acc ++ [y]))) (acc ++ [y]) ((l ++ [x]).map Datum.toD) := by
  have U : Ux H4 (upd H4 D (.lst (acc ++ [y]))) := Ux.upd (e _ _ hD) rfl
  exact dpAll_snoc (dpAll_uxT ((Ux.of e).trans U) d) (dy.ux U)
/-- [e for x in xs if t], xs a list of data -/
theorem evd_lcLd {tl : TE} {tt : TT} {j : Nat} {vs : List Nat} {xs : List α} (p : α → Bool) (g : α → β) (h : EvP tl σ H fun v H2 => Dt K H2 v xs) (hz : xs.length ≤ 40000) (hw : ∀ x, wipe ((wipe σ vs).set j (some x)) vs = wipe σ vs)
    (ht : ∀ (x : α) (v : V) H1, x ∈ xs → Dt K H1 v x → Ex H H1 → EvT tt ((wipe σ vs).set j (some v)) H1 (p x))
    (he : ∀ (x : α) (v : V) H1, x ∈ xs → p x = true → Dt K H1 v x → Ex H H1 → EvD te K ((wipe σ vs).set j (some v)) H1 (g x)) : EvD (tLc (iList K tl) (gName j) tt te vs) K σ H ((xs.filter p).map g) := fun H0 e0 Q q =>
  h H0 e0 _ fun v H1 e1 d => by
    obtain ⟨a, us, rfl, hs, hd⟩ := dt_lst_inv d
    obtain ⟨lu, fu⟩ := dpAll_at hd
    refine ⟨a, rfl, ⟨us, hs⟩, fun D hD => ?_⟩
    have E := e0.trans e1
    refine lc_list (xs := us) (fun i H' => H1 D = none ∧ Ex H1 H' ∧ ∃ acc, H' D = some (.lst acc) ∧ DpAll K H' acc ((((xs.take i).filter p).map g).map Datum.toD)) ⟨hD, Ex.new hD, [], upd_same, .nil⟩ (fun i H' _ z => ex_l z.2.1 hs) (fun i y H' hi z => ?_) fun H' z => ?_
    · obtain ⟨p1, p2, acc, p3, p4⟩ := z
      obtain ⟨x, hx, dx⟩ := fu i y hi
      have mx := List.mem_of_getElem? hx
      refine ⟨hw _, ?_⟩
      refine ht x y H' mx (dx.ex p2) (E.trans p2) H' (Ex.refl _) _ fun H3 e3 => ?_
      have al := dpAll_len p4
      have lt : (((xs.take i).filter p).map g).length ≤ 40000 := by
        rw [List.length_map]
        refine Nat.le_trans (List.length_filter_le _ _) ?_
        rw [List.length_take]
        omega
      cases hf : p x with
      | true =>
        rw [if_pos rfl]
        refine he x y H3 mx hf (dx.ex (p2.trans e3)) (E.trans (p2.trans e3)) H3 (Ex.refl _) _ fun w H4 e4 dw => ⟨acc, e4 _ _ (e3 _ _ p3), sz_lt (by omega), p1, Ex.mut (p2.trans (e3.trans e4)) p1, acc ++ [w], upd_same, ?_⟩
        have z := dp_step (x := g x) p3 (e3.trans e4) p4 dw
        rw [List.take_succ, hx, List.filter_append, List.map_append]
        simpa [hf] using z
      | false =>
        rw [if_neg (by decide)]
        refine ⟨p1, p2.trans e3, acc, e3 _ _ p3, ?_⟩
        rw [List.take_succ, hx, List.filter_append, List.map_append]
        have z := dpAll_ex e3 _ _ p4
        simpa [hf] using z
    · obtain ⟨p1, p2, acc, p3, p4⟩ := z
      rw [lu, List.take_length] at p4
      exact q _ H' (e1.trans p2) (dt_lst (sq_of p3) p4)
/-- tuple(a list of data) -/
theorem evd_tupOf {tl : TE} {xs : List β} (h : EvD tl K σ H xs) : EvD (tThen tl (kTup K)) K σ H (Tup.mk xs) := fun H0 e0 Q q =>
  h H0 e0 _ fun v H1 e1 d => by
    obtain ⟨a, us, rfl, hs, hd⟩ := dt_lst_inv d
    exact .inl ⟨a, us, rfl, hs, fun p hp => q _ _ (e1.trans (Ex.new hp)) (dt_tup (st_of upd_same) (dpAll_ex (Ex.new hp) _ _ hd))⟩
/-- [e for a, b in t], t a tuple of pairs -/
theorem evd_lcTp {γ : Type} [DecidableEq γ] [Datum γ] {tl : TE} {a1 j : Nat} {vs : List Nat} {xs : List (α × γ)} (g : α × γ → β) (h : EvD tl K σ H (Tup.mk xs)) (hz : xs.length ≤ 40000) (hw : ∀ x y, wipe (((wipe σ vs).set a1 (some x)).set j (some y)) vs = wipe σ vs)
    (he : ∀ (x : α × γ) (v w : V) H1, x ∈ xs → Dt K H1 v x.1 → Dt K H1 w x.2 → Ex H H1 → EvD te K (((wipe σ vs).set a1 (some v)).set j (some w)) H1 (g x)) : EvD (tLc (iTup K tl) (gTup K 2 (gCons (gName a1) (gCons (gName j) gNil))) tYes te vs) K σ H (xs.map g) := fun H0 e0 Q q =>
  h H0 e0 _ fun v H1 e1 d => by
    obtain ⟨a, us, rfl, hs, hd⟩ := dt_tup_inv (xs := xs) d
    obtain ⟨lu, fu⟩ := dpAll_at hd
    refine ⟨a, rfl, ⟨us, hs⟩, fun D hD => ?_⟩
    have E := e0.trans e1
    refine lc_tup (xs := us) (fun i H' => H1 D = none ∧ Ex H1 H' ∧ ∃ acc, H' D = some (.lst acc) ∧ DpAll K H' acc (((xs.take i).map g).map Datum.toD)) ⟨hD, Ex.new hD, [], upd_same, .nil⟩ (fun i H' _ z => ex_t z.2.1 hs) (fun i y H' hi z => ?_) fun H' z => ?_
    · obtain ⟨p1, p2, acc, p3, p4⟩ := z
      obtain ⟨x, hx, dx⟩ := fu i y hi
      have mx := List.mem_of_getElem? hx
      obtain ⟨x1, x2⟩ := x
      obtain ⟨q1, u, z, rfl, hq, du, dz⟩ := dt_pair_inv dx
      have al := dpAll_len p4
      have lt : ((xs.take i).map g).length ≤ 40000 := by
        rw [List.length_map, List.length_take]
        omega
      refine ⟨q1, _, rfl, ex_t p2 hq, rfl, _, _, rfl, _, _, rfl, rfl, hw _ _, ?_⟩
      refine he (x1, x2) u z H' mx (du.ex p2) (dz.ex p2) (E.trans p2) H' (Ex.refl _) _ fun w H4 e4 dw => ⟨acc, e4 _ _ p3, sz_lt (by omega), p1, Ex.mut (p2.trans e4) p1, acc ++ [w], upd_same, ?_⟩
      have z := dp_step (x := g (x1, x2)) p3 e4 p4 dw
      rw [List.take_succ, hx, List.map_append]
      simpa using z
    · obtain ⟨p1, p2, acc, p3, p4⟩ := z
      rw [lu, List.take_length] at p4
      exact q _ H' (e1.trans p2) (dt_lst (sq_of p3) p4)
theorem dpAll_bools {H : Hp} : ∀ {bs : List Bool} {us : List V}, DpAll K H us (bs.map (Datum.toD (α := Bool))) → us = bs.map V.bl
  | [], _, h => by cases h; rfl
  | b :: bs, _, h => by
    cases h with
    | cons h1 h2 =>
      cases h1
      rw [dpAll_bools h2]
      rfl
theorem ev_allD {bs : List Bool} (h : EvD te K σ H bs) : Ev (tCB (rAll K) (tCons te tNil)) σ H (.bl (bs.all id)) := fun H1 e Q q =>
  h H1 e _ fun v H2 e2 d => by
    obtain ⟨a, us, rfl, hs, hd⟩ := dt_lst_inv d
    rw [dpAll_bools hd] at hs
    exact ⟨a, bs, rfl, hs, q H2 e2⟩
end
end Mx
set_option Elab.async false
set_option linter.all false
set_option maxRecDepth 100000
set_option maxHeartbeats 4000000
/-! The law's tape: a dict that every draw changes; its promise says of a draw only where it lies. -/
namespace Mx
open PySem PySem.Spec PyProof.Rows L2
def top (i : Nat) : Stmt := PySem.Challenge.pw_sameinsameout_k11_whole_stores.main.body.getD i (.Pass ⟨0, 0, 0, 0⟩)
abbrev sTape : Stmt := top 15
abbrev sTake : Stmt := top 16

def kvT (c : Addr) (a l sd st : Int) : List (Key × V) := [(.inr "cells", .ref c), (.inr "at", .int a), (.inr "left", .int l), (.inr "seed", .int sd), (.inr "salt", .int st)]
theorem vS {k : Str} {v : V} {r : List (Key × V)} : valV ((Sum.inr k, v) :: r) (Sum.inr k) = some v := valV_pos rfl
theorem vN {k j : Str} {v : V} {r : List (Key × V)} (h : ¬ k = j) : valV ((Sum.inr k, v) :: r) (Sum.inr j) = valV r (Sum.inr j) := valV_neg fun e => h (Sum.inr.inj e)
theorem pS {k : Str} {v x : V} {r : List (Key × V)} (h : ∀ q ∈ r, ¬ q.1 = Sum.inr k) : putK ((Sum.inr k, v) :: r) (Sum.inr k) x = (Sum.inr k, x) :: r := by
  have e1 : (((Sum.inr k : Key), v) :: r).any (fun kv => decide (kv.1 = Sum.inr k)) = true := by rw [List.any_cons]; simp
  have e2 : r.map (fun kv => if kv.1 = Sum.inr k then (kv.1, x) else kv) = r := by
    refine (List.map_congr_left fun q hq => ?_).trans (List.map_id r)
    rw [if_neg (h q hq)]
    rfl
  unfold putK
  rw [if_pos e1, List.map_cons, if_pos rfl, e2]
theorem pN {k j : Str} {v x : V} {r : List (Key × V)} (h : ¬ k = j) (hr : (valV r (Sum.inr j)).isSome = true) : putK ((Sum.inr k, v) :: r) (Sum.inr j) x = (Sum.inr k, v) :: putK r (Sum.inr j) x := by
  have hk : ¬ (Sum.inr k : Key) = Sum.inr j := fun e => h (Sum.inr.inj e)
  have e0 : r.any (fun kv => decide (kv.1 = Sum.inr j)) = true := by rw [valV_any]; exact hr
  have e1 : (((Sum.inr k : Key), v) :: r).any (fun kv => decide (kv.1 = Sum.inr j)) = true := by rw [List.any_cons, e0, Bool.or_true]
  unfold putK
  rw [if_pos e1, if_pos e0, List.map_cons, if_neg hk]
section
variable {c : Addr} {a l sd st x : Int}
theorem kvT_cells : valV (kvT c a l sd st) (.inr "cells") = some (.ref c) := vS
theorem kvT_at : valV (kvT c a l sd st) (.inr "at") = some (.int a) := (vN (by decide +kernel)).trans vS
theorem kvT_left : valV (kvT c a l sd st) (.inr "left") = some (.int l) := (vN (by decide +kernel)).trans ((vN (by decide +kernel)).trans vS)
theorem kvT_seed : valV (kvT c a l sd st) (.inr "seed") = some (.int sd) := (vN (by decide +kernel)).trans ((vN (by decide +kernel)).trans ((vN (by decide +kernel)).trans vS))
theorem kvT_salt : valV (kvT c a l sd st) (.inr "salt") = some (.int st) := (vN (by decide +kernel)).trans ((vN (by decide +kernel)).trans ((vN (by decide +kernel)).trans ((vN (by decide +kernel)).trans vS)))
theorem putT_at : putK (kvT c a l sd st) (.inr "at") (.int x) = kvT c x l sd st := by
  unfold kvT
  rw [pN (by decide +kernel) (by rw [vS]; rfl), pS]
  intro q hq
  simp only [List.mem_cons, List.mem_nil_iff, or_false] at hq
  rcases hq with rfl | rfl | rfl <;> (intro e; exact absurd (Sum.inr.inj e) (by decide +kernel))
theorem putT_left : putK (kvT c a l sd st) (.inr "left") (.int x) = kvT c a x sd st := by
  unfold kvT
  rw [pN (by decide +kernel) (by rw [vN (by decide +kernel), vS]; rfl), pN (by decide +kernel) (by rw [vS]; rfl), pS]
  intro q hq
  simp only [List.mem_cons, List.mem_nil_iff, or_false] at hq
  rcases hq with rfl | rfl <;> (intro e; exact absurd (Sum.inr.inj e) (by decide +kernel))
theorem putT_salt : putK (kvT c a l sd st) (.inr "salt") (.int x) = kvT c a l sd x := by
  unfold kvT
  rw [pN (by decide +kernel) (by rw [vN (by decide +kernel), vN (by decide +kernel), vN (by decide +kernel), vS]; rfl), pN (by decide +kernel) (by rw [vN (by decide +kernel), vN (by decide +kernel), vS]; rfl), pN (by decide +kernel) (by rw [vN (by decide +kernel), vS]; rfl), pN (by decide +kernel) (by rw [vS]; rfl), pS]
  intro q hq
  exact absurd hq (by simp)
end
/-- the tape's numbers -/
structure TapeOk (n : Nat) (a l sd : Int) : Prop where
  a0 : 0 ≤ a
  a1 : a ≤ n
  l0 : 0 ≤ l
  s0 : 0 ≤ sd
  s1 : sd < 2147483647
/-- take(tape, many), the dict told as it is -/
def spTake0 : Sp := fun vs H Q _ => ∃ (p c : Addr) (cs : List Int) (a l sd st m : Int), vs = [.ref p, .int m] ∧ H p = some (.dK (kvT c a l sd st)) ∧ H c = some (.lst (cs.map V.int)) ∧ (∀ z ∈ cs, 0 ≤ z) ∧ TapeOk cs.length a l sd ∧
  0 < m ∧ m < 1000000 ∧ ∀ d a' l' st' : Int, 0 ≤ d → d < m → TapeOk cs.length a' l' sd → Q (.int d) (upd H p (.dK (kvT c a' l' sd st')))
section
variable {P : Program} {w : World} {K : PySem.W.Frag} {mg : Str → Option Value} {base : Heap}
structure BtTake (mg : Str → Option Value) : Prop where
  int : mg "int" = none
  len : mg "len" = none
theorem scTake : FnScope ["tape", "many", "drawn", "mixed"] ["tape", "many"] (defScope sTake) := ⟨rfl, rfl, rfl, by decide +kernel, rfl, by decide +kernel, by decide +kernel⟩
theorem ok_take0 {f : Addr} {fd : FuncData} (F : Fun K "_law_take" "_law_take" sTake f fd) (B : BtTake mg) : FnOk P w K mg base CX0 1 f fd ["tape", "many"] spTake0 := by
  refine F.ok scTake (fun vs H Q E h => ?_) (fun cdv A outer s H vs Q E hr h => ?_)
  · obtain ⟨p, c, cs, a, l, sd, st, m, rfl, _⟩ := h
    rfl
  · obtain ⟨p, c, cs, a, l, sd, st, m, rfl, hp, hc, hnn, T, m0, m1, k⟩ := h
    have hu := hu_of hr
    have dg : ∀ {H' : Hp} {a l st : Int} {j : Str} {v : V}, H' = upd H p (.dK (kvT c a l sd st)) → valV (kvT c a l sd st) (.inr j) = some v → DGet H' p (.str j) (some v) := fun {H' a l st j v} e e2 => by
      have z := DGet.k (H := H') (a := p) (k := Sum.inr j) (kvs := kvT c a l sd st) (by rw [e, upd_same])
      rw [e2] at z
      exact z
    have dp : ∀ {H' : Hp} {a l st a' l' st' : Int} {j : Str} {v : V}, H' = upd H p (.dK (kvT c a l sd st)) → putK (kvT c a l sd st) (.inr j) v = kvT c a' l' sd st' → DPut H' p (.str j) v (upd H p (.dK (kvT c a' l' sd st'))) := fun {H' a l st a' l' st' j v} e e2 => by
      have z := DPut.k (H := H') (a := p) (k := Sum.inr j) (v := v) (kvs := kvT c a l sd st) (by rw [e, upd_same]) (by show 5 < sizeLine; decide)
      rw [e2, e, upd_upd] at z
      rw [e]
      exact z
    have h0 : H = upd H p (.dK (kvT c a l sd st)) := by
      funext b
      by_cases e : b = p
      · rw [e, upd_same, hp]
      · rw [upd_ne e]
    have npc : c ≠ p := ne_of hc hp (by intro z; cases z)
    have hcl : ∀ {H' : Hp} {o : HO}, H' = upd H p o → H' c = some (.lst (cs.map V.int)) := fun e => by rw [e, upd_ne npc, hc]
    refine ⟨_,
      Evl.pss_cut (ps_if (pw_and (pt_cmpR op_eq (pe_dget hu (pv 0) pe_str (fun _ _ => rfl)) pe_int (nomark _)) (pw_and1 (pt_cmpR op_lt (pe_dget hu (pv 0) pe_str (fun _ _ => rfl)) (pe_callB call_len_seq (by rfl) B.len PySem.boot_len (pa_cons (pe_dget hu (pv 0) pe_str (fun _ _ => rfl)) pa_nil)) (nomark _)))).pt
          (pss_cons (ps_dput hu (pv 0) pe_str (pe_ix ix_list (pe_dget hu (pv 0) pe_str (fun _ _ => rfl)) (pe_dget hu (pv 0) pe_str (fun _ _ => rfl)) (fun _ _ => rfl)) rfl)
          (pss_one (ps_dput hu (pv 0) pe_str (pe_op op_add (pe_dget hu (pv 0) pe_str (fun _ _ => rfl)) pe_int) rfl))) pss_nil)
      (pss_cons (ps_if (pt_cmpR op_gt (pe_dget hu (pv 0) pe_str (fun _ _ => rfl)) pe_int (nomark _))
          (pss_cons (ps_set (i := 2) scTake.nd rfl (Or.inl rfl) (pe_op op_mod (pe_callTy call_int1 (by rfl) B.int (by decide +kernel) (pa_cons (pe_dget hu (pv 0) pe_str (fun _ _ => rfl)) pa_nil)) (pv 1)))
          (pss_cons (ps_dput hu (pv 0) pe_str (pe_op op_fdiv (pe_dget hu (pv 0) pe_str (fun _ _ => rfl)) (pv 1)) rfl)
          (pss_one (ps_ret (pv 2))))) pss_nil)
      (pss_cons (ps_dput hu (pv 0) pe_str (pe_op op_add (pe_dget hu (pv 0) pe_str (fun _ _ => rfl)) pe_int) rfl)
      (pss_cons (ps_set (i := 3) scTake.nd rfl (Or.inl rfl) (pe_op op_mod (pe_callTy call_int1 (by rfl) B.int (by decide +kernel) (pa_cons (pe_op op_add (pe_op op_mul (pe_dget hu (pv 0) pe_str (fun _ _ => rfl)) pe_int) (pe_op op_mul (pe_dget hu (pv 0) pe_str (fun _ _ => rfl)) pe_int)) pa_nil)) pe_int))
      (pss_cons (ps_set (i := 3) scTake.nd rfl (Or.inl rfl) (pe_op op_mod (pe_callTy call_int1 (by rfl) B.int (by decide +kernel) (pa_cons (pe_op op_add (pe_op op_add (pe_op op_mul (pv 3) (pv 3)) (pe_op op_mul (pe_dget hu (pv 0) pe_str (fun _ _ => rfl)) pe_int)) pe_int) pa_nil)) pe_int))
      (pss_one (ps_ret (pe_op op_mod (pe_callTy call_int1 (by rfl) B.int (by decide +kernel) (pa_cons (pv 3) pa_nil)) (pv 1)))))))), ?_⟩
    refine ⟨fun σ' H' => ∃ a l : Int, σ' = [some (.ref p), some (.int m), none, none] ∧ TapeOk cs.length a l sd ∧ H' = upd H p (.dK (kvT c a l sd st)), ?_, ?_⟩
    · refine ⟨_, rfl, _, _, rfl, dg h0 kvT_left, rfl, _, rfl, ?_⟩
      refine ite2 (fun _ => ?_) fun _ => iteF ⟨a, l, rfl, T, h0⟩
      refine ⟨_, rfl, _, _, rfl, dg h0 kvT_at, _, rfl, _, _, rfl, dg h0 kvT_cells, c, _, rfl, .inl (SqL.of hc), _, _, rfl, rfl, _, rfl, ?_⟩
      refine ite2 (fun lt => ?_) fun _ => ⟨a, l, rfl, T, h0⟩
      have lt : a < (cs.length : Int) := by
        have z := of_decide_eq_true lt
        rw [List.length_map] at z
        exact z
      obtain ⟨j, rfl⟩ := Int.eq_ofNat_of_zero_le T.a0
      have hj : j < cs.length := by omega
      refine ⟨_, rfl, _, _, rfl, dg h0 kvT_cells, _, rfl, _, _, rfl, dg h0 kvT_at, c, _, _, V.int cs[j], rfl, rfl, SqL.of hc, ?_, ?_⟩
      · refine atI_nat ?_
        rw [List.getElem?_map, List.getElem?_eq_getElem hj]
        rfl
      refine ⟨_, rfl, p, _, rfl, dp h0 putT_left, ?_⟩
      refine ⟨_, rfl, _, _, rfl, dg rfl kvT_at, _, _, rfl, rfl, _, rfl, p, _, rfl, dp rfl putT_at, ?_⟩
      exact ⟨(j : Int) + 1, cs[j], rfl, ⟨by omega, by omega, hnn _ (List.getElem_mem hj), T.s0, T.s1⟩, rfl⟩
    · rintro _ H1 ⟨a1, l1, rfl, T1, e1⟩
      refine ⟨_, rfl, _, _, rfl, dg e1 kvT_left, _, _, rfl, rfl, _, rfl, ?_⟩
      refine ite2 (fun lt => ?_) fun _ => ?_
      · have lt : (0 : Int) < l1 := of_decide_eq_true lt
        refine ⟨_, rfl, _, _, rfl, dg e1 kvT_left, .inl ⟨_, rfl, _, rfl, _, _, rfl, rfl, m0, ?_⟩⟩
        refine ⟨_, rfl, _, _, rfl, dg e1 kvT_left, _, rfl, _, _, rfl, rfl, ⟨m0, by omega⟩, _, rfl, p, _, rfl, dp e1 putT_left, ?_⟩
        refine ⟨_, rfl, ?_⟩
        refine k (l1 % m) a1 (l1 / m) st (Int.emod_nonneg _ (by omega)) (Int.emod_lt_of_pos _ m0) ⟨T1.a0, T1.a1, Int.ediv_nonneg T1.l0 (by omega), T1.s0, T1.s1⟩
      · refine ⟨_, rfl, _, _, rfl, dg e1 kvT_salt, _, _, rfl, rfl, _, rfl, p, _, rfl, dp e1 putT_salt, ?_⟩
        refine ⟨_, rfl, _, _, rfl, dg rfl kvT_seed, _, _, rfl, rfl, .inr (by decide), _, rfl, _, _, rfl, dg rfl kvT_salt, _, _, rfl, rfl, .inr (by decide), _, _, rfl, rfl, .inl ⟨_, rfl, _, _, rfl, rfl, (by show (0 : Int) < 2147483647; decide), ?_⟩⟩
        generalize hx : (sd * 48271 + (st + 1) * 69621) % 2147483647 = x
        have x0 : 0 ≤ x := by rw [← hx]; exact Int.emod_nonneg _ (by decide)
        have x1 : x < 2147483647 := by rw [← hx]; exact Int.emod_lt_of_pos _ (by decide)
        refine ⟨_, rfl, _, rfl, _, _, rfl, rfl, .inl ⟨by omega, by omega⟩, _, rfl, _, _, rfl, dg rfl kvT_salt, _, _, rfl, rfl, .inr (by decide), _, _, rfl, rfl, _, _, rfl, rfl, .inl ⟨_, rfl, _, _, rfl, rfl, (by show (0 : Int) < 2147483399; decide), ?_⟩⟩
        refine ⟨_, rfl, .inl ⟨_, rfl, _, rfl, _, _, rfl, rfl, m0, ?_⟩⟩
        exact k _ a1 l1 (st + 1) (Int.emod_nonneg _ (by omega)) (Int.emod_lt_of_pos _ m0) T1
/-! ### the tape as one thing that stays -/
/-- at p: a tape over the cells at c -/
def TapeIs (P : Program) (w : World) (p c : Addr) (n : Nat) (h : Heap) : Prop := ∃ a l sd st : Int, TapeOk n a l sd ∧ ObjOk P w (fun _ => none) h p (.dK (kvT c a l sd st))
def tapeO (P : Program) (w : World) (p c : Addr) (n : Nat) : HO := .ext (TapeIs P w p c n)
theorem dK_any {P : Program} {w : World} {H H' : Hp} {h h' : Heap} {p : Addr} {kvs : List (Key × V)} (x : ObjOk P w H h p (.dK kvs)) (k : ∀ o, h.get? p = some o → h'.get? p = some o) : ObjOk P w H' h' p (.dK kvs) := by
  obtain ⟨z, y, vs, r, ob, es, ep, e, c⟩ := x
  exact ⟨z, y, vs, r, ob, es, ep, k _ e, c⟩
theorem dK_get {P : Program} {w : World} {H : Hp} {h : Heap} {p : Addr} {kvs : List (Key × V)} (x : ObjOk P w H h p (.dK kvs)) : ∃ o, h.get? p = some o := by
  obtain ⟨_, _, _, _, ob, _, _, e, _⟩ := x
  exact ⟨ob, e⟩
theorem tape_ok {H H' : Hp} {h : Heap} {p c : Addr} {n : Nat} {a l sd st : Int} (T : TapeOk n a l sd) (x : ObjOk P w H h p (.dK (kvT c a l sd st))) : ObjOk P w H' h p (tapeO P w p c n) :=
  ⟨⟨a, l, sd, st, T, dK_any x fun _ e => e⟩, dK_get x, fun _ _ ⟨a, l, sd, st, T, x⟩ k => ⟨a, l, sd, st, T, dK_any x k⟩⟩
/-- a tape stands at p over the cells at c -/
def TapeAt (P : Program) (w : World) (H : Hp) (p : Addr) : Prop := ∃ (c : Addr) (cs : List Int), H p = some (tapeO P w p c cs.length) ∧ H c = some (.lst (cs.map V.int)) ∧ ∀ z ∈ cs, 0 ≤ z
theorem TapeAt.ex {H H' : Hp} {p : Addr} (T : TapeAt P w H p) (e : Evl.Ex H H') : TapeAt P w H' p := by
  obtain ⟨c, cs, h1, h2, h3⟩ := T
  exact ⟨c, cs, e _ _ h1, e _ _ h2, h3⟩
/-- take(tape, many): a number below; nothing changes that is told -/
def spTake (P : Program) (w : World) : Sp := fun vs H Q _ => ∃ (p : Addr) (m : Int), vs = [.ref p, .int m] ∧ TapeAt P w H p ∧ 0 < m ∧ m < 1000000 ∧ ∀ d : Int, 0 ≤ d → d < m → Q (.int d) H
theorem ok_take {f : Addr} {fd : FuncData} (F : Fun K "_law_take" "_law_take" sTake f fd) (B : BtTake mg) : FnOk P w K mg base CX0 1 f fd ["tape", "many"] (spTake P w) := by
  refine FnOk.retype (ok_take0 F B) (fun vs H Q E h => ?_) (fun vs H Q E hp ok h => ?_)
  · obtain ⟨p, m, rfl, _⟩ := h
    rfl
  · obtain ⟨p, m, rfl, ⟨c, cs, h1, h2, h3⟩, m0, m1, k⟩ := h
    have npc : c ≠ p := ne_of h2 h1 (by intro z; cases z)
    obtain ⟨⟨a, l, sd, st, T, x⟩, _, _⟩ := ok p _ h1
    refine ⟨upd H p (.dK (kvT c a l sd st)), HOk.retype ok h1 rfl (dK_any x fun _ e => e), Compat.upd h1 rfl rfl, p, c, cs, a, l, sd, st, m, rfl, upd_same, by rw [upd_ne npc]; exact h2, h3, T, m0, m1, ?_⟩
    intro d a' l' st' d0 d1 T' h' ok'
    have e1 : upd (upd H p (.dK (kvT c a l sd st))) p (.dK (kvT c a' l' sd st')) p = some (.dK (kvT c a' l' sd st')) := upd_same
    have e2 : upd (upd (upd H p (.dK (kvT c a l sd st))) p (.dK (kvT c a' l' sd st'))) p (tapeO P w p c cs.length) = H := by
      rw [upd_upd, upd_upd]
      funext b
      by_cases e : b = p
      · rw [e, upd_same, h1]
      · rw [upd_ne e]
    have z := HOk.retype ok' e1 rfl (tape_ok T' (ok' p _ e1))
    have z2 := Compat.upd (o2 := tapeO P w p c cs.length) e1 rfl rfl
    rw [e2] at z z2
    exact ⟨H, z, z2, k d d0 d1⟩
/-! ### law_tape(script) -/
structure BtTape (mg : Str → Option Value) : Prop where
  int : mg "int" = none
  abs : mg "abs" = none
/-- a new tape -/
def spTape0 (K : PySem.W.Frag) : Sp := fun vs H Q _ => ∃ (a : Addr) (ns : List Int), vs = [.ref a] ∧ SqL K H a (ns.map V.int) ∧ ns.length ≤ 63 ∧
  ∀ (p c : Addr) (cs : List Int) (sd : Int) (H' : Hp), Evl.Ex H H' → H p = none → H' p = some (.dK (kvT c 0 0 sd 0)) → H' c = some (.lst (cs.map V.int)) → (∀ z ∈ cs, 0 ≤ z) → 0 ≤ sd → sd < 2147483647 → Q (.ref p) H'
theorem scTape : FnScope ["script", "cells", "seed", "cell"] ["script"] (defScope sTape) := ⟨rfl, rfl, rfl, by decide +kernel, rfl, by decide +kernel, by decide +kernel⟩
theorem valV_new {kvs : List (Key × V)} {k : Key} (h : ¬ k ∈ kvs.map (·.1)) : valV kvs k = none := by
  cases e : valV kvs k with
  | none => rfl
  | some v => exact absurd (valV_in e) h
theorem merge_new : ∀ (more acc : List (Key × V)), (∀ kv ∈ more, ¬ kv.1 ∈ acc.map (·.1)) → (more.map (·.1)).Nodup → mergeK acc more = acc ++ more
  | [], acc, _, _ => (List.append_nil acc).symm
  | kv :: r, acc, h, nd => by
    obtain ⟨n1, n2⟩ := List.nodup_cons.mp (show (kv.1 :: r.map (·.1)).Nodup from nd)
    show mergeK (putK acc kv.1 kv.2) r = acc ++ kv :: r
    rw [putK_new kv.2 (valV_new (h kv (List.mem_cons_self ..))), merge_new r (acc ++ [(kv.1, kv.2)]) (fun q hq m => ?_) n2, List.append_assoc]
    · rfl
    · rw [List.map_append, List.mem_append] at m
      rcases m with m | m
      · exact h q (List.mem_cons_of_mem _ hq) m
      · have e : q.1 = kv.1 := by simpa using m
        exact n1 (e ▸ List.mem_map_of_mem hq)
theorem mergeT {c : Addr} {sd : Int} : mergeK [] (kvT c 0 0 sd 0) = kvT c 0 0 sd 0 :=
  merge_new _ _ (fun _ _ m => absurd m (by simp)) (show ([.inr "cells", .inr "at", .inr "left", .inr "seed", .inr "salt"] : List Key).Nodup by decide +kernel)
theorem ok_tape0 {f : Addr} {fd : FuncData} (F : Fun K "_law_tape" "_law_tape" sTape f fd) (B : BtTape mg) : FnOk P w K mg base CX0 1 f fd ["script"] (spTape0 K) := by
  refine F.ok scTape (fun vs H Q E h => ?_) (fun cdv A outer s H vs Q E hr h => ?_)
  · obtain ⟨a, ns, rfl, _⟩ := h
    rfl
  · obtain ⟨a, ns, rfl, hS, hlen, k⟩ := h
    have hu := hu_of hr
    refine ⟨_,
      pss_cons (ps_setLc (i := 1) (own := [("cell", 3)]) (g := gName 3) (tt := tYes) rfl scTape.nd rfl rfl (sw_true rfl rfl rfl (by decide +kernel)) (pi_list (pv 0)) (blkOk_by (N := ["script", "cells", "seed", "cell"]) (sc := defScope sTape) (by decide +kernel))
        (fun _ _ _ _ _ => pg_name (i := 3) scTape.nd rfl (Or.inl rfl)) (fun _ _ _ _ _ => pts_nil) (fun _ _ _ _ _ => pe_callB call_abs (by rfl) B.abs (by decide +kernel) (pa_cons (pe_callTy call_int1 (by rfl) B.int (by decide +kernel) (pa_cons (pv 3) pa_nil)) pa_nil)))
      (pss_cons (ps_set (i := 2) scTape.nd rfl (Or.inl rfl) pe_int)
      (pss_cons (ps_for PassesOwn.never rfl (pi_list (pv 1)) (pg_name (i := 3) scTape.nd rfl (Or.inl rfl))
        (pss_one (ps_set (i := 2) scTape.nd rfl (Or.inl rfl) (pe_op op_mod (pe_callTy call_int1 (by rfl) B.int (by decide +kernel) (pa_cons (pe_op op_add (pe_op op_mul (pv 2) pe_int) (pv 3)) pa_nil)) pe_int))))
      (pss_one (ps_ret (pe_disp (pps_cons pe_str (pv 1) (pps_cons pe_str pe_int (pps_cons pe_str pe_int (pps_cons pe_str (pv 2) (pps_cons pe_str pe_int pps_nil))))) (by rfl) (by rfl) (fun z => by cases z) (by decide)))))), ?_⟩
    refine Evl.q_asgL (Evl.el_lcL (fun _ => true) (fun i => V.int (if ns.getD i 0 < 0 then -(ns.getD i 0) else ns.getD i 0)) (Evl.ev_var rfl) hS (by rw [List.length_map]; omega) (fun _ => rfl) (fun i x H1 _ _ => ?_) (fun i x H1 e hx _ => ?_)) (fun c H1 hc e1 h1 => ?_)
    · exact fun H2 _ Q q => q H2 (Evl.Ex.refl H2)
    · rw [List.getElem?_map] at hx
      cases q : ns[i]? with
      | none => rw [q] at hx; cases hx
      | some z =>
        rw [q] at hx
        cases hx
        have ez : ns.getD i 0 = z := by rw [List.getD_eq_getElem?_getD, q]; rfl
        rw [ez]
        exact fun H2 _ Q q2 => ⟨_, rfl, .inl ⟨z, rfl, z, rfl, q2 H2 (Evl.Ex.refl H2)⟩⟩
    generalize hcs : Evl.given (ns.map V.int).length (fun _ => true) (fun i => V.int (if ns.getD i 0 < 0 then -(ns.getD i 0) else ns.getD i 0)) = l at h1
    obtain ⟨cs, rfl, hnn⟩ : ∃ cs : List Int, l = cs.map V.int ∧ ∀ z ∈ cs, 0 ≤ z := by
      refine ⟨((List.range (ns.map V.int).length).filter fun _ => true).map (fun i => if ns.getD i 0 < 0 then -(ns.getD i 0) else ns.getD i 0), ?_, fun z hz => ?_⟩
      · rw [← hcs, List.map_map]
        rfl
      · obtain ⟨i, _, rfl⟩ := List.mem_map.mp hz
        split <;> omega
    refine Evl.q_asg Evl.ev_c fun H2 e2 => ?_
    refine Evl.q_forL (Evl.ev_var rfl) (Evl.sq_of (e2 _ _ h1)) (fun i σ' H' => ∃ (sd : Int) (v : Option V), σ' = [some (.ref a), some (.ref c), some (.int sd), v] ∧ Evl.Ex H2 H' ∧ 0 ≤ sd ∧ sd < 2147483647) (fun H3 e3 => ⟨7, none, rfl, e3, by decide, by decide⟩)
      (fun i σ' H' _ ⟨_, _, _, e, _⟩ => Evl.sq_of (e _ _ (e2 _ _ h1))) (fun i x σ' H' hx ⟨sd, v, es, e, s0, s1⟩ => ?_) (fun σ' H' ⟨sd, v, es, e, s0, s1⟩ => ?_)
    · subst es
      rw [List.getElem?_map] at hx
      cases q : cs[i]? with
      | none => rw [q] at hx; cases hx
      | some z =>
        rw [q] at hx
        cases hx
        refine ⟨_, rfl, _, _, rfl, rfl, .inr (by decide), _, rfl, _, _, rfl, rfl, .inl ⟨_, rfl, _, _, rfl, rfl, (by show (0 : Int) < 2147483647; decide), ?_⟩⟩
        exact ⟨_, _, rfl, e, Int.emod_nonneg _ (by decide), Int.emod_lt_of_pos _ (by decide)⟩
    · subst es
      intro p hp
      refine ⟨_, rfl, _, rfl, upd_same, kvT c 0 0 sd 0, rfl, (by show 5 ≤ 15; decide), ?_⟩
      rw [mergeT, upd_upd]
      have nc : c ≠ p := ne_of_none (e _ _ (e2 _ _ h1)) hp
      have ee : Evl.Ex H H' := (e1.trans e2).trans e
      exact k p c cs sd _ (ee.trans (Evl.Ex.new hp)) (Evl.fresh_back ee hp) upd_same (by rw [upd_ne nc]; exact e _ _ (e2 _ _ h1)) hnn s0 s1
def spTape (P : Program) (w : World) (K : PySem.W.Frag) : Sp := fun vs H Q _ => ∃ (a : Addr) (ns : List Int), vs = [.ref a] ∧ SqL K H a (ns.map V.int) ∧ ns.length ≤ 63 ∧ ∀ (p : Addr) (H' : Hp), Evl.Ex H H' → TapeAt P w H' p → Q (.ref p) H'
theorem ok_tape {f : Addr} {fd : FuncData} (F : Fun K "_law_tape" "_law_tape" sTape f fd) (B : BtTape mg) : FnOk P w K mg base CX0 1 f fd ["script"] (spTape P w K) := by
  refine FnOk.retype (ok_tape0 F B) (fun vs H Q E h => ?_) (fun vs H Q E hp ok h => ?_)
  · obtain ⟨a, ns, rfl, _⟩ := h
    rfl
  · obtain ⟨a, ns, rfl, hS, hl, k⟩ := h
    refine ⟨H, ok, Compat.refl H, a, ns, rfl, hS, hl, fun p c cs sd H' e np h1 h2 h3 s0 s1 h' ok' => ?_⟩
    have npc : c ≠ p := ne_of h2 h1 (by intro z; cases z)
    refine ⟨upd H' p (tapeO P w p c cs.length), HOk.retype ok' h1 rfl (tape_ok ⟨Int.le_refl 0, by omega, Int.le_refl 0, s0, s1⟩ (ok' p _ h1)), Compat.upd h1 rfl rfl, ?_⟩
    exact k p _ (Evl.Ex.mut e np) ⟨c, cs, upd_same, by rw [upd_ne npc]; exact h2, h3⟩
end
end Mx
set_option Elab.async false
set_option linter.all false
set_option maxRecDepth 100000
set_option maxHeartbeats 4000000
/-! Names of texts: number_of, digest, signed, is_signed. -/
namespace Mx
open PySem PySem.Spec PyProof.Rows L2 TL
abbrev topD (i : Nat) : Stmt := PySem.Challenge.pw_sameinsameout_k11_whole_stores.main.body.getD i (.Pass ⟨0, 0, 0, 0⟩)
abbrev sNum : Stmt := topD 4
abbrev sDig : Stmt := topD 5
/-! ### the plain functions -/
def prime : Nat := 2305843009213693951
def numN (l : List Nat) : Nat := l.foldl (fun n c => (n * 2000003 + c) % prime) (l.length + 7)
def sg (d : Nat) : Nat := [48, 49, 50, 51, 52, 53, 54, 55, 56, 57, 97, 98, 99, 100, 101, 102].getD d 0
def hexIt : Nat → Nat → List Nat → List Nat
  | 0, _, acc => acc
  | k + 1, n, acc => hexIt k (n / 16) (sg (n % 16) :: acc)
def hexL (n : Nat) : List Nat := hexIt 16 n []
def digS (x : Str) : Str := ⟨(hexL (numN (tl x))).toArray⟩
theorem signs_at : ∀ d : Nat, d < 16 → atI (Str.ofString "0123456789abcdef").cps.toList (d : Int) = some (sg d) := by decide +kernel
theorem hexIt_snoc : ∀ (k n : Nat) (acc : List Nat), hexIt (k + 1) n acc = sg (n / 16 ^ k % 16) :: hexIt k n acc
  | 0, n, acc => by simp [hexIt]
  | k + 1, n, acc => by
    show hexIt (k + 1) (n / 16) (sg (n % 16) :: acc) = _
    rw [hexIt_snoc k (n / 16) _, Nat.div_div_eq_div_mul, Nat.pow_succ', Nat.mul_comm]
    rfl
theorem len_pos (l : List Nat) : 0 < l.length + 7 := by omega
structure BtDig (mg : Str → Option Value) : Prop where
  len : mg "len" = none
  ord : mg "ord" = none
  range : mg "range" = none
  gP : ∃ t, mg "PRIME" = some (.int 2305843009213693951 t)
  gB : ∃ t, mg "BASE" = some (.int 2000003 t)
  gS : ∃ t, mg "SIGNS" = some (.str "0123456789abcdef" t)
def spNum : Sp := fun vs H Q _ => ∃ x : Str, vs = [.str x] ∧ x.length ≤ 1000000 ∧ Q (.int (numN (tl x) : Int)) H
def spDig : Sp := fun vs H Q _ => ∃ x : Str, vs = [.str x] ∧ x.length ≤ 1000000 ∧ Q (.str (digS x)) H
section
variable {P : Program} {w : World} {K : PySem.W.Frag} {mg : Str → Option Value} {base : Heap}
theorem scNum : FnScope ["text", "found", "char"] ["text"] (defScope sNum) := ⟨rfl, rfl, rfl, by decide +kernel, rfl, by decide +kernel, by decide +kernel⟩
theorem take_snoc {l : List Nat} {i c : Nat} (h : l[i]? = some c) : l.take (i + 1) = l.take i ++ [c] := by
  rw [List.take_succ, h]
  rfl
theorem ok_num {f : Addr} {fd : FuncData} (F : Fun K "number_of" "number_of" sNum f fd) (B : BtDig mg) : FnOk P w K mg base CX0 1 f fd ["text"] spNum := by
  refine F.ok scNum (fun vs H Q E h => ?_) (fun cdv A outer s H vs Q E hr h => ?_)
  · obtain ⟨x, rfl, _⟩ := h
    rfl
  · obtain ⟨x, rfl, hx, k⟩ := h
    obtain ⟨t1, g1⟩ := B.gP
    obtain ⟨t2, g2⟩ := B.gB
    refine ⟨_,
      pss_cons (ps_set (i := 1) scNum.nd rfl (Or.inl rfl) (pe_op op_add (pe_callB call_len_str (by rfl) B.len PySem.boot_len (pa_cons (pv 0) pa_nil)) pe_int))
      (pss_cons (ps_for PassesOwn.never rfl (pi_str (pv 0)) (pg_name (i := 2) scNum.nd rfl (Or.inl rfl))
        (pss_one (ps_set (i := 1) scNum.nd rfl (Or.inl rfl) (pe_op op_mod (pe_op op_add (pe_op op_mul (pv 1) (pe_glob (v := .int 2000003) rfl g2 ⟨t2, rfl⟩)) (pe_callB call_ord (by rfl) B.ord (by decide +kernel) (pa_cons (pv 2) pa_nil))) (pe_glob (v := .int 2305843009213693951) rfl g1 ⟨t1, rfl⟩)))))
      (pss_one (ps_ret (pv 1)))), ?_⟩
    refine ⟨_, rfl, x, rfl, by rw [sizeLine_eq]; omega, _, _, rfl, rfl, ?_⟩
    refine ⟨_, rfl, x, rfl, for_it walk_str (fun i σ H' => H' = H ∧ ∃ (n : Nat) (v : Option V), n < prime ∧ σ = [some (.str x), some (.int (n : Int)), v] ∧ n = ((tl x).take i).foldl (fun n c => (n * 2000003 + c) % prime) ((tl x).length + 7))
      ⟨rfl, (tl x).length + 7, none, ?_, ?_, rfl⟩ (fun _ _ _ _ _ => trivial) ?_ ?_⟩
    · have := len_tl x
      show _ < 2305843009213693951
      omega
    · rw [len_tl x]
      rfl
    · rintro i y σ H1 H2 hi ⟨rfl, n, v, hn, rfl, en⟩ ⟨rfl, c, hc, rfl⟩
      have hc' : (tl x)[i]? = some c := by rw [Array.getElem?_toList]; exact hc
      refine ⟨_, rfl, _, _, rfl, rfl, .inr (by decide), _, rfl, _, rfl, rfl, _, _, rfl, rfl, _, _, rfl, rfl, (by show (0 : Int) < 2305843009213693951; decide), ?_⟩
      refine ⟨rfl, (n * 2000003 + c) % prime, some (.str ⟨#[c]⟩), Nat.mod_lt _ (by decide), ?_, ?_⟩
      · have e1 : ((n : Int) * 2000003 + ((#[c] : Array Nat).getD 0 0 : Nat)) % 2305843009213693951 = (((n * 2000003 + c) % prime : Nat) : Int) := by
          show ((n : Int) * 2000003 + (c : Int)) % 2305843009213693951 = (((n * 2000003 + c) % 2305843009213693951 : Nat) : Int)
          omega
        exact congrArg (fun z => [some (V.str x), some (V.int z), some (V.str ⟨#[c]⟩)]) e1
      · rw [take_snoc hc', List.foldl_append, ← en, List.foldl_cons, List.foldl_nil]
    · rintro σ H1 ⟨rfl, n, v, hn, rfl, en⟩
      refine ⟨_, rfl, ?_⟩
      have e2 : n = numN (tl x) := by
        rw [en, show x.cps.size = (tl x).length from by simp [tl], List.take_length]
        rfl
      rw [e2]
      exact k
theorem scDig : FnScope ["text", "number", "found", "_"] ["text"] (defScope sDig) := ⟨rfl, rfl, rfl, by decide +kernel, rfl, by decide +kernel, by decide +kernel⟩
theorem ok_dig {f : Addr} {fd : FuncData} (F : Fun K "digest" "digest" sDig f fd) (B : BtDig mg) (hN : Has P w K mg base CX0 1 "number_of" ["text"] spNum) : FnOk P w K mg base CX0 2 f fd ["text"] spDig := by
  refine F.ok scDig (fun vs H Q E h => ?_) (fun cdv A outer s H vs Q E hr h => ?_)
  · obtain ⟨x, rfl, _⟩ := h
    rfl
  · obtain ⟨x, rfl, hx, k⟩ := h
    obtain ⟨t3, g3⟩ := B.gS
    refine ⟨_,
      pss_cons (ps_par (i := 1) (j := 2) rfl scDig.nd rfl rfl (by decide) rfl rfl (pa_cons (pe_h hN hr (by rfl) pass0 (pa_cons (pv 0) pa_nil)) (pa_cons pe_str pa_nil)) (by rfl))
      (pss_cons (ps_for PassesOwn.never rfl (pi_range1 rfl B.range (pa_cons pe_int pa_nil)) (pg_name (i := 3) scDig.nd rfl (Or.inl rfl))
        (pss_cons (ps_set (i := 2) scDig.nd rfl (Or.inl rfl) (pe_op op_add_str (pe_ix ix_str (pe_glob (v := .str "0123456789abcdef") rfl g3 ⟨t3, rfl⟩) (pe_op op_mod (pv 1) pe_int) (fun _ _ => rfl)) (pv 2)))
        (pss_one (ps_aug (i := 1) scDig.nd rfl (Or.inl rfl) pe_int iop_fdiv))))
      (pss_one (ps_ret (pv 2)))), ?_⟩
    refine ⟨_, rfl, x, rfl, hx, _, _, rfl, ?_⟩
    refine ⟨16, rfl, by decide, by decide, for_range (lo := 0) (n := 16) (fun i σ H' => H' = H ∧ ∃ (n : Nat) (acc : List Nat) (v : Option V), acc.length = i ∧ σ = [some (.str x), some (.int (n : Int)), some (.str ⟨acc.toArray⟩), v] ∧ hexIt (16 - i) n acc = hexL (numN (tl x)))
      ⟨rfl, numN (tl x), [], none, rfl, rfl, rfl⟩ ?_ ?_⟩
    · rintro i σ H1 hi ⟨rfl, n, acc, v, hl, rfl, en⟩
      refine ⟨_, rfl, _, _, rfl, rfl, (by show (0 : Int) < 16; decide), _, _, sg (n % 16), rfl, rfl, by decide +kernel, ?_, ?_⟩
      · have z := signs_at (n % 16) (Nat.mod_lt _ (by decide))
        rw [show (n : Int) % 16 = ((n % 16 : Nat) : Int) from by omega]
        exact z
      refine ⟨_, rfl, _, _, rfl, rfl, ?_, ?_⟩
      · show 1 + acc.toArray.size ≤ sizeLine
        rw [sizeLine_eq]
        simp
        omega
      refine ⟨_, rfl, _, _, rfl, rfl, ⟨by decide, by decide⟩, ?_⟩
      refine ⟨rfl, n / 16, sg (n % 16) :: acc, some (.int (0 + (i : Int))), by simp [hl], ?_, ?_⟩
      · have e1 : (⟨#[sg (n % 16)]⟩ : Str) ++ ⟨acc.toArray⟩ = ⟨(sg (n % 16) :: acc).toArray⟩ := by
          refine ext_tl ?_
          rw [tl_append]
          simp [tl]
        have e2 : (n : Int) / 16 = ((n / 16 : Nat) : Int) := by omega
        show [some (V.str x), some (V.int ((n : Int) / 16)), some (V.str ((⟨#[sg (n % 16)]⟩ : Str) ++ ⟨acc.toArray⟩)), some (V.int (0 + (i : Int)))] = _
        rw [e1, e2]
      · have e3 : 16 - i = (16 - (i + 1)) + 1 := by omega
        rw [e3] at en
        exact en
    · rintro σ H1 ⟨rfl, n, acc, v, hl, rfl, en⟩
      refine ⟨_, rfl, ?_⟩
      have e : acc = hexL (numN (tl x)) := en
      show Q (.str ⟨acc.toArray⟩) _
      rw [e]
      exact k
end
end Mx
set_option Elab.async false
set_option linter.all false
set_option maxRecDepth 100000
set_option maxHeartbeats 4000000
namespace Mx
open PySem PySem.Spec PyProof.Rows L2 Evl TL
open PySem.W (Datum DatumOrd Tup)
/-! ### dicts with texts as keys -/
def dk {α : Type} (f : α → V) (l : List (Str × α)) : List (Key × V) := l.map fun e => ((Sum.inr e.1 : Key), f e.2)
def hasA {α : Type} (l : List (Str × α)) (n : Str) : Bool := l.any fun e => decide (e.1 = n)
def putA {α : Type} (l : List (Str × α)) (n : Str) (v : α) : List (Str × α) := if hasA l n = true then l.map (fun e => if e.1 = n then (e.1, v) else e) else l ++ [(n, v)]
def dropA {α : Type} (l : List (Str × α)) (n : Str) : List (Str × α) := l.filter fun e => decide (e.1 ≠ n)
section
variable {α : Type} {f : α → V} {n : Str} {v : α}
theorem inr_iff {a b : Str} : ((Sum.inr a : Key) = Sum.inr b) ↔ a = b := ⟨Sum.inr.inj, fun h => by rw [h]⟩
theorem valV_dk : ∀ l : List (Str × α), valV (dk f l) (Sum.inr n) = (l.lookup n).map f
  | [] => rfl
  | (k, b) :: r => by
    by_cases h : k = n
    · have e : dk f ((k, b) :: r) = ((Sum.inr k : Key), f b) :: dk f r := rfl
      rw [e, valV_pos (by rw [h]), List.lookup_cons, h]
      simp
    · have e : dk f ((k, b) :: r) = ((Sum.inr k : Key), f b) :: dk f r := rfl
      have h3 : (n == k) = false := by simpa using fun z => h z.symm
      have z := valV_dk r
      rw [e, List.lookup_cons, h3]
      unfold valV at z ⊢
      rw [List.find?_cons_of_neg (by simpa using h)]
      exact z
theorem any_dk (l : List (Str × α)) : ((dk f l).any fun kv => decide (kv.1 = (Sum.inr n : Key))) = hasA l n := by
  unfold dk hasA
  rw [List.any_map]
  congr 1
  funext e
  exact decide_eq_decide.mpr inr_iff
theorem putK_dk (l : List (Str × α)) : putK (dk f l) (Sum.inr n) (f v) = dk f (putA l n v) := by
  unfold putK putA
  rw [any_dk]
  split
  · unfold dk
    rw [List.map_map, List.map_map]
    refine List.map_congr_left fun e _ => ?_
    by_cases h : e.1 = n
    · simp [h]
    · simp [h]
  · unfold dk
    rw [List.map_append]
    rfl
theorem dropK_dk (l : List (Str × α)) : dropK (dk f l) (Sum.inr n) = dk f (dropA l n) := by
  unfold dropK dropA dk
  rw [List.filter_map]
  congr 1
  refine List.filter_congr fun e _ => ?_
  exact decide_eq_decide.mpr (not_congr inr_iff)
theorem hasA_look (l : List (Str × α)) : hasA l n = (l.lookup n).isSome := by
  induction l with
  | nil => rfl
  | cons a r ih =>
    obtain ⟨k, b⟩ := a
    by_cases h : k = n
    · have : (n == k) = true := by simpa using h.symm
      rw [List.lookup_cons, this]
      show (decide (k = n) || _) = _
      rw [decide_eq_true h]
      rfl
    · have : (n == k) = false := by simpa using fun z => h z.symm
      rw [List.lookup_cons, this, ← ih]
      show (decide (k = n) || _) = _
      rw [decide_eq_false h]
      rfl
theorem dk_len (l : List (Str × α)) : (dk f l).length = l.length := List.length_map _
end
/-! ### the store as an object -/
structure SS where
  texts : List (Str × Str)
  quota : Int
  used : Int
  clock : Int
  last : List (Str × Int)
  pins : List (Str × Int)
def flds (dT dL dP : Addr) (S : SS) : List (Str × V) := [("texts", .ref dT), ("quota", .int S.quota), ("used", .int S.used), ("clock", .int S.clock), ("last", .ref dL), ("pins", .ref dP)]
/-- where a store's parts stand -/
structure Ad where
  x : Addr
  dx : Addr
  dT : Addr
  dL : Addr
  dP : Addr
def Ad.all (A : Ad) : List Addr := [A.x, A.dT, A.dL, A.dP]
structure StA (C : Addr) (H : Hp) (A : Ad) (S : SS) : Prop where
  ins : H A.x = some (.ins C A.dx (flds A.dT A.dL A.dP S))
  tx : H A.dT = some (.dK (dk V.str S.texts))
  la : H A.dL = some (.dK (dk V.int S.last))
  pi : H A.dP = some (.dK (dk V.int S.pins))
  nd : A.all.Nodup
/-- all but the given places stay -/
def Kp (B : List Addr) (H H' : Hp) : Prop := ∀ a o, a ∉ B → H a = some o → H' a = some o
theorem Kp.refl {B : List Addr} (H : Hp) : Kp B H H := fun _ _ _ h => h
theorem Kp.trans {B : List Addr} {H H1 H2 : Hp} (a : Kp B H H1) (b : Kp B H1 H2) : Kp B H H2 := fun x o n h => b x o n (a x o n h)
theorem Kp.of {B : List Addr} {H H' : Hp} (e : Ex H H') : Kp B H H' := fun a o _ h => e a o h
theorem Kp.upd {B : List Addr} {H : Hp} {p : Addr} {o : HO} (h : p ∈ B) : Kp B H (L2.upd H p o) := fun a u n e => by
  rw [upd_ne (fun z => n (by rw [z]; exact h))]
  exact e
theorem putF_hit {f : Str} {v u : V} {r : List (Str × V)} : putF f v ((f, u) :: r) = (f, v) :: r := by
  unfold putF
  simp
theorem putF_miss {f g : Str} {v u : V} {r : List (Str × V)} (h : ¬ g = f) : putF f v ((g, u) :: r) = (g, u) :: putF f v r := by
  show (if _ then _ else _) = _
  rw [if_neg h]
section
variable {C : Addr} {H H' : Hp} {A : Ad} {S : SS}
theorem StA.ex (e : Ex H H') (h : StA C H A S) : StA C H' A S := ⟨e _ _ h.ins, e _ _ h.tx, e _ _ h.la, e _ _ h.pi, h.nd⟩
theorem fld_used {u : Int} : putF "used" (.int u) (flds A.dT A.dL A.dP S) = flds A.dT A.dL A.dP { S with used := u } := by
  unfold flds
  rw [putF_miss (by decide +kernel), putF_miss (by decide +kernel), putF_hit]
theorem fld_clock {u : Int} : putF "clock" (.int u) (flds A.dT A.dL A.dP S) = flds A.dT A.dL A.dP { S with clock := u } := by
  unfold flds
  rw [putF_miss (by decide +kernel), putF_miss (by decide +kernel), putF_miss (by decide +kernel), putF_hit]
theorem StA.ne (h : StA C H A S) : A.x ≠ A.dT ∧ A.x ≠ A.dL ∧ A.x ≠ A.dP ∧ A.dT ≠ A.dL ∧ A.dT ≠ A.dP ∧ A.dL ≠ A.dP := by
  have := h.nd
  unfold Ad.all at this
  simp only [List.nodup_cons, List.mem_cons, List.not_mem_nil, not_or, or_false] at this
  obtain ⟨⟨h1, h2, h3⟩, ⟨h4, h5⟩, h6, _⟩ := this
  exact ⟨h1, h2, h3, h4, h5, h6⟩
theorem StA.setX (h : StA C H A S) {u c : Int} : StA C (L2.upd H A.x (.ins C A.dx (flds A.dT A.dL A.dP { S with used := u, clock := c }))) A { S with used := u, clock := c } := by
  obtain ⟨n1, n2, n3, n4, n5, n6⟩ := h.ne
  exact ⟨upd_same, by rw [upd_ne n1.symm]; exact h.tx, by rw [upd_ne n2.symm]; exact h.la, by rw [upd_ne n3.symm]; exact h.pi, h.nd⟩
theorem StA.setT (h : StA C H A S) {t : List (Str × Str)} : StA C (L2.upd H A.dT (.dK (dk V.str t))) A { S with texts := t } := by
  obtain ⟨n1, n2, n3, n4, n5, n6⟩ := h.ne
  exact ⟨by rw [upd_ne n1]; exact h.ins, upd_same, by rw [upd_ne n4.symm]; exact h.la, by rw [upd_ne n5.symm]; exact h.pi, h.nd⟩
theorem StA.setL (h : StA C H A S) {t : List (Str × Int)} : StA C (L2.upd H A.dL (.dK (dk V.int t))) A { S with last := t } := by
  obtain ⟨n1, n2, n3, n4, n5, n6⟩ := h.ne
  exact ⟨by rw [upd_ne n2]; exact h.ins, by rw [upd_ne n4]; exact h.tx, upd_same, by rw [upd_ne n6.symm]; exact h.pi, h.nd⟩
theorem StA.setP (h : StA C H A S) {t : List (Str × Int)} : StA C (L2.upd H A.dP (.dK (dk V.int t))) A { S with pins := t } := by
  obtain ⟨n1, n2, n3, n4, n5, n6⟩ := h.ne
  exact ⟨by rw [upd_ne n3]; exact h.ins, by rw [upd_ne n5]; exact h.tx, by rw [upd_ne n6]; exact h.la, upd_same, h.nd⟩
end
/-! ### the methods -/
abbrev topS (i : Nat) : Stmt := PySem.Challenge.pw_sameinsameout_k11_whole_stores.main.body.getD i (.Pass ⟨0, 0, 0, 0⟩)
abbrev clS : Stmt := topS 10
abbrev sInit : Stmt := inClass clS 0
abbrev sTouch : Stmt := inClass clS 1
abbrev sPut : Stmt := inClass clS 2
abbrev sGet : Stmt := inClass clS 3
abbrev sHas : Stmt := inClass clS 4
abbrev sDrop : Stmt := inClass clS 5
abbrev sRoom : Stmt := inClass clS 6
abbrev sPin : Stmt := inClass clS 7
abbrev sUnpin : Stmt := inClass clS 8
abbrev sColl : Stmt := inClass clS 9
abbrev sSpo : Stmt := inClass clS 10
structure Txt (K : PySem.W.Frag) (mg : Str → Option Value) (C : Addr) : Prop where
  cl : Cls K C
  nT : NoAttr K C "texts"
  nQ : NoAttr K C "quota"
  nU : NoAttr K C "used"
  nC : NoAttr K C "clock"
  nL : NoAttr K C "last"
  nP : NoAttr K C "pins"
  len : mg "len" = none
  sorted : mg "sorted" = none
def touchS (S : SS) (n : Str) : SS := { S with clock := S.clock + 1, last := putA S.last n (S.clock + 1) }
def dropS (S : SS) (n : Str) (t : Str) : SS := { S with used := S.used - t.length, texts := dropA S.texts n, last := dropA S.last n }
def hasS (S : SS) (n : Str) : Bool := match S.texts.lookup n with
  | some t => decide (digS t = n)
  | none => false
def Sz (S : SS) : Prop := S.texts.length ≤ 1000 ∧ S.last.length ≤ 1000 ∧ S.pins.length ≤ 1000 ∧ ∀ e ∈ S.texts, e.2.length ≤ 1000
def spTouch (C : Addr) : Sp := fun vs H Q _ => ∃ (A : Ad) (S : SS) (n : Str), vs = [.ref A.x, .str n] ∧ StA C H A S ∧ S.last.length ≤ 1000 ∧ ∀ H', StA C H' A (touchS S n) → Kp A.all H H' → Q .non H'
def spDrop (C : Addr) : Sp := fun vs H Q _ => ∃ (A : Ad) (S : SS) (n t : Str), vs = [.ref A.x, .str n] ∧ StA C H A S ∧ S.texts.lookup n = some t ∧ t.length ≤ 1000 ∧ hasA S.last n = true ∧ ∀ H', StA C H' A (dropS S n t) → Kp A.all H H' → Q .non H'
def spHas (C : Addr) : Sp := fun vs H Q _ => ∃ (A : Ad) (S : SS) (n : Str), vs = [.ref A.x, .str n] ∧ StA C H A S ∧ (∀ t, S.texts.lookup n = some t → t.length ≤ 1000) ∧ ∀ H', Ex H H' → Q (.bl (hasS S n)) H'
section
variable {P : Program} {w : World} {K : PySem.W.Frag} {mg : Str → Option Value} {base : Heap} {C : Addr}
theorem look_texts {A : Ad} {S : SS} : (flds A.dT A.dL A.dP S).lookup ("texts" : Str) = some (.ref A.dT) := rfl
theorem look_last {A : Ad} {S : SS} : (flds A.dT A.dL A.dP S).lookup ("last" : Str) = some (.ref A.dL) := rfl
theorem look_pins {A : Ad} {S : SS} : (flds A.dT A.dL A.dP S).lookup ("pins" : Str) = some (.ref A.dP) := rfl
theorem look_clock {A : Ad} {S : SS} : (flds A.dT A.dL A.dP S).lookup ("clock" : Str) = some (.int S.clock) := rfl
theorem look_used {A : Ad} {S : SS} : (flds A.dT A.dL A.dP S).lookup ("used" : Str) = some (.int S.used) := rfl
theorem look_quota {A : Ad} {S : SS} : (flds A.dT A.dL A.dP S).lookup ("quota" : Str) = some (.int S.quota) := rfl
section
variable {σ : L2.St} {H : Hp} {to : TE} {A : Ad} {S : SS}
theorem ev_texts (T : Txt K mg C) (h : Ev to σ H (.ref A.x)) (s : StA C H A S) : Ev (tFld K to "texts") σ H (.ref A.dT) := ev_fld h s.ins T.cl T.nT look_texts
theorem ev_last (T : Txt K mg C) (h : Ev to σ H (.ref A.x)) (s : StA C H A S) : Ev (tFld K to "last") σ H (.ref A.dL) := ev_fld h s.ins T.cl T.nL look_last
theorem ev_pins (T : Txt K mg C) (h : Ev to σ H (.ref A.x)) (s : StA C H A S) : Ev (tFld K to "pins") σ H (.ref A.dP) := ev_fld h s.ins T.cl T.nP look_pins
theorem ev_clock (T : Txt K mg C) (h : Ev to σ H (.ref A.x)) (s : StA C H A S) : Ev (tFld K to "clock") σ H (.int S.clock) := ev_fld h s.ins T.cl T.nC look_clock
theorem ev_used (T : Txt K mg C) (h : Ev to σ H (.ref A.x)) (s : StA C H A S) : Ev (tFld K to "used") σ H (.int S.used) := ev_fld h s.ins T.cl T.nU look_used
theorem ev_quota (T : Txt K mg C) (h : Ev to σ H (.ref A.x)) (s : StA C H A S) : Ev (tFld K to "quota") σ H (.int S.quota) := ev_fld h s.ins T.cl T.nQ look_quota
end
theorem scTouch : FnScope ["self", "name"] ["self", "name"] (defScope sTouch) := ⟨rfl, rfl, rfl, by decide +kernel, rfl, by decide +kernel, by decide +kernel⟩
theorem ok_touch {f : Addr} {fd : FuncData} (F : Fun K "touch" "Store.touch" sTouch f fd) (T : Txt K mg C) : FnOk P w K mg base CX0 1 f fd ["self", "name"] (spTouch C) := by
  refine F.ok scTouch (fun vs H Q E h => ?_) (fun cdv Ar outer s H vs Q E hr h => ?_)
  · obtain ⟨A, S, n, rfl, _⟩ := h
    rfl
  · obtain ⟨A, S, n, rfl, st, hl, k⟩ := h
    have hu := hu_of hr
    refine ⟨_, pss_cons (ps_fldaug (pv 0) pe_int in_add) (pss_one (ps_dput hu (pe_fld (pv 0) rfl) (pv 1) (pe_fld (pv 0) rfl) rfl)), ?_⟩
    refine q_fldaug (z := .int (S.clock + 1)) (ev_var rfl) st.ins T.cl T.nC look_clock ev_c rv_I0 (by show 6 < 1000; decide) fun H1 e1 => ?_
    rw [fld_clock]
    have st1 := st.ex e1
    have st2 : StA C (L2.upd H1 A.x (.ins C A.dx (flds A.dT A.dL A.dP { S with clock := S.clock + 1 }))) A { S with clock := S.clock + 1 } := st1.setX (u := S.used)
    refine s_dput (k := .inr n) (ev_clock T (ev_var rfl) st2) (ev_last T (ev_var rfl) st2) (ev_var rfl) st2.la (by rw [dk_len]; show S.last.length ≤ 50000; omega) fun H2 e2 => ?_
    rw [putK_dk]
    exact k _ (st2.ex e2).setL (((Kp.of e1).trans (Kp.upd (by simp [Ad.all]))).trans ((Kp.of e2).trans (Kp.upd (by simp [Ad.all]))))
theorem scDrop : FnScope ["self", "name"] ["self", "name"] (defScope sDrop) := ⟨rfl, rfl, rfl, by decide +kernel, rfl, by decide +kernel, by decide +kernel⟩
theorem ok_drop {f : Addr} {fd : FuncData} (F : Fun K "drop" "Store.drop" sDrop f fd) (T : Txt K mg C) : FnOk P w K mg base CX0 1 f fd ["self", "name"] (spDrop C) := by
  refine F.ok scDrop (fun vs H Q E h => ?_) (fun cdv Ar outer s H vs Q E hr h => ?_)
  · obtain ⟨A, S, n, t, rfl, _⟩ := h
    rfl
  · obtain ⟨A, S, n, t, rfl, st, ht, lt, hl, k⟩ := h
    have hu := hu_of hr
    refine ⟨_, pss_cons (ps_fldaug (pv 0) (pe_callB call_len_str (by rfl) T.len PySem.boot_len (pa_cons (pe_dpop1 (pe_fld (pv 0) rfl) (pv 1) ⟨rfl, rfl, rfl, rfl⟩) pa_nil)) in_sub) (pss_one (ps_expr (pe_dpop1 (pe_fld (pv 0) rfl) (pv 1) ⟨rfl, rfl, rfl, rfl⟩))), ?_⟩
    obtain ⟨n1, n2, n3, n4, n5, n6⟩ := st.ne
    refine q_augpop (k := .inr n) (t := t) (ev_var rfl) st.ins T.cl T.nU look_used (by show 6 < 1000; decide) (ev_texts T (ev_var rfl) st) (ev_var rfl) st.tx (by rw [valV_dk, ht]; rfl) (by omega) n1 fun H1 e1 => ?_
    rw [fld_used, dropK_dk]
    have st1 : StA C (L2.upd H1 A.dT (.dK (dk V.str (dropA S.texts n)))) A { S with texts := dropA S.texts n } := (st.ex e1).setT
    have st2 : StA C (L2.upd (L2.upd H1 A.dT (.dK (dk V.str (dropA S.texts n)))) A.x (.ins C A.dx (flds A.dT A.dL A.dP { S with texts := dropA S.texts n, used := S.used - (t.length : Nat) }))) A { S with texts := dropA S.texts n, used := S.used - (t.length : Nat) } := st1.setX (c := S.clock)
    obtain ⟨c, hc⟩ := Option.isSome_iff_exists.mp ((hasA_look S.last).symm.trans hl)
    refine s_dpop (k := .inr n) (v := .int c) (ev_last T (ev_var rfl) st2) (ev_var rfl) st2.la (by rw [valV_dk]; show (S.last.lookup n).map V.int = _; rw [hc]; rfl) fun H2 e2 => ?_
    rw [dropK_dk]
    refine k _ (st2.ex e2).setL ?_
    have m1 : A.dT ∈ A.all := by simp [Ad.all]
    have m2 : A.x ∈ A.all := by simp [Ad.all]
    have m3 : A.dL ∈ A.all := by simp [Ad.all]
    exact ((Kp.of e1).trans (Kp.upd m1)).trans ((Kp.upd m2).trans ((Kp.of e2).trans (Kp.upd m3)))
theorem scHas : FnScope ["self", "name"] ["self", "name"] (defScope sHas) := ⟨rfl, rfl, rfl, by decide +kernel, rfl, by decide +kernel, by decide +kernel⟩
theorem ok_has {f : Addr} {fd : FuncData} (F : Fun K "has" "Store.has" sHas f fd) (T : Txt K mg C) (hD : Has P w K mg base CX0 2 "digest" ["text"] spDig) : FnOk P w K mg base CX0 3 f fd ["self", "name"] (spHas C) := by
  refine F.ok scHas (fun vs H Q E h => ?_) (fun cdv Ar outer s H vs Q E hr h => ?_)
  · obtain ⟨A, S, n, rfl, _⟩ := h
    rfl
  · obtain ⟨A, S, n, rfl, st, lt, k⟩ := h
    have hu := hu_of hr
    refine ⟨_, pss_one (ps_ret (pe_and (pe_cmp (pc_din hu (pv 1) (pe_fld (pv 0) rfl)) rfl) (pe_one (pe_cmpR op_eq (pe_h hD hr (by rfl) pass0 (pa_cons (pe_dget hu (pe_fld (pv 0) rfl) (pv 1) (fun _ _ => rfl)) pa_nil)) (pv 1) (nomark _))))), ?_⟩
    refine s_ret (v := .bl (hasS S n)) ?_ k
    unfold hasS
    have nt := ev_din (k := .inr n) (σ := L2.start ["self", "name"] [.ref A.x, .str n]) (ev_var (i := 1) rfl) (ev_texts T (ev_var (i := 0) rfl) st) (.inl st.tx)
    rw [valV_dk] at nt
    cases q : S.texts.lookup n with
    | none =>
      rw [q] at nt
      exact ev_is (ev_andV (b := false) nt (fun z => nomatch z)) rfl
    | some t =>
      rw [q] at nt
      refine ev_is (ev_andV (b := decide (digS t = n)) nt fun _ => ev_is (ev_op (ev_call (sp := spDig) (z := .str (digS t)) (ea_cons (ev_dgetK (k := .inr n) (v := .str t) (ev_texts T (ev_var rfl) st) (ev_var rfl) (.inl st.tx) (by rw [valV_dk, q]; rfl)) ea_nil) fun H1 e Q q1 E => ⟨t, rfl, by have := lt t q; omega, q1 H1 (Ex.refl H1)⟩) (ev_var rfl) (rv_eq rfl)) (by rw [str_eq])) rfl
end
end Mx
set_option Elab.async false
set_option linter.all false
set_option maxRecDepth 100000
set_option maxHeartbeats 4000000
namespace Mx
open PySem PySem.Spec PyProof.Rows L2 Evl TL
open PySem.W (Datum DatumOrd Tup)
/-! ### room -/
def unp (S : SS) (n : Str) : Bool := decide ((S.pins.lookup n).getD 0 = 0)
def freeS (S : SS) : List (Int × Str) := sortD ((S.texts.filter fun e => unp S e.1).map fun e => ((S.last.lookup e.1).getD 0, e.1))
def textOf (S : SS) (n : Str) : Str := (S.texts.lookup n).getD ""
def roomS (size : Int) : List (Int × Str) → SS → SS
  | [], S => S
  | (_, n) :: r, S => if S.quota < S.used + size then roomS size r (dropS S n (textOf S n)) else S
/-- the parts agree -/
structure Fit (S : SS) : Prop where
  keys : S.texts.map (·.1) = S.last.map (·.1)
  nd : (S.texts.map (·.1)).Nodup
  few : S.texts.length ≤ 1000
  pfew : S.pins.length ≤ 1000
  len : ∀ e ∈ S.texts, e.2.length ≤ 1000
theorem look_of_mem {α : Type} {l : List (Str × α)} (nd : (l.map (·.1)).Nodup) {e : Str × α} (h : e ∈ l) : l.lookup e.1 = some e.2 := by
  induction l with
  | nil => exact absurd h (by simp)
  | cons a r ih =>
    obtain ⟨k, b⟩ := a
    obtain ⟨n1, n2⟩ := List.nodup_cons.mp (show (k :: r.map (·.1)).Nodup from nd)
    rcases List.mem_cons.mp h with rfl | h
    · rw [List.lookup_cons]
      simp
    · have : e.1 ≠ k := fun z => n1 (z ▸ List.mem_map_of_mem h)
      have h3 : (e.1 == k) = false := by simpa using this
      rw [List.lookup_cons, h3]
      exact ih n2 h
theorem mem_of_look {α : Type} {l : List (Str × α)} {n : Str} {v : α} (h : l.lookup n = some v) : (n, v) ∈ l := by
  induction l with
  | nil => cases h
  | cons a r ih =>
    obtain ⟨k, b⟩ := a
    by_cases c : n = k
    · have h3 : (n == k) = true := by simpa using c
      rw [List.lookup_cons, h3] at h
      cases h
      rw [c]
      exact List.mem_cons_self ..
    · have h3 : (n == k) = false := by simpa using c
      rw [List.lookup_cons, h3] at h
      exact List.mem_cons_of_mem _ (ih h)
theorem hasA_mem {α : Type} {l : List (Str × α)} {n : Str} : hasA l n = true ↔ n ∈ l.map (·.1) := by
  unfold hasA
  rw [List.any_eq_true]
  constructor
  · rintro ⟨e, he, h⟩
    exact List.mem_map.mpr ⟨e, he, of_decide_eq_true h⟩
  · intro h
    obtain ⟨e, he, rfl⟩ := List.mem_map.mp h
    exact ⟨e, he, decide_eq_true rfl⟩
theorem dropA_keys {α : Type} (l : List (Str × α)) (n : Str) : (dropA l n).map (·.1) = (l.map (·.1)).filter fun k => decide (k ≠ n) := by
  unfold dropA
  rw [List.filter_map]
  rfl
theorem Fit.drop {S : SS} (h : Fit S) (n t : Str) : Fit (dropS S n t) where
  keys := by
    show (dropA S.texts n).map (·.1) = (dropA S.last n).map (·.1)
    rw [dropA_keys, dropA_keys, h.keys]
  nd := by
    show ((dropA S.texts n).map (·.1)).Nodup
    rw [dropA_keys]
    exact h.nd.filter _
  few := Nat.le_trans (List.length_filter_le _ _) h.few
  pfew := h.pfew
  len := fun e he => h.len e (List.mem_filter.mp he).1
theorem Fit.last_has {S : SS} (h : Fit S) {n : Str} (hn : n ∈ S.texts.map (·.1)) : hasA S.last n = true := hasA_mem.mpr (h.keys ▸ hn)
theorem Fit.look {S : SS} (h : Fit S) {n : Str} (hn : n ∈ S.texts.map (·.1)) : S.texts.lookup n = some (textOf S n) ∧ (textOf S n).length ≤ 1000 := by
  obtain ⟨e, he, rfl⟩ := List.mem_map.mp hn
  have z := look_of_mem h.nd he
  unfold textOf
  rw [z]
  exact ⟨rfl, h.len e he⟩
theorem last_len {S : SS} (h : Fit S) : S.last.length ≤ 1000 := by
  have := congrArg List.length h.keys
  rw [List.length_map, List.length_map] at this
  have := h.few
  omega
theorem StA.kind {C : Addr} {H : Hp} {A : Ad} {S : SS} (h : StA C H A S) {a : Addr} {o : HO} (ha : a ∈ A.all) (e : H a = some o) : firm o = false ∧ ∀ vs, o ≠ .lst vs := by
  have ha' : a = A.x ∨ a = A.dT ∨ a = A.dL ∨ a = A.dP := by simpa [Ad.all] using ha
  rcases ha' with rfl | rfl | rfl | rfl
  · rw [h.ins] at e
    cases e
    exact ⟨rfl, fun _ z => by cases z⟩
  · rw [h.tx] at e
    cases e
    exact ⟨rfl, fun _ z => by cases z⟩
  · rw [h.la] at e
    cases e
    exact ⟨rfl, fun _ z => by cases z⟩
  · rw [h.pi] at e
    cases e
    exact ⟨rfl, fun _ z => by cases z⟩
theorem Kp.ux {C : Addr} {H H' : Hp} {A : Ad} {S : SS} (h : StA C H A S) (k : Kp A.all H H') : Ux H H' := fun a u e f => k a u (fun m => by
  rw [(h.kind m e).1] at f
  cases f) e
theorem Kp.lst {C : Addr} {H H' : Hp} {A : Ad} {S : SS} (h : StA C H A S) (k : Kp A.all H H') {p : Addr} {vs : List V} (e : H p = some (.lst vs)) : H' p = some (.lst vs) := k p _ (fun m => (h.kind m e).2 vs rfl) e
theorem StA.kept {C : Addr} {H : Hp} {A : Ad} {S : SS} (h : StA C H A S) {p : Addr} {o o' : HO} (e : H p = some o) (n : p ∉ A.all) : StA C (L2.upd H p o') A S := by
  have n' : ∀ a ∈ A.all, a ≠ p := fun a ha z => n (z ▸ ha)
  exact ⟨by rw [upd_ne (n' _ (by simp [Ad.all]))]; exact h.ins, by rw [upd_ne (n' _ (by simp [Ad.all]))]; exact h.tx, by rw [upd_ne (n' _ (by simp [Ad.all]))]; exact h.la, by rw [upd_ne (n' _ (by simp [Ad.all]))]; exact h.pi, h.nd⟩
theorem look_dropA {α : Type} {l : List (Str × α)} {n k : Str} (h : k ≠ n) : (dropA l n).lookup k = l.lookup k := by
  unfold dropA
  induction l with
  | nil => rfl
  | cons a r ih =>
    obtain ⟨c, b⟩ := a
    by_cases e : c = n
    · have h3 : (k == c) = false := by simpa using fun z => h (z.trans e)
      rw [List.filter_cons, List.lookup_cons, h3, ← ih, e]
      simp
    · rw [List.filter_cons, if_pos (by simpa using e), List.lookup_cons, List.lookup_cons, ih]
def spRoom (C CE : Addr) : Sp := fun vs H Q E => ∃ (A : Ad) (S : SS) (size : Int), vs = [.ref A.x, .int size] ∧ StA C H A S ∧ Fit S ∧
  ((roomS size (freeS S) S).used + size ≤ S.quota → ∀ H', StA C H' A (roomS size (freeS S) S) → Kp A.all H H' → Q .non H') ∧
  (S.quota < (roomS size (freeS S) S).used + size → ∀ d H', StA C H' A (roomS size (freeS S) S) → Kp A.all H H' → H d = none → H' d = some (.xd (two "word" "name" (.str "full") (.str ""))) → E (.ref CE) (some d) H')
section
variable {P : Program} {w : World} {K : PySem.W.Frag} {mg : Str → Option Value} {base : Heap} {C CE : Addr}
theorem quota_room {size : Int} : ∀ (l : List (Int × Str)) (S : SS), (roomS size l S).quota = S.quota
  | [], S => rfl
  | (_, n) :: r, S => by
    unfold roomS
    split
    · rw [quota_room r]
      rfl
    · rfl
theorem scRoom : FnScope ["self", "size", "free", "name"] ["self", "size"] (defScope sRoom) := ⟨rfl, rfl, rfl, by decide +kernel, rfl, by decide +kernel, by decide +kernel⟩
theorem ok_room {f : Addr} {fd : FuncData} (F : Fun K "make_room" "Store.make_room" sRoom f fd) (T : Txt K mg C) (R : Err2 P w K mg base "StoreError" "word" "name" CE) (hDr : HasM P w K mg base CX0 1 C "drop" ["self", "name"] (spDrop C)) : FnOk P w K mg base (L2.CX P w) 3 f fd ["self", "size"] (spRoom C CE) := by
  refine F.okX scRoom (fun vs H Q E h => ?_) (fun cdv Ar outer s H vs Q E hr h => ?_)
  · obtain ⟨A, S, size, rfl, _⟩ := h
    rfl
  · obtain ⟨A, S, size, rfl, st, fit, k1, k2⟩ := h
    have hu := hu_of hr
    refine ⟨_,
      pss_cons (ps_set (i := 2) scRoom.nd rfl (Or.inl rfl) (pe_callB (cr_sortedD (α := Int × Str) (uS hr (by decide))) (by rfl) T.sorted (by decide +kernel) (pa_cons (pe_lock (pe_lc (own := [("name", 3)]) (g := gName 3) rfl scRoom.nd (pi_keys (pe_fld (pv 0) rfl)) (blkOk_by (N := ["self", "size", "free", "name"]) (sc := defScope sRoom) (by decide +kernel))
        (fun _ _ _ _ _ => pg_name (i := 3) scRoom.nd rfl (Or.inl rfl)) (fun _ _ _ _ _ => pts_one (pt_cmpR op_eq (pe_dget2 hu (pe_fldK (K' := K) rfl (pv 0) rfl) (pv 3) pe_int ⟨rfl, rfl, rfl, rfl⟩) pe_int (nomark _)))
        (fun _ _ _ _ _ => pe_tup (pa_cons (pe_dget hu (pe_fldK (K' := K) rfl (pv 0) rfl) (pv 3) (fun _ _ => rfl)) (pa_cons (pv 3) pa_nil))))) pa_nil)))
      (pss_cons (ps_while (passes_of rfl) (pw_and (pt_cmpR op_gt (pe_op op_add (pe_fld (pv 0) rfl) (pv 1)) (pe_fld (pv 0) rfl) (nomark _)) (pw_and1 (pt_truth (pv 2) (fun _ => rfl)))).pt
        (pss_one (ps_expr (pe_m (pv 0) T.cl hDr hr pass0 (pa_cons (pe_ix ix_tup (pe_bm PySem.F.plainAttrs_list PySem.F.slot_list_pop PySem.F.type_list_pop mt_popAt (pv 2) (pa_cons pe_int pa_nil)) pe_int (fun _ _ => rfl)) pa_nil)))))
      (pss_one (ps_if (pt_cmpR op_gt (pe_op op_add (pe_fld (pv 0) rfl) (pv 1)) (pe_fld (pv 0) rfl) (nomark _)) (pss_one (ps_raise rfl (takes_of rfl rfl rfl rfl) (pmk_err R hr (by rfl) (pa_cons pe_str (pa_cons pe_str pa_nil))))) pss_nil))), ?_⟩
    obtain ⟨n1, n2, n3, n4, n5, n6⟩ := st.ne
    have at_ : ∀ (i : Nat) (k : Key) (v : V), (dk V.str S.texts)[i]? = some (k, v) → ∃ e, S.texts[i]? = some e ∧ k = .inr e.1 := fun i k v hk => by
      unfold dk at hk
      rw [List.getElem?_map] at hk
      cases q : S.texts[i]? with
      | none => rw [q] at hk; cases hk
      | some e =>
        rw [q] at hk
        cases hk
        exact ⟨e, rfl, rfl⟩
    have hlist : pickI (dk V.str S.texts).length (fun i => unp S (S.texts.getD i ("", "")).1) (fun i => ((S.last.lookup (S.texts.getD i ("", "")).1).getD 0, (S.texts.getD i ("", "")).1)) = (S.texts.filter fun e => unp S e.1).map fun e => ((S.last.lookup e.1).getD 0, e.1) := by
      rw [dk_len]
      refine pickI_map S.texts _ _ _ _ (fun i e he => ?_) (fun i e he => ?_) <;> rw [List.getD_eq_getElem?_getD, he] <;> rfl
    have getD_at : ∀ (i : Nat) (e : Str × Str), S.texts[i]? = some e → S.texts.getD i ("", "") = e := fun i e he => by rw [List.getD_eq_getElem?_getD, he]; rfl
    refine q_asgP (evd_sorted (α := Int × Str) (evd_lcK (fun i => unp S (S.texts.getD i ("", "")).1) (fun i => ((S.last.lookup (S.texts.getD i ("", "")).1).getD 0, (S.texts.getD i ("", "")).1)) (fun o => ev_fld (ev_var rfl) (by rw [upd_ne n1]; exact st.ins) T.cl T.nT look_texts) st.tx (by rw [dk_len]; have := fit.few; omega) (fun _ => rfl)
      (fun i k v o H1 hk e1 => ?_) (fun i k v o H1 hk hf e1 => ?_)) (by have := pickI_len (dk V.str S.texts).length (fun i => unp S (S.texts.getD i ("", "")).1) (fun i => ((S.last.lookup (S.texts.getD i ("", "")).1).getD 0, (S.texts.getD i ("", "")).1)); rw [dk_len] at this; have := fit.few; rw [dk_len]; omega)) fun v H1 e1 ⟨pf, vs, ev, nf, hf, df⟩ => ?_
    · obtain ⟨e, he, rfl⟩ := at_ i k v hk
      have ins1 : H1 A.x = some (.ins C A.dx (flds A.dT A.dL A.dP S)) := e1 _ _ (by rw [upd_ne n1]; exact st.ins)
      have pi1 : H1 A.dP = some (.dK (dk V.int S.pins)) := e1 _ _ (by rw [upd_ne n5.symm]; exact st.pi)
      refine et_is (et_test (ev_op (ev_is (w := .int ((S.pins.lookup e.1).getD 0)) (ev_dget2K (k := .inr e.1) (z := .int 0) (ev_fld (ev_var rfl) ins1 T.cl T.nP look_pins) (ev_var rfl) ev_c (.inl pi1)) ?_) ev_c (rv_eq rfl))) ?_
      · rw [valV_dk]
        cases S.pins.lookup e.1 <;> rfl
      · rw [getD_at i e he, int_eq]
        rfl
    · obtain ⟨e, he, rfl⟩ := at_ i k v hk
      have ins1 : H1 A.x = some (.ins C A.dx (flds A.dT A.dL A.dP S)) := e1 _ _ (by rw [upd_ne n1]; exact st.ins)
      have la1 : H1 A.dL = some (.dK (dk V.int S.last)) := e1 _ _ (by rw [upd_ne n4.symm]; exact st.la)
      have hm : hasA S.last e.1 = true := fit.last_has (List.mem_map_of_mem (List.mem_of_getElem? he))
      obtain ⟨c, hc⟩ := Option.isSome_iff_exists.mp ((hasA_look S.last).symm.trans hm)
      rw [getD_at i e he, hc]
      exact evd_pair (evd_int (ev_dgetK (k := .inr e.1) (v := .int c) (ev_fld (ev_var rfl) ins1 T.cl T.nL look_last) (ev_var rfl) (.inl la1) (by rw [valV_dk, hc]; rfl))) (evd_str (ev_var rfl))
    subst ev
    rw [hlist] at df
    have st1 := st.ex e1
    have npf : pf ∉ A.all := fun m => by
      have := (st1.kind m hf).2 vs
      exact this rfl
    have names : ((freeS S).map (·.2)).Perm ((S.texts.filter fun e => unp S e.1).map (·.1)) := by
      have := (sortD_perm ((S.texts.filter fun e => unp S e.1).map fun e => ((S.last.lookup e.1).getD 0, e.1))).map (·.2)
      rw [List.map_map] at this
      exact this
    have nd0 : ((freeS S).map (·.2)).Nodup := names.nodup_iff.mpr ((List.Sublist.map _ List.filter_sublist).nodup fit.nd)
    have in0 : ∀ n ∈ (freeS S).map (·.2), n ∈ S.texts.map (·.1) := fun n hn => (List.Sublist.map _ List.filter_sublist).subset (names.subset hn)
    refine q_while (fun m σ' H' => ∃ (rest : List (Int × Str)) (us : List V) (S' : SS), m = rest.length ∧ σ' = [some (.ref A.x), some (.int size), some (.ref pf), none] ∧ StA C H' A S' ∧ Fit S' ∧ S'.quota = S.quota ∧ H' pf = some (.lst us) ∧ DpAll K H' us (rest.map Datum.toD) ∧ Kp A.all H H' ∧
      roomS size rest S' = roomS size (freeS S) S ∧ (rest.map (·.2)).Nodup ∧ ∀ n ∈ rest.map (·.2), n ∈ S'.texts.map (·.1)) (freeS S).length ⟨freeS S, vs, S, rfl, rfl, st1, fit, rfl, hf, df, Kp.of e1, rfl, nd0, in0⟩ (fun m σ' H' ⟨rest, us, S', em, es, st', fit', hq, hu', du, kp, er, nd', in'⟩ => ?_)
    subst em es
    refine ⟨decide (S'.quota < S'.used + size) && !us.isEmpty, et_and (et_test (ev_op (ev_op (ev_used T (ev_var rfl) st') (ev_var rfl) rv_I0) (ev_quota T (ev_var rfl) st') rv_I0)) (fun _ => et_truL (ev_var rfl) hu'), fun hb H2 e2 => ?_, fun hb H2 e2 => ?_⟩
    · obtain ⟨hb1, hb2⟩ := Bool.and_eq_true_iff.mp hb
      cases rest with
      | nil =>
        cases du
        cases hb2
      | cons it r =>
        obtain ⟨c, n⟩ := it
        cases du with
        | cons d1 d2 =>
          obtain ⟨a, x1, x2, rfl, ha, hx1, hx2⟩ := dt_pair_inv (α := Int) (β := Str) d1
          have ex2 := dt_str_inv hx2
          subst ex2
          have st2 := st'.ex e2
          obtain ⟨nd1, nd2⟩ := List.nodup_cons.mp (show (n :: r.map (·.2)).Nodup from nd')
          have mem : n ∈ S'.texts.map (·.1) := in' n (List.mem_cons_self ..)
          obtain ⟨lk, ll⟩ := fit'.look mem
          refine ⟨fun σ2 H3 => ∃ (us : List V), σ2 = [some (.ref A.x), some (.int size), some (.ref pf), none] ∧ StA C H3 A (dropS S' n (textOf S' n)) ∧ H3 pf = some (.lst us) ∧ DpAll K H3 us (r.map Datum.toD) ∧ Kp A.all H H3, fun σ2 H3 ⟨us, es, st3, h3, d3, k3⟩ => ?_, ?_⟩
          · refine ⟨r.length, by show r.length < r.length + 1; omega, r, us, dropS S' n (textOf S' n), rfl, es, st3, fit'.drop n _, hq, h3, d3, k3, ?_, nd2, fun k hk => ?_⟩
            · rw [← er]
              show _ = (if S'.quota < S'.used + size then roomS size r (dropS S' n (textOf S' n)) else S')
              rw [if_pos (of_decide_eq_true hb1)]
            · show k ∈ (dropA S'.texts n).map (·.1)
              rw [dropA_keys]
              exact List.mem_filter.mpr ⟨in' k (List.mem_cons_of_mem _ hk), decide_eq_true fun z => nd1 (z ▸ hk)⟩
          · refine s_methM (ev_var rfl) st2.ins rfl fun H3 e3 => ?_
            refine t_pop0 (ev_var rfl) ((e2.trans e3) _ _ hu') (ex_t (e2.trans e3) ha) (atI_nat (j := 1) rfl) fun H4 e4 => ?_
            have hp4 := (e2.trans (e3.trans e4)) _ _ hu'
            have st4 : ∀ o', StA C (L2.upd H4 pf o') A S' := fun o' => (st'.ex (e2.trans (e3.trans e4))).kept hp4 npf
            refine ⟨A, S', n, textOf S' n, rfl, st4 _, lk, ll, fit'.last_has mem, fun H5 st5 k5 => ?_⟩
            refine ⟨_, rfl, st5, k5 pf _ npf upd_same, ?_, ?_⟩
            · exact dpAll_uxT (((Ux.of (e2.trans (e3.trans e4))).trans (Ux.upd hp4 rfl)).trans (Kp.ux (st4 _) k5)) d2
            · intro b o nb hb
              refine k5 b o nb ?_
              rw [upd_ne (fun z => by rw [z, nf] at hb; cases hb)]
              exact (e2.trans (e3.trans e4)) _ _ (kp b o nb hb)
    · have st2 := st'.ex e2
      have eS : roomS size (freeS S) S = S' := by
        rw [← er]
        cases rest with
        | nil => rfl
        | cons it r =>
          obtain ⟨c, n⟩ := it
          have hne : us.isEmpty = false := by
            cases du with
            | cons _ _ => rfl
          rw [hne] at hb
          have hb : decide (S'.quota < S'.used + size) = false := by simpa using hb
          show (if S'.quota < S'.used + size then _ else S') = S'
          rw [if_neg (of_decide_eq_false hb)]
      have kp2 := kp.trans (Kp.of e2)
      rw [eS] at k1 k2
      refine s_when (b := decide (S'.quota < S'.used + size)) (et_test (ev_op (ev_op (ev_used T (ev_var rfl) st2) (ev_var rfl) rv_I0) (ev_quota T (ev_var rfl) st2) rv_I0)) (fun hc H3 e3 => ?_) (fun hc H3 e3 => ?_)
      · refine mk2 fun d hd => ?_
        have E3 := e3.trans (Ex.new (o := .xd (two "word" "name" (.str "full") (.str ""))) hd)
        refine k2 (by have := of_decide_eq_true hc; omega) d _ (st2.ex E3) (kp2.trans (Kp.of E3)) ?_ upd_same
        cases q : H d with
        | none => rfl
        | some o =>
          exfalso
          by_cases m : d ∈ A.all
          · have m' : d = A.x ∨ d = A.dT ∨ d = A.dL ∨ d = A.dP := by simpa [Ad.all] using m
            have st3 := st2.ex e3
            rcases m' with rfl | rfl | rfl | rfl
            · rw [st3.ins] at hd; cases hd
            · rw [st3.tx] at hd; cases hd
            · rw [st3.la] at hd; cases hd
            · rw [st3.pi] at hd; cases hd
          · rw [(kp2.trans (Kp.of e3)) d o m q] at hd
            cases hd
      · refine k1 ?_ H3 (st2.ex e3) (kp2.trans (Kp.of e3))
        have := of_decide_eq_false hc
        omega
end
end Mx
set_option Elab.async false
set_option linter.all false
set_option maxRecDepth 100000
set_option maxHeartbeats 4000000
namespace Mx
open PySem PySem.Spec PyProof.Rows L2 Evl TL
open PySem.W (Datum DatumOrd Tup)
/-! ### put, get -/
theorem Kp.fresh {C : Addr} {H H' : Hp} {A : Ad} {S : SS} (h : StA C H' A S) (k : Kp A.all H H') {d : Addr} (hd : H' d = none) : H d = none := by
  cases q : H d with
  | none => rfl
  | some o =>
    exfalso
    by_cases m : d ∈ A.all
    · have m' : d = A.x ∨ d = A.dT ∨ d = A.dL ∨ d = A.dP := by simpa [Ad.all] using m
      rcases m' with rfl | rfl | rfl | rfl
      · rw [h.ins] at hd; cases hd
      · rw [h.tx] at hd; cases hd
      · rw [h.la] at hd; cases hd
      · rw [h.pi] at hd; cases hd
    · rw [k d o m q] at hd
      cases hd
def preS (S : SS) (n : Str) : SS := if hasA S.texts n = true then dropS S n (textOf S n) else S
def midS (S : SS) (t : Str) : SS := roomS (t.length : Nat) (freeS (preS S (digS t))) (preS S (digS t))
def addS (S : SS) (n t : Str) : SS := { S with texts := putA S.texts n t, used := S.used + (t.length : Nat) }
theorem Fit.pre {S : SS} (h : Fit S) (n : Str) : Fit (preS S n) := by
  unfold preS
  split
  · exact h.drop _ _
  · exact h
theorem Fit.room {size : Int} : ∀ (l : List (Int × Str)) {S : SS}, Fit S → Fit (roomS size l S)
  | [], _, h => h
  | (_, n) :: r, S, h => by
    unfold roomS
    split
    · exact Fit.room r (h.drop n _)
    · exact h
theorem Fit.mid {S : SS} (h : Fit S) (t : Str) : Fit (midS S t) := Fit.room _ (h.pre _)
theorem quota_pre {S : SS} {n : Str} : (preS S n).quota = S.quota := by
  unfold preS
  split <;> rfl
theorem quota_mid {S : SS} {t : Str} : (midS S t).quota = S.quota := by
  unfold midS
  rw [quota_room, quota_pre]
def spPut (C CE : Addr) : Sp := fun vs H Q E => ∃ (A : Ad) (S : SS) (t : Str), vs = [.ref A.x, .str t] ∧ StA C H A S ∧ Fit S ∧ t.length ≤ 1000 ∧
  (hasS S (digS t) = true → ∀ H', StA C H' A (touchS S (digS t)) → Kp A.all H H' → Q (.str (digS t)) H') ∧
  (hasS S (digS t) = false → (midS S t).used + (t.length : Nat) ≤ S.quota → ∀ H', StA C H' A (touchS (addS (midS S t) (digS t) t) (digS t)) → Kp A.all H H' → Q (.str (digS t)) H') ∧
  (hasS S (digS t) = false → S.quota < (midS S t).used + (t.length : Nat) → ∀ d H', StA C H' A (midS S t) → Kp A.all H H' → H d = none → H' d = some (.xd (two "word" "name" (.str "full") (.str ""))) → E (.ref CE) (some d) H')
def spGet (C CE : Addr) : Sp := fun vs H Q E => ∃ (A : Ad) (S : SS) (n : Str), vs = [.ref A.x, .str n] ∧ StA C H A S ∧ Fit S ∧
  (∀ t, S.texts.lookup n = some t → digS t = n → ∀ H', StA C H' A (touchS S n) → Kp A.all H H' → Q (.str t) H') ∧
  (hasA S.texts n = false → ∀ d H', Ex H H' → H d = none → H' d = some (.xd (two "word" "name" (.str "missing") (.str n))) → E (.ref CE) (some d) H') ∧
  (hasA S.texts n = true → hasS S n = false → ∀ d H', Ex H H' → H d = none → H' d = some (.xd (two "word" "name" (.str "spoilt") (.str n))) → E (.ref CE) (some d) H')
section
variable {P : Program} {w : World} {K : PySem.W.Frag} {mg : Str → Option Value} {base : Heap} {C CE : Addr}
theorem ev_has {σ : L2.St} {H : Hp} {to te : TE} {A : Ad} {S : SS} {n : Str} {E : XK} (h : Ev to σ H (.ref A.x)) (h2 : Ev te σ H (.str n)) (st : StA C H A S) (lt : ∀ t, S.texts.lookup n = some t → t.length ≤ 1000) : Ev (tMeth C "has" (spHas C) [] E to (tCons te tNil)) σ H (.bl (hasS S n)) := fun H1 e Q q =>
  t_meth (h.mono e) (e _ _ st.ins) rfl (ea_cons (h2.mono e) ea_nil) fun H2 e2 => ⟨A, S, n, rfl, st.ex (e.trans e2), lt, fun H3 e3 => q H3 (e2.trans e3)⟩
theorem Fit.lt {S : SS} (h : Fit S) {n t : Str} (l : S.texts.lookup n = some t) : t.length ≤ 1000 := h.len _ (mem_of_look l)
theorem scPut : FnScope ["self", "text", "name"] ["self", "text"] (defScope sPut) := ⟨rfl, rfl, rfl, by decide +kernel, rfl, by decide +kernel, by decide +kernel⟩
theorem ok_put {f : Addr} {fd : FuncData} (F : Fun K "put" "Store.put" sPut f fd) (T : Txt K mg C) (hD : Has P w K mg base CX0 2 "digest" ["text"] spDig) (hTo : HasM P w K mg base CX0 1 C "touch" ["self", "name"] (spTouch C)) (hHa : HasM P w K mg base CX0 3 C "has" ["self", "name"] (spHas C))
    (hDr : HasM P w K mg base CX0 1 C "drop" ["self", "name"] (spDrop C)) (hRo : HasM P w K mg base (L2.CX P w) 3 C "make_room" ["self", "size"] (spRoom C CE)) : FnOk P w K mg base (L2.CX P w) 4 f fd ["self", "text"] (spPut C CE) := by
  refine F.okX scPut (fun vs H Q E h => ?_) (fun cdv Ar outer s H vs Q E hr h => ?_)
  · obtain ⟨A, S, t, rfl, _⟩ := h
    rfl
  · obtain ⟨A, S, t, rfl, st, fit, lt, k1, k2, k3⟩ := h
    have hu := hu_of hr
    refine ⟨_,
      pss_cons (ps_set (i := 2) scPut.nd rfl (Or.inl rfl) (pe_h hD hr (by rfl) pass0 (pa_cons (pv 1) pa_nil)))
      (pss_cut (ps_if (pt_not (pt_val (pe_m (pv 0) T.cl hHa hr pass0 (pa_cons (pv 2) pa_nil))))
        (pss_cut (ps_if (pt_cmp (pc_din hu (pv 2) (pe_fld (pv 0) rfl))) (pss_one (ps_expr (pe_m (pv 0) T.cl hDr hr pass0 (pa_cons (pv 2) pa_nil)))) pss_nil)
        (pss_cons (ps_expr (pe_m (pv 0) T.cl hRo hr (passes_call (takes_of rfl rfl rfl rfl) fun _ _ _ _ z => z) (pa_cons (pe_callB call_len_str (by rfl) T.len PySem.boot_len (pa_cons (pv 1) pa_nil)) pa_nil)))
        (pss_cons (ps_dput hu (pe_fld (pv 0) rfl) (pv 2) (pv 1) rfl)
        (pss_one (ps_fldaug (pv 0) (pe_callB call_len_str (by rfl) T.len PySem.boot_len (pa_cons (pv 1) pa_nil)) in_add))))) pss_nil)
      (pss_cons (ps_expr (pe_m (pv 0) T.cl hTo hr pass0 (pa_cons (pv 2) pa_nil)))
      (pss_one (ps_ret (pv 2))))), ?_⟩
    have lx : ∀ {H2 : Hp}, Ev (tCB (fun xs H Q => ∃ z, xs = [.str z] ∧ z.length ≤ sizeLine ∧ Q (.int z.length) H) (tCons (tVar 1) tNil)) [some (.ref A.x), some (.str t), some (.str (digS t))] H2 (.int (t.length : Nat)) := fun {H2} => ev_lenS (ev_var (i := 1) rfl) (by omega)
    refine q_asg (v := .str (digS t)) (ev_call (sp := spDig) (ea_cons (ev_var rfl) ea_nil) fun H1 e Q q1 E => ⟨t, rfl, by omega, q1 H1 (Ex.refl H1)⟩) fun H1 e1 => ?_
    have st1 := st.ex e1
    refine q_cut (M := fun σ' H' => ∃ S', σ' = [some (.ref A.x), some (.str t), some (.str (digS t))] ∧ StA C H' A S' ∧ Kp A.all H H' ∧ S'.last.length ≤ 1000 ∧ ∀ H'', StA C H'' A (touchS S' (digS t)) → Kp A.all H H'' → Q (.str (digS t)) H'') ?_ fun σ' H' ⟨S', es, st', kp', hl, kk⟩ => ?_
    · refine s_when (et_not (et_B (ev_has (n := digS t) (ev_var rfl) (ev_var rfl) st1 fun u hu => fit.lt hu))) (fun hb H2 e2 => ?_) (fun hb H2 e2 => ?_)
      · have hh : hasS S (digS t) = false := by simpa using hb
        have st2 := st1.ex e2
        refine q_cut (M := fun σ' H' => σ' = [some (.ref A.x), some (.str t), some (.str (digS t))] ∧ StA C H' A (preS S (digS t)) ∧ Kp A.all H H') ?_ fun σ' H' ⟨es, st', kp'⟩ => ?_
        · have nt := et_din (k := .inr (digS t)) (σ := [some (.ref A.x), some (.str t), some (.str (digS t))]) (ev_var (i := 2) rfl) (ev_texts T (ev_var (i := 0) rfl) st2) (.inl st2.tx)
          rw [valV_dk] at nt
          have hs : (Option.map V.str (List.lookup (digS t) S.texts)).isSome = hasA S.texts (digS t) := by
            rw [hasA_look]
            cases List.lookup (digS t) S.texts <;> rfl
          rw [hs] at nt
          refine s_when nt (fun hc H3 e3 => ?_) (fun hc H3 e3 => ?_)
          · have st3 := st2.ex e3
            have mem := hasA_mem.mp hc
            obtain ⟨lk, ll⟩ := fit.look mem
            refine s_meth (ev_var rfl) st3.ins rfl (ea_cons (ev_var rfl) ea_nil) fun H4 e4 => ⟨A, S, digS t, _, rfl, st3.ex e4, lk, ll, fit.last_has mem, fun H5 st5 k5 => ⟨rfl, ?_, ?_⟩⟩
            · unfold preS
              rw [if_pos hc]
              exact st5
            · exact (Kp.of (((e1.trans e2).trans e3).trans e4)).trans k5
          · refine ⟨rfl, ?_, Kp.of ((e1.trans e2).trans e3)⟩
            unfold preS
            rw [if_neg (by rw [hc]; decide)]
            exact st2.ex e3
        · subst es
          have fp := fit.pre (digS t)
          refine q_meth (ev_var rfl) st'.ins rfl (ea_cons lx ea_nil) fun H4 e4 => ⟨A, preS S (digS t), (t.length : Nat), rfl, st'.ex e4, fp, fun ok H5 st5 k5 => ?_, fun full d H5 st5 k5 hd hx => ?_⟩
          · have fm := fit.mid t
            have ok' : (midS S t).used + (t.length : Nat) ≤ S.quota := by
              have z : (midS S t).used + (t.length : Nat) ≤ (preS S (digS t)).quota := ok
              rw [quota_pre] at z
              exact z
            have st5 : StA C H5 A (midS S t) := st5
            have kp5 := (kp'.trans (Kp.of e4)).trans k5
            refine q_dput (k := .inr (digS t)) (ev_var rfl) (ev_texts T (ev_var rfl) st5) (ev_var rfl) st5.tx (by rw [dk_len]; have := fm.few; omega) fun H6 e6 => ?_
            rw [putK_dk]
            have st6 : StA C (L2.upd H6 A.dT (.dK (dk V.str (putA (midS S t).texts (digS t) t)))) A { midS S t with texts := putA (midS S t).texts (digS t) t } := (st5.ex e6).setT
            refine s_fldaug (z := .int ((midS S t).used + (t.length : Nat))) (ev_var rfl) st6.ins T.cl T.nU look_used lx rv_I0 (by show 6 < 1000; decide) fun H7 e7 => ?_
            rw [fld_used]
            have st7 := (st6.ex e7).setX (u := (midS S t).used + (t.length : Nat)) (c := (midS S t).clock)
            have m1 : A.dT ∈ A.all := by simp [Ad.all]
            have m2 : A.x ∈ A.all := by simp [Ad.all]
            refine ⟨addS (midS S t) (digS t) t, rfl, st7, ((kp5.trans (Kp.of e6)).trans (Kp.upd m1)).trans ((Kp.of e7).trans (Kp.upd m2)), (show (midS S t).last.length ≤ 1000 from last_len fm), fun H8 st8 k8 => k2 hh ok' H8 st8 k8⟩
          · have z : (preS S (digS t)).quota < (midS S t).used + (t.length : Nat) := full
            rw [quota_pre] at z
            refine k3 hh z d H5 st5 ((kp'.trans (Kp.of e4)).trans k5) ?_ hx
            exact Kp.fresh (st'.ex e4) (kp'.trans (Kp.of e4)) hd
      · have hh : hasS S (digS t) = true := by simpa using hb
        exact ⟨S, rfl, st1.ex e2, Kp.of (e1.trans e2), last_len fit, k1 hh⟩
    · subst es
      refine q_meth (ev_var rfl) st'.ins rfl (ea_cons (ev_var rfl) ea_nil) fun H3 e3 => ⟨A, S', digS t, rfl, st'.ex e3, hl, fun H4 st4 k4 => ?_⟩
      refine s_ret (ev_var rfl) fun H5 e5 => ?_
      exact kk H5 (st4.ex e5) (((kp'.trans (Kp.of e3)).trans k4).trans (Kp.of e5))
theorem scGet : FnScope ["self", "name"] ["self", "name"] (defScope sGet) := ⟨rfl, rfl, rfl, by decide +kernel, rfl, by decide +kernel, by decide +kernel⟩
theorem ok_get {f : Addr} {fd : FuncData} (F : Fun K "get" "Store.get" sGet f fd) (T : Txt K mg C) (R : Err2 P w K mg base "StoreError" "word" "name" CE) (hD : Has P w K mg base CX0 2 "digest" ["text"] spDig) (hTo : HasM P w K mg base CX0 1 C "touch" ["self", "name"] (spTouch C)) :
    FnOk P w K mg base (L2.CX P w) 3 f fd ["self", "name"] (spGet C CE) := by
  refine F.okX scGet (fun vs H Q E h => ?_) (fun cdv Ar outer s H vs Q E hr h => ?_)
  · obtain ⟨A, S, n, rfl, _⟩ := h
    rfl
  · obtain ⟨A, S, n, rfl, st, fit, k1, k2, k3⟩ := h
    have hu := hu_of hr
    refine ⟨_,
      pss_cons (ps_if (pt_cmp (pc_dnotin hu (pv 1) (pe_fld (pv 0) rfl))) (pss_one (ps_raise rfl (takes_of rfl rfl rfl rfl) (pmk_err R hr (by rfl) (pa_cons pe_str (pa_cons (pv 1) pa_nil))))) pss_nil)
      (pss_cons (ps_if (pt_cmpR op_ne (pe_h hD hr (by rfl) pass0 (pa_cons (pe_dget hu (pe_fld (pv 0) rfl) (pv 1) (fun _ _ => rfl)) pa_nil)) (pv 1) (nomark _)) (pss_one (ps_raise rfl (takes_of rfl rfl rfl rfl) (pmk_err R hr (by rfl) (pa_cons pe_str (pa_cons (pv 1) pa_nil))))) pss_nil)
      (pss_cons (ps_expr (pe_m (pv 0) T.cl hTo hr pass0 (pa_cons (pv 1) pa_nil)))
      (pss_one (ps_ret (pe_dget hu (pe_fld (pv 0) rfl) (pv 1) (fun _ _ => rfl)))))), ?_⟩
    have nt := et_dnin (k := .inr n) (σ := L2.start ["self", "name"] [.ref A.x, .str n]) (ev_var (i := 1) rfl) (ev_texts T (ev_var (i := 0) rfl) st) (.inl st.tx)
    rw [valV_dk] at nt
    refine q_when nt (fun hb H1 e1 => ?_) (fun hb H1 e1 => ?_)
    · refine ⟨_, rfl, mk2 fun d hd => ?_⟩
      refine k2 ?_ d _ (e1.trans (Ex.new hd)) (fresh_back e1 hd) upd_same
      rw [hasA_look]
      cases q : S.texts.lookup n with
      | none => rfl
      | some t => rw [q] at hb; cases hb
    · cases q : S.texts.lookup n with
      | none => rw [q] at hb; cases hb
      | some t =>
        have st1 := st.ex e1
        have lt := fit.lt q
        have get_ : ∀ {H2 : Hp} {S2 : SS}, StA C H2 A S2 → S2.texts.lookup n = some t → Ev (tDGet (tFld K (tVar 0) "texts") (tVar 1)) (L2.start ["self", "name"] [.ref A.x, .str n]) H2 (.str t) := fun {H2 S2} s2 q2 =>
          ev_dgetK (k := .inr n) (v := .str t) (ev_texts T (ev_var (i := 0) rfl) s2) (ev_var (i := 1) rfl) (.inl s2.tx) (by rw [valV_dk, q2]; rfl)
        refine q_when (b := !decide (digS t = n)) (et_is (et_test (ev_op (ev_call (sp := spDig) (z := .str (digS t)) (ea_cons (get_ st1 q) ea_nil) fun H1 e Q q1 E => ⟨t, rfl, by omega, q1 H1 (Ex.refl H1)⟩) (ev_var rfl) (rv_ne rfl))) (by rw [str_eq])) (fun hc H2 e2 => ?_) (fun hc H2 e2 => ?_)
        · refine ⟨_, rfl, mk2 fun d hd => ?_⟩
          refine k3 (by rw [hasA_look, q]; rfl) ?_ d _ ((e1.trans e2).trans (Ex.new hd)) (fresh_back (e1.trans e2) hd) upd_same
          unfold hasS
          rw [q]
          simpa using hc
        · have st2 := st1.ex e2
          have hn : digS t = n := by simpa using hc
          refine q_meth (ev_var rfl) st2.ins rfl (ea_cons (ev_var rfl) ea_nil) fun H3 e3 => ⟨A, S, n, rfl, st2.ex e3, last_len fit, fun H4 st4 k4 => ?_⟩
          refine s_ret (get_ st4 q) fun H5 e5 => ?_
          exact k1 t q hn H5 (st4.ex e5) (((Kp.of ((e1.trans e2).trans e3)).trans k4).trans (Kp.of e5))
end
end Mx
set_option Elab.async false
set_option linter.all false
set_option maxRecDepth 100000
set_option maxHeartbeats 4000000
namespace Mx
open PySem PySem.Spec PyProof.Rows L2 Evl TL
open PySem.W (Datum DatumOrd Tup)
/-! ### making, pins -/
def emptyS (q : Int) : SS := ⟨[], q, 0, 0, [], []⟩
def pinS (S : SS) (n : Str) : SS := { S with pins := putA S.pins n ((S.pins.lookup n).getD 0 + 1) }
def unpinS (S : SS) (n : Str) : SS := { S with pins := if (S.pins.lookup n).getD 0 - 1 ≤ 0 then dropA (putA S.pins n ((S.pins.lookup n).getD 0 - 1)) n else putA S.pins n ((S.pins.lookup n).getD 0 - 1) }
def spInit (C : Addr) : Sp := fun vs H Q _ => ∃ (x dx : Addr) (q : Int), vs = [.ref x, .int q] ∧ H x = some (.ins C dx []) ∧
  ∀ (A : Ad) H', A.x = x → A.dx = dx → StA C H' A (emptyS q) → (∀ a o, a ≠ x → H a = some o → H' a = some o) → H A.dT = none → H A.dL = none → H A.dP = none → Q .non H'
def spPin (K : PySem.W.Frag) (C : Addr) : Sp := fun vs H Q _ => ∃ (A : Ad) (S : SS) (n : Str) (a : Addr), vs = [.ref A.x, .ref a] ∧ StA C H A S ∧ S.pins.length ≤ 1000 ∧ H a = some (.lst [.str n]) ∧ ∀ H', StA C H' A (pinS S n) → Kp A.all H H' → Q .non H'
def spUnpin (K : PySem.W.Frag) (C : Addr) : Sp := fun vs H Q _ => ∃ (A : Ad) (S : SS) (n : Str) (a : Addr), vs = [.ref A.x, .ref a] ∧ StA C H A S ∧ S.pins.length ≤ 1000 ∧ H a = some (.lst [.str n]) ∧ ∀ H', StA C H' A (unpinS S n) → Kp A.all H H' → Q .non H'
section
variable {P : Program} {w : World} {K : PySem.W.Frag} {mg : Str → Option Value} {base : Heap} {C CE : Addr}
theorem s_fldN {σ : L2.St} {H : Hp} {to : TE} {f : Str} {x dx : Addr} {fs : List (Str × V)} {D : Ends} {tz : TS} (h : ∀ H1, Ex H H1 → Ev to σ H1 (.ref x)) (hx : H x = some (.ins C dx fs)) (c : Cls K C) (n : NoAttr K C f) (hl : fs.length < 1000)
    (k : ∀ d H1, H d = none → Ex (upd H d (.dK [])) H1 → tz D σ (upd H1 x (.ins C dx (putF f (.ref d) fs)))) : tSeq (sFld K to tDNewK f) tz D σ H := fun d hd =>
  h _ (Ex.new hd) _ (Ex.refl _) _ fun H2 e2 => ⟨x, C, dx, fs, rfl, e2 _ _ (Ex.new hd _ _ hx), c, n, hl, k d H2 hd e2⟩
def fs1 (dT : Addr) : List (Str × V) := [("texts", .ref dT)]
def fs2 (dT : Addr) (q : Int) : List (Str × V) := [("texts", .ref dT), ("quota", .int q)]
def fs3 (dT : Addr) (q : Int) : List (Str × V) := [("texts", .ref dT), ("quota", .int q), ("used", .int 0)]
def fs4 (dT : Addr) (q : Int) : List (Str × V) := [("texts", .ref dT), ("quota", .int q), ("used", .int 0), ("clock", .int 0)]
def fs5 (dT dL : Addr) (q : Int) : List (Str × V) := [("texts", .ref dT), ("quota", .int q), ("used", .int 0), ("clock", .int 0), ("last", .ref dL)]
theorem pf_texts {dT : Addr} : putF "texts" (V.ref dT) [] = fs1 dT := rfl
theorem pf_quota {dT : Addr} {q : Int} : putF "quota" (V.int q) (fs1 dT) = fs2 dT q := by
  unfold fs1
  rw [putF_miss (by decide +kernel)]
  rfl
theorem pf_used {dT : Addr} {q : Int} : putF "used" (V.int 0) (fs2 dT q) = fs3 dT q := by
  unfold fs2
  rw [putF_miss (by decide +kernel), putF_miss (by decide +kernel)]
  rfl
theorem pf_clock {dT : Addr} {q : Int} : putF "clock" (V.int 0) (fs3 dT q) = fs4 dT q := by
  unfold fs3
  rw [putF_miss (by decide +kernel), putF_miss (by decide +kernel), putF_miss (by decide +kernel)]
  rfl
theorem pf_last {dT dL : Addr} {q : Int} : putF "last" (V.ref dL) (fs4 dT q) = fs5 dT dL q := by
  unfold fs4
  rw [putF_miss (by decide +kernel), putF_miss (by decide +kernel), putF_miss (by decide +kernel), putF_miss (by decide +kernel)]
  rfl
theorem pf_pins {dT dL dP : Addr} {q : Int} : putF "pins" (V.ref dP) (fs5 dT dL q) = flds dT dL dP (emptyS q) := by
  unfold fs5
  rw [putF_miss (by decide +kernel), putF_miss (by decide +kernel), putF_miss (by decide +kernel), putF_miss (by decide +kernel), putF_miss (by decide +kernel)]
  rfl
theorem q_fld {σ : L2.St} {H : Hp} {to tv : TE} {f : Str} {x dx : Addr} {fs : List (Str × V)} {D : Ends} {tz : TS} {y : V} (hv : Ev tv σ H y) (h : Ev to σ H (.ref x)) (hx : H x = some (.ins C dx fs)) (c : Cls K C) (n : NoAttr K C f) (hl : fs.length < 1000)
    (k : ∀ H1, Ex H H1 → tz D σ (upd H1 x (.ins C dx (putF f y fs)))) : tSeq (sFld K to tv f) tz D σ H := s_fld (D := { D with nx := tz D }) hv h hx c n hl k
theorem look_putA {α : Type} {l : List (Str × α)} {n : Str} {v : α} : (putA l n v).lookup n = some v := by
  unfold putA
  split
  · rename_i h
    induction l with
    | nil => cases h
    | cons a r ih =>
      obtain ⟨k, b⟩ := a
      by_cases e : k = n
      · rw [List.map_cons, if_pos e, List.lookup_cons, e]
        simp
      · have h3 : (n == k) = false := by simpa using fun z => e z.symm
        rw [List.map_cons, if_neg e, List.lookup_cons, h3]
        refine ih ?_
        have : (decide (k = n) || hasA r n) = true := h
        rw [decide_eq_false e] at this
        exact this
  · rename_i h
    have hn : l.lookup n = none := by
      cases q : l.lookup n with
      | none => rfl
      | some _ => exact absurd (by rw [hasA_look, q]; rfl) h
    rw [List.lookup_append, hn]
    simp
theorem scInit : FnScope ["self", "quota"] ["self", "quota"] (defScope sInit) := ⟨rfl, rfl, rfl, by decide +kernel, rfl, by decide +kernel, by decide +kernel⟩
theorem ok_init {f : Addr} {fd : FuncData} (F : Fun K "__init__" "Store.__init__" sInit f fd) (T : Txt K mg C) : FnOk P w K mg base CX0 1 f fd ["self", "quota"] (spInit C) := by
  refine F.ok scInit (fun vs H Q E h => ?_) (fun cdv Ar outer s H vs Q E hr h => ?_)
  · obtain ⟨x, dx, q, rfl, _⟩ := h
    rfl
  · obtain ⟨x, dx, q, rfl, hx, k⟩ := h
    refine ⟨_, pss_cons (ps_fld (pv 0) pe_dnewK rfl) (pss_cons (ps_fld (pv 0) (pv 1) rfl) (pss_cons (ps_fld (pv 0) pe_int rfl) (pss_cons (ps_fld (pv 0) pe_int rfl) (pss_cons (ps_fld (pv 0) pe_dnewK rfl) (pss_one (ps_fld (pv 0) pe_dnewK rfl)))))), ?_⟩
    have nx : ∀ {d : Addr}, H d = none → d ≠ x := fun hd z => by rw [z, hx] at hd; cases hd
    have up : ∀ {H1 : Hp} {o : HO} {a : Addr} {u : HO}, a ≠ x → H1 a = some u → L2.upd H1 x o a = some u := fun n e => by rw [upd_ne n]; exact e
    refine s_fldN (fun _ _ => ev_var rfl) hx T.cl T.nT (by show 0 < 1000; decide) fun dT H1 hT e1 => ?_
    have a1 : ∀ a o, a ≠ x → H a = some o → L2.upd H1 x (.ins C dx (fs1 dT)) a = some o := fun a o n e => up n (e1 _ _ (Ex.new hT _ _ e))
    have t1 : L2.upd H1 x (.ins C dx (fs1 dT)) dT = some (.dK []) := up (nx hT) (e1 _ _ upd_same)
    refine q_fld (fs := (fs1 dT)) (ev_var rfl) (ev_var rfl) upd_same T.cl T.nQ (by show 1 < 1000; decide) fun H2 e2 => ?_
    rw [pf_quota]
    refine q_fld (fs := (fs2 dT q)) ev_c (ev_var rfl) upd_same T.cl T.nU (by show 2 < 1000; decide) fun H3 e3 => ?_
    rw [pf_used]
    refine q_fld (fs := (fs3 dT q)) ev_c (ev_var rfl) upd_same T.cl T.nC (by show 3 < 1000; decide) fun H4 e4 => ?_
    rw [pf_clock]
    have a4 : ∀ a o, a ≠ x → H a = some o → L2.upd H4 x (.ins C dx (fs4 dT q)) a = some o := fun a o n e => up n (e4 _ _ (up n (e3 _ _ (up n (e2 _ _ (a1 a o n e))))))
    have t4 : L2.upd H4 x (.ins C dx (fs4 dT q)) dT = some (.dK []) := up (nx hT) (e4 _ _ (up (nx hT) (e3 _ _ (up (nx hT) (e2 _ _ t1)))))
    refine s_fldN (fun _ _ => ev_var rfl) upd_same T.cl T.nL (by show 4 < 1000; decide) fun dL H5 hL e5 => ?_
    have fL : H dL = none := by
      cases z : H dL with
      | none => rfl
      | some o =>
        have n : dL ≠ x := fun z => by rw [z, upd_same] at hL; cases hL
        rw [a4 dL o n z] at hL
        cases hL
    have nTL : dT ≠ dL := fun z => by rw [← z, t4] at hL; cases hL
    rw [pf_last]
    have a5 : ∀ a o, a ≠ x → H a = some o → L2.upd H5 x (.ins C dx (fs5 dT dL q)) a = some o := fun a o n e => up n (e5 _ _ (Ex.new hL _ _ (a4 a o n e)))
    have t5 : L2.upd H5 x (.ins C dx (fs5 dT dL q)) dT = some (.dK []) := up (nx hT) (e5 _ _ (Ex.new hL _ _ t4))
    have l5 : L2.upd H5 x (.ins C dx (fs5 dT dL q)) dL = some (.dK []) := up (nx fL) (e5 _ _ upd_same)
    refine s_fldN (tz := tNext) (D := { nx := fun _ H' => Q .non H', rt := Q }) (fun _ _ => ev_var rfl) upd_same T.cl T.nP (by show 5 < 1000; decide) fun dP H6 hP e6 => ?_
    have fP : H dP = none := by
      cases z : H dP with
      | none => rfl
      | some o =>
        have n : dP ≠ x := fun z => by rw [z, upd_same] at hP; cases hP
        rw [a5 dP o n z] at hP
        cases hP
    have nTP : dT ≠ dP := fun z => by rw [← z, t5] at hP; cases hP
    have nLP : dL ≠ dP := fun z => by rw [← z, l5] at hP; cases hP
    rw [pf_pins]
    refine k ⟨x, dx, dT, dL, dP⟩ _ rfl rfl ⟨upd_same, up (nx hT) (e6 _ _ (Ex.new hP _ _ t5)), up (nx fL) (e6 _ _ (Ex.new hP _ _ l5)), up (nx fP) (e6 _ _ upd_same), ?_⟩ (fun a o n e => up n (e6 _ _ (Ex.new hP _ _ (a5 a o n e)))) hT fL fP
    have m1 := (nx hT).symm
    have m2 := (nx fL).symm
    have m3 := (nx fP).symm
    simp only [Ad.all, List.nodup_cons, List.mem_cons, List.not_mem_nil, not_or, or_false]
    exact ⟨⟨m1, m2, m3⟩, ⟨nTL, nTP⟩, nLP, fun z => z, List.nodup_nil⟩
theorem scPin : FnScope ["self", "names", "name"] ["self", "names"] (defScope sPin) := ⟨rfl, rfl, rfl, by decide +kernel, rfl, by decide +kernel, by decide +kernel⟩
theorem ev_pinget {σ : L2.St} {H : Hp} {A : Ad} {S : SS} {n : Str} {to ty : TE} (T : Txt K mg C) (h : Ev to σ H (.ref A.x)) (h2 : Ev ty σ H (.str n)) (st : StA C H A S) : Ev (tDGet2 (tFld K to "pins") ty (tC (.int 0))) σ H (.int ((S.pins.lookup n).getD 0)) :=
  ev_is (ev_dget2K (k := .inr n) (z := .int 0) (ev_pins T h st) h2 ev_c (.inl st.pi)) (by
    rw [valV_dk]
    cases S.pins.lookup n <;> rfl)
theorem ok_pin {f : Addr} {fd : FuncData} (F : Fun K "pin" "Store.pin" sPin f fd) (T : Txt K mg C) : FnOk P w K mg base CX0 1 f fd ["self", "names"] (spPin K C) := by
  refine F.ok scPin (fun vs H Q E h => ?_) (fun cdv Ar outer s H vs Q E hr h => ?_)
  · obtain ⟨A, S, n, a, rfl, _⟩ := h
    rfl
  · obtain ⟨A, S, n, a, rfl, st, hl, ha, k⟩ := h
    have hu := hu_of hr
    refine ⟨_, pss_one (ps_for PassesOwn.never rfl (pi_list (pv 1)) (pg_name (i := 2) scPin.nd rfl (Or.inl rfl)) (pss_one (ps_dput hu (pe_fld (pv 0) rfl) (pv 2) (pe_op op_add (pe_dget2 hu (pe_fld (pv 0) rfl) (pv 2) pe_int ⟨rfl, rfl, rfl, rfl⟩) pe_int) rfl))), ?_⟩
    refine s_forL (xs := [.str n]) (ev_var rfl) (sq_of ha) (fun i σ' H' => Kp A.all H H' ∧ H' a = some (.lst [.str n]) ∧ ∃ v, σ' = [some (.ref A.x), some (.ref a), v] ∧ StA C H' A (if i = 0 then S else pinS S n)) (fun H1 e => ⟨Kp.of e, e _ _ ha, none, rfl, st.ex e⟩) (fun i σ' H' _ z => sq_of z.2.1) (fun i y σ' H' hy z => ?_) (fun σ' H' z => ?_)
    · obtain ⟨kp, hL, v, es, st'⟩ := z
      have i0 : i = 0 := by
        have := (List.getElem?_eq_some_iff.mp hy).1
        simp at this
        omega
      subst i0
      cases hy
      subst es
      rw [if_pos rfl] at st'
      refine s_dput (k := .inr n) (v := .int ((S.pins.lookup n).getD 0 + 1)) (ev_op (ev_pinget T (ev_var rfl) (ev_var rfl) st') ev_c rv_I0) (ev_pins T (ev_var rfl) st') (ev_var rfl) st'.pi (by rw [dk_len]; omega) fun H2 e2 => ?_
      rw [putK_dk]
      have m : A.dP ∈ A.all := by simp [Ad.all]
      have na : a ≠ A.dP := fun z => by rw [z, st'.pi] at hL; cases hL
      refine ⟨(kp.trans (Kp.of e2)).trans (Kp.upd m), by rw [upd_ne na]; exact e2 _ _ hL, some (.str n), rfl, ?_⟩
      rw [if_neg (by decide)]
      exact (st'.ex e2).setP
    · obtain ⟨kp, hL, v, es, st'⟩ := z
      exact k H' st' kp
theorem scUnpin : FnScope ["self", "names", "name"] ["self", "names"] (defScope sUnpin) := ⟨rfl, rfl, rfl, by decide +kernel, rfl, by decide +kernel, by decide +kernel⟩
theorem ok_unpin {f : Addr} {fd : FuncData} (F : Fun K "unpin" "Store.unpin" sUnpin f fd) (T : Txt K mg C) : FnOk P w K mg base CX0 1 f fd ["self", "names"] (spUnpin K C) := by
  refine F.ok scUnpin (fun vs H Q E h => ?_) (fun cdv Ar outer s H vs Q E hr h => ?_)
  · obtain ⟨A, S, n, a, rfl, _⟩ := h
    rfl
  · obtain ⟨A, S, n, a, rfl, st, hl, ha, k⟩ := h
    have hu := hu_of hr
    refine ⟨_, pss_one (ps_for PassesOwn.never rfl (pi_list (pv 1)) (pg_name (i := 2) scUnpin.nd rfl (Or.inl rfl)) (pss_cons (ps_dput hu (pe_fld (pv 0) rfl) (pv 2) (pe_op op_sub (pe_dget2 hu (pe_fld (pv 0) rfl) (pv 2) pe_int ⟨rfl, rfl, rfl, rfl⟩) pe_int) rfl)
      (pss_one (ps_if (pt_cmpR op_le (pe_dget hu (pe_fld (pv 0) rfl) (pv 2) (fun _ _ => rfl)) pe_int (nomark _)) (pss_one (ps_expr (pe_dpop1 (pe_fld (pv 0) rfl) (pv 2) ⟨rfl, rfl, rfl, rfl⟩))) pss_nil)))), ?_⟩
    refine s_forL (xs := [.str n]) (ev_var rfl) (sq_of ha) (fun i σ' H' => Kp A.all H H' ∧ H' a = some (.lst [.str n]) ∧ ∃ v, σ' = [some (.ref A.x), some (.ref a), v] ∧ StA C H' A (if i = 0 then S else unpinS S n)) (fun H1 e => ⟨Kp.of e, e _ _ ha, none, rfl, st.ex e⟩) (fun i σ' H' _ z => sq_of z.2.1) (fun i y σ' H' hy z => ?_) (fun σ' H' z => ?_)
    · obtain ⟨kp, hL, v, es, st'⟩ := z
      have i0 : i = 0 := by
        have := (List.getElem?_eq_some_iff.mp hy).1
        simp at this
        omega
      subst i0
      cases hy
      subst es
      rw [if_pos rfl] at st'
      refine q_dput (k := .inr n) (v := .int ((S.pins.lookup n).getD 0 - 1)) (ev_op (ev_pinget T (ev_var rfl) (ev_var rfl) st') ev_c rv_I0) (ev_pins T (ev_var rfl) st') (ev_var rfl) st'.pi (by rw [dk_len]; omega) fun H2 e2 => ?_
      rw [putK_dk]
      have m : A.dP ∈ A.all := by simp [Ad.all]
      have na : a ≠ A.dP := fun z => by rw [z, st'.pi] at hL; cases hL
      have st2 : StA C (L2.upd H2 A.dP (.dK (dk V.int (putA S.pins n ((S.pins.lookup n).getD 0 - 1))))) A { S with pins := putA S.pins n ((S.pins.lookup n).getD 0 - 1) } := (st'.ex e2).setP
      have kp2 := (kp.trans (Kp.of e2)).trans (Kp.upd (o := .dK (dk V.int (putA S.pins n ((S.pins.lookup n).getD 0 - 1)))) m)
      have hL2 : L2.upd H2 A.dP (.dK (dk V.int (putA S.pins n ((S.pins.lookup n).getD 0 - 1)))) a = some (.lst [.str n]) := by rw [upd_ne na]; exact e2 _ _ hL
      have gv : valV (dk V.int (putA S.pins n ((S.pins.lookup n).getD 0 - 1))) (.inr n) = some (.int ((S.pins.lookup n).getD 0 - 1)) := by rw [valV_dk, look_putA]; rfl
      refine s_when (et_test (ev_op (ev_dgetK (k := .inr n) (ev_pins T (ev_var rfl) st2) (ev_var rfl) (.inl st2.pi) gv) ev_c rv_I0)) (fun hb H3 e3 => ?_) (fun hb H3 e3 => ?_)
      · refine s_dpop (k := .inr n) (ev_pins T (ev_var rfl) (st2.ex e3)) (ev_var rfl) (st2.ex e3).pi gv fun H4 e4 => ?_
        rw [dropK_dk]
        refine ⟨(kp2.trans (Kp.of (e3.trans e4))).trans (Kp.upd m), by rw [upd_ne na]; exact (e3.trans e4) _ _ hL2, some (.str n), rfl, ?_⟩
        rw [if_neg (by decide)]
        unfold unpinS
        rw [if_pos (of_decide_eq_true hb)]
        exact ((st2.ex e3).ex e4).setP
      · refine ⟨kp2.trans (Kp.of e3), e3 _ _ hL2, some (.str n), rfl, ?_⟩
        rw [if_neg (by decide)]
        unfold unpinS
        rw [if_neg (of_decide_eq_false hb)]
        exact st2.ex e3
    · obtain ⟨kp, hL, v, es, st'⟩ := z
      exact k H' st' kp
end
end Mx
set_option Elab.async false
set_option linter.all false
set_option maxRecDepth 100000
set_option maxHeartbeats 4000000
namespace Mx
open PySem PySem.Spec PyProof.Rows L2 Evl TL
open PySem.W (Datum DatumOrd Tup)
/-! ### spoilt, collect -/
def spoS (S : SS) : List Str := sortD ((S.texts.filter fun e => !decide (digS e.2 = e.1)).map (·.1))
def spSpo (K : PySem.W.Frag) (C : Addr) : Sp := fun vs H Q _ => ∃ (A : Ad) (S : SS), vs = [.ref A.x] ∧ StA C H A S ∧ Fit S ∧ ∀ v H', Ex H H' → Dt K H' v (spoS S) → Q v H'
def goneS (S : SS) (held : List Str) : List Str := sortD ((S.texts.filter fun e => !decide (e.1 ∈ held) && unp S e.1).map (·.1))
def dropAllS : List Str → SS → SS
  | [], S => S
  | n :: r, S => dropAllS r (dropS S n (textOf S n))
/-- manifests: a list of tuples of pairs of texts -/
def spColl (K : PySem.W.Frag) (C : Addr) : Sp := fun vs H Q _ => ∃ (A : Ad) (S : SS) (a : Addr) (us : List V) (ms : List (Tup (Str × Str))), vs = [.ref A.x, .ref a] ∧ StA C H A S ∧ Fit S ∧ H a = some (.lst us) ∧ DpAll K H us (ms.map Datum.toD) ∧ (ms.map (·.items.length)).sum ≤ 1000 ∧
  ∀ v H', StA C H' A (dropAllS (goneS S (ms.flatMap fun m => m.items.map (·.2))) S) → Kp A.all H H' → Dt K H' v (goneS S (ms.flatMap fun m => m.items.map (·.2))) → Q v H'
section
variable {P : Program} {w : World} {K : PySem.W.Frag} {mg : Str → Option Value} {base : Heap} {C CE : Addr}
theorem scSpo : FnScope ["self", "name", "text"] ["self"] (defScope sSpo) := ⟨rfl, rfl, rfl, by decide +kernel, rfl, by decide +kernel, by decide +kernel⟩
theorem ok_spo {f : Addr} {fd : FuncData} (F : Fun K "spoilt" "Store.spoilt" sSpo f fd) (T : Txt K mg C) (hD : Has P w K mg base CX0 2 "digest" ["text"] spDig) : FnOk P w K mg base CX0 3 f fd ["self"] (spSpo K C) := by
  refine F.ok scSpo (fun vs H Q E h => ?_) (fun cdv Ar outer s H vs Q E hr h => ?_)
  · obtain ⟨A, S, rfl, _⟩ := h
    rfl
  · obtain ⟨A, S, rfl, st, fit, k⟩ := h
    have hu := hu_of hr
    refine ⟨_, pss_one (ps_ret (pe_callB (cr_sortedD (α := Str) (uS hr (by decide))) (by rfl) T.sorted (by decide +kernel) (pa_cons (pe_lock (pe_lc (own := [("name", 1), ("text", 2)]) (g := gTup K 2 (gCons (gName 1) (gCons (gName 2) gNil))) rfl scSpo.nd (pi_items (pe_fld (pv 0) rfl)) (blkOk_by (N := ["self", "name", "text"]) (sc := defScope sSpo) (by decide +kernel))
      (fun _ _ _ _ _ => pg_tup rfl (pgs_cons (pg_name (i := 1) scSpo.nd rfl (Or.inl rfl)) (pgs_cons (pg_name (i := 2) scSpo.nd rfl (Or.inl rfl)) pgs_nil))) (fun _ _ _ _ _ => pts_one (pt_cmpR op_ne (pe_h hD hr (by rfl) pass0 (pa_cons (pv 2) pa_nil)) (pv 1) (nomark _)))
      (fun _ _ _ _ _ => pv 1))) pa_nil))), ?_⟩
    obtain ⟨n1, n2, n3, n4, n5, n6⟩ := st.ne
    have at_ : ∀ (i : Nat) (k : Key) (v : V), (dk V.str S.texts)[i]? = some (k, v) → ∃ e, S.texts[i]? = some e ∧ k = .inr e.1 ∧ v = .str e.2 := fun i k v hk => by
      unfold dk at hk
      rw [List.getElem?_map] at hk
      cases q : S.texts[i]? with
      | none => rw [q] at hk; cases hk
      | some e =>
        rw [q] at hk
        cases hk
        exact ⟨e, rfl, rfl, rfl⟩
    have getD_at : ∀ (i : Nat) (e : Str × Str), S.texts[i]? = some e → S.texts.getD i ("", "") = e := fun i e he => by rw [List.getD_eq_getElem?_getD, he]; rfl
    have hlist : pickI (dk V.str S.texts).length (fun i => !decide (digS (S.texts.getD i ("", "")).2 = (S.texts.getD i ("", "")).1)) (fun i => (S.texts.getD i ("", "")).1) = (S.texts.filter fun e => !decide (digS e.2 = e.1)).map (·.1) := by
      rw [dk_len]
      refine pickI_map S.texts _ _ _ _ (fun i e he => ?_) (fun i e he => ?_) <;> rw [getD_at i e he]
    have few := fit.few
    refine evd_sorted (α := Str) (evd_lcI (β := Str) (fun i => !decide (digS (S.texts.getD i ("", "")).2 = (S.texts.getD i ("", "")).1)) (fun i => (S.texts.getD i ("", "")).1) (fun o => ev_fld (ev_var rfl) (by rw [upd_ne n1]; exact st.ins) T.cl T.nT look_texts) st.tx (by rw [dk_len]; omega) (fun _ _ => rfl)
      (fun i k v o H1 hk e1 => ?_) (fun i k v o H1 hk hf e1 => ?_)) (by have := pickI_len (dk V.str S.texts).length (fun i => !decide (digS (S.texts.getD i ("", "")).2 = (S.texts.getD i ("", "")).1)) (fun i => (S.texts.getD i ("", "")).1); rw [dk_len] at this; rw [dk_len]; omega) H (Ex.refl H) _ fun v H1 e1 ⟨pf, vs, ev, nf, hf, df⟩ => ?_
    · obtain ⟨e, he, rfl, rfl⟩ := at_ i k v hk
      have le := fit.len e (List.mem_of_getElem? he)
      rw [getD_at i e he]
      exact et_is (et_test (ev_op (ev_call (sp := spDig) (z := .str (digS e.2)) (ea_cons (ev_var rfl) ea_nil) fun H1 e Q q1 E => ⟨_, rfl, by omega, q1 H1 (Ex.refl H1)⟩) (ev_var rfl) (rv_ne rfl))) (by show (!decide (V.str (digS e.2) = V.str e.1)) = _; rw [str_eq])
    · obtain ⟨e, he, rfl, rfl⟩ := at_ i k v hk
      rw [getD_at i e he]
      exact evd_str (ev_var rfl)
    · subst ev
      rw [hlist] at df
      exact k _ H1 e1 (dt_lst (sq_of hf) df)
theorem hasA_putA {α : Type} {l : List (Str × α)} {n k : Str} {v : α} : hasA (putA l n v) k = (hasA l k || decide (n = k)) := by
  rw [Bool.eq_iff_iff, Bool.or_eq_true, hasA_mem, hasA_mem, decide_eq_true_eq]
  unfold putA
  split
  · rename_i h
    have hn := hasA_mem.mp h
    have e : (l.map (fun e => if e.1 = n then (e.1, v) else e)).map (·.1) = l.map (·.1) := by
      rw [List.map_map]
      refine List.map_congr_left fun e _ => ?_
      show (if e.1 = n then (e.1, v) else e).1 = e.1
      split <;> rfl
    rw [e]
    exact ⟨.inl, fun z => z.elim id fun z => z ▸ hn⟩
  · rw [List.map_append, List.mem_append]
    constructor
    · intro z
      rcases z with z | z
      · exact .inl z
      · exact .inr (by simpa using z : k = n).symm
    · intro z
      rcases z with z | z
      · exact .inl z
      · exact .inr (by simp [z])
theorem putA_len {α : Type} {l : List (Str × α)} {n : Str} {v : α} : (putA l n v).length ≤ l.length + 1 := by
  unfold putA
  split
  · rw [List.length_map]; omega
  · rw [List.length_append]; exact Nat.le_refl _
theorem merge_dk : ∀ (m l : List (Str × Bool)), mergeK (dk V.bl l) (dk V.bl m) = dk V.bl (m.foldl (fun a e => putA a e.1 e.2) l)
  | [], _ => rfl
  | e :: r, l => by
    show mergeK (putK (dk V.bl l) (.inr e.1) (V.bl e.2)) (dk V.bl r) = _
    rw [putK_dk, merge_dk r]
    rfl
theorem fold_has {k : Str} : ∀ (m l : List (Str × Bool)), hasA (m.foldl (fun a e => putA a e.1 e.2) l) k = (hasA l k || hasA m k)
  | [], l => by
    show hasA l k = (hasA l k || false)
    rw [Bool.or_false]
  | e :: r, l => by
    show hasA (r.foldl (fun a e => putA a e.1 e.2) (putA l e.1 e.2)) k = (hasA l k || (decide (e.1 = k) || hasA r k))
    rw [fold_has r, hasA_putA, Bool.or_assoc]
theorem fold_len : ∀ (m l : List (Str × Bool)), (m.foldl (fun a e => putA a e.1 e.2) l).length ≤ l.length + m.length
  | [], l => by show l.length ≤ _; omega
  | e :: r, l => by
    have h1 := fold_len r (putA l e.1 e.2)
    have h2 := putA_len (l := l) (n := e.1) (v := e.2)
    show (r.foldl (fun a e => putA a e.1 e.2) (putA l e.1 e.2)).length ≤ l.length + (r.length + 1)
    omega
/-- {name: True for _, name in m} -/
theorem evp_held {σ : L2.St} {H : Hp} {te tk tv : TE} {a1 j : Nat} {vs : List Nat} {m : Tup (Str × Str)} (h : EvD te K σ H m) (hz : m.items.length ≤ 10000) (hw : ∀ x y, wipe (((wipe σ vs).set a1 (some x)).set j (some y)) vs = wipe σ vs)
    (hk : ∀ (x : V) (n : Str) H', Ev tk (((wipe σ vs).set a1 (some x)).set j (some (.str n))) H' (.str n)) (hv : ∀ σ' H', Ev tv σ' H' (.bl true)) :
    EvP (tDc (iTup K te) (gTup K 2 (gCons (gName a1) (gCons (gName j) gNil))) tYes tk tv vs) σ H (fun v H2 => ∃ (p : Addr) (l : List (Str × Bool)), v = .ref p ∧ H p = none ∧ H2 p = some (.dK (dk V.bl l)) ∧ (∀ n, hasA l n = true ↔ n ∈ m.items.map (·.2)) ∧ l.length ≤ m.items.length) := fun H0 e0 Q q =>
  h H0 e0 _ fun v H1 e1 d => by
    obtain ⟨a, us, rfl, hs, hd⟩ := dt_tup_inv (xs := m.items) d
    obtain ⟨lu, fu⟩ := dpAll_at hd
    refine ⟨a, rfl, ⟨us, hs⟩, fun D hD => ?_⟩
    refine ⟨fun i mm H' => mm = us.length - i ∧ i ≤ us.length ∧ H1 D = none ∧ Ex H1 H' ∧ ∃ l : List (Str × Bool), H' D = some (.dK (dk V.bl l)) ∧ (∀ n, hasA l n = true ↔ n ∈ (m.items.take i).map (·.2)) ∧ l.length ≤ i, ⟨us.length, by omega, Nat.zero_le _, hD, Ex.new hD, [], upd_same, fun n => by simp [hasA], Nat.le_refl _⟩, fun i mm H' z => ?_⟩
    obtain ⟨rfl, hi, p1, p2, l, p3, p4, p5⟩ := z
    by_cases lt : i < us.length
    · have hx : us[i]? = some us[i] := List.getElem?_eq_getElem lt
      refine .inr ⟨⟨us, us[i], ex_t p2 hs, hx⟩, fun H' => i + 1 ≤ us.length ∧ H1 D = none ∧ Ex H1 H' ∧ ∃ l : List (Str × Bool), H' D = some (.dK (dk V.bl l)) ∧ (∀ n, hasA l n = true ↔ n ∈ (m.items.take (i + 1)).map (·.2)) ∧ l.length ≤ i + 1, fun H'' z => ⟨us.length - (i + 1), by omega, rfl, z⟩, fun x H'' y => ?_⟩
      obtain ⟨rfl, hy⟩ := y
      have hx2 := hy us (ex_t p2 hs)
      obtain ⟨⟨s1, s2⟩, hm, dx⟩ := fu i x hx2
      obtain ⟨q1, u, z, rfl, hq, du, dz⟩ := dt_pair_inv dx
      have ez := dt_str_inv dz
      subst ez
      refine ⟨q1, _, rfl, ex_t p2 hq, rfl, _, _, rfl, _, _, rfl, rfl, hw _ _, ?_⟩
      dsimp only [tYes]
      rw [if_pos rfl]
      refine hk _ s2 H'' H'' (Ex.refl _) _ fun H3 e3 => hv _ _ H3 (Ex.refl _) _ fun H4 e4 => ⟨_, .inr s2, rfl, (e3.trans e4) _ _ p3, by rw [dk_len]; exact sz_lt (by omega), lt, p1, Ex.mut (p2.trans (e3.trans e4)) p1, putA l s2 true, ?_, fun n => ?_, ?_⟩
      · rw [upd_same, putK_dk]
      · rw [hasA_putA, Bool.or_eq_true, p4 n, List.take_succ, hm, decide_eq_true_eq]
        simp [eq_comm]
      · have := putA_len (l := l) (n := s2) (v := true)
        omega
    · have e : i = us.length := by omega
      subst e
      refine .inl ⟨⟨us, ex_t p2 hs, Nat.le_refl _⟩, q _ H' (e1.trans p2) ⟨D, l, rfl, fresh_back (e0.trans e1) p1, p3, ?_, by omega⟩⟩
      rw [lu, List.take_length] at p4
      exact p4
theorem dpAll_strs {H : Hp} : ∀ {ns : List Str} {us : List V}, DpAll K H us (ns.map (Datum.toD (α := Str))) → us = ns.map V.str
  | [], _, h => by cases h; rfl
  | n :: ns, _, h => by
    cases h with
    | cons h1 h2 =>
      cases h1
      rw [dpAll_strs h2]
      rfl
theorem dropAll_snoc {n : Str} : ∀ {l : List Str} {S : SS}, dropAllS (l ++ [n]) S = dropS (dropAllS l S) n (textOf (dropAllS l S) n)
  | [], _ => rfl
  | _ :: r, _ => dropAll_snoc (l := r)
theorem fit_dropAll : ∀ {l : List Str} {S : SS}, Fit S → Fit (dropAllS l S)
  | [], _, h => h
  | n :: r, S, h => fit_dropAll (l := r) (h.drop n _)
theorem keys_dropAll : ∀ {l : List Str} {S : SS}, (dropAllS l S).texts.map (·.1) = (S.texts.map (·.1)).filter fun k => decide (k ∉ l)
  | [], S => by
    show S.texts.map (·.1) = _
    rw [List.filter_eq_self.mpr]
    intro k _
    simp
  | n :: r, S => by
    show (dropAllS r (dropS S n (textOf S n))).texts.map (·.1) = _
    rw [keys_dropAll]
    show ((dropA S.texts n).map (·.1)).filter _ = _
    rw [dropA_keys, List.filter_filter]
    refine List.filter_congr fun k _ => ?_
    by_cases h1 : k = n
    · simp [h1]
    · simp [h1]
theorem nodup_take {α : Type} {n : α} : ∀ {l : List α} {i : Nat}, l.Nodup → l[i]? = some n → n ∉ l.take i
  | [], _, _, h => by simp at h
  | _ :: _, 0, _, _ => by simp
  | a :: r, i + 1, nd, h => by
    obtain ⟨n1, n2⟩ := List.nodup_cons.mp nd
    have h : r[i]? = some n := h
    rw [List.take_succ_cons, List.mem_cons, not_or]
    exact ⟨fun z => n1 (z ▸ List.mem_of_getElem? h), nodup_take n2 h⟩
theorem scColl : FnScope ["self", "manifests", "held", "manifest", "gone", "name", "_"] ["self", "manifests"] (defScope sColl) := ⟨rfl, rfl, rfl, by decide +kernel, rfl, by decide +kernel, by decide +kernel⟩
theorem ok_coll {f : Addr} {fd : FuncData} (F : Fun K "collect" "Store.collect" sColl f fd) (T : Txt K mg C) (hDr : HasM P w K mg base CX0 1 C "drop" ["self", "name"] (spDrop C)) : FnOk P w K mg base CX0 2 f fd ["self", "manifests"] (spColl K C) := by
  refine F.ok scColl (fun vs H Q E h => ?_) (fun cdv Ar outer s H vs Q E hr h => ?_)
  · obtain ⟨A, S, a, us, ms, rfl, _⟩ := h
    rfl
  · obtain ⟨A, S, a, us, ms, rfl, st, fit, ha, da, few, k⟩ := h
    have hu := hu_of hr
    refine ⟨_,
      pss_cons (ps_set (i := 2) scColl.nd rfl (Or.inr rfl) pe_dnewK)
      (pss_cons (ps_for PassesOwn.never rfl (pi_list (pv 1)) (pg_name (i := 3) scColl.nd rfl (Or.inl rfl)) (pss_one (ps_expr (pe_dupd (pv 2) (pe_dc (own := [("_", 6), ("name", 5)]) (g := gTup K 2 (gCons (gName 6) (gCons (gName 5) gNil))) (tt := tYes) rfl scColl.nd (pi_tup (pv 3)) (blkOk_by (N := ["self", "manifests", "held", "manifest", "gone", "name", "_"]) (sc := defScope sColl) (by decide +kernel))
        (fun _ _ _ _ _ => pg_tup rfl (pgs_cons (pg_name (i := 6) scColl.nd rfl (Or.inl rfl)) (pgs_cons (pg_name (i := 5) scColl.nd rfl (Or.inl rfl)) pgs_nil))) (fun _ _ _ _ _ => pts_nil) (fun _ _ _ _ _ => pv 5) (fun _ _ _ _ _ => pe_bl)) ⟨rfl, rfl, rfl, rfl⟩))))
      (pss_cons (ps_set (i := 4) scColl.nd rfl (Or.inl rfl) (pe_callB (cr_sortedD (α := Str) (uS hr (by decide))) (by rfl) T.sorted (by decide +kernel) (pa_cons (pe_lock (pe_lc (own := [("name", 5)]) (g := gName 5) rfl scColl.nd (pi_keys (pe_fld (pv 0) rfl)) (blkOk_by (N := ["self", "manifests", "held", "manifest", "gone", "name", "_"]) (sc := defScope sColl) (by decide +kernel))
        (fun _ _ _ _ _ => pg_name (i := 5) scColl.nd rfl (Or.inl rfl)) (fun _ _ _ _ _ => pts_one (pw_and (pt_cmp (pc_dnotin hu (pv 5) (pv 2))) (pw_and1 (pt_cmpR op_eq (pe_dget2 hu (pe_fldK (K' := K) rfl (pv 0) rfl) (pv 5) pe_int ⟨rfl, rfl, rfl, rfl⟩) pe_int (nomark _)))).pt) (fun _ _ _ _ _ => pv 5))) pa_nil)))
      (pss_cons (ps_for PassesOwn.never rfl (pi_list (pv 4)) (pg_name (i := 5) scColl.nd rfl (Or.inl rfl)) (pss_one (ps_expr (pe_m (pv 0) T.cl hDr hr pass0 (pa_cons (pv 5) pa_nil)))))
      (pss_one (ps_ret (pv 4)))))), ?_⟩
    have nA : ∀ (b : Addr), H b = none → b ∉ A.all := fun b hb m => by
      have m' : b = A.x ∨ b = A.dT ∨ b = A.dL ∨ b = A.dP := by simpa [Ad.all] using m
      rcases m' with rfl | rfl | rfl | rfl
      · rw [st.ins] at hb; cases hb
      · rw [st.tx] at hb; cases hb
      · rw [st.la] at hb; cases hb
      · rw [st.pi] at hb; cases hb
    intro dH hdH
    have lu := dpAll_len (α := Tup (Str × Str)) da
    have len_at : ∀ (i : Nat) (m : Tup (Str × Str)), ms[i]? = some m → ((ms.take i).map (·.items.length)).sum + m.items.length ≤ 1000 := fun i m hm => by
      have e : ms = ms.take i ++ m :: ms.drop (i + 1) := by
        obtain ⟨h1, h2⟩ := List.getElem?_eq_some_iff.mp hm
        conv => lhs; rw [← List.take_append_drop i ms, List.drop_eq_getElem_cons h1, h2]
      have z := few
      rw [e, List.map_append, List.sum_append, List.map_cons, List.sum_cons] at z
      omega
    refine q_forL (xs := us) (ev_var rfl) (sq_of (Ex.new hdH _ _ ha)) (fun i σ' H' => ∃ (l : List (Str × Bool)) (v : Option V), σ' = [some (.ref A.x), some (.ref a), some (.ref dH), v, none, none, none] ∧ Ex H H' ∧ H' dH = some (.dK (dk V.bl l)) ∧ (∀ n, hasA l n = true ↔ n ∈ (ms.take i).flatMap fun m => m.items.map (·.2)) ∧ l.length ≤ ((ms.take i).map (·.items.length)).sum)
      (fun H1 e1 => ⟨[], none, rfl, (Ex.new hdH).trans e1, e1 _ _ upd_same, fun n => by simp [hasA], Nat.zero_le _⟩) (fun i σ' H' _ ⟨_, _, _, e, _⟩ => sq_of (e _ _ ha)) (fun i y σ' H' hy ⟨l, v, es, e, hl, hm, hlen⟩ => ?_) (fun σ' H' ⟨l, v, es, e, hl, hm, hlen⟩ => ?_)
    · subst es
      obtain ⟨m, hmi, dm⟩ := (dpAll_at (α := Tup (Str × Str)) da).2 i y hy
      have dm := dm.ex e
      have bd := len_at i m hmi
      refine ⟨_, rfl, dH, rfl, .inl ⟨_, .inl hl⟩, ?_⟩
      refine evp_held (m := m) (evd_v (ev_var rfl) dm) (by omega) (fun _ _ => rfl) (fun _ _ _ => ev_var rfl) (fun _ _ => ev_c) H' (Ex.refl H') _ fun w H4 e4 ⟨p, l', ew, np, hp, hm', hlen'⟩ => ?_
      subst ew
      have ne : dH ≠ p := fun z => by rw [← z, hl] at np; cases np
      refine ⟨_, p, _, e4 _ _ hl, rfl, .inl hp, ne, ?_, ?_⟩
      · rw [dk_len, dk_len]
        exact sz_of (by omega)
      · rw [merge_dk]
        refine ⟨_, _, rfl, Ex.mut (e.trans e4) hdH, upd_same, fun n => ?_, ?_⟩
        · rw [fold_has, Bool.or_eq_true, hm, hm', List.take_succ, hmi, List.flatMap_append, List.mem_append]
          simp
        · have := fold_len l' l
          have e1 : ((some m).toList.map fun m : Tup (Str × Str) => m.items.length).sum = m.items.length := by simp
          rw [List.take_succ, hmi, List.map_append, List.sum_append, e1]
          omega
    · subst es
      rw [lu, List.take_length] at hm
      generalize hnames : (ms.flatMap fun m => m.items.map (·.2)) = names at k hm
      have st1 := st.ex e
      obtain ⟨n1, n2, n3, n4, n5, n6⟩ := st.ne
      have hx : dH ≠ A.dT := fun z => nA dH hdH (by rw [z]; simp [Ad.all])
      have at_ : ∀ (i : Nat) (k : Key) (v : V), (dk V.str S.texts)[i]? = some (k, v) → ∃ e, S.texts[i]? = some e ∧ k = .inr e.1 := fun i k v hk => by
        unfold dk at hk
        rw [List.getElem?_map] at hk
        cases q : S.texts[i]? with
        | none => rw [q] at hk; cases hk
        | some e =>
          rw [q] at hk
          cases hk
          exact ⟨e, rfl, rfl⟩
      have getD_at : ∀ (i : Nat) (e : Str × Str), S.texts[i]? = some e → S.texts.getD i ("", "") = e := fun i e he => by rw [List.getD_eq_getElem?_getD, he]; rfl
      have hlist : pickI (dk V.str S.texts).length (fun i => !decide ((S.texts.getD i ("", "")).1 ∈ names) && unp S (S.texts.getD i ("", "")).1) (fun i => (S.texts.getD i ("", "")).1) = (S.texts.filter fun e => !decide (e.1 ∈ names) && unp S e.1).map (·.1) := by
        rw [dk_len]
        refine pickI_map S.texts _ _ _ _ (fun i e he => ?_) (fun i e he => ?_) <;> rw [getD_at i e he]
      have few' := fit.few
      refine q_asgP (evd_sorted (α := Str) (evd_lcK (β := Str) (fun i => !decide ((S.texts.getD i ("", "")).1 ∈ names) && unp S (S.texts.getD i ("", "")).1) (fun i => (S.texts.getD i ("", "")).1) (fun o => ev_fld (ev_var rfl) (by rw [upd_ne n1]; exact st1.ins) T.cl T.nT look_texts) st1.tx (by rw [dk_len]; omega) (fun _ => rfl)
        (fun i k v o H1 hk e1 => ?_) (fun i k v o H1 hk hf e1 => ?_)) (by rw [hlist, List.length_map]; exact Nat.le_trans (List.length_filter_le _ _) (by omega))) fun v H1 e1 ⟨pf, vs, ev, nf, hf, df⟩ => ?_
      · obtain ⟨e', he, rfl⟩ := at_ i k v hk
        have ins1 : H1 A.x = some (.ins C A.dx (flds A.dT A.dL A.dP S)) := e1 _ _ (by rw [upd_ne n1]; exact st1.ins)
        have pi1 : H1 A.dP = some (.dK (dk V.int S.pins)) := e1 _ _ (by rw [upd_ne n5.symm]; exact st1.pi)
        have hl1 : H1 dH = some (.dK (dk V.bl l)) := e1 _ _ (by rw [upd_ne hx]; exact hl)
        rw [getD_at i e' he]
        refine et_and (et_is (et_dnin (k := .inr e'.1) (ev_var rfl) (ev_var rfl) (.inl hl1)) ?_) fun _ => et_is (et_test (ev_op (ev_is (w := .int ((S.pins.lookup e'.1).getD 0)) (ev_dget2K (k := .inr e'.1) (z := .int 0) (ev_fld (ev_var rfl) ins1 T.cl T.nP look_pins) (ev_var rfl) ev_c (.inl pi1)) ?_) ev_c (rv_eq rfl))) ?_
        · have z : (valV (dk V.bl l) (.inr e'.1)).isSome = hasA l e'.1 := by
            rw [valV_dk, hasA_look]
            cases l.lookup e'.1 <;> rfl
          rw [z]
          congr 1
          rw [Bool.eq_iff_iff, hm, decide_eq_true_eq]
        · rw [valV_dk]
          cases S.pins.lookup e'.1 <;> rfl
        · rw [int_eq]
          rfl
      · obtain ⟨e', he, rfl⟩ := at_ i k v hk
        rw [getD_at i e' he]
        exact evd_str (ev_var rfl)
      · subst ev
        rw [hlist] at df
        have df : DpAll K H1 vs ((goneS S names).map (Datum.toD (α := Str))) := df
        have evs := dpAll_strs df
        subst evs
        have st2 := st1.ex e1
        have npf : pf ∉ A.all := fun m => (st2.kind m hf).2 _ rfl
        have nHpf : H pf = none := fresh_back e nf
        have pm : (goneS S names).Perm ((S.texts.filter fun e => !decide (e.1 ∈ names) && unp S e.1).map (·.1)) := sortD_perm _
        have nd0 : (goneS S names).Nodup := pm.nodup_iff.mpr ((List.Sublist.map _ List.filter_sublist).nodup fit.nd)
        have in0 : ∀ n ∈ goneS S names, n ∈ S.texts.map (·.1) := fun n hn => (List.Sublist.map _ List.filter_sublist).subset (pm.subset hn)
        refine q_forL (xs := (goneS S names).map V.str) (ev_var rfl) (sq_of hf) (fun i σ' H' => ∃ w : Option V, σ' = [some (.ref A.x), some (.ref a), some (.ref dH), v, some (.ref pf), w, none] ∧ StA C H' A (dropAllS ((goneS S names).take i) S) ∧ Kp A.all H H' ∧ H' pf = some (.lst ((goneS S names).map V.str)))
          (fun H2 e2 => ⟨none, rfl, st2.ex e2, Kp.of ((e.trans e1).trans e2), e2 _ _ hf⟩) (fun i σ' H' _ ⟨_, _, _, _, h⟩ => sq_of h) (fun i y σ' H' hy ⟨w, es, st', kp, hL⟩ => ?_) (fun σ' H' ⟨w, es, st', kp, hL⟩ => ?_)
        · subst es
          rw [List.getElem?_map] at hy
          cases q : (goneS S names)[i]? with
          | none => rw [q] at hy; cases hy
          | some n =>
            rw [q] at hy
            cases hy
            have fit' : Fit (dropAllS ((goneS S names).take i) S) := fit_dropAll fit
            have nt : n ∉ (goneS S names).take i := nodup_take nd0 q
            have mem : n ∈ (dropAllS ((goneS S names).take i) S).texts.map (·.1) := by
              rw [keys_dropAll]
              exact List.mem_filter.mpr ⟨in0 n (List.mem_of_getElem? q), decide_eq_true nt⟩
            obtain ⟨lk, ll⟩ := fit'.look mem
            refine s_meth (ev_var rfl) st'.ins rfl (ea_cons (ev_var rfl) ea_nil) fun H3 e3 => ⟨A, _, n, _, rfl, st'.ex e3, lk, ll, fit'.last_has mem, fun H4 st4 k4 => ⟨_, rfl, ?_, (kp.trans (Kp.of e3)).trans k4, k4 _ _ npf (e3 _ _ hL)⟩⟩
            rw [List.take_succ, q]
            show StA C H4 A (dropAllS (_ ++ [n]) S)
            rw [dropAll_snoc]
            exact st4
        · subst es
          rw [List.length_map, List.take_length] at st'
          refine s_ret (ev_var rfl) fun H3 e3 => ?_
          refine k _ H3 (st'.ex e3) (kp.trans (Kp.of e3)) (dt_lst (sq_of (e3 _ _ hL)) (dpAll_map fun _ _ => dt_str))
end
end Mx
set_option Elab.async false
set_option linter.all false
set_option maxRecDepth 100000
set_option maxHeartbeats 4000000
namespace Mx
open PySem PySem.Spec PyProof.Rows L2 Evl TL
open PySem.W (Datum DatumOrd Tup)
/-! ### manifests -/
abbrev sMan : Stmt := topS 11
abbrev sWho : Stmt := topS 13
structure BtMan (mg : Str → Option Value) : Prop where
  tuple : mg "tuple" = none
  sorted : mg "sorted" = none
  all : mg "all" = none
/-- of two texts by the names b, a -/
def spMan (K : PySem.W.Frag) : Sp := fun vs H Q _ => ∃ (d : Addr) (ta tb : Str), vs = [.ref d] ∧ H d = some (.dK (dk V.str [("b", tb), ("a", ta)])) ∧ ta.length ≤ 1000 ∧ tb.length ≤ 1000 ∧ ∀ v H', Ex H H' → Dt K H' v (Tup.mk [(("a" : Str), digS ta), ("b", digS tb)]) → Q v H'
def spWho (K : PySem.W.Frag) (C : Addr) : Sp := fun vs H Q _ => ∃ (A : Ad) (S : SS) (m : V) (l : List (Str × Str)), vs = [.ref A.x, m] ∧ StA C H A S ∧ Fit S ∧ Dt K H m (Tup.mk l) ∧ l.length ≤ 1000 ∧ ∀ H', Ex H H' → Q (.bl (l.all fun e => hasS S e.2)) H'
section
variable {P : Program} {w : World} {K : PySem.W.Frag} {mg : Str → Option Value} {base : Heap} {C CE : Addr}
theorem scMan : FnScope ["outputs", "path"] ["outputs"] (defScope sMan) := ⟨rfl, rfl, rfl, by decide +kernel, rfl, by decide +kernel, by decide +kernel⟩
theorem ok_man {f : Addr} {fd : FuncData} (F : Fun K "manifest_of" "manifest_of" sMan f fd) (B : BtMan mg) (hD : Has P w K mg base CX0 2 "digest" ["text"] spDig) : FnOk P w K mg base CX0 3 f fd ["outputs"] (spMan K) := by
  refine F.ok scMan (fun vs H Q E h => ?_) (fun cdv Ar outer s H vs Q E hr h => ?_)
  · obtain ⟨d, ta, tb, rfl, _⟩ := h
    rfl
  · obtain ⟨d, ta, tb, rfl, hd, la, lb, k⟩ := h
    have hu := hu_of hr
    refine ⟨_, pss_one (ps_ret (pe_tupleOf (by rfl) B.tuple (pe_lc (own := [("path", 1)]) (g := gName 1) (tt := tYes) rfl scMan.nd (pi_list (pe_callB (call_sortedD rfl) (by rfl) B.sorted (by decide +kernel) (pa_cons (pv 0) pa_nil))) (blkOk_by (N := ["outputs", "path"]) (sc := defScope sMan) (by decide +kernel))
      (fun _ _ _ _ _ => pg_name (i := 1) scMan.nd rfl (Or.inl rfl)) (fun _ _ _ _ _ => pts_nil) (fun _ _ _ _ _ => pe_tup (pa_cons (pv 1) (pa_cons (pe_h hD hr (by rfl) pass0 (pa_cons (pe_dget hu (pv 0) (pv 1) (fun _ _ => rfl)) pa_nil)) pa_nil)))))), ?_⟩
    have sorted_ab : ∀ ys : List Str, ys.Perm ["b", "a"] → sortedS ys = true → ys = (["a", "b"] : List Str) := fun ys hp hs => by
      have hl := hp.length_eq
      match ys, hl with
      | [y1, y2], _ =>
        have m1 : y1 ∈ (["b", "a"] : List Str) := hp.subset (by simp)
        have h1 : y1 = "b" ∨ y1 = "a" := by simpa using m1
        rcases h1 with rfl | rfl
        · have z := (List.perm_cons _).mp hp
          have : y2 = "a" := by simpa using z.subset (List.mem_cons_self ..)
          subst this
          exact absurd hs (by decide +kernel)
        · have z := (List.perm_cons _).mp (hp.trans (List.Perm.swap _ _ _))
          have : y2 = "b" := by simpa using z.subset (List.mem_cons_self ..)
          rw [this]
    have h1 : EvP (tCB (fun xs H Q => ∃ (a : Addr) (kvs : List (Key × V)) (ks : List Str), xs = [.ref a] ∧ Rd H a (.dK kvs) ∧ kvs.map (·.1) = ks.map Sum.inr ∧ ks.length < 64 ∧ ∀ ys p, ys.Perm ks → sortedS ys = true → H p = none → Q (.ref p) (upd H p (.lst (ys.map V.str)))) (tCons (tVar 0) tNil)) (L2.start ["outputs", "path"] [.ref d]) H (fun v H2 => Dt K H2 v (["a", "b"] : List Str)) := fun H1 e Q q =>
      ⟨_, rfl, d, _, ["b", "a"], rfl, .inl (e _ _ hd), rfl, by decide, fun ys p hp hs np => by
        rw [sorted_ab ys hp hs]
        exact q _ _ (Ex.new np) (dt_lst (sq_of upd_same) (dpAll_map fun _ _ => dt_str))⟩
    have h2 := evd_tupOf (K := K) (evd_lcLd (K := K) (α := Str) (β := Str × Str) (tt := tYes) (te := tTup (tCons (tVar 1) (tCons (tCall spDig [] E0 (tCons (tDGet (tVar 0) (tVar 1)) tNil)) tNil))) (j := 1) (vs := [1]) (fun _ => true) (fun n : Str => (n, digS (if n = ("a" : Str) then ta else tb))) h1 (by decide) (fun _ => rfl) (fun _ _ _ _ _ _ => fun H1 e Q q => q H1 (Ex.refl H1)) (fun x v H1 mx _ dv e => ?_))
    · refine h2 H (Ex.refl H) _ fun v H1 e1 dv => k v H1 e1 ?_
      have e2 : ((["a", "b"] : List Str).filter fun _ => true).map (fun n : Str => (n, digS (if n = ("a" : Str) then ta else tb))) = [(("a" : Str), digS ta), ("b", digS tb)] := by
        simp only [List.filter_cons, List.filter_nil, if_true, List.map_cons, List.map_nil]
        rw [if_neg (by decide +kernel : ¬ ("b" : Str) = "a")]
      rw [e2] at dv
      exact dv
    · have ev := dt_str_inv dv
      subst ev
      have hx : x = "a" ∨ x = "b" := by simpa using mx
      have look : valV (dk V.str [("b", tb), ("a", ta)]) (.inr x) = some (.str (if x = "a" then ta else tb)) := by
        rw [valV_dk]
        rcases hx with rfl | rfl
        · rw [if_pos rfl]
          rfl
        · rw [if_neg (by decide +kernel)]
          rfl
      refine evd_pair (evd_str (ev_var rfl)) (evd_str (ev_call (sp := spDig) (ea_cons (ev_dgetK (k := .inr x) (ev_var rfl) (ev_var rfl) (.inl (e _ _ hd)) look) ea_nil) fun H1 e Q q1 E => ⟨_, rfl, ?_, q1 H1 (Ex.refl H1)⟩))
      split <;> omega
theorem scWho : FnScope ["store", "manifest", "_", "name"] ["store", "manifest"] (defScope sWho) := ⟨rfl, rfl, rfl, by decide +kernel, rfl, by decide +kernel, by decide +kernel⟩
theorem ok_who {f : Addr} {fd : FuncData} (F : Fun K "is_whole" "is_whole" sWho f fd) (T : Txt K mg C) (B : BtMan mg) (hHa : HasM P w K mg base CX0 3 C "has" ["self", "name"] (spHas C)) : FnOk P w K mg base CX0 4 f fd ["store", "manifest"] (spWho K C) := by
  refine F.ok scWho (fun vs H Q E h => ?_) (fun cdv Ar outer s H vs Q E hr h => ?_)
  · obtain ⟨A, S, m, l, rfl, _⟩ := h
    rfl
  · obtain ⟨A, S, m, l, rfl, st, fit, dm, ll, k⟩ := h
    refine ⟨_, pss_one (ps_ret (pe_callB (cr_all rfl) (by rfl) B.all (by decide +kernel) (pa_cons (pe_lc (own := [("_", 2), ("name", 3)]) (g := gTup K 2 (gCons (gName 2) (gCons (gName 3) gNil))) (tt := tYes) rfl scWho.nd (pi_tup (pv 1)) (blkOk_by (N := ["store", "manifest", "_", "name"]) (sc := defScope sWho) (by decide +kernel))
      (fun _ _ _ _ _ => pg_tup rfl (pgs_cons (pg_name (i := 2) scWho.nd rfl (Or.inl rfl)) (pgs_cons (pg_name (i := 3) scWho.nd rfl (Or.inl rfl)) pgs_nil))) (fun _ _ _ _ _ => pts_nil) (fun _ _ _ _ _ => pe_m (pv 0) T.cl hHa hr pass0 (pa_cons (pv 3) pa_nil))) pa_nil))), ?_⟩
    have ev := ev_allD (K := K) (σ := L2.start ["store", "manifest", "_", "name"] [.ref A.x, m]) (H := H) (evd_lcTp (β := Bool) (xs := l) (te := tMeth C "has" (spHas C) [] E0 (tVar 0) (tCons (tVar 3) tNil)) (a1 := 2) (j := 3) (vs := [2, 3]) (fun e => hasS S e.2) (evd_v (ev_var (i := 1) rfl) dm) (by omega) (fun _ _ => rfl) (fun x v w H1 mx dv dw e => by
      have ew := dt_str_inv dw
      subst ew
      exact fun H2 e2 Q q => ev_has (n := x.2) (ev_var rfl) (ev_var rfl) (st.ex e) (fun t ht => fit.lt ht) H2 e2 Q fun H3 e3 => q _ H3 e3 (.bl _)))
    refine s_ret ev fun H1 e1 => ?_
    have z := k H1 e1
    rw [List.all_map]
    exact z
end
end Mx
set_option Elab.async false
set_option linter.all false
set_option maxRecDepth 100000
set_option maxHeartbeats 4000000
namespace Mx
open PySem PySem.Spec PyProof.Rows L2 Evl TL
open PySem.W (Datum DatumOrd Tup)
/-! ### get where it is whole, texts_of -/
abbrev sTof : Stmt := topS 12
def spGet0 (C : Addr) : Sp := fun vs H Q _ => ∃ (A : Ad) (S : SS) (n t : Str), vs = [.ref A.x, .str n] ∧ StA C H A S ∧ Fit S ∧ S.texts.lookup n = some t ∧ digS t = n ∧ ∀ H', StA C H' A (touchS S n) → Kp A.all H H' → Q (.str t) H'
section
variable {P : Program} {w : World} {K : PySem.W.Frag} {mg : Str → Option Value} {base : Heap} {C CE : Addr}
theorem ok_get0 {f : Addr} {fd : FuncData} (F : Fun K "get" "Store.get" sGet f fd) (T : Txt K mg C) (hD : Has P w K mg base CX0 2 "digest" ["text"] spDig) (hTo : HasM P w K mg base CX0 1 C "touch" ["self", "name"] (spTouch C)) :
    FnOk P w K mg base CX0 3 f fd ["self", "name"] (spGet0 C) := by
  refine F.ok scGet (fun vs H Q E h => ?_) (fun cdv Ar outer s H vs Q E hr h => ?_)
  · obtain ⟨A, S, n, t, rfl, _⟩ := h
    rfl
  · obtain ⟨A, S, n, t, rfl, st, fit, q, hn, k1⟩ := h
    have hu := hu_of hr
    refine ⟨_,
      pss_cons (ps_if (pt_cmp (pc_dnotin hu (pv 1) (pe_fld (pv 0) rfl))) (pss_one ps_never) pss_nil)
      (pss_cons (ps_if (pt_cmpR op_ne (pe_h hD hr (by rfl) pass0 (pa_cons (pe_dget hu (pe_fld (pv 0) rfl) (pv 1) (fun _ _ => rfl)) pa_nil)) (pv 1) (nomark _)) (pss_one ps_never) pss_nil)
      (pss_cons (ps_expr (pe_m (pv 0) T.cl hTo hr pass0 (pa_cons (pv 1) pa_nil)))
      (pss_one (ps_ret (pe_dget hu (pe_fld (pv 0) rfl) (pv 1) (fun _ _ => rfl)))))), ?_⟩
    have nt := et_dnin (k := .inr n) (σ := L2.start ["self", "name"] [.ref A.x, .str n]) (ev_var (i := 1) rfl) (ev_texts T (ev_var (i := 0) rfl) st) (.inl st.tx)
    rw [valV_dk, q] at nt
    have lt := fit.lt q
    have get_ : ∀ {H2 : Hp} {S2 : SS}, StA C H2 A S2 → S2.texts.lookup n = some t → Ev (tDGet (tFld K (tVar 0) "texts") (tVar 1)) (L2.start ["self", "name"] [.ref A.x, .str n]) H2 (.str t) := fun {H2 S2} s2 q2 =>
      ev_dgetK (k := .inr n) (v := .str t) (ev_texts T (ev_var (i := 0) rfl) s2) (ev_var (i := 1) rfl) (.inl s2.tx) (by rw [valV_dk, q2]; rfl)
    refine q_when nt (fun hb => nomatch hb) fun _ H1 e1 => ?_
    have st1 := st.ex e1
    refine q_when (b := false) (et_is (et_test (ev_op (ev_call (sp := spDig) (z := .str (digS t)) (ea_cons (get_ st1 q) ea_nil) fun H1 e Q q1 E => ⟨t, rfl, by omega, q1 H1 (Ex.refl H1)⟩) (ev_var rfl) (rv_ne rfl))) (by rw [str_eq, decide_eq_true hn]; rfl)) (fun h => nomatch h) fun _ H2 e2 => ?_
    have st2 := st1.ex e2
    refine q_meth (ev_var rfl) st2.ins rfl (ea_cons (ev_var rfl) ea_nil) fun H3 e3 => ⟨A, S, n, rfl, st2.ex e3, last_len fit, fun H4 st4 k4 => ?_⟩
    refine s_ret (get_ st4 q) fun H5 e5 => ?_
    exact k1 H5 (st4.ex e5) (((Kp.of ((e1.trans e2).trans e3)).trans k4).trans (Kp.of e5))
/-- of a manifest of two -/
def spTof (K : PySem.W.Frag) (C : Addr) : Sp := fun vs H Q _ => ∃ (A : Ad) (S : SS) (m : V) (na nb ta tb : Str), vs = [.ref A.x, m] ∧ StA C H A S ∧ Fit S ∧ Dt K H m (Tup.mk [(("a" : Str), na), ("b", nb)]) ∧ S.texts.lookup na = some ta ∧ digS ta = na ∧ S.texts.lookup nb = some tb ∧ digS tb = nb ∧
  ∀ p H', (∀ a o, a ∉ A.all → H a = some o → H' a = some o) → H p = none → H' p = some (.dK (dk V.str [("a", ta), ("b", tb)])) → Q (.ref p) H'
theorem putA_keys {α : Type} {l : List (Str × α)} {n : Str} {v : α} (h : hasA l n = true) : (putA l n v).map (·.1) = l.map (·.1) := by
  unfold putA
  rw [if_pos h, List.map_map]
  refine List.map_congr_left fun e _ => ?_
  show (if e.1 = n then (e.1, v) else e).1 = e.1
  split <;> rfl
theorem Fit.touch {S : SS} (h : Fit S) {n : Str} (hn : n ∈ S.texts.map (·.1)) : Fit (touchS S n) where
  keys := by
    show S.texts.map (·.1) = (putA S.last n _).map (·.1)
    rw [putA_keys (h.last_has hn)]
    exact h.keys
  nd := h.nd
  few := h.few
  pfew := h.pfew
  len := h.len
theorem scTof : FnScope ["store", "manifest", "path", "name"] ["store", "manifest"] (defScope sTof) := ⟨rfl, rfl, rfl, by decide +kernel, rfl, by decide +kernel, by decide +kernel⟩
theorem ok_tof {f : Addr} {fd : FuncData} (F : Fun K "texts_of" "texts_of" sTof f fd) (T : Txt K mg C) (hG : HasM P w K mg base CX0 3 C "get" ["self", "name"] (spGet0 C)) : FnOk P w K mg base CX0 4 f fd ["store", "manifest"] (spTof K C) := by
  refine F.ok scTof (fun vs H Q E h => ?_) (fun cdv Ar outer s H vs Q E hr h => ?_)
  · obtain ⟨A, S, m, na, nb, ta, tb, rfl, _⟩ := h
    rfl
  · obtain ⟨A, S, m, na, nb, ta, tb, rfl, st, fit, dm, qa, ha, qb, hb, k⟩ := h
    refine ⟨_, pss_one (ps_ret (pe_dc (own := [("path", 2), ("name", 3)]) (g := gTup K 2 (gCons (gName 2) (gCons (gName 3) gNil))) (tt := tYes) rfl scTof.nd (pi_tup (pv 1)) (blkOk_by (N := ["store", "manifest", "path", "name"]) (sc := defScope sTof) (by decide +kernel))
      (fun _ _ _ _ _ => pg_tup rfl (pgs_cons (pg_name (i := 2) scTof.nd rfl (Or.inl rfl)) (pgs_cons (pg_name (i := 3) scTof.nd rfl (Or.inl rfl)) pgs_nil))) (fun _ _ _ _ _ => pts_nil) (fun _ _ _ _ _ => pv 2) (fun _ _ _ _ _ => pe_m (pv 0) T.cl hG hr pass0 (pa_cons (pv 3) pa_nil)))), ?_⟩
    obtain ⟨am, us, rfl, hs, hd⟩ := dt_tup_inv (xs := [(("a" : Str), na), ("b", nb)]) dm
    obtain ⟨lu, fu⟩ := dpAll_at hd
    have lu : us.length = 2 := lu
    have ma : na ∈ S.texts.map (·.1) := List.mem_map_of_mem (mem_of_look qa)
    let Si : Nat → SS := fun i => if i = 0 then S else if i = 1 then touchS S na else touchS (touchS S na) nb
    let Di : Nat → List (Str × Str) := fun i => [(("a" : Str), ta), ("b", tb)].take i
    refine ⟨_, rfl, am, rfl, ⟨us, hs⟩, fun D hD => ?_⟩
    have nDA : D ∉ A.all := fun m => by
      have m' : D = A.x ∨ D = A.dT ∨ D = A.dL ∨ D = A.dP := by simpa [Ad.all] using m
      rcases m' with z | z | z | z
      · rw [z, st.ins] at hD; cases hD
      · rw [z, st.tx] at hD; cases hD
      · rw [z, st.la] at hD; cases hD
      · rw [z, st.pi] at hD; cases hD
    refine ⟨fun i mm H' => mm = 2 - i ∧ i ≤ 2 ∧ StA C H' A (Si i) ∧ Fit (Si i) ∧ Kp A.all H H' ∧ H' D = some (.dK (dk V.str (Di i))), ⟨2, rfl, by decide, (st.ex (Ex.new hD)), fit, Kp.of (Ex.new hD), upd_same⟩, fun i mm H' z => ?_⟩
    obtain ⟨rfl, hi, st', fit', kp, hd'⟩ := z
    have hsT : SqT K H' am us := ux_t (Kp.ux st kp) hs
    by_cases lt : i < 2
    · have hx : us[i]? = some us[i] := List.getElem?_eq_getElem (by omega)
      refine .inr ⟨⟨us, us[i], hsT, hx⟩, fun H'' => i + 1 ≤ 2 ∧ StA C H'' A (Si (i + 1)) ∧ Fit (Si (i + 1)) ∧ Kp A.all H H'' ∧ H'' D = some (.dK (dk V.str (Di (i + 1)))), fun H'' z => ⟨2 - (i + 1), by omega, rfl, z⟩, fun x H'' y => ?_⟩
      obtain ⟨rfl, hy⟩ := y
      have hx2 := hy us hsT
      obtain ⟨⟨s1, s2⟩, hm, dx⟩ := fu i x hx2
      obtain ⟨q1, u, z, rfl, hq, du, dz⟩ := dt_pair_inv dx
      have e1 := dt_str_inv du
      have e2 := dt_str_inv dz
      subst e1 e2
      refine ⟨q1, _, rfl, ux_t (Kp.ux st kp) hq, rfl, _, _, rfl, _, _, rfl, rfl, rfl, ?_⟩
      dsimp only [tYes]
      rw [if_pos rfl]
      have i01 : i = 0 ∨ i = 1 := by omega
      have fin_ : ∀ (n tt : Str) (H3 H4 : Hp), Ex H'' H3 → Kp A.all H3 H4 → H4 D = some (.dK (dk V.str (Di i))) → True := fun _ _ _ _ _ _ _ => trivial
      rcases i01 with rfl | rfl
      · have e12 : (("a" : Str), na) = (s1, s2) := Option.some.inj hm
        cases e12
        refine ⟨_, rfl, ?_⟩
        refine t_meth (ev_var rfl) st'.ins rfl (ea_cons (ev_var rfl) ea_nil) fun H3 e3 => ⟨A, S, na, ta, rfl, st'.ex e3, fit, qa, ha, fun H4 st4 k4 => ?_⟩
        have hD4 : H4 D = some (.dK (dk V.str (Di 0))) := k4 D _ nDA (e3 _ _ hd')
        refine ⟨_, .inr "a", rfl, hD4, by show 0 < sizeLine; decide, by decide, st4.kept hD4 nDA, fit.touch ma, fun b o nb' hb' => ?_, ?_⟩
        · rw [upd_ne (fun z => by rw [z, hD] at hb'; cases hb')]
          exact ((kp.trans (Kp.of e3)).trans k4) b o nb' hb'
        · rw [upd_same]
          exact congrArg (fun z => some (HO.dK z)) (putK_dk (f := V.str) (n := "a") (v := ta) ([] : List (Str × Str)))
      · have e12 : (("b" : Str), nb) = (s1, s2) := Option.some.inj hm
        cases e12
        have fit1 : Fit (touchS S na) := fit.touch ma
        have mb : nb ∈ (touchS S na).texts.map (·.1) := List.mem_map_of_mem (mem_of_look qb)
        refine ⟨_, rfl, ?_⟩
        refine t_meth (ev_var rfl) st'.ins rfl (ea_cons (ev_var rfl) ea_nil) fun H3 e3 => ⟨A, touchS S na, nb, tb, rfl, st'.ex e3, fit1, qb, hb, fun H4 st4 k4 => ?_⟩
        have hD4 : H4 D = some (.dK (dk V.str (Di 1))) := k4 D _ nDA (e3 _ _ hd')
        refine ⟨_, .inr "b", rfl, hD4, by show 1 < sizeLine; decide, by decide, st4.kept hD4 nDA, fit1.touch mb, fun b o nb' hb' => ?_, ?_⟩
        · rw [upd_ne (fun z => by rw [z, hD] at hb'; cases hb')]
          exact ((kp.trans (Kp.of e3)).trans k4) b o nb' hb'
        · rw [upd_same]
          refine congrArg (fun z => some (HO.dK z)) ((putK_dk (f := V.str) (n := "b") (v := tb) [(("a" : Str), ta)]).trans ?_)
          rfl
    · have e : i = 2 := by omega
      subst e
      exact .inl ⟨⟨us, hsT, by omega⟩, k D H' kp hD hd'⟩
end
end Mx
set_option Elab.async false
set_option linter.all false
set_option maxRecDepth 100000
set_option maxHeartbeats 4000000
namespace Mx
open PySem PySem.Spec PyProof.Rows L2 Evl TL
open PySem.W (Datum DatumOrd Tup)
/-! ### the eight texts, the joint model -/
def txtK (k : Nat) : Str := ⟨(List.replicate (1 + k) (if k % 2 = 0 then 97 else 98) ++ [48 + k]).toArray⟩
def spoK (k : Nat) : Str := if tl (txtK k) = (tl (txtK k)).reverse then ⟨((tl (txtK k)).drop 1 ++ [122]).toArray⟩ else ⟨(tl (txtK k)).reverse.toArray⟩
def nmK (k : Nat) : Str := digS (txtK k)
def tbl : List (Str × (Str × Str)) := (List.range 8).map fun k => (nmK k, (txtK k, spoK k))
def NM : List Str := tbl.map (·.1)
def txOf (n : Str) : Str := ((tbl.lookup n).getD ("", "")).1
def bdOf (n : Str) : Str := ((tbl.lookup n).getD ("", "")).2
theorem nm_facts : ∀ n ∈ NM, digS (txOf n) = n ∧ digS (bdOf n) ≠ n ∧ (bdOf n).length = (txOf n).length ∧ (txOf n).length ≤ 9 ∧ 2 ≤ (txOf n).length := by decide +kernel
theorem nm_nodup : NM.Nodup := by decide +kernel
theorem nm_k : ∀ k : Nat, k < 8 → nmK k ∈ NM ∧ txOf (nmK k) = txtK k ∧ bdOf (nmK k) = spoK k := by decide +kernel
structure JM where
  ents : List (Str × Int)
  pins : List (Str × Int)
  clock : Int
  bad : List Str
  quota : Int
def usedM (l : List (Str × Int)) : Int := ((l.map fun e => (txOf e.1).length).sum : Nat)
def progS (M : JM) : SS := { texts := M.ents.map fun e => (e.1, if e.1 ∈ M.bad then bdOf e.1 else txOf e.1), quota := M.quota, used := usedM M.ents, clock := M.clock, last := M.ents, pins := M.pins }
def lawT (M : JM) : List (Str × Str) := M.ents.map fun e => (e.1, txOf e.1)
structure Good (M : JM) : Prop where
  nm : ∀ e ∈ M.ents, e.1 ∈ NM
  nd : (M.ents.map (·.1)).Nodup
  bad : ∀ n ∈ M.bad, n ∈ M.ents.map (·.1)
  bnd : M.bad.Nodup
  pnm : ∀ e ∈ M.pins, e.1 ∈ NM
  pnd : (M.pins.map (·.1)).Nodup
  pos : ∀ e ∈ M.pins, 1 ≤ e.2
  room : usedM M.ents ≤ M.quota
theorem len_sub {α : Type} [DecidableEq α] : ∀ {l m : List α}, l.Nodup → (∀ x ∈ l, x ∈ m) → l.length ≤ m.length
  | [], _, _, _ => Nat.zero_le _
  | a :: r, m, nd, h => by
    obtain ⟨n1, n2⟩ := List.nodup_cons.mp nd
    have ma := h a (List.mem_cons_self ..)
    have := len_sub (l := r) (m := m.erase a) n2 fun x hx => (List.mem_erase_of_ne (fun e : x = a => n1 (by rw [← e]; exact hx))).mpr (h x (List.mem_cons_of_mem _ hx))
    rw [List.length_erase_of_mem ma] at this
    have := List.length_pos_of_mem ma
    show r.length + 1 ≤ _
    omega
theorem nm_len : NM.length = 8 := by decide +kernel
theorem Good.few {M : JM} (h : Good M) : M.ents.length ≤ 8 := by
  have := len_sub h.nd (m := NM) fun x hx => by
    obtain ⟨e, he, rfl⟩ := List.mem_map.mp hx
    exact h.nm e he
  rw [List.length_map, nm_len] at this
  exact this
theorem Good.pfew {M : JM} (h : Good M) : M.pins.length ≤ 8 := by
  have := len_sub h.pnd (m := NM) fun x hx => by
    obtain ⟨e, he, rfl⟩ := List.mem_map.mp hx
    exact h.pnm e he
  rw [List.length_map, nm_len] at this
  exact this
theorem progS_keys {M : JM} : (progS M).texts.map (·.1) = M.ents.map (·.1) := by
  show (M.ents.map fun e => (e.1, _)).map (·.1) = _
  rw [List.map_map]
  rfl
theorem Good.fit {M : JM} (h : Good M) : Fit (progS M) where
  keys := progS_keys
  nd := by
    rw [progS_keys]
    exact h.nd
  few := by
    show (M.ents.map _).length ≤ 1000
    rw [List.length_map]
    have := h.few
    omega
  pfew := by
    show M.pins.length ≤ 1000
    have := h.pfew
    omega
  len := fun e he => by
    obtain ⟨e', he', rfl⟩ := List.mem_map.mp he
    obtain ⟨_, _, l1, l2, _⟩ := nm_facts e'.1 (h.nm e' he')
    show (if e'.1 ∈ M.bad then bdOf e'.1 else txOf e'.1).length ≤ 1000
    split <;> omega
theorem look_map {α β : Type} (g : Str → α → β) (n : Str) : ∀ l : List (Str × α), (l.map fun e => (e.1, g e.1 e.2)).lookup n = (l.lookup n).map (g n)
  | [] => rfl
  | (k, b) :: r => by
    by_cases h : n = k
    · rw [List.map_cons, List.lookup_cons, List.lookup_cons, h]
      simp
    · have h3 : (n == k) = false := by simpa using h
      rw [List.map_cons, List.lookup_cons, List.lookup_cons, h3]
      exact look_map g n r
theorem has_prog {M : JM} (h : Good M) {n : Str} (hn : n ∈ NM) : hasS (progS M) n = (hasA M.ents n && !decide (n ∈ M.bad)) := by
  unfold hasS
  have e : (progS M).texts.lookup n = (M.ents.lookup n).map fun _ => if n ∈ M.bad then bdOf n else txOf n := look_map (fun k _ => if k ∈ M.bad then bdOf k else txOf k) n M.ents
  rw [e, hasA_look]
  obtain ⟨f1, f2, _⟩ := nm_facts n hn
  cases M.ents.lookup n with
  | none => rfl
  | some c =>
    show decide (digS (if n ∈ M.bad then bdOf n else txOf n) = n) = _
    by_cases hb : n ∈ M.bad
    · rw [if_pos hb, decide_eq_false f2, decide_eq_true hb]
      rfl
    · rw [if_neg hb, decide_eq_true f1, decide_eq_false hb]
      rfl
end Mx
set_option Elab.async false
set_option linter.all false
set_option maxRecDepth 100000
set_option maxHeartbeats 4000000
namespace Mx
open PySem PySem.Spec PyProof.Rows L2 Evl TL
open PySem.W (Datum DatumOrd Tup)
/-! ### dropping in the model -/
def dropM (M : JM) (n : Str) : JM := { M with ents := dropA M.ents n, bad := M.bad.filter fun k => decide (k ≠ n) }
theorem used_drop : ∀ {l : List (Str × Int)} {n : Str}, (l.map (·.1)).Nodup → n ∈ l.map (·.1) → usedM (dropA l n) = usedM l - ((txOf n).length : Nat)
  | [], _, _, h => by simp at h
  | (k, c) :: r, n, nd, h => by
    obtain ⟨n1, n2⟩ := List.nodup_cons.mp (show (k :: r.map (·.1)).Nodup from nd)
    by_cases e : k = n
    · have e1 : dropA ((k, c) :: r) n = r := by
        unfold dropA
        rw [List.filter_cons, if_neg (by simp [e])]
        refine List.filter_eq_self.mpr fun x hx => decide_eq_true fun z => n1 (by rw [e, ← z]; exact List.mem_map_of_mem hx)
      rw [e1, ← e]
      show usedM r = (((txOf k).length + (r.map fun e => (txOf e.1).length).sum : Nat) : Int) - _
      unfold usedM
      omega
    · have hm : n ∈ r.map (·.1) := by
        rcases List.mem_cons.mp (show n ∈ k :: r.map (·.1) from h) with z | z
        · exact absurd z.symm e
        · exact z
      have e1 : dropA ((k, c) :: r) n = (k, c) :: dropA r n := by
        unfold dropA
        rw [List.filter_cons, if_pos (by simp [e])]
      have ih := used_drop (l := r) n2 hm
      rw [e1]
      show (((txOf k).length + ((dropA r n).map fun e => (txOf e.1).length).sum : Nat) : Int) = (((txOf k).length + (r.map fun e => (txOf e.1).length).sum : Nat) : Int) - _
      unfold usedM at ih
      omega
theorem text_prog {M : JM} (h : Good M) {n : Str} (hn : n ∈ M.ents.map (·.1)) : (textOf (progS M) n).length = (txOf n).length := by
  obtain ⟨e, he, rfl⟩ := List.mem_map.mp hn
  have e1 : (progS M).texts.lookup e.1 = (M.ents.lookup e.1).map fun _ => if e.1 ∈ M.bad then bdOf e.1 else txOf e.1 := look_map (fun k _ => if k ∈ M.bad then bdOf k else txOf k) e.1 M.ents
  obtain ⟨_, _, l1, _, _⟩ := nm_facts e.1 (h.nm e he)
  unfold textOf
  rw [e1, look_of_mem h.nd he]
  show (if e.1 ∈ M.bad then bdOf e.1 else txOf e.1).length = _
  split
  · exact l1
  · rfl
theorem drop_prog {M : JM} (h : Good M) {n : Str} (hn : n ∈ M.ents.map (·.1)) : dropS (progS M) n (textOf (progS M) n) = progS (dropM M n) := by
  unfold dropS progS dropM
  refine congr (congr (congr (congr (congr (congrArg SS.mk ?_) rfl) ?_) rfl) rfl) rfl
  · show dropA (M.ents.map fun e => (e.1, if e.1 ∈ M.bad then bdOf e.1 else txOf e.1)) n = (dropA M.ents n).map fun e => (e.1, if e.1 ∈ M.bad.filter (fun k => decide (k ≠ n)) then bdOf e.1 else txOf e.1)
    unfold dropA
    rw [List.filter_map]
    refine List.map_congr_left fun e he => ?_
    have hne : e.1 ≠ n := of_decide_eq_true (List.mem_filter.mp he).2
    have : (e.1 ∈ M.bad.filter fun k => decide (k ≠ n)) ↔ e.1 ∈ M.bad := ⟨fun z => (List.mem_filter.mp z).1, fun z => List.mem_filter.mpr ⟨z, decide_eq_true hne⟩⟩
    by_cases hb : e.1 ∈ M.bad
    · rw [if_pos hb, if_pos (this.mpr hb)]
    · rw [if_neg hb, if_neg (fun z => hb (this.mp z))]
  · show usedM M.ents - _ = usedM (dropA M.ents n)
    rw [used_drop h.nd hn]
    have := text_prog h hn
    unfold progS at this
    rw [this]
theorem Good.drop {M : JM} (h : Good M) (n : Str) (hn : n ∈ M.ents.map (·.1)) : Good (dropM M n) where
  nm e he := h.nm e (List.mem_filter.mp he).1
  nd := by
    show ((dropA M.ents n).map (·.1)).Nodup
    rw [dropA_keys]
    exact h.nd.filter _
  bad k hk := by
    show k ∈ (dropA M.ents n).map (·.1)
    obtain ⟨h1, h2⟩ := List.mem_filter.mp hk
    rw [dropA_keys]
    exact List.mem_filter.mpr ⟨h.bad k h1, h2⟩
  bnd := h.bnd.filter _
  pnm := h.pnm
  pnd := h.pnd
  pos := h.pos
  room := by
    show usedM (dropA M.ents n) ≤ M.quota
    rw [used_drop h.nd hn]
    have := h.room
    omega
/-- which go until there is room -/
def goneM (size : Int) : List Str → JM → List Str
  | [], _ => []
  | n :: r, M => if M.quota < usedM M.ents + size then n :: goneM size r (dropM M n) else []
def dropAllM : List Str → JM → JM
  | [], M => M
  | n :: r, M => dropAllM r (dropM M n)
theorem keys_drop {M : JM} {n k : Str} (h : k ∈ M.ents.map (·.1)) (ne : k ≠ n) : k ∈ (dropM M n).ents.map (·.1) := by
  show k ∈ (dropA M.ents n).map (·.1)
  rw [dropA_keys]
  exact List.mem_filter.mpr ⟨h, decide_eq_true ne⟩
theorem room_prog {size : Int} : ∀ (l : List (Int × Str)) {M : JM}, Good M → (l.map (·.2)).Nodup → (∀ n ∈ l.map (·.2), n ∈ M.ents.map (·.1)) → roomS size l (progS M) = progS (dropAllM (goneM size (l.map (·.2)) M) M) ∧ Good (dropAllM (goneM size (l.map (·.2)) M) M)
  | [], M, h, _, _ => ⟨rfl, h⟩
  | (c, n) :: r, M, h, nd, hin => by
    obtain ⟨n1, n2⟩ := List.nodup_cons.mp (show (n :: r.map (·.2)).Nodup from nd)
    have mem := hin n (List.mem_cons_self ..)
    have ih := room_prog (size := size) r (M := dropM M n) (h.drop n mem) n2 fun k hk => keys_drop (hin k (List.mem_cons_of_mem _ hk)) fun z => n1 (by rw [← z]; exact hk)
    show (if (progS M).quota < (progS M).used + size then roomS size r (dropS (progS M) n (textOf (progS M) n)) else progS M) = progS (dropAllM (if M.quota < usedM M.ents + size then n :: goneM size (r.map (·.2)) (dropM M n) else []) M) ∧ Good (dropAllM (if M.quota < usedM M.ents + size then n :: goneM size (r.map (·.2)) (dropM M n) else []) M)
    by_cases hc : M.quota < usedM M.ents + size
    · rw [if_pos hc, if_pos (show (progS M).quota < (progS M).used + size from hc), drop_prog h mem]
      exact ih
    · rw [if_neg hc, if_neg (show ¬ (progS M).quota < (progS M).used + size from hc)]
      exact ⟨rfl, h⟩
def touchM (M : JM) (n : Str) : JM := { M with clock := M.clock + 1, ents := putA M.ents n (M.clock + 1) }
theorem putA_map {α β : Type} {l : List (Str × α)} {n : Str} {v : α} (g : Str → β) (h : hasA l n = true) : (putA l n v).map (fun e => (e.1, g e.1)) = l.map fun e => (e.1, g e.1) := by
  unfold putA
  rw [if_pos h, List.map_map]
  refine List.map_congr_left fun e _ => ?_
  by_cases c : e.1 = n
  · simp [c]
  · simp [c]
theorem used_keys {l l' : List (Str × Int)} (h : l.map (·.1) = l'.map (·.1)) : usedM l = usedM l' := by
  have e : ∀ l : List (Str × Int), (l.map fun e => (txOf e.1).length) = (l.map (·.1)).map fun n => (txOf n).length := fun l => by
    rw [List.map_map]
    rfl
  unfold usedM
  rw [e, e, h]
theorem touch_prog {M : JM} {n : Str} (hn : n ∈ M.ents.map (·.1)) : touchS (progS M) n = progS (touchM M n) := by
  have ha := hasA_mem.mpr hn
  unfold touchS progS touchM
  refine congr (congr (congr (congr (congr (congrArg SS.mk ?_) rfl) ?_) rfl) rfl) rfl
  · exact (putA_map (fun k => if k ∈ M.bad then bdOf k else txOf k) ha).symm
  · exact used_keys (putA_keys ha).symm
theorem Good.touch {M : JM} (h : Good M) {n : Str} (hn : n ∈ M.ents.map (·.1)) : Good (touchM M n) where
  nm e he := by
    have : e.1 ∈ (putA M.ents n (M.clock + 1)).map (·.1) := List.mem_map_of_mem he
    rw [putA_keys (hasA_mem.mpr hn)] at this
    obtain ⟨e', he', hh⟩ := List.mem_map.mp this
    rw [← hh]
    exact h.nm e' he'
  nd := by
    show ((putA M.ents n _).map (·.1)).Nodup
    rw [putA_keys (hasA_mem.mpr hn)]
    exact h.nd
  bad k hk := by
    show k ∈ (putA M.ents n _).map (·.1)
    rw [putA_keys (hasA_mem.mpr hn)]
    exact h.bad k hk
  bnd := h.bnd
  pnm := h.pnm
  pnd := h.pnd
  pos := h.pos
  room := by
    show usedM (putA M.ents n _) ≤ M.quota
    rw [used_keys (putA_keys (hasA_mem.mpr hn))]
    exact h.room
theorem putA_new {α : Type} {l : List (Str × α)} {n : Str} {v : α} (h : n ∉ l.map (·.1)) : putA l n v = l ++ [(n, v)] := by
  unfold putA
  rw [if_neg (fun z => h (hasA_mem.mp z))]
theorem new_prog {M : JM} (h : Good M) {n : Str} (hn : n ∉ M.ents.map (·.1)) : touchS (addS (progS M) n (txOf n)) n = progS (touchM M n) := by
  have nb : n ∉ M.bad := fun z => hn (h.bad n z)
  have hk : n ∉ (progS M).texts.map (·.1) := by
    rw [progS_keys]
    exact hn
  unfold touchS addS touchM
  show SS.mk (putA (progS M).texts n (txOf n)) M.quota (usedM M.ents + ((txOf n).length : Nat)) (M.clock + 1) (putA M.ents n (M.clock + 1)) M.pins = _
  rw [putA_new hk, putA_new hn]
  unfold progS
  refine congr (congr (congr (congr (congr (congrArg SS.mk ?_) rfl) ?_) rfl) rfl) rfl
  · show (M.ents.map _) ++ _ = (M.ents ++ [(n, M.clock + 1)]).map _
    rw [List.map_append]
    show _ ++ [(n, txOf n)] = _ ++ [(n, if n ∈ M.bad then bdOf n else txOf n)]
    rw [if_neg nb]
  · show _ = usedM (M.ents ++ [(n, M.clock + 1)])
    unfold usedM
    rw [List.map_append, List.sum_append]
    simp
theorem Good.new {M : JM} (h : Good M) {n : Str} (hn : n ∉ M.ents.map (·.1)) (hm : n ∈ NM) (hr : usedM M.ents + ((txOf n).length : Nat) ≤ M.quota) : Good (touchM M n) := by
  have e : (touchM M n).ents = M.ents ++ [(n, M.clock + 1)] := putA_new hn
  refine ⟨fun x hx => ?_, ?_, fun k hk => ?_, h.bnd, h.pnm, h.pnd, h.pos, ?_⟩
  · rw [e] at hx
    rcases List.mem_append.mp hx with z | z
    · exact h.nm x z
    · rw [List.mem_singleton.mp z]
      exact hm
  · rw [e, List.map_append]
    refine List.nodup_append.mpr ⟨h.nd, by simp, fun a ha b hb => ?_⟩
    have : b = n := by simpa using hb
    rw [this]
    exact fun z => hn (by rw [← z]; exact ha)
  · rw [e, List.map_append]
    exact List.mem_append_left _ (h.bad k hk)
  · rw [e]
    show usedM (M.ents ++ [(n, M.clock + 1)]) ≤ M.quota
    have : usedM (M.ents ++ [(n, M.clock + 1)]) = usedM M.ents + ((txOf n).length : Nat) := by
      unfold usedM
      rw [List.map_append, List.sum_append]
      simp
    rw [this]
    exact hr
def freeM (M : JM) : List (Int × Str) := sortD ((M.ents.filter fun e => !hasA M.pins e.1).map fun e => (e.2, e.1))
theorem unp_prog {M : JM} (h : Good M) (n : Str) : unp (progS M) n = !hasA M.pins n := by
  unfold unp
  show decide ((M.pins.lookup n).getD 0 = 0) = _
  rw [hasA_look]
  cases q : M.pins.lookup n with
  | none => rfl
  | some c =>
    have := h.pos _ (mem_of_look q)
    show decide (c = 0) = false
    have h1 : 1 ≤ c := this
    exact decide_eq_false (by omega)
theorem free_prog {M : JM} (h : Good M) : freeS (progS M) = freeM M := by
  unfold freeS freeM
  congr 1
  show ((M.ents.map fun e => (e.1, if e.1 ∈ M.bad then bdOf e.1 else txOf e.1)).filter fun e => unp (progS M) e.1).map (fun e => ((M.ents.lookup e.1).getD 0, e.1)) = _
  rw [List.filter_map, List.map_map]
  have e1 : (M.ents.filter ((fun e : Str × Str => unp (progS M) e.1) ∘ fun e : Str × Int => (e.1, if e.1 ∈ M.bad then bdOf e.1 else txOf e.1))) = M.ents.filter fun e => !hasA M.pins e.1 := List.filter_congr fun e _ => unp_prog h e.1
  rw [e1]
  refine List.map_congr_left fun e he => ?_
  show ((M.ents.lookup e.1).getD 0, e.1) = _
  rw [look_of_mem h.nd (List.mem_filter.mp he).1]
  rfl
def preM (M : JM) (n : Str) : JM := if hasA M.ents n = true then dropM M n else M
def goneP (M : JM) (n : Str) : List Str := goneM ((txOf n).length : Nat) ((freeM (preM M n)).map (·.2)) (preM M n)
def midM (M : JM) (n : Str) : JM := dropAllM (goneP M n) (preM M n)
theorem pre_prog {M : JM} (h : Good M) (n : Str) : preS (progS M) n = progS (preM M n) ∧ Good (preM M n) := by
  have e : hasA (progS M).texts n = hasA M.ents n := by
    rw [Bool.eq_iff_iff, hasA_mem, hasA_mem, progS_keys]
  unfold preS preM
  rw [e]
  by_cases c : hasA M.ents n = true
  · rw [if_pos c, if_pos c]
    exact ⟨drop_prog h (hasA_mem.mp c), h.drop n (hasA_mem.mp c)⟩
  · rw [if_neg c, if_neg c]
    exact ⟨rfl, h⟩
theorem free_names {M : JM} (h : Good M) : ((freeM M).map (·.2)).Nodup ∧ ∀ n ∈ (freeM M).map (·.2), n ∈ M.ents.map (·.1) := by
  have pm : ((freeM M).map (·.2)).Perm ((M.ents.filter fun e => !hasA M.pins e.1).map (·.1)) := by
    have := (sortD_perm ((M.ents.filter fun e => !hasA M.pins e.1).map fun e => (e.2, e.1))).map (·.2)
    rw [List.map_map] at this
    exact this
  exact ⟨pm.nodup_iff.mpr ((List.Sublist.map _ List.filter_sublist).nodup h.nd), fun n hn => (List.Sublist.map _ List.filter_sublist).subset (pm.subset hn)⟩
theorem mid_prog {M : JM} (h : Good M) {n : Str} (hn : n ∈ NM) : midS (progS M) (txOf n) = progS (midM M n) ∧ Good (midM M n) := by
  obtain ⟨f1, _⟩ := nm_facts n hn
  obtain ⟨p1, p2⟩ := pre_prog h n
  obtain ⟨q1, q2⟩ := free_names p2
  unfold midS midM goneP
  rw [f1, p1, free_prog p2]
  exact room_prog _ p2 q1 q2
end Mx
set_option Elab.async false
set_option linter.all false
set_option maxRecDepth 100000
set_option maxHeartbeats 4000000
namespace Mx
open PySem PySem.Spec PyProof.Rows L2 Evl TL
open PySem.W (Datum DatumOrd Tup)
/-! ### pins, spoiling, collecting in the model -/
def pinM (M : JM) (n : Str) : JM := { M with pins := putA M.pins n ((M.pins.lookup n).getD 0 + 1) }
theorem pin_prog (M : JM) (n : Str) : pinS (progS M) n = progS (pinM M n) := rfl
def unpinM (M : JM) (n : Str) : JM := { M with pins := if (M.pins.lookup n).getD 0 - 1 ≤ 0 then dropA (putA M.pins n ((M.pins.lookup n).getD 0 - 1)) n else putA M.pins n ((M.pins.lookup n).getD 0 - 1) }
theorem unpin_prog (M : JM) (n : Str) : unpinS (progS M) n = progS (unpinM M n) := rfl
def spoilM (M : JM) (n : Str) : JM := { M with bad := M.bad ++ [n] }
theorem spoil_prog {M : JM} (h : Good M) {n : Str} (hn : n ∈ M.ents.map (·.1)) : { progS M with texts := putA (progS M).texts n (bdOf n) } = progS (spoilM M n) := by
  have ha : hasA (progS M).texts n = true := hasA_mem.mpr (by rw [progS_keys]; exact hn)
  unfold progS spoilM at *
  refine congr (congr (congr (congr (congr (congrArg SS.mk ?_) rfl) rfl) rfl) rfl) rfl
  unfold putA
  rw [if_pos ha, List.map_map]
  refine List.map_congr_left fun e he => ?_
  show (if e.1 = n then (e.1, bdOf n) else (e.1, if e.1 ∈ M.bad then bdOf e.1 else txOf e.1)) = (e.1, if e.1 ∈ M.bad ++ [n] then bdOf e.1 else txOf e.1)
  by_cases c : e.1 = n
  · rw [if_pos c, c, if_pos (by simp)]
  · rw [if_neg c]
    have : (e.1 ∈ M.bad ++ [n]) ↔ e.1 ∈ M.bad := by simp [c]
    by_cases b : e.1 ∈ M.bad
    · rw [if_pos b, if_pos (this.mpr b)]
    · rw [if_neg b, if_neg (fun z => b (this.mp z))]
theorem mem_putA {α : Type} {l : List (Str × α)} {n : Str} {v : α} {e : Str × α} (h : e ∈ putA l n v) : e ∈ l ∨ e = (n, v) := by
  unfold putA at h
  split at h
  · obtain ⟨e', he', rfl⟩ := List.mem_map.mp h
    by_cases c : e'.1 = n
    · rw [if_pos c]
      exact .inr (by rw [c])
    · rw [if_neg c]
      exact .inl he'
  · rcases List.mem_append.mp h with z | z
    · exact .inl z
    · exact .inr (List.mem_singleton.mp z)
theorem nd_putA {α : Type} {l : List (Str × α)} {n : Str} {v : α} (h : (l.map (·.1)).Nodup) : ((putA l n v).map (·.1)).Nodup := by
  by_cases c : hasA l n = true
  · rw [putA_keys c]
    exact h
  · rw [putA_new (fun z => c (hasA_mem.mpr z)), List.map_append]
    refine List.nodup_append.mpr ⟨h, by simp, fun a ha b hb => ?_⟩
    have : b = n := by simpa using hb
    rw [this]
    exact fun z => c (hasA_mem.mpr (by rw [← z]; exact ha))
theorem Good.pin {M : JM} (h : Good M) {n : Str} (hn : n ∈ NM) : Good (pinM M n) where
  nm := h.nm
  nd := h.nd
  bad := h.bad
  bnd := h.bnd
  pnm e he := by
    rcases mem_putA he with z | z
    · exact h.pnm e z
    · rw [z]; exact hn
  pnd := nd_putA h.pnd
  pos e he := by
    rcases mem_putA he with z | z
    · exact h.pos e z
    · rw [z]
      show 1 ≤ (M.pins.lookup n).getD 0 + 1
      cases q : M.pins.lookup n with
      | none => decide
      | some c =>
        have : 1 ≤ c := h.pos _ (mem_of_look q)
        show 1 ≤ c + 1
        omega
  room := h.room
theorem look_putA' {α : Type} {l : List (Str × α)} {n : Str} {v : α} {e : Str × α} (nd : (l.map (·.1)).Nodup) (h : e ∈ putA l n v) (ne : e.1 ≠ n) : e ∈ l := by
  rcases mem_putA h with z | z
  · exact z
  · exact absurd (by rw [z]) ne
theorem Good.unpin {M : JM} (h : Good M) {n : Str} (hn : n ∈ NM) : Good (unpinM M n) := by
  refine ⟨h.nm, h.nd, h.bad, h.bnd, fun e he => ?_, ?_, fun e he => ?_, h.room⟩
  · unfold unpinM at he
    have : e ∈ putA M.pins n ((M.pins.lookup n).getD 0 - 1) := by
      by_cases c : (M.pins.lookup n).getD 0 - 1 ≤ 0
      · rw [if_pos c] at he
        exact (List.mem_filter.mp he).1
      · rw [if_neg c] at he
        exact he
    rcases mem_putA this with z | z
    · exact h.pnm e z
    · rw [z]; exact hn
  · unfold unpinM
    show ((if _ then _ else _ : List (Str × Int)).map (·.1)).Nodup
    by_cases c : (M.pins.lookup n).getD 0 - 1 ≤ 0
    · rw [if_pos c, dropA_keys]
      exact (nd_putA h.pnd).filter _
    · rw [if_neg c]
      exact nd_putA h.pnd
  · unfold unpinM at he
    by_cases c : (M.pins.lookup n).getD 0 - 1 ≤ 0
    · rw [if_pos c] at he
      obtain ⟨h1, h2⟩ := List.mem_filter.mp he
      exact h.pos e (look_putA' h.pnd h1 (of_decide_eq_true h2))
    · rw [if_neg c] at he
      rcases mem_putA he with z | z
      · exact h.pos e z
      · rw [z]
        show 1 ≤ (M.pins.lookup n).getD 0 - 1
        omega
theorem Good.spoil {M : JM} (h : Good M) {n : Str} (hn : n ∈ M.ents.map (·.1)) (nb : n ∉ M.bad) : Good (spoilM M n) where
  nm := h.nm
  nd := h.nd
  bad k hk := by
    rcases List.mem_append.mp hk with z | z
    · exact h.bad k z
    · rw [List.mem_singleton.mp z]; exact hn
  bnd := List.nodup_append.mpr ⟨h.bnd, by simp, fun a ha b hb => by
    have : b = n := by simpa using hb
    rw [this]
    exact fun z => nb (by rw [← z]; exact ha)⟩
  pnm := h.pnm
  pnd := h.pnd
  pos := h.pos
  room := h.room
def collM (M : JM) (keep : List Str) : List Str := sortD ((M.ents.filter fun e => !decide (e.1 ∈ keep) && !hasA M.pins e.1).map (·.1))
theorem coll_prog {M : JM} (h : Good M) (keep : List Str) : goneS (progS M) keep = collM M keep := by
  unfold goneS collM
  congr 1
  show ((M.ents.map fun e => (e.1, if e.1 ∈ M.bad then bdOf e.1 else txOf e.1)).filter fun e => !decide (e.1 ∈ keep) && unp (progS M) e.1).map (·.1) = _
  rw [List.filter_map, List.map_map]
  have e1 : (M.ents.filter ((fun e : Str × Str => !decide (e.1 ∈ keep) && unp (progS M) e.1) ∘ fun e : Str × Int => (e.1, if e.1 ∈ M.bad then bdOf e.1 else txOf e.1))) = M.ents.filter fun e => !decide (e.1 ∈ keep) && !hasA M.pins e.1 := List.filter_congr fun e _ => by
    show (!decide (e.1 ∈ keep) && unp (progS M) e.1) = _
    rw [unp_prog h]
  rw [e1]
  rfl
theorem coll_names {M : JM} (h : Good M) (keep : List Str) : (collM M keep).Nodup ∧ ∀ n ∈ collM M keep, n ∈ M.ents.map (·.1) := by
  have pm : (collM M keep).Perm ((M.ents.filter fun e => !decide (e.1 ∈ keep) && !hasA M.pins e.1).map (·.1)) := sortD_perm _
  exact ⟨pm.nodup_iff.mpr ((List.Sublist.map _ List.filter_sublist).nodup h.nd), fun n hn => (List.Sublist.map _ List.filter_sublist).subset (pm.subset hn)⟩
theorem dropAll_prog : ∀ (l : List Str) {M : JM}, Good M → l.Nodup → (∀ n ∈ l, n ∈ M.ents.map (·.1)) → dropAllS l (progS M) = progS (dropAllM l M) ∧ Good (dropAllM l M)
  | [], M, h, _, _ => ⟨rfl, h⟩
  | n :: r, M, h, nd, hin => by
    obtain ⟨n1, n2⟩ := List.nodup_cons.mp nd
    have mem := hin n (List.mem_cons_self ..)
    have ih := dropAll_prog r (M := dropM M n) (h.drop n mem) n2 fun k hk => keys_drop (hin k (List.mem_cons_of_mem _ hk)) fun z => n1 (by rw [← z]; exact hk)
    show dropAllS r (dropS (progS M) n (textOf (progS M) n)) = _ ∧ _
    rw [drop_prog h mem]
    exact ih
end Mx
set_option Elab.async false
set_option linter.all false
set_option maxRecDepth 100000
set_option maxHeartbeats 4000000
/-! Texts reversed and repeated; comprehensions over dicts and lists, more. -/
namespace Mx
open PySem PySem.Spec PyProof.Rows L2 Evl TL
open PySem.W (Datum DatumOrd Tup)
/-! ### s[::-1] -/
def revT (z : Str) : Str := ⟨(tl z).reverse.toArray⟩
theorem rev_picked (z : Str) : ((Builtin.Str.strSliceIndices none none (-1) z.length).filterMap (z.cps[·]?)) = (tl z).reverse := by
  rw [picked_rev, filterMap_get, List.map_map]
  · refine List.ext_getElem (by simp [tl, Str.length]) fun i h1 h2 => ?_
    have hi : i < z.cps.size := by simpa [Str.length] using h1
    have hj : z.cps.size - 1 - i < z.cps.size := by omega
    simp [tl, Str.length, List.getElem_reverse, Array.getD, hj]
  · intro i hi
    obtain ⟨k, hk, rfl⟩ := List.mem_map.mp hi
    have hk' : k < z.length := List.mem_range.mp hk
    show z.length - 1 - k < z.length
    omega
def tRevS (te : TE) : TE := fun σ H Q => te σ H fun x H1 => ∃ z, x = .str z ∧ z.length ≤ sizeLine ∧ Q (.str (revT z)) H1
section
variable {X : Cx}
theorem pe_revS {e : Expr} {te : TE} {k : Nat} {p1 p2 p3 pos : Pos} (he : PE X e te) : PE X (.Subscript e (.Slice none none (some (.UnaryOp .USub (.Constant (.int 1) k p1) p2)) p3) pos) (tRevS te) := by
  refine ⟨fun pins s σ H Q I h => ?_⟩
  refine Subscript_ (thn (he.run pins s σ H _ I h) fun v s1 ⟨x, H1, I1, r1, q1⟩ => ?_)
  obtain ⟨z, ex, hz, q⟩ := q1
  subst ex
  obtain ⟨t, rfl⟩ := r1
  have hst : PO X (some (.UnaryOp .USub (.Constant (.int 1) k p1) p2)) (tPart (tUn (rU fun i => .int (-i)) (tC (.int 1)))) := po_some (pe_un un_neg pe_int)
  refine wpAny_Slice (thn (po_none.run pins s1 σ H1 (fun o H2 => o = none ∧ H2 = H1) I1 ⟨rfl, rfl⟩) fun vl s2 ⟨l, H2, I2, pl, el, e2⟩ => ?_)
  subst el e2
  refine thn (po_none.run pins s2 σ H2 (fun o H3 => o = none ∧ H3 = H2) I2 ⟨rfl, rfl⟩) fun vu s3 ⟨u, H3, I3, pu, eu, e3⟩ => ?_
  subst eu e3
  refine thn (hst.run pins s3 σ H3 (fun o H4 => o = some (-1) ∧ H4 = H3) I3 ⟨1, rfl, -1, rfl, rfl, rfl⟩) fun vs s4 ⟨o, H4, I4, ps, eo, e4⟩ => ?_
  subst eo e4
  have I5 : Inv X pins σ H4 { s4 with heap := s4.heap.push { cls := .type "slice", data := .fields #[vl, vu, vs] } } := I4.kept (t' := s4.toks) fun b ob q => Heap.get?_push_of_some _ q
  show wpAny (model X.prog X.w) X.A (subscriptTail e (.Slice none none (some (.UnaryOp .USub (.Constant (.int 1) k p1) p2)) p3) (.str z t) (.ref s4.heap.objs.size)) (EP X pins σ Q) X.xe { s4 with heap := s4.heap.push { cls := .type "slice", data := .fields #[vl, vu, vs] } }
  refine tail_any (ops := [.str z t, .ref s4.heap.objs.size]) (typeIs_str _ _ _) (F.slot_str_getitem.lookup) ?_ (by with_unfolding_all rfl)
  obtain ⟨os, hos, hcs, hds⟩ := Heap.IsSliceOf.new s4.heap vl vu vs
  obtain ⟨l1, rfl, e1⟩ := IsPart.raw pl
  obtain ⟨u1, rfl, e2⟩ := IsPart.raw pu
  obtain ⟨t1, rfl, e3⟩ := IsPart.raw ps
  refine wpAny_getItem_str_slice (l := l1) (u := u1) (st := t1) ⟨os, hos, hcs, hds⟩ (by rw [e3]; rfl) ?_
  have hp : (slicePicked z l1 u1 t1).filterMap (z.cps[·]?) = (tl z).reverse := by
    unfold slicePicked
    rw [e1, e2, e3]
    exact rev_picked z
  unfold sliceMade
  rw [if_neg (by rw [e3]; simp), hp]
  have hl : (⟨(tl z).reverse.toArray⟩ : Str).length ≤ sizeLine := by
    show (tl z).reverse.toArray.size ≤ _
    rw [List.size_toArray, List.length_reverse]
    show z.cps.toList.length ≤ _
    rw [Array.length_toList]
    exact hz
  exact ⟨hl, .str _, H4, I5.tok _, ⟨_, rfl⟩, q⟩
/-! ### s * n -/
def rRepS : R2 := fun x y H Q => ∃ (z : Str) (n : Int), x = .str z ∧ y = .int n ∧ 0 ≤ n ∧ n ≤ 1000 ∧ z.length ≤ 1000 ∧ Q (.str (Txt.mul z n)) H
theorem op_repS : OpR X (binaryOp .Mult) rRepS := by
  intro pins s σ H x y v u Q I rx ry h
  obtain ⟨z, n, rfl, rfl, h0, h1, hz, q⟩ := h
  obtain ⟨t, rfl⟩ := rx
  obtain ⟨t', rfl⟩ := ry
  have hlen : z.length * n.toNat ≤ 1000000 := by
    have : z.length * n.toNat ≤ 1000 * 1000 := Nat.mul_le_mul hz (by omega)
    omega
  refine SB.mul ⟨?_, fun _ _ hh => ?_, fun _ _ => ?_⟩ fun t2 k => ⟨.str _, H, I.tok _, ⟨_, rfl⟩, q⟩
  · rw [decide_eq_false (by omega), decide_eq_false (by omega)]
    rfl
  · have hn : 0 < n := by omega
    have : (9007199254740991 : Int) ≤ (2 ^ 63 - 1) / n := by
      refine (Int.le_ediv_iff_mul_le hn).mpr ?_
      have : (9007199254740991 : Int) * n ≤ 9007199254740991 * 1000 := Int.mul_le_mul_of_nonneg_left h1 (by decide)
      omega
    omega
  · unfold Builtin.Str.tooLong
    exact decide_eq_false (by have : (1000000 : Nat) < sizeLine := by decide
                              omega)
end
section
variable {σ : L2.St} {H H' : Hp} {te ta tb td : TE} {v : V} {K : PySem.W.Frag} {d : Addr} {kvs : List (Key × V)}
theorem ev_revS {z : Str} (h : Ev te σ H (.str z)) (hz : z.length ≤ 100000) : Ev (tRevS te) σ H (.str (revT z)) := fun H1 e Q q => h H1 e _ fun H2 e2 => ⟨z, rfl, sz_of hz, q H2 e2⟩
theorem rv_repS {z : Str} {n : Int} (h0 : 0 ≤ n) (h1 : n ≤ 1000) (hz : z.length ≤ 1000) : RV rRepS (.str z) (.int n) H (.str (Txt.mul z n)) := fun H1 _ Q q => ⟨z, n, rfl, rfl, h0, h1, hz, q H1 (Ex.refl H1)⟩
theorem ev_slS {tl' th : TO} {z : Str} {lo hi : Option Int} (h : Ev te σ H (.str z)) (h1 : EvO tl' σ H lo) (h2 : EvO th σ H hi) (hz : z.length ≤ 100000) : Ev (tSl rSlS te tl' th) σ H (.str (cutS z lo hi)) := fun H1 e Q q =>
  h H1 e _ fun H2 e2 => h1 H2 (e.trans e2) _ fun H3 e3 => h2 H3 ((e.trans e2).trans e3) _ fun H4 e4 => ⟨z, rfl, sz_of hz, q H4 ((e2.trans e3).trans e4)⟩
theorem ev_sumL {ns : List Int} (h : EvL te σ H (ns.map V.int)) : Ev (tCB (rSum K) (tCons te tNil)) σ H (.int ns.sum) := fun H1 e Q q =>
  h H1 e _ fun p H2 _ e2 h2 => ⟨p, ns, rfl, sq_of h2, q H2 e2⟩
/-- x in a list of texts -/
theorem inV_str (x : Str) : ∀ xs : List Str, inV (.str x) (xs.map V.str) = decide (x ∈ xs)
  | [] => rfl
  | y :: ys => by
    have ih := inV_str x ys
    unfold inV at ih ⊢
    rw [List.map_cons, List.any_cons, ih]
    have e : eqV (V.str y) (V.str x) = decide (x = y) := by
      show decide (y = x) = _
      exact decide_eq_decide.mpr eq_comm
    rw [e]
    by_cases c : x = y
    · simp [c]
    · by_cases c2 : x ∈ ys <;> simp [c, c2]
theorem flat_strs : ∀ xs : List Str, (xs.map V.str).all flatV = true
  | [] => rfl
  | x :: xs => by
    rw [List.map_cons, List.all_cons, flat_strs xs]
    rfl
theorem ev_inS {neg : Bool} {x : Str} {p : Addr} {xs : List Str} (h : Ev ta σ H (.str x)) (h2 : Ev tb σ H (.ref p)) (hp : SqL K H p (xs.map V.str)) : Ev (tOp (rIn K neg) ta tb) σ H (.bl (if neg then !decide (x ∈ xs) else decide (x ∈ xs))) :=
  ev_is (ev_op h h2 (rv_inL hp rfl (flat_strs xs))) (by rw [inV_str])
/-- [x for x in texts if x != n] -/
theorem el_lcNe {a : Addr} {xs : List Str} {tl : TE} {tt : TT} {te : TE} {j : Nat} {vs : List Nat} {n : Str} (h : Ev tl σ H (.ref a)) (hx : SqL K H a (xs.map V.str)) (hz : xs.length ≤ 40000) (hw : ∀ x, wipe ((wipe σ vs).set j (some x)) vs = wipe σ vs)
    (ht : ∀ (m : Str) H1, EvT tt ((wipe σ vs).set j (some (.str m))) H1 (!decide (V.str m = V.str n))) (he : ∀ v H1, Ev te ((wipe σ vs).set j (some v)) H1 v) : EvL (tLc (iList K tl) (gName j) tt te vs) σ H ((xs.filter fun k => decide (k ≠ n)).map V.str) := by
  have at_ : ∀ (i : Nat) (x : V), (xs.map V.str)[i]? = some x → ∃ m, xs[i]? = some m ∧ x = .str m := fun i x hi => by
    rw [List.getElem?_map] at hi
    cases q : xs[i]? with
    | none => rw [q] at hi; cases hi
    | some m =>
      rw [q] at hi
      cases hi
      exact ⟨m, rfl, rfl⟩
  have gd : ∀ (i : Nat) (m : Str), xs[i]? = some m → xs.getD i "" = m := fun i m q => by rw [List.getD_eq_getElem?_getD, q]; rfl
  have key := el_lcL (K := K) (σ := σ) (H := H) (t := tt) (te := te) (tl := tl) (a := a) (xs := xs.map V.str) (fun i => decide (xs.getD i "" ≠ n)) (fun i => V.str (xs.getD i "")) h hx (by rw [List.length_map]; exact hz) hw
    (fun i x H1 e1 hi => by
      obtain ⟨m, q, rfl⟩ := at_ i x hi
      rw [gd i m q]
      refine et_is (ht m H1) ?_
      rw [str_eq]
      by_cases c : m = n <;> simp [c])
    (fun i x H1 e1 hi hf => by
      obtain ⟨m, q, rfl⟩ := at_ i x hi
      rw [gd i m q]
      exact he _ _)
  rw [List.length_map, given_map xs (fun k => decide (k ≠ n)) V.str _ _ (fun i m q => by rw [gd i m q]) (fun i m q => by rw [gd i m q])] at key
  exact key
/-- [e for a, b in xs], xs a list of pairs -/
theorem evd_lcLp {α β γ : Type} [DecidableEq α] [Datum α] [DecidableEq β] [Datum β] [Firm β] [DecidableEq γ] [Datum γ] {tl : TE} {a1 j : Nat} {vs : List Nat} {xs : List (α × γ)} (g : α × γ → β) (h : EvP tl σ H fun v H2 => Dt K H2 v xs) (hz : xs.length ≤ 40000) (hw : ∀ x y, wipe (((wipe σ vs).set a1 (some x)).set j (some y)) vs = wipe σ vs)
    (he : ∀ (x : α × γ) (v w : V) H1, x ∈ xs → Dt K H1 v x.1 → Dt K H1 w x.2 → Ex H H1 → EvD te K (((wipe σ vs).set a1 (some v)).set j (some w)) H1 (g x)) : EvD (tLc (iList K tl) (gTup K 2 (gCons (gName a1) (gCons (gName j) gNil))) tYes te vs) K σ H (xs.map g) := fun H0 e0 Q q =>
  h H0 e0 _ fun v H1 e1 d => by
    obtain ⟨a, us, rfl, hs, hd⟩ := dt_lst_inv (xs := xs) d
    obtain ⟨lu, fu⟩ := dpAll_at hd
    refine ⟨a, rfl, ⟨us, hs⟩, fun D hD => ?_⟩
    have E := e0.trans e1
    refine lc_list (xs := us) (fun i H' => H1 D = none ∧ Ex H1 H' ∧ ∃ acc, H' D = some (.lst acc) ∧ DpAll K H' acc (((xs.take i).map g).map Datum.toD)) ⟨hD, Ex.new hD, [], upd_same, .nil⟩ (fun i H' _ z => ex_l z.2.1 hs) (fun i y H' hi z => ?_) fun H' z => ?_
    · obtain ⟨p1, p2, acc, p3, p4⟩ := z
      obtain ⟨x, hx, dx⟩ := fu i y hi
      have mx := List.mem_of_getElem? hx
      obtain ⟨x1, x2⟩ := x
      obtain ⟨q1, u, z, rfl, hq, du, dz⟩ := dt_pair_inv dx
      have al := dpAll_len p4
      have lt : ((xs.take i).map g).length ≤ 40000 := by
        rw [List.length_map, List.length_take]
        omega
      refine ⟨q1, _, rfl, ex_t p2 hq, rfl, _, _, rfl, _, _, rfl, rfl, hw _ _, ?_⟩
      refine he (x1, x2) u z H' mx (du.ex p2) (dz.ex p2) (E.trans p2) H' (Ex.refl _) _ fun w H4 e4 dw => ⟨acc, e4 _ _ p3, sz_lt (by omega), p1, Ex.mut (p2.trans e4) p1, acc ++ [w], upd_same, ?_⟩
      have z := dp_step (x := g (x1, x2)) p3 e4 p4 dw
      rw [List.take_succ, hx, List.map_append]
      simpa using z
    · obtain ⟨p1, p2, acc, p3, p4⟩ := z
      rw [lu, List.take_length] at p4
      exact q _ H' (e1.trans p2) (dt_lst (sq_of p3) p4)
/-- [e for x in xs], a plain list of data -/
theorem evl_lcLd {α β : Type} [DecidableEq α] [Datum α] [DecidableEq β] [Datum β] [Firm β] {tl : TE} {j : Nat} {vs : List Nat} {xs : List α} (g : α → β) (h : EvP tl σ H fun v H2 => Dt K H2 v xs) (hz : xs.length ≤ 40000) (hw : ∀ x, wipe ((wipe σ vs).set j (some x)) vs = wipe σ vs)
    (he : ∀ (x : α) (v : V) H1, x ∈ xs → Dt K H1 v x → Ex H H1 → EvD te K ((wipe σ vs).set j (some v)) H1 (g x)) : EvP (tLc (iList K tl) (gName j) tYes te vs) σ H fun v H2 => ∃ a us, v = .ref a ∧ H2 a = some (.lst us) ∧ DpAll K H2 us ((xs.map g).map Datum.toD) := fun H0 e0 Q q =>
  h H0 e0 _ fun v H1 e1 d => by
    obtain ⟨a, us, rfl, hs, hd⟩ := dt_lst_inv d
    obtain ⟨lu, fu⟩ := dpAll_at hd
    refine ⟨a, rfl, ⟨us, hs⟩, fun D hD => ?_⟩
    have E := e0.trans e1
    refine lc_list (xs := us) (fun i H' => H1 D = none ∧ Ex H1 H' ∧ ∃ acc, H' D = some (.lst acc) ∧ DpAll K H' acc (((xs.take i).map g).map Datum.toD)) ⟨hD, Ex.new hD, [], upd_same, .nil⟩ (fun i H' _ z => ex_l z.2.1 hs) (fun i y H' hi z => ?_) fun H' z => ?_
    · obtain ⟨p1, p2, acc, p3, p4⟩ := z
      obtain ⟨x, hx, dx⟩ := fu i y hi
      have mx := List.mem_of_getElem? hx
      refine ⟨hw _, ?_⟩
      have al := dpAll_len p4
      have lt : ((xs.take i).map g).length ≤ 40000 := by
        rw [List.length_map, List.length_take]
        omega
      refine he x y H' mx (dx.ex p2) (E.trans p2) H' (Ex.refl _) _ fun w H4 e4 dw => ⟨acc, e4 _ _ p3, sz_lt (by omega), p1, Ex.mut (p2.trans e4) p1, acc ++ [w], upd_same, ?_⟩
      have z := dp_step (x := g x) p3 e4 p4 dw
      rw [List.take_succ, hx, List.map_append]
      simpa using z
    · obtain ⟨p1, p2, acc, p3, p4⟩ := z
      rw [lu, List.take_length] at p4
      exact q _ H' (e1.trans p2) ⟨D, acc, rfl, p3, p4⟩
/-- [k for k in d if t], whatever t answers -/
theorem evp_lcAny {j : Nat} {vs : List Nat} {tt : TT} {l : List (Str × Str)} (h : ∀ o, Ev td σ (upd H d (.frz o (.dK (l.map fun e => ((Sum.inr e.1 : Key), V.str e.2))))) (.ref d)) (hd : H d = some (.dK (l.map fun e => ((Sum.inr e.1 : Key), V.str e.2)))) (hz : l.length ≤ 40000) (hw : ∀ x, wipe ((wipe σ vs).set j (some x)) vs = wipe σ vs)
    (ht : ∀ (k : Str) o H1 (Q : Bool → Hp → Prop), Ex (upd H d (.frz o (.dK (l.map fun e => ((Sum.inr e.1 : Key), V.str e.2))))) H1 → (∀ b H2, Ex H1 H2 → Q b H2) → tt ((wipe σ vs).set j (some (.str k))) H1 Q)
    (he : ∀ v H1, Ev te ((wipe σ vs).set j (some v)) H1 v) :
    EvP (tLockE (tLc (iKeys td) (gName j) tt te vs)) σ H fun v H2 => ∃ (p : Addr) (ks : List Str), v = .ref p ∧ H2 p = some (.lst (ks.map V.str)) ∧ (∀ k ∈ ks, k ∈ l.map (·.1)) ∧ ks.length ≤ l.length := fun H1 e0 Q q => by
  have hd1 := e0 _ _ hd
  refine ⟨d, .dK _, hd1, trivial, fun o => ?_⟩
  refine h o _ (lock_ex e0) _ fun H2 e2 => ⟨d, o, rfl, .inl ⟨_, e2 _ _ upd_same, fun D hD => ?_⟩⟩
  have base := (lock_ex (d := d) (o := o) (u := .dK (l.map fun e => ((Sum.inr e.1 : Key), V.str e.2))) e0).trans e2
  have hd2 : H2 d = some (.frz o (.dK (l.map fun e => ((Sum.inr e.1 : Key), V.str e.2)))) := e2 _ _ upd_same
  refine lc_it walk_keys (fun i H' => H2 D = none ∧ Ex H2 H' ∧ ∃ ks : List Str, H' D = some (.lst (ks.map V.str)) ∧ (∀ k ∈ ks, k ∈ l.map (·.1)) ∧ ks.length ≤ i) ⟨hD, Ex.new hD, [], upd_same, fun _ z => absurd z (by simp), Nat.le_refl _⟩ (fun i H' _ p => p.2.1 _ _ hd2) (fun i x H' H'' hi p y => ?_) fun H' p => ?_
  · obtain ⟨p1, p2, ks, p3, p4, p5⟩ := p
    obtain ⟨rfl, k, v, hk, rfl⟩ := y
    rw [List.getElem?_map] at hk
    cases qe : l[i]? with
    | none => rw [qe] at hk; cases hk
    | some e =>
      rw [qe] at hk
      cases hk
      have me : e.1 ∈ l.map (·.1) := List.mem_map_of_mem (List.mem_of_getElem? qe)
      have hi' : i < l.length := (List.getElem?_eq_some_iff.mp qe).1
      refine ⟨hw _, ?_⟩
      refine ht e.1 o _ _ (base.trans p2) fun b H3 e3 => ?_
      cases b with
      | true =>
        rw [if_pos rfl]
        refine he _ _ H3 (Ex.refl _) _ fun H4 e4 => ⟨_, e4 _ _ (e3 _ _ p3), sz_lt (by rw [List.length_map]; omega), p1, Ex.mut ((p2.trans e3).trans e4) p1, ks ++ [e.1], ?_, ?_, ?_⟩
        · rw [upd_same, List.map_append]
          rfl
        · intro k' hk'
          rcases List.mem_append.mp hk' with z | z
          · exact p4 k' z
          · rw [List.mem_singleton.mp z]; exact me
        · rw [List.length_append]
          show ks.length + 1 ≤ i + 1
          omega
      | false =>
        rw [if_neg (by decide)]
        exact ⟨p1, p2.trans e3, ks, e3 _ _ p3, p4, by omega⟩
  · obtain ⟨p1, p2, ks, p3, p4, p5⟩ := p
    have nD : D ≠ d := fun z => by rw [z, hd2] at p1; cases p1
    refine ⟨p2 _ _ hd2, q _ _ (ex_lock (e2.trans p2) hd1) ⟨D, ks, rfl, by rw [upd_ne nD]; exact p3, p4, by rw [List.length_map] at p5; exact p5⟩⟩
end
end Mx
set_option Elab.async false
set_option linter.all false
set_option maxRecDepth 100000
set_option maxHeartbeats 4000000
namespace Mx
open PySem PySem.Spec PyProof.Rows L2 Evl TL
open PySem.W (Datum DatumOrd Tup)
/-! ### sorted lists of texts are one -/
theorem str_le_antisymm {a b : Str} (h1 : a.cps.toList ≤ b.cps.toList) (h2 : b.cps.toList ≤ a.cps.toList) : a = b := by
  have := List.le_antisymm h1 h2
  obtain ⟨⟨x⟩⟩ := a
  obtain ⟨⟨y⟩⟩ := b
  have : x = y := this
  rw [this]
theorem sortD_one {l l' : List Str} (h : l.Perm l') : sortD l = sortD l' := by
  have e : (PySem.W.dataLe false (Datum.toD (α := Str))) = fun a b => decide (a.cps.toList ≤ b.cps.toList) := PySem.W.dataLe_str (fun x : Str => x)
  unfold sortD
  rw [e]
  have tr : ∀ a b c : Str, decide (a.cps.toList ≤ b.cps.toList) = true → decide (b.cps.toList ≤ c.cps.toList) = true → decide (a.cps.toList ≤ c.cps.toList) = true := fun a b c h1 h2 => decide_eq_true (List.le_trans (of_decide_eq_true h1) (of_decide_eq_true h2))
  have tt : ∀ a b : Str, (decide (a.cps.toList ≤ b.cps.toList) || decide (b.cps.toList ≤ a.cps.toList)) = true := fun a b => by
    rcases List.le_total (l₁ := a.cps.toList) (l₂ := b.cps.toList) with h | h <;> simp [h]
  refine List.Perm.eq_of_pairwise (le := fun a b : Str => decide (a.cps.toList ≤ b.cps.toList) = true) (fun a b _ _ h1 h2 => str_le_antisymm (of_decide_eq_true h1) (of_decide_eq_true h2)) (List.pairwise_mergeSort tr tt l) (List.pairwise_mergeSort tr tt l') ?_
  exact ((List.mergeSort_perm l _).trans h).trans (List.mergeSort_perm l' _).symm
theorem rising_all : ∀ (l : List Str) (p : Str), risingS p l = true → (∀ x ∈ l, p.cps.toList ≤ x.cps.toList) ∧ l.Pairwise fun a b => a.cps.toList ≤ b.cps.toList
  | [], _, _ => ⟨fun _ h => absurd h (by simp), .nil⟩
  | x :: r, p, h => by
    have h' : (!ltCps x.cps.toList p.cps.toList && risingS x r) = true := h
    obtain ⟨h1, h2⟩ := Bool.and_eq_true_iff.mp h'
    obtain ⟨r1, r2⟩ := rising_all r x h2
    have le : p.cps.toList ≤ x.cps.toList := by
      rw [ltCps_eq] at h1
      exact List.not_lt.mp (by simpa using h1)
    refine ⟨fun y hy => ?_, .cons r1 r2⟩
    rcases List.mem_cons.mp hy with rfl | hy
    · exact le
    · exact List.le_trans le (r1 y hy)
theorem sortedS_all : ∀ {l : List Str}, sortedS l = true → l.Pairwise fun a b => a.cps.toList ≤ b.cps.toList
  | [], _ => .nil
  | x :: r, h => by
    obtain ⟨r1, r2⟩ := rising_all r x h
    exact .cons r1 r2
theorem sortedS_one {l l' k : List Str} (h1 : sortedS l = true) (h2 : sortedS l' = true) (p1 : l.Perm k) (p2 : l'.Perm k) : l = l' :=
  List.Perm.eq_of_pairwise (fun a b _ _ h1 h2 => str_le_antisymm h1 h2) (sortedS_all h1) (sortedS_all h2) (p1.trans p2.symm)
theorem perm_of_mem {α : Type} [DecidableEq α] : ∀ {l m : List α}, l.Nodup → m.Nodup → (∀ x, x ∈ l ↔ x ∈ m) → l.Perm m
  | [], m, _, _, h => by
    cases m with
    | nil => exact .nil
    | cons a r => exact absurd ((h a).mpr (List.mem_cons_self ..)) (by simp)
  | a :: r, m, nl, nm, h => by
    obtain ⟨n1, n2⟩ := List.nodup_cons.mp nl
    have ma := (h a).mp (List.mem_cons_self ..)
    refine .trans (.cons a (perm_of_mem (l := r) (m := m.erase a) n2 (nm.erase a) fun x => ?_)) (List.perm_cons_erase ma).symm
    rw [nm.mem_erase_iff]
    constructor
    · intro hx
      exact ⟨fun e => n1 (by rw [← e]; exact hx), (h x).mp (List.mem_cons_of_mem _ hx)⟩
    · rintro ⟨ne, hx⟩
      rcases List.mem_cons.mp ((h x).mpr hx) with e | hx
      · exact absurd e ne
      · exact hx
theorem spo_prog {M : JM} (h : Good M) : spoS (progS M) = sortD M.bad := by
  unfold spoS
  refine sortD_one ?_
  show (((M.ents.map fun e => (e.1, if e.1 ∈ M.bad then bdOf e.1 else txOf e.1)).filter fun e => !decide (digS e.2 = e.1)).map (·.1)).Perm M.bad
  have e1 : ((M.ents.map fun e => (e.1, if e.1 ∈ M.bad then bdOf e.1 else txOf e.1)).filter fun e => !decide (digS e.2 = e.1)).map (·.1) = (M.ents.map (·.1)).filter fun n => decide (n ∈ M.bad) := by
    rw [List.filter_map, List.map_map, List.filter_map]
    have : (M.ents.filter ((fun e : Str × Str => !decide (digS e.2 = e.1)) ∘ fun e : Str × Int => (e.1, if e.1 ∈ M.bad then bdOf e.1 else txOf e.1))) = M.ents.filter ((fun n : Str => decide (n ∈ M.bad)) ∘ fun e : Str × Int => e.1) := List.filter_congr fun e he => by
      obtain ⟨f1, f2, _⟩ := nm_facts e.1 (h.nm e he)
      show (!decide (digS (if e.1 ∈ M.bad then bdOf e.1 else txOf e.1) = e.1)) = decide (e.1 ∈ M.bad)
      by_cases c : e.1 ∈ M.bad
      · rw [if_pos c, decide_eq_false f2, decide_eq_true c]
        rfl
      · rw [if_neg c, decide_eq_true f1, decide_eq_false c]
        rfl
    rw [this]
    rfl
  rw [e1]
  refine perm_of_mem (h.nd.filter _) h.bnd fun x => ?_
  rw [List.mem_filter]
  exact ⟨fun z => of_decide_eq_true z.2, fun z => ⟨h.bad x z, decide_eq_true z⟩⟩
/-! ### the draws' texts -/
theorem txt_made : ∀ k : Nat, k < 8 → Txt.mul (⟨#[if k % 2 = 0 then 97 else 98]⟩ : Str) (1 + (k : Int)) ++ (toString (k : Int) : Str) = txtK k := by decide +kernel
theorem spo_made : ∀ k : Nat, k < 8 → (if revT (txtK k) = txtK k then cutS (txtK k) (some 1) none ++ ("z" : Str) else revT (txtK k)) = spoK k := by decide +kernel
theorem txt_len : ∀ k : Nat, k < 8 → (txtK k).length ≤ 9 := by decide +kernel
/-! ### put -/
def pre1 (M : JM) (n : Str) : JM := if n ∈ M.bad then dropM M n else M
def hasM (M : JM) (n : Str) : Bool := hasA M.ents n && !decide (n ∈ M.bad)
theorem Good.pre1 {M : JM} (h : Good M) (n : Str) : Good (pre1 M n) := by
  unfold Mx.pre1
  split
  · exact h.drop n (h.bad n (by assumption))
  · exact h
theorem pre1_has {M : JM} (h : Good M) (n : Str) : hasA (pre1 M n).ents n = hasM M n := by
  unfold pre1 hasM
  by_cases c : n ∈ M.bad
  · rw [if_pos c, decide_eq_true c]
    have : hasA (dropA M.ents n) n = false := by
      cases q : hasA (dropA M.ents n) n with
      | false => rfl
      | true =>
        have z := hasA_mem.mp q
        rw [dropA_keys] at z
        exact absurd rfl (of_decide_eq_true (List.mem_filter.mp z).2)
    show hasA (dropA M.ents n) n = _
    rw [this]
    simp
  · rw [if_neg c, decide_eq_false c]
    simp
theorem pre1_not {M : JM} (h : Good M) {n : Str} (c : hasM M n = false) : pre1 M n = preM M n := by
  unfold hasM at c
  unfold pre1 preM
  by_cases b : n ∈ M.bad
  · rw [if_pos b, if_pos (hasA_mem.mpr (h.bad n b))]
  · rw [if_neg b]
    rw [decide_eq_false b] at c
    have : hasA M.ents n = false := by simpa using c
    rw [this, if_neg (by decide)]
theorem pre1_yes {M : JM} {n : Str} (c : hasM M n = true) : pre1 M n = M := by
  unfold hasM at c
  have : n ∉ M.bad := fun z => by
    rw [decide_eq_true z] at c
    simp at c
  unfold pre1
  rw [if_neg this]
def goneL (M : JM) (n : Str) : List Str := if hasM M n = true then [] else goneP M n
def fullL (M : JM) (n : Str) : Bool := !hasM M n && decide (M.quota < usedM (midM M n).ents + ((txOf n).length : Nat))
theorem dropAll_append : ∀ (l m : List Str) (M : JM), dropAllM (l ++ m) M = dropAllM m (dropAllM l M)
  | [], _, _ => rfl
  | n :: r, m, M => dropAll_append r m (dropM M n)
theorem mid_law {M : JM} (h : Good M) (n : Str) : dropAllM (goneL M n) (pre1 M n) = if hasM M n = true then M else midM M n := by
  unfold goneL
  cases c : hasM M n with
  | true =>
    rw [if_pos rfl, if_pos rfl]
    exact pre1_yes c
  | false =>
    rw [if_neg (by decide), if_neg (by decide), pre1_not h c]
    rfl
theorem kd_dropAll : ∀ (l : List Str) {M : JM} {k : Str}, k ∈ M.ents.map (·.1) → k ∉ l → k ∈ (dropAllM l M).ents.map (·.1)
  | [], _, _, h, _ => h
  | n :: r, M, k, h, hn => kd_dropAll r (keys_drop h fun z => hn (by rw [z]; exact List.mem_cons_self ..)) fun z => hn (List.mem_cons_of_mem _ z)
theorem less_dropAll : ∀ (l : List Str) {M : JM} {k : Str}, k ∈ (dropAllM l M).ents.map (·.1) → k ∈ M.ents.map (·.1)
  | [], _, _, h => h
  | n :: r, M, k, h => by
    have := less_dropAll r (M := dropM M n) h
    rw [show (dropM M n).ents = dropA M.ents n from rfl, dropA_keys] at this
    exact (List.mem_filter.mp this).1
theorem quota_dropAllM : ∀ (l : List Str) (M : JM), (dropAllM l M).quota = M.quota
  | [], _ => rfl
  | n :: r, M => quota_dropAllM r (dropM M n)
theorem quota_midM {M : JM} {n : Str} : (midM M n).quota = M.quota := by
  unfold midM
  rw [quota_dropAllM]
  unfold preM
  split <;> rfl
theorem mid_not {M : JM} (h : Good M) {n : Str} (c : hasM M n = false) : n ∉ (midM M n).ents.map (·.1) := fun z => by
  have := less_dropAll _ z
  rw [← pre1_not h c] at this
  have := hasA_mem.mpr this
  rw [pre1_has h, c] at this
  cases this
theorem gone_sub {size : Int} : ∀ (l : List Str) (M : JM), ∀ k ∈ goneM size l M, k ∈ l
  | [], _, k, h => absurd h (by simp [goneM])
  | n :: r, M, k, h => by
    unfold goneM at h
    split at h
    · rcases List.mem_cons.mp h with rfl | h
      · exact List.mem_cons_self ..
      · exact List.mem_cons_of_mem _ (gone_sub r _ k h)
    · exact absurd h (by simp)
theorem gone_nodup {size : Int} : ∀ (l : List Str) (M : JM), l.Nodup → (goneM size l M).Nodup
  | [], _, _ => by simp [goneM]
  | n :: r, M, h => by
    obtain ⟨n1, n2⟩ := List.nodup_cons.mp h
    unfold goneM
    split
    · exact List.nodup_cons.mpr ⟨fun z => n1 (gone_sub r _ _ z), gone_nodup r _ n2⟩
    · exact List.nodup_nil
theorem goneL_ok {M : JM} (h : Good M) (n : Str) : (goneL M n).Nodup ∧ ∀ k ∈ goneL M n, k ∈ (pre1 M n).ents.map (·.1) := by
  unfold goneL
  cases c : hasM M n with
  | true =>
    rw [if_pos rfl]
    exact ⟨List.nodup_nil, fun k hk => absurd hk (by simp)⟩
  | false =>
    rw [if_neg (by decide), pre1_not h c]
    obtain ⟨q1, q2⟩ := free_names (pre_prog h n).2
    exact ⟨gone_nodup _ _ q1, fun k hk => q2 k (gone_sub _ _ k hk)⟩
/-- the law's own state behind a put -/
def putM (M : JM) (n : Str) : JM := if hasM M n = true then touchM M n else if fullL M n = true then midM M n else touchM (midM M n) n
theorem Good.put {M : JM} (h : Good M) {n : Str} (hn : n ∈ NM) : Good (putM M n) := by
  unfold putM
  cases c : hasM M n with
  | true =>
    rw [if_pos rfl]
    refine h.touch ?_
    unfold hasM at c
    exact hasA_mem.mp (Bool.and_eq_true_iff.mp c).1
  | false =>
    rw [if_neg (by decide)]
    have gm := (mid_prog h hn).2
    cases f : fullL M n with
    | true =>
      rw [if_pos rfl]
      exact gm
    | false =>
      rw [if_neg (by decide)]
      refine gm.new (mid_not h c) hn ?_
      unfold fullL at f
      rw [c] at f
      rw [quota_midM]
      have := of_decide_eq_false (show decide (M.quota < _) = false from f)
      omega
theorem quota_put {M : JM} {n : Str} : (putM M n).quota = M.quota := by
  unfold putM
  split
  · rfl
  · split
    · exact quota_midM
    · show (midM M n).quota = _
      exact quota_midM
theorem Good.dropAll : ∀ (l : List Str) {M : JM}, Good M → l.Nodup → (∀ n ∈ l, n ∈ M.ents.map (·.1)) → Good (dropAllM l M) := fun l _ h nd hin => (dropAll_prog l h nd hin).2
end Mx
set_option Elab.async false
set_option linter.all false
set_option maxRecDepth 100000
set_option maxHeartbeats 4000000
namespace Mx
open PySem PySem.Spec PyProof.Rows L2 Evl TL
open PySem.W (Datum DatumOrd Tup)
/-! ### the law's state -/
section
variable {t l p b : Addr} {c x : Int}
def kvS (t l p : Addr) (c : Int) (b : Addr) : List (Key × V) := [(.inr "texts", .ref t), (.inr "last", .ref l), (.inr "pins", .ref p), (.inr "clock", .int c), (.inr "bad", .ref b)]
theorem kvS_texts : valV (kvS t l p c b) (.inr "texts") = some (.ref t) := vS
theorem kvS_last : valV (kvS t l p c b) (.inr "last") = some (.ref l) := (vN (by decide +kernel)).trans vS
theorem kvS_pins : valV (kvS t l p c b) (.inr "pins") = some (.ref p) := (vN (by decide +kernel)).trans ((vN (by decide +kernel)).trans vS)
theorem kvS_clock : valV (kvS t l p c b) (.inr "clock") = some (.int c) := (vN (by decide +kernel)).trans ((vN (by decide +kernel)).trans ((vN (by decide +kernel)).trans vS))
theorem kvS_bad : valV (kvS t l p c b) (.inr "bad") = some (.ref b) := (vN (by decide +kernel)).trans ((vN (by decide +kernel)).trans ((vN (by decide +kernel)).trans ((vN (by decide +kernel)).trans vS)))
end
structure La where
  s : Addr
  t : Addr
  l : Addr
  p : Addr
def La.all (L : La) : List Addr := [L.s, L.t, L.l, L.p]
structure LwA (H : Hp) (L : La) (b : Addr) (M : JM) : Prop where
  st : H L.s = some (.dK (kvS L.t L.l L.p M.clock b))
  tx : H L.t = some (.dK (dk V.str (lawT M)))
  la : H L.l = some (.dK (dk V.int M.ents))
  pi : H L.p = some (.dK (dk V.int M.pins))
  bd : H b = some (.lst (M.bad.map V.str))
  nd : L.all.Nodup
theorem kvS_eq {t l p b : Addr} {c : Int} {kvs : List (Key × V)} (h : kvs = kvS t l p c b) : kvs = [(.inr "texts", .ref t), (.inr "last", .ref l), (.inr "pins", .ref p), (.inr "clock", .int c), (.inr "bad", .ref b)] := h
section
variable {t l p b : Addr} {c x : Int}
theorem putS_clock : putK (kvS t l p c b) (.inr "clock") (.int x) = kvS t l p x b := by
  unfold kvS
  rw [pN (by decide +kernel) (by rw [(vN (by decide +kernel)).trans ((vN (by decide +kernel)).trans vS)]; rfl), pN (by decide +kernel) (by rw [(vN (by decide +kernel)).trans vS]; rfl), pN (by decide +kernel) (by rw [vS]; rfl), pS]
  intro q hq
  simp only [List.mem_cons, List.mem_nil_iff, or_false] at hq
  subst hq
  intro e
  exact absurd (Sum.inr.inj e) (by decide +kernel)
theorem putS_bad {y : Addr} : putK (kvS t l p c b) (.inr "bad") (.ref y) = kvS t l p c y := by
  unfold kvS
  rw [pN (by decide +kernel) (by rw [(vN (by decide +kernel)).trans ((vN (by decide +kernel)).trans ((vN (by decide +kernel)).trans vS))]; rfl), pN (by decide +kernel) (by rw [(vN (by decide +kernel)).trans ((vN (by decide +kernel)).trans vS)]; rfl), pN (by decide +kernel) (by rw [(vN (by decide +kernel)).trans vS]; rfl), pN (by decide +kernel) (by rw [vS]; rfl), pS]
  intro q hq
  exact absurd hq (by simp)
end
section
variable {H H' : Hp} {L : La} {b : Addr} {M : JM}
theorem LwA.ne (h : LwA H L b M) : L.s ≠ L.t ∧ L.s ≠ L.l ∧ L.s ≠ L.p ∧ L.t ≠ L.l ∧ L.t ≠ L.p ∧ L.l ≠ L.p := by
  have := h.nd
  unfold La.all at this
  simp only [List.nodup_cons, List.mem_cons, List.not_mem_nil, not_or, or_false] at this
  obtain ⟨⟨h1, h2, h3⟩, ⟨h4, h5⟩, h6, _⟩ := this
  exact ⟨h1, h2, h3, h4, h5, h6⟩
theorem La.mem {L : La} {a : Addr} (h : a ∈ L.all) : a = L.s ∨ a = L.t ∨ a = L.l ∨ a = L.p := by simpa [La.all] using h
theorem LwA.dict (h : LwA H L b M) {a : Addr} (ha : a ∈ L.all) : ∃ kvs, H a = some (.dK kvs) := by
  rcases La.mem ha with rfl | rfl | rfl | rfl
  · exact ⟨_, h.st⟩
  · exact ⟨_, h.tx⟩
  · exact ⟨_, h.la⟩
  · exact ⟨_, h.pi⟩
theorem LwA.out (h : LwA H L b M) {a : Addr} {vs : List V} (e : H a = some (.lst vs)) : a ∉ L.all := fun m => by
  obtain ⟨kvs, q⟩ := h.dict m
  rw [q] at e
  cases e
theorem LwA.kp {B : List Addr} (h : LwA H L b M) (k : Kp B H H') (n : ∀ a ∈ L.all, a ∉ B) (nb : b ∉ B) : LwA H' L b M :=
  ⟨k _ _ (n _ (by simp [La.all])) h.st, k _ _ (n _ (by simp [La.all])) h.tx, k _ _ (n _ (by simp [La.all])) h.la, k _ _ (n _ (by simp [La.all])) h.pi, k _ _ nb h.bd, h.nd⟩
theorem LwA.ex (h : LwA H L b M) (e : Ex H H') : LwA H' L b M := ⟨e _ _ h.st, e _ _ h.tx, e _ _ h.la, e _ _ h.pi, e _ _ h.bd, h.nd⟩
theorem fresh_kp {B : List Addr} (k : Kp B H H') (hB : ∀ a ∈ B, H' a ≠ none) {d : Addr} (hd : H' d = none) : H d = none := by
  cases q : H d with
  | none => rfl
  | some o =>
    exfalso
    by_cases m : d ∈ B
    · exact hB d m hd
    · rw [k d o m q] at hd
      cases hd
theorem Kp.sub {B B' : List Addr} (h : ∀ a ∈ B, a ∈ B') (k : Kp B H H') : Kp B' H H' := fun a o n e => k a o (fun m => n (h a m)) e
theorem lawT_drop (M : JM) (n : Str) : dropA (lawT M) n = lawT (dropM M n) := by
  unfold lawT dropA dropM
  show (M.ents.map _).filter _ = (dropA M.ents n).map _
  unfold dropA
  rw [List.filter_map]
  rfl
theorem lawT_keys (M : JM) : (lawT M).map (·.1) = M.ents.map (·.1) := by
  unfold lawT
  rw [List.map_map]
  rfl
theorem lawT_look (h : Good M) {n : Str} (hn : n ∈ M.ents.map (·.1)) : (lawT M).lookup n = some (txOf n) := by
  have e : (lawT M).lookup n = (M.ents.lookup n).map fun _ => txOf n := look_map (fun k _ => txOf k) n M.ents
  obtain ⟨x, hx, rfl⟩ := List.mem_map.mp hn
  rw [e, look_of_mem h.nd hx]
  rfl
theorem Good.bfew (h : Good M) : M.bad.length ≤ 8 := by
  have := len_sub h.bnd (m := NM) fun x hx => by
    obtain ⟨e, he, rfl⟩ := List.mem_map.mp (h.bad x hx)
    exact h.nm e he
  rw [nm_len] at this
  exact this
end
/-! ### readings of the law's state -/
section
variable {σ : L2.St} {H H' : Hp} {te ta tb to td ty tx tS : TE} {v z : V} {K : PySem.W.Frag} {L : La} {b : Addr} {M : JM}
theorem ev_gT (h : Ev tS σ H (.ref L.s)) (lw : LwA H L b M) : Ev (tDGet tS (tC (.str "texts"))) σ H (.ref L.t) := ev_dgetK (k := .inr "texts") h ev_c (.inl lw.st) kvS_texts
theorem ev_gL (h : Ev tS σ H (.ref L.s)) (lw : LwA H L b M) : Ev (tDGet tS (tC (.str "last"))) σ H (.ref L.l) := ev_dgetK (k := .inr "last") h ev_c (.inl lw.st) kvS_last
theorem ev_gP (h : Ev tS σ H (.ref L.s)) (lw : LwA H L b M) : Ev (tDGet tS (tC (.str "pins"))) σ H (.ref L.p) := ev_dgetK (k := .inr "pins") h ev_c (.inl lw.st) kvS_pins
theorem ev_gC (h : Ev tS σ H (.ref L.s)) (lw : LwA H L b M) : Ev (tDGet tS (tC (.str "clock"))) σ H (.int M.clock) := ev_dgetK (k := .inr "clock") h ev_c (.inl lw.st) kvS_clock
theorem ev_gB (h : Ev tS σ H (.ref L.s)) (lw : LwA H L b M) : Ev (tDGet tS (tC (.str "bad"))) σ H (.ref b) := ev_dgetK (k := .inr "bad") h ev_c (.inl lw.st) kvS_bad
theorem s_dputL {tv : TE} {D : Ends} {xs : List V} {d : Addr} {kvs : List (Key × V)} {k : Key} (hv : EvL tv σ H xs) (hd : Ev td σ H (.ref d)) (hk : Ev ty σ H (kV k)) (h : H d = some (.dK kvs)) (hl : kvs.length ≤ 50000) (n : ∀ p H1, H p = none → Ex H H1 → H1 p = some (.lst xs) → D.nx σ (upd H1 d (.dK (putK kvs k (.ref p))))) : sDPut td ty tv D σ H :=
  hv H (Ex.refl H) _ fun p H1 hp e1 h1 => hd H1 e1 _ fun H2 e2 => hk H2 (e1.trans e2) _ fun H3 e3 => ⟨d, _, rfl, DPut.k (((e1.trans e2).trans e3) _ _ h) (sz_lt (by omega)), n p H3 hp ((e1.trans e2).trans e3) (e3 _ _ (e2 _ _ h1))⟩
/-- texts.pop(n); last.pop(n); state["bad"] = [x for x in state["bad"] if x != n] -/
theorem s_lawdrop {D : Ends} {txE laE stE nmE te2 : TE} {tt : TT} {j : Nat} {vs : List Nat} {n : Str} (lw : LwA H L b M) (gd : Good M) (hn : n ∈ M.ents.map (·.1))
    (h1 : ∀ H1, Ev txE σ H1 (.ref L.t)) (h2 : ∀ H1, Ev laE σ H1 (.ref L.l)) (h3 : ∀ H1, Ev stE σ H1 (.ref L.s)) (h4 : ∀ H1, Ev nmE σ H1 (.str n)) (hw : ∀ x, wipe ((wipe σ vs).set j (some x)) vs = wipe σ vs)
    (ht : ∀ (m : Str) H1, EvT tt ((wipe σ vs).set j (some (.str m))) H1 (!decide (V.str m = V.str n))) (he : ∀ v H1, Ev te2 ((wipe σ vs).set j (some v)) H1 v)
    (k : ∀ b' H', LwA H' L b' (dropM M n) → H b' = none → Kp L.all H H' → D.nx σ H') :
    tSeq (tDrop (tDPop1 txE nmE)) (tSeq (tDrop (tDPop1 laE nmE)) (sDPut stE (tC (.str "bad")) (tLc (iList K (tDGet stE (tC (.str "bad")))) (gName j) tt te2 vs))) D σ H := by
  obtain ⟨n1, n2, n3, n4, n5, n6⟩ := lw.ne
  refine q_dpop (k := .inr n) (v := .str (txOf n)) (h1 H) (h4 H) lw.tx (by rw [valV_dk, lawT_look gd hn]; rfl) fun H1 e1 => ?_
  rw [dropK_dk, lawT_drop]
  obtain ⟨c, hc⟩ := Option.isSome_iff_exists.mp ((hasA_look M.ents).symm.trans (hasA_mem.mpr hn))
  refine q_dpop (k := .inr n) (v := .int c) (h2 _) (h4 _) (by rw [upd_ne n4.symm]; exact e1 _ _ lw.la) (by rw [valV_dk, hc]; rfl) fun H2 e2 => ?_
  rw [dropK_dk]
  have bt : b ≠ L.t := fun z => lw.out lw.bd (by rw [z]; simp [La.all])
  have bl : b ≠ L.l := fun z => lw.out lw.bd (by rw [z]; simp [La.all])
  have bs : b ≠ L.s := fun z => lw.out lw.bd (by rw [z]; simp [La.all])
  have b2 : upd H2 L.l (.dK (dk V.int (dropA M.ents n))) b = some (.lst (M.bad.map V.str)) := by
    rw [upd_ne bl]
    exact e2 _ _ (by rw [upd_ne bt]; exact e1 _ _ lw.bd)
  have s2 : upd H2 L.l (.dK (dk V.int (dropA M.ents n))) L.s = some (.dK (kvS L.t L.l L.p M.clock b)) := by
    rw [upd_ne n2]
    exact e2 _ _ (by rw [upd_ne n1]; exact e1 _ _ lw.st)
  have t2 : upd H2 L.l (.dK (dk V.int (dropA M.ents n))) L.t = some (.dK (dk V.str (lawT (dropM M n)))) := by
    rw [upd_ne n4]
    exact e2 _ _ upd_same
  have p2 : upd H2 L.l (.dK (dk V.int (dropA M.ents n))) L.p = some (.dK (dk V.int M.pins)) := by
    rw [upd_ne n6.symm]
    exact e2 _ _ (by rw [upd_ne n5.symm]; exact e1 _ _ lw.pi)
  have m1 : L.t ∈ L.all := by simp [La.all]
  have m2 : L.l ∈ L.all := by simp [La.all]
  have m3 : L.s ∈ L.all := by simp [La.all]
  have kp2 : Kp L.all H (upd H2 L.l (.dK (dk V.int (dropA M.ents n)))) := ((Kp.of e1).trans (Kp.upd m1)).trans ((Kp.of e2).trans (Kp.upd m2))
  refine s_dputL (k := .inr "bad") (el_lcNe (K := K) (n := n) (ev_dgetK (k := .inr "bad") (h3 _) ev_c (.inl s2) kvS_bad) (sq_of b2) (by have := gd.bfew; omega) hw ht he) (h3 _) ev_c s2 (by show 5 ≤ 50000; decide) fun p H3 hp e3 h5 => ?_
  rw [putS_bad]
  have fr : H p = none := fresh_kp kp2 (fun a ha => by
    rcases La.mem ha with rfl | rfl | rfl | rfl
    · rw [s2]; simp
    · rw [t2]; simp
    · rw [upd_same]; simp
    · rw [p2]; simp) hp
  have ps : p ≠ L.s := fun z => by rw [z, lw.st] at fr; cases fr
  refine k p _ ⟨upd_same, ?_, ?_, ?_, ?_, lw.nd⟩ fr (kp2.trans ((Kp.of e3).trans (Kp.upd m3)))
  · rw [upd_ne n1.symm]; exact e3 _ _ t2
  · rw [upd_ne n2.symm]; exact e3 _ _ upd_same
  · rw [upd_ne n3.symm]; exact e3 _ _ p2
  · rw [upd_ne ps]
    exact h5
theorem sum_cast : ∀ l : List Nat, (l.map fun (n : Nat) => (n : Int)).sum = ((l.sum : Nat) : Int)
  | [] => rfl
  | x :: r => by
    rw [List.map_cons, List.sum_cons, List.sum_cons, sum_cast r]
    omega
/-- sum([len(texts[one]) for one in texts]) -/
theorem ev_sumT {td td' tv' : TE} {j : Nat} {vs : List Nat} (lw : LwA H L b M) (gd : Good M) (h1 : ∀ H1, Ev td σ H1 (.ref L.t)) (hw : ∀ x, wipe ((wipe σ vs).set j (some x)) vs = wipe σ vs)
    (h2 : ∀ x H1, Ev td' ((wipe σ vs).set j (some x)) H1 (.ref L.t)) (h3 : ∀ x H1, Ev tv' ((wipe σ vs).set j (some x)) H1 x) :
    Ev (tCB (rSum K) (tCons (tLockE (tLc (iKeys td) (gName j) tYes (tCB (fun xs H Q => ∃ z, xs = [.str z] ∧ z.length ≤ sizeLine ∧ Q (.int z.length) H) (tCons (tDGet td' tv') tNil)) vs)) tNil)) σ H (.int (usedM M.ents)) := by
  have few := gd.few
  have at_ : ∀ (i : Nat) (k : Key) (v : V), (dk V.str (lawT M))[i]? = some (k, v) → ∃ e, M.ents[i]? = some e ∧ k = .inr e.1 := fun i k v hk => by
    unfold dk lawT at hk
    rw [List.map_map, List.getElem?_map] at hk
    cases q : M.ents[i]? with
    | none => rw [q] at hk; cases hk
    | some e =>
      rw [q] at hk
      cases hk
      exact ⟨e, rfl, rfl⟩
  have getD_at : ∀ (i : Nat) (e : Str × Int), M.ents[i]? = some e → M.ents.getD i ("", 0) = e := fun i e he => by rw [List.getD_eq_getElem?_getD, he]; rfl
  have el := el_lcK (σ := σ) (H := H) (tt := tYes) (td := td) (d := L.t) (kvs := dk V.str (lawT M)) (j := j) (vs := vs) (te := tCB (fun xs H Q => ∃ z, xs = [.str z] ∧ z.length ≤ sizeLine ∧ Q (.int z.length) H) (tCons (tDGet td' tv') tNil)) (fun _ => true) (fun i => V.int ((txOf (M.ents.getD i ("", 0)).1).length : Nat)) (fun o => h1 _) lw.tx
    (by rw [dk_len, lawT, List.length_map]; omega) hw (fun i k v o H1 hk e1 => fun H2 _ Q q => q H2 (Ex.refl H2))
    (fun i k v o H1 hk _ e1 => by
      obtain ⟨e, he, rfl⟩ := at_ i k v hk
      rw [getD_at i e he]
      have me := List.mem_of_getElem? he
      obtain ⟨_, _, _, l2, _⟩ := nm_facts e.1 (gd.nm e me)
      refine ev_lenS (ev_dgetK (k := .inr e.1) (v := .str (txOf e.1)) (h2 _ _) (h3 _ _) (.inr ⟨o, e1 _ _ upd_same⟩) ?_) (by omega)
      rw [valV_dk, lawT_look gd (List.mem_map_of_mem me)]
      rfl)
  rw [dk_len, show (lawT M).length = M.ents.length from List.length_map _, given_map M.ents (fun _ => true) (fun e => V.int ((txOf e.1).length : Nat)) _ _ (fun _ _ _ => rfl) (fun i e he => by rw [getD_at i e he])] at el
  have e2 : (M.ents.filter fun _ => true).map (fun e => V.int ((txOf e.1).length : Nat)) = ((M.ents.map fun e => (txOf e.1).length).map fun (n : Nat) => (n : Int)).map V.int := by
    rw [List.filter_eq_self.mpr (fun _ _ => rfl), List.map_map, List.map_map]
    rfl
  rw [e2] at el
  have z := ev_sumL (K := K) el
  rw [sum_cast] at z
  exact z
end
end Mx
set_option Elab.async false
set_option linter.all false
set_option maxRecDepth 100000
set_option maxHeartbeats 4000000
namespace Mx
open PySem PySem.Spec PyProof.Rows L2 Evl TL
open PySem.W (Datum DatumOrd Tup)
/-! ### _law_put -/
theorem uD {k : Nat} {A : Around} (r : Room k A) {α : Type} [DecidableEq α] [Datum α] (h : Datum.depth α ≤ 64) : A.units + Datum.depth α < cLine := Nat.lt_of_le_of_lt (Nat.add_le_add_left h _) r.units
theorem op_neTK {α : Type} [DecidableEq α] [Datum α] {X : Cx} {K' : PySem.W.Frag} (hK : X.K = K') (hu : X.A.units + Datum.depth α < cLine) : OpR X (compareOp .NotEq) (rDt α K' fun a b => decide (a ≠ b)) := by
  subst hK
  exact op_neT hu
section
variable {σ : L2.St} {H H' : Hp} {te ta tb to td ty tx tS : TE} {u v z : V} {K : PySem.W.Frag} {L : La} {b : Addr} {M : JM}
theorem q_asg2 {i j : Nat} {D : Ends} {tz : TS} (ha : Ev ta σ H u) (hb : Ev tb σ H v) (k : ∀ H1, Ex H H1 → tz D ((σ.set i (some u)).set j (some v)) H1) : tSeq (tAsg (tTup (tCons ta (tCons tb tNil))) (gTup K 2 (gCons (gName i) (gCons (gName j) gNil)))) tz D σ H := by
  show tTup (tCons ta (tCons tb tNil)) σ H fun x H1 => gTup K 2 (gCons (gName i) (gCons (gName j) gNil)) x σ H1 (tz D)
  exact eu_tup (ea_cons ha (ea_cons hb ea_nil)) (by show 2 ≤ 100000; decide) H (Ex.refl H) _ fun p H1 _ e h1 => ⟨p, _, rfl, st_of h1, rfl, _, _, rfl, _, _, rfl, rfl, k H1 e⟩
theorem q_par {i j : Nat} {D : Ends} {tz : TS} (ha : Ev ta σ H u) (hb : Ev tb σ H v) (k : ∀ H1, Ex H H1 → tz D ((σ.set i (some u)).set j (some v)) H1) : tSeq (tPar i j (tCons ta (tCons tb tNil))) tz D σ H := by
  show tCons ta (tCons tb tNil) σ H fun vs H1 => ∃ v w, vs = [v, w] ∧ tz D ((σ.set i (Option.some v)).set j (Option.some w)) H1
  exact ea_cons ha (ea_cons hb ea_nil) H (Ex.refl H) _ fun H1 e => ⟨_, _, rfl, k H1 e⟩
theorem q_parL {i j : Nat} {D : Ends} {tz : TS} {xs : List V} (ha : EvL ta σ H xs) (hb : ∀ H1, Ev tb σ H1 v) (k : ∀ p H1, H p = none → Ex H H1 → H1 p = some (.lst xs) → tz D ((σ.set i (some (.ref p))).set j (some v)) H1) : tSeq (tPar i j (tCons ta (tCons tb tNil))) tz D σ H :=
  ha H (Ex.refl H) _ fun p H1 hp e h1 => hb H1 H1 (Ex.refl H1) _ fun H2 e2 => ⟨_, _, rfl, k p H2 hp (e.trans e2) (e2 _ _ h1)⟩
theorem t_methT {m : Str} {sp : Sp} {E : L2.St → XK} {t : TA} {Q : VK} {vs : List V} {C x dx : Addr} {fs : List (Str × V)} (h : Ev to σ H (.ref x)) (hx : H x = some (.ins C dx fs)) (l : fs.lookup m = none) (ha : EvA t σ H vs) (q : ∀ H1, Ex H H1 → sp (.ref x :: vs) H1 Q (E σ)) : tMethT C m sp E to t σ H Q :=
  h H (Ex.refl H) _ fun H1 e1 => ⟨x, dx, fs, rfl, e1 _ _ hx, l, ha H1 e1 _ fun H2 e2 => q H2 (e1.trans e2)⟩
theorem cutV_one {x : V} {xs : List V} : cutV (x :: xs) (some 1) none = xs := by
  unfold cutV
  rw [HT.sIx_none, show (some (1 : Int)) = some (((1 : Nat) : Int)) from rfl, HT.sIx_nat]
  have e : min 1 (x :: xs).length = 1 := by
    rw [List.length_cons]
    omega
  rw [e]
  simp
theorem StA.kp {C : Addr} {A : Ad} {S : SS} {B : List Addr} (h : StA C H A S) (k : Kp B H H') (n : ∀ a ∈ A.all, a ∉ B) : StA C H' A S :=
  ⟨k _ _ (n _ (by simp [Ad.all])) h.ins, k _ _ (n _ (by simp [Ad.all])) h.tx, k _ _ (n _ (by simp [Ad.all])) h.la, k _ _ (n _ (by simp [Ad.all])) h.pi, h.nd⟩
theorem StA.some {C : Addr} {A : Ad} {S : SS} (h : StA C H A S) {a : Addr} (ha : a ∈ A.all) : H a ≠ none := by
  have m' : a = A.x ∨ a = A.dT ∨ a = A.dL ∨ a = A.dP := by simpa [Ad.all] using ha
  rcases m' with rfl | rfl | rfl | rfl
  · rw [h.ins]; simp
  · rw [h.tx]; simp
  · rw [h.la]; simp
  · rw [h.pi]; simp
theorem LwA.some (h : LwA H L b M) {a : Addr} (ha : a ∈ L.all) : H a ≠ none := by
  obtain ⟨kvs, q⟩ := h.dict ha
  rw [q]
  simp
/-- [e for a, b in xs], xs a list of pairs, the new list plain -/
theorem evl_lcLp {α β γ : Type} [DecidableEq α] [Datum α] [DecidableEq β] [Datum β] [Firm β] [DecidableEq γ] [Datum γ] {tl : TE} {a1 j : Nat} {vs : List Nat} {xs : List (α × γ)} (g : α × γ → β) (h : EvP tl σ H fun v H2 => Dt K H2 v xs) (hz : xs.length ≤ 40000) (hw : ∀ x y, wipe (((wipe σ vs).set a1 (some x)).set j (some y)) vs = wipe σ vs)
    (he : ∀ (x : α × γ) (v w : V) H1, x ∈ xs → Dt K H1 v x.1 → Dt K H1 w x.2 → Ex H H1 → EvD te K (((wipe σ vs).set a1 (some v)).set j (some w)) H1 (g x)) : EvP (tLc (iList K tl) (gTup K 2 (gCons (gName a1) (gCons (gName j) gNil))) tYes te vs) σ H fun v H2 => ∃ a us, v = .ref a ∧ H a = none ∧ H2 a = some (.lst us) ∧ DpAll K H2 us ((xs.map g).map Datum.toD) := fun H0 e0 Q q =>
  h H0 e0 _ fun v H1 e1 d => by
    obtain ⟨a, us, rfl, hs, hd⟩ := dt_lst_inv (xs := xs) d
    obtain ⟨lu, fu⟩ := dpAll_at hd
    refine ⟨a, rfl, ⟨us, hs⟩, fun D hD => ?_⟩
    have E := e0.trans e1
    refine lc_list (xs := us) (fun i H' => H1 D = none ∧ Ex H1 H' ∧ ∃ acc, H' D = some (.lst acc) ∧ DpAll K H' acc (((xs.take i).map g).map Datum.toD)) ⟨hD, Ex.new hD, [], upd_same, .nil⟩ (fun i H' _ z => ex_l z.2.1 hs) (fun i y H' hi z => ?_) fun H' z => ?_
    · obtain ⟨p1, p2, acc, p3, p4⟩ := z
      obtain ⟨x, hx, dx⟩ := fu i y hi
      have mx := List.mem_of_getElem? hx
      obtain ⟨x1, x2⟩ := x
      obtain ⟨q1, u, z, rfl, hq, du, dz⟩ := dt_pair_inv dx
      have al := dpAll_len p4
      have lt : ((xs.take i).map g).length ≤ 40000 := by
        rw [List.length_map, List.length_take]
        omega
      refine ⟨q1, _, rfl, ex_t p2 hq, rfl, _, _, rfl, _, _, rfl, rfl, hw _ _, ?_⟩
      refine he (x1, x2) u z H' mx (du.ex p2) (dz.ex p2) (E.trans p2) H' (Ex.refl _) _ fun w H4 e4 dw => ⟨acc, e4 _ _ p3, sz_lt (by omega), p1, Ex.mut (p2.trans e4) p1, acc ++ [w], upd_same, ?_⟩
      have z := dp_step (x := g (x1, x2)) p3 e4 p4 dw
      rw [List.take_succ, hx, List.map_append]
      simpa using z
    · obtain ⟨p1, p2, acc, p3, p4⟩ := z
      rw [lu, List.take_length] at p4
      exact q _ H' (e1.trans p2) ⟨D, acc, rfl, fresh_back E p1, p3, p4⟩
end
abbrev topW (i : Nat) : Stmt := PySem.Challenge.pw_sameinsameout_k11_whole_stores.main.body.getD i (.Pass ⟨0, 0, 0, 0⟩)
abbrev sLput : Stmt := topW 20
abbrev nP : List Str := ["store", "state", "quota", "text", "name", "texts", "last", "used", "gone", "full", "free", "told", "e", "one", "x", "order"]
theorem scP : FnScope nP ["store", "state", "quota", "text", "name"] (defScope sLput) := ⟨rfl, rfl, rfl, by decide +kernel, rfl, by decide +kernel, by decide +kernel⟩
structure BtPut (mg : Str → Option Value) : Prop where
  len : mg "len" = none
  sum : mg "sum" = none
  sorted : mg "sorted" = none
def spLput (C : Addr) : Sp := fun vs H Q _ => ∃ (A : Ad) (L : La) (b : Addr) (M : JM) (n : Str), vs = [.ref A.x, .ref L.s, .int M.quota, .str (txOf n), .str n] ∧ n ∈ NM ∧ Good M ∧ StA C H A (progS M) ∧ LwA H L b M ∧ (∀ a ∈ L.all, a ∉ A.all) ∧
  ∀ b' H', StA C H' A (progS (putM M n)) → LwA H' L b' (putM M n) → (b' = b ∨ H b' = none) → Kp (A.all ++ L.all) H H' → Q (.bl true) H'
abbrev sgP (A : Ad) (L : La) (q : Int) (n : Str) (u7 u8 u9 u10 u11 u12 u13 : Option V) : L2.St := [some (.ref A.x), some (.ref L.s), some (.int q), some (.str (txOf n)), some (.str n), some (.ref L.t), some (.ref L.l), u7, u8, u9, u10, u11, u12, u13, none, none]
theorem lawT_touch {M : JM} {n : Str} : lawT (touchM M n) = if hasA M.ents n = true then lawT M else putA (lawT M) n (txOf n) := by
  cases c : hasA M.ents n with
  | true =>
    rw [if_pos rfl]
    exact putA_map (fun k => txOf k) c
  | false =>
    rw [if_neg (by decide)]
    have hn : n ∉ M.ents.map (·.1) := fun z => by
      rw [hasA_mem.mpr z] at c
      cases c
    have hn2 : n ∉ (lawT M).map (·.1) := by
      rw [lawT_keys]
      exact hn
    rw [putA_new hn2]
    show (putA M.ents n (M.clock + 1)).map _ = _
    rw [putA_new hn, List.map_append]
    rfl
section
variable {P : Program} {w : World} {K : PySem.W.Frag} {mg : Str → Option Value} {base : Heap} {C CE : Addr}
theorem ev_xf {σ : L2.St} {H : Hp} {te : TE} {a dd : Addr} {f : Str} {fs : List (Str × V)} {v : V} (h : Ev te σ H (.ref a)) (hd : H dd = some (.xd fs)) (l : fs.lookup f = some v) : Ev (tXf a (.ref CE) (some dd) CE f te) σ H v := fun H1 e Q q =>
  h H1 e _ fun H2 e2 => ⟨rfl, rfl, dd, fs, v, rfl, (e.trans e2) _ _ hd, l, q H2 e2⟩
theorem evd_nilS {σ : L2.St} {H : Hp} : EvD (tLst tNil) K σ H ([] : List Str) := fun H1 e Q q =>
  el_lst ea_nil (by decide) H1 e _ fun p H2 _ e2 h2 => q _ H2 e2 (dt_lst (sq_of h2) .nil)
theorem dt_strs {H : Hp} {p : Addr} {xs : List Str} (h : SqL K H p (xs.map V.str)) : Dt K H (.ref p) xs := dt_lst h (dpAll_map fun _ _ => dt_str)
def wPut (C : Addr) (A : Ad) (L : La) (M : JM) (n : Str) (pg b1 : Addr) (H : Hp) : Nat → L2.St → Hp → Prop := fun m σ' H' => ∃ (rest gs : List Str) (Mc : JM) (pf : Addr), m = rest.length ∧ σ' = sgP A L M.quota n (some (.int (usedM Mc.ents))) (some (.ref pg)) (some (.bl false)) (some (.ref pf)) none none none ∧ Good Mc ∧ Mc.quota = M.quota ∧
  H' pg = some (.lst (gs.map V.str)) ∧ H' pf = some (.lst (rest.map V.str)) ∧ pf ≠ pg ∧ rest.Nodup ∧ (∀ k ∈ rest, k ∈ Mc.ents.map (·.1)) ∧ gs ++ goneM ((txOf n).length : Nat) rest Mc = goneL M n ∧ dropAllM gs (pre1 M n) = Mc ∧
  StA C H' A (progS M) ∧ LwA H' L b1 (pre1 M n) ∧ Kp (A.all ++ L.all) H H'
theorem quota_pre1 {M : JM} {n : Str} : (pre1 M n).quota = M.quota := by
  unfold pre1
  split <;> rfl
theorem ok_lput {f : Addr} {fd : FuncData} (F : Fun K "_law_put" "_law_put" sLput f fd) (T : Txt K mg C) (B : BtPut mg) (R : Err2 P w K mg base "StoreError" "word" "name" CE) (hPu : HasM P w K mg base (L2.CX P w) 4 C "put" ["self", "text"] (spPut C CE)) : FnOk P w K mg base CX0 5 f fd ["store", "state", "quota", "text", "name"] (spLput C) := by
  refine F.ok scP (fun vs H Q E h => ?_) (fun cdv Ar outer s H vs Q E hr h => ?_)
  · obtain ⟨A, L, b, M, n, rfl, _⟩ := h
    rfl
  · obtain ⟨A, L, b, M, n, rfl, hn, gd, st, lw, dj, kk⟩ := h
    have hu := hu_of hr
    refine ⟨_,
      pss_cons (ps_asg (pe_tup (pa_cons (pe_dget hu (pv 1) pe_str (fun _ _ => rfl)) (pa_cons (pe_dget hu (pv 1) pe_str (fun _ _ => rfl)) pa_nil))) (pg_tup rfl (pgs_cons (pg_name (i := 5) scP.nd rfl (Or.inr rfl)) (pgs_cons (pg_name (i := 6) scP.nd rfl (Or.inr rfl)) pgs_nil))))
      (pss_cut (ps_if (pt_cmpR op_in_seq (pv 4) (pe_dget hu (pv 1) pe_str (fun _ _ => rfl)) (by rfl))
        (pss_cons (ps_expr (pe_dpop1 (pv 5) (pv 4) ⟨rfl, rfl, rfl, rfl⟩)) (pss_cons (ps_expr (pe_dpop1 (pv 6) (pv 4) ⟨rfl, rfl, rfl, rfl⟩)) (pss_one (ps_dput hu (pv 1) pe_str (pe_lc (own := [("x", 14)]) (g := gName 14) rfl scP.nd (pi_list (pe_dget hu (pv 1) pe_str (fun _ _ => rfl))) (blkOk_by (N := nP) (sc := defScope sLput) (by decide +kernel))
          (fun _ _ _ _ _ => pg_name (i := 14) scP.nd rfl (Or.inl rfl)) (fun _ _ _ _ _ => pts_one (pt_cmpR op_ne (pv 14) (pv 4) (nomark _))) (fun _ _ _ _ _ => pv 14)) rfl)))) pss_nil)
      (pss_cons (ps_set (i := 7) scP.nd rfl (Or.inl rfl) (pe_callB (cr_sum rfl) (by rfl) B.sum (by decide +kernel) (pa_cons (pe_lock (pe_lc (own := [("one", 13)]) (g := gName 13) (tt := tYes) rfl scP.nd (pi_keys (pv 5)) (blkOk_by (N := nP) (sc := defScope sLput) (by decide +kernel))
          (fun _ _ _ _ _ => pg_name (i := 13) scP.nd rfl (Or.inl rfl)) (fun _ _ _ _ _ => pts_nil) (fun _ _ _ _ _ => pe_callB call_len_str (by rfl) B.len PySem.boot_len (pa_cons (pe_dget hu (pv 5) (pv 13) (fun _ _ => rfl)) pa_nil)))) pa_nil)))
      (pss_cons (ps_par (i := 8) (j := 9) rfl scP.nd rfl rfl (by decide) rfl rfl (pa_cons (pe_lst pa_nil) (pa_cons pe_bl pa_nil)) (by rfl))
      (pss_cut (ps_if (pt_cmp (pc_dnotin hu (pv 4) (pv 5)))
        (pss_cons (ps_setLc (i := 10) (own := [("order", 15), ("one", 13)]) (g := gTup K 2 (gCons (gName 15) (gCons (gName 13) gNil))) (tt := tYes) (by rfl) scP.nd rfl rfl (sw_true rfl rfl rfl (by decide +kernel))
            (pi_list (pe_callB (cr_sortedD (α := Int × Str) (uS hr (by decide))) (by rfl) B.sorted (by decide +kernel) (pa_cons (pe_lock (pe_lc (own := [("one", 13)]) (g := gName 13) rfl scP.nd (pi_keys (pv 5)) (blkOk_by (N := nP) (sc := defScope sLput) (by decide +kernel))
              (fun _ _ _ _ _ => pg_name (i := 13) scP.nd rfl (Or.inl rfl)) (fun _ _ _ _ _ => pts_one (pt_cmp (pc_dnotin hu (pv 13) (pe_dget hu (pv 1) pe_str (fun _ _ => rfl))))) (fun _ _ _ _ _ => pe_tup (pa_cons (pe_dget hu (pv 6) (pv 13) (fun _ _ => rfl)) (pa_cons (pv 13) pa_nil))))) pa_nil)))
            (blkOk_by (N := nP) (sc := defScope sLput) (by decide +kernel)) (fun _ _ _ _ _ => pg_tup rfl (pgs_cons (pg_name (i := 15) scP.nd rfl (Or.inl rfl)) (pgs_cons (pg_name (i := 13) scP.nd rfl (Or.inl rfl)) pgs_nil))) (fun _ _ _ _ _ => pts_nil) (fun _ _ _ _ _ => pv 13))
        (pss_cons (ps_while PassesOwn.never (pw_and (pt_cmpR op_gt (pe_op op_add (pv 7) (pe_callB call_len_str (by rfl) B.len PySem.boot_len (pa_cons (pv 3) pa_nil))) (pv 2) (nomark _)) (pw_and1 (pt_cmpR (op_neT (α := List Str) (uD hr (by decide))) (pv 10) (pe_lst pa_nil) (nomark _)))).pt
          (pss_cons (ps_expr (pe_bm PySem.F.plainAttrs_list PySem.F.slot_list_append PySem.F.type_list_append mt_append (pv 8) (pa_cons (pe_ix (show IxR _ (rIxL K) from ix_list) (pv 10) pe_int (fun _ _ => rfl)) pa_nil)))
          (pss_cons (ps_set (i := 7) scP.nd rfl (Or.inl rfl) (pe_op op_sub (pv 7) (pe_callB call_len_str (by rfl) B.len PySem.boot_len (pa_cons (pe_dget hu (pv 5) (pe_ix (show IxR _ (rIxL K) from ix_list) (pv 10) pe_int (fun _ _ => rfl)) (fun _ _ => rfl)) pa_nil))))
          (pss_one (ps_set (i := 10) scP.nd rfl (Or.inl rfl) (pe_slice sl_list (pv 10) (po_some pe_int) po_none))))))
        (pss_one (ps_set (i := 9) scP.nd rfl (Or.inl rfl) (pe_cmpR op_gt (pe_op op_add (pv 7) (pe_callB call_len_str (by rfl) B.len PySem.boot_len (pa_cons (pv 3) pa_nil))) (pv 2) (nomark _)))))) pss_nil)
      (pss_cut (ps_try_as (i := 12) rfl rfl scP.nd rfl rfl ⟨rfl, by decide, .inl R.mgC⟩ takes0
        (fun W pn xe tk _ => pss_cons (ps_set (i := 11) scP.nd rfl (Or.inl rfl) (pe_mS (pv 0) T.cl hPu hr (fun σ => passAt tk σ) (pa_cons (pv 3) pa_nil)))
          (pss_one (ps_if (pw_or (pt_val (pv 9)) (pw_or1 (pt_cmpR op_ne (pv 11) (pv 4) (nomark _)))).pt (pss_one (ps_ret pe_bl)) pss_nil)))
        (fun a oe cls d pn hz hf => pss_one (ps_if (PW.pt (pw_or (pt_not (pt_val (pv 9))) (pw_or1 (pt_cmpR (op_neTK (α := Str × Str) (K' := K) rfl (uD (α := Str × Str) hr (by decide))) (pe_tup (pa_cons (pe_xf R.xf R.n1 hz hf (pv 12)) (pa_cons (pe_xf R.xf R.n2 hz hf (pv 12)) pa_nil))) (pe_tup (pa_cons pe_str (pa_cons pe_str pa_nil))) (nomark _))))) (pss_one (ps_ret pe_bl)) pss_nil)))
      (pss_cut (ps_for PassesOwn.never rfl (pi_list (pv 8)) (pg_name (i := 13) scP.nd rfl (Or.inr rfl))
        (pss_cons (ps_expr (pe_dpop1 (pv 5) (pv 13) ⟨rfl, rfl, rfl, rfl⟩)) (pss_cons (ps_expr (pe_dpop1 (pv 6) (pv 13) ⟨rfl, rfl, rfl, rfl⟩)) (pss_one (ps_dput hu (pv 1) pe_str (pe_lc (own := [("x", 14)]) (g := gName 14) rfl scP.nd (pi_list (pe_dget hu (pv 1) pe_str (fun _ _ => rfl))) (blkOk_by (N := nP) (sc := defScope sLput) (by decide +kernel))
          (fun _ _ _ _ _ => pg_name (i := 14) scP.nd rfl (Or.inl rfl)) (fun _ _ _ _ _ => pts_one (pt_cmpR op_ne (pv 14) (pv 13) (nomark _))) (fun _ _ _ _ _ => pv 14)) rfl)))))
      (pss_cut (ps_if (pt_not (pt_val (pv 9)))
        (pss_cut (ps_if (pt_cmp (pc_dnotin hu (pv 4) (pv 5))) (pss_one (ps_dput hu (pv 5) (pv 4) (pv 3) rfl)) pss_nil)
        (pss_cons (ps_dput hu (pv 1) pe_str (pe_op op_add (pe_dget hu (pv 1) pe_str (fun _ _ => rfl)) pe_int) rfl) (pss_one (ps_dput hu (pv 6) (pv 4) (pe_dget hu (pv 1) pe_str (fun _ _ => rfl)) rfl)))) pss_nil)
      (pss_one (ps_ret pe_bl))))))))), ?_⟩
    obtain ⟨n1, n2, n3, n4, n5, n6⟩ := lw.ne
    have lt := nm_facts n hn
    obtain ⟨f1, f2, f3, f4, f5⟩ := lt
    refine q_asg2 (u := .ref L.t) (v := .ref L.l) (ev_gT (ev_var rfl) lw) (ev_gL (ev_var rfl) lw) fun H1 e1 => ?_
    have lw1 := lw.ex e1
    have st1 := st.ex e1
    -- what is spoilt goes
    refine q_cut (M := fun σ' H' => σ' = sgP A L M.quota n none none none none none none none ∧ ∃ b1, StA C H' A (progS M) ∧ LwA H' L b1 (pre1 M n) ∧ (b1 = b ∨ H b1 = none) ∧ Kp (A.all ++ L.all) H H') ?_ fun σ' H' ⟨es, b1, st', lw', fb, kp⟩ => ?_
    · refine s_when (b := decide (n ∈ M.bad)) (et_is (et_test (ev_inS (neg := false) (ev_var rfl) (ev_gB (ev_var rfl) lw1) (sq_of lw1.bd))) rfl) (fun hb H2 e2 => ?_) (fun hb H2 e2 => ?_)
      · have lw2 := lw1.ex e2
        have hbad := of_decide_eq_true hb
        refine s_lawdrop (n := n) lw2 gd (gd.bad n hbad) (fun _ => ev_var rfl) (fun _ => ev_var rfl) (fun _ => ev_var rfl) (fun _ => ev_var rfl) (fun _ => rfl) (fun m H3 => et_test (ev_op (ev_var rfl) (ev_var rfl) (rv_ne rfl))) (fun v H3 => ev_var rfl) fun b' H3 lw3 fr k3 => ?_
        refine ⟨rfl, b', ((st1.ex e2).kp k3 fun a ha m => dj a m ha), ?_, .inr (fresh_back (e1.trans e2) fr), (Kp.of (e1.trans e2)).trans (Kp.sub (fun a ha => List.mem_append_right _ ha) k3)⟩
        unfold pre1
        rw [if_pos hbad]
        exact lw3
      · refine ⟨rfl, b, st1.ex e2, ?_, .inl rfl, Kp.of (e1.trans e2)⟩
        unfold pre1
        rw [if_neg (of_decide_eq_false hb)]
        exact lw1.ex e2
    subst es
    have gd1 := gd.pre1 n
    refine q_asg (v := .int (usedM (pre1 M n).ents)) (ev_sumT lw' gd1 (fun _ => ev_var rfl) (fun _ => rfl) (fun _ _ => ev_var rfl) (fun _ _ => ev_var rfl)) fun H2 e2 => ?_
    have st2 := st'.ex e2
    have lw2 := lw'.ex e2
    have kp2 := kp.trans (Kp.of e2)
    refine q_parL (xs := []) (v := .bl false) (el_lst ea_nil (by decide)) (fun _ => ev_c) fun pg H3 npg e3 hpg => ?_
    have st3 := st2.ex e3
    have lw3 := lw2.ex e3
    have kp3 := kp2.trans (Kp.of e3)
    have pb : pg ≠ b1 := fun z => by rw [z, lw2.bd] at npg; cases npg
    -- what goes for want of room
    refine q_cut (M := fun σ' H' => ∃ u7 u10, σ' = sgP A L M.quota n u7 (some (.ref pg)) (some (.bl (fullL M n))) u10 none none none ∧ H' pg = some (.lst ((goneL M n).map V.str)) ∧ StA C H' A (progS M) ∧ LwA H' L b1 (pre1 M n) ∧ Kp (A.all ++ L.all) H H') ?_ fun σ' H' ⟨u7, u10, es, hpg', st', lw', kp'⟩ => ?_
    · have nt := et_dnin (k := .inr n) (σ := sgP A L M.quota n (some (.int (usedM (pre1 M n).ents))) (some (.ref pg)) (some (.bl false)) none none none none) (ev_var (i := 4) rfl) (ev_var (i := 5) rfl) (.inl lw3.tx)
      have hh : (!(valV (dk V.str (lawT (pre1 M n))) (Sum.inr n)).isSome) = !hasM M n := by
        rw [valV_dk, ← pre1_has gd, hasA_look, show (lawT (pre1 M n)).lookup n = ((pre1 M n).ents.lookup n).map fun _ => txOf n from look_map (fun k _ => txOf k) n (pre1 M n).ents]
        cases (pre1 M n).ents.lookup n <;> rfl
      rw [hh] at nt
      refine s_when nt (fun hc H4 e4 => ?_) (fun hc H4 e4 => ?_)
      · have hc : hasM M n = false := by simpa using hc
        have st4 := st3.ex e4
        have lw4 := lw3.ex e4
        have hpg4 := e4 _ _ hpg
        have few := gd1.few
        obtain ⟨m1, m2, m3, m4, m5, m6⟩ := lw4.ne
        have at_ : ∀ (i : Nat) (k : Key) (v : V), (dk V.str (lawT (pre1 M n)))[i]? = some (k, v) → ∃ e, (pre1 M n).ents[i]? = some e ∧ k = .inr e.1 := fun i k v hk => by
          unfold dk lawT at hk
          rw [List.map_map, List.getElem?_map] at hk
          cases q : (pre1 M n).ents[i]? with
          | none => rw [q] at hk; cases hk
          | some e =>
            rw [q] at hk
            cases hk
            exact ⟨e, rfl, rfl⟩
        have getD_at : ∀ (i : Nat) (e : Str × Int), (pre1 M n).ents[i]? = some e → (pre1 M n).ents.getD i ("", 0) = e := fun i e he => by rw [List.getD_eq_getElem?_getD, he]; rfl
        have hlist : pickI (dk V.str (lawT (pre1 M n))).length (fun i => !hasA (pre1 M n).pins ((pre1 M n).ents.getD i ("", 0)).1) (fun i => (((pre1 M n).ents.getD i ("", 0)).2, ((pre1 M n).ents.getD i ("", 0)).1)) = ((pre1 M n).ents.filter fun e => !hasA (pre1 M n).pins e.1).map fun e => (e.2, e.1) := by
          rw [dk_len, show (lawT (pre1 M n)).length = (pre1 M n).ents.length from List.length_map _]
          refine pickI_map (pre1 M n).ents _ _ _ _ (fun i e he => ?_) (fun i e he => ?_) <;> rw [getD_at i e he]
        have lenp := pickI_len (dk V.str (lawT (pre1 M n))).length (fun i => !hasA (pre1 M n).pins ((pre1 M n).ents.getD i ("", 0)).1) (fun i => (((pre1 M n).ents.getD i ("", 0)).2, ((pre1 M n).ents.getD i ("", 0)).1))
        have lenk : (dk V.str (lawT (pre1 M n))).length ≤ 8 := by
          rw [dk_len, show (lawT (pre1 M n)).length = (pre1 M n).ents.length from List.length_map _]
          exact few
        have lfree : (freeM (pre1 M n)).length ≤ 8 := by
          unfold freeM
          rw [(sortD_perm _).length_eq, ← hlist]
          omega
        obtain ⟨fn1, fn2⟩ := free_names gd1
        refine q_asgP (evl_lcLp (K := K) (xs := freeM (pre1 M n)) (fun x => x.2) (EvP.imp (evd_sorted (α := Int × Str) (evd_lcK (β := Int × Str) (fun i => !hasA (pre1 M n).pins ((pre1 M n).ents.getD i ("", 0)).1) (fun i => (((pre1 M n).ents.getD i ("", 0)).2, ((pre1 M n).ents.getD i ("", 0)).1)) (fun o => ev_var rfl) lw4.tx (by omega) (fun _ => rfl) (fun i k v o H5 hk e5 => ?_) (fun i k v o H5 hk hf e5 => ?_)) (by omega)) fun v H5 e5 ⟨p, vs, ev, _, hp, dp⟩ => ?_) (by omega) (fun _ _ => rfl) (fun x v w H5 _ _ dw e5 => evd_v (ev_var rfl) dw)) fun v H5 e5 ⟨pf, us, ev, npf, hpf, dpf⟩ => ?_
        · obtain ⟨e, he, rfl⟩ := at_ i k v hk
          have s5 : H5 L.s = some (.dK (kvS L.t L.l L.p (pre1 M n).clock b1)) := e5 _ _ (by rw [upd_ne m1]; exact lw4.st)
          have p5 : H5 L.p = some (.dK (dk V.int (pre1 M n).pins)) := e5 _ _ (by rw [upd_ne m5.symm]; exact lw4.pi)
          refine et_is (et_dnin (k := .inr e.1) (ev_var rfl) (ev_dgetK (k := .inr "pins") (ev_var rfl) ev_c (.inl s5) kvS_pins) (.inl p5)) ?_
          rw [getD_at i e he, valV_dk, hasA_look]
          cases (pre1 M n).pins.lookup e.1 <;> rfl
        · obtain ⟨e, he, rfl⟩ := at_ i k v hk
          have l5 : H5 L.l = some (.dK (dk V.int (pre1 M n).ents)) := e5 _ _ (by rw [upd_ne m4.symm]; exact lw4.la)
          rw [getD_at i e he]
          exact evd_pair (evd_int (ev_dgetK (k := .inr e.1) (v := .int e.2) (ev_var rfl) (ev_var rfl) (.inl l5) (by rw [valV_dk, look_of_mem gd1.nd (List.mem_of_getElem? he)]; rfl))) (evd_str (ev_var rfl))
        · subst ev
          rw [hlist] at dp
          exact dt_lst (sq_of hp) dp
        · subst ev
          have eus := dpAll_strs dpf
          subst eus
          have npg4 : pf ≠ pg := fun z => by rw [z, hpg4] at npf; cases npf
          have em : pre1 M n = preM M n := pre1_not gd hc
          have lgone : (goneL M n).length ≤ 8 := by
            obtain ⟨g1, g2⟩ := goneL_ok gd n
            have := len_sub g1 g2
            rw [List.length_map] at this
            omega
          refine q_while (wPut C A L M n pg b1 H) ((freeM (pre1 M n)).map (·.2)).length ⟨(freeM (pre1 M n)).map (·.2), [], pre1 M n, pf, rfl, rfl, gd1, quota_pre1, e5 _ _ hpg4, hpf, npg4, fn1, fn2, ?_, rfl, st4.ex e5, lw4.ex e5, kp3.trans (Kp.of (e4.trans e5))⟩ (fun m σ' H' ⟨rest, gs, Mc, pf, emm, es, gc, qc, hg, hf, ne, nd, hin, eg, ed, st', lw', kp'⟩ => ?_)
          · unfold goneL
            rw [if_neg (by rw [hc]; decide), em]
            rfl
          subst emm es
          have lgs : gs.length ≤ 8 := by
            have := congrArg List.length eg
            rw [List.length_append] at this
            omega
          refine ⟨decide (M.quota < usedM Mc.ents + ((txOf n).length : Nat)) && decide (rest ≠ []), et_and (et_test (ev_op (ev_op (ev_var rfl) (ev_lenS (ev_var rfl) (by omega)) rv_I0) (ev_var rfl) rv_I0)) (fun _ => et_test (evd_op (evd_v (ev_var rfl) (dt_strs (sq_of hf))) evd_nilS)), fun hb H6 e6 => ?_, fun hb H6 e6 => ?_⟩
          · obtain ⟨hb1, hb2⟩ := Bool.and_eq_true_iff.mp hb
            cases rest with
            | nil => exact absurd rfl (of_decide_eq_true hb2)
            | cons c r =>
              have mc := hin c (List.mem_cons_self ..)
              obtain ⟨nd1, nd2⟩ := List.nodup_cons.mp nd
              have m1c : c ∈ (pre1 M n).ents.map (·.1) := less_dropAll gs (by rw [ed]; exact mc)
              have cNM : c ∈ NM := by
                obtain ⟨x, hx, hx2⟩ := List.mem_map.mp m1c
                rw [← hx2]
                exact gd1.nm x hx
              obtain ⟨_, _, _, lc, _⟩ := nm_facts c cNM
              refine ⟨wPut C A L M n pg b1 H r.length, fun σ2 H2 z => ⟨r.length, by show r.length < r.length + 1; omega, z⟩, ?_⟩
              refine q_app (e6 _ _ hg) (ev_var rfl) (ev_op (ev_var rfl) ev_c (rv_ixL (sq_of (e6 _ _ hf)) (v := .str c) (atI_nat (j := 0) rfl))) (by rw [List.length_map]; omega) fun H7 e7 => ?_
              have hg7 := e7 _ _ (e6 _ _ hg)
              have hf8 : upd H7 pg (.lst (gs.map V.str ++ [.str c])) pf = some (.lst ((c :: r).map V.str)) := by
                rw [upd_ne ne]
                exact e7 _ _ (e6 _ _ hf)
              have pA : pg ∉ A.all := fun m => (st'.kind m hg).2 _ rfl
              have pL : pg ∉ L.all := lw'.out hg
              have pb1 : pg ≠ b1 := pb
              have st8 : StA C (upd H7 pg (.lst (gs.map V.str ++ [.str c]))) A (progS M) := (st'.ex (e6.trans e7)).kept hg7 pA
              have k8 : Kp [pg] H7 (upd H7 pg (.lst (gs.map V.str ++ [.str c]))) := Kp.upd (by simp)
              have lw8 : LwA (upd H7 pg (.lst (gs.map V.str ++ [.str c]))) L b1 (pre1 M n) := (lw'.ex (e6.trans e7)).kp k8 (fun a ha m => pL (by rw [← List.mem_singleton.mp m]; exact ha)) (fun m => pb1 (List.mem_singleton.mp m).symm)
              refine q_asg (v := .int (usedM Mc.ents - ((txOf c).length : Nat))) (ev_op (ev_var rfl) (ev_lenS (ev_dgetK (k := .inr c) (v := .str (txOf c)) (ev_var rfl) (ev_op (ev_var rfl) ev_c (rv_ixL (sq_of hf8) (v := .str c) (atI_nat (j := 0) rfl))) (.inl lw8.tx) (by rw [valV_dk, lawT_look gd1 m1c]; rfl)) (by omega)) rv_I0) fun H8 e8 => ?_
              refine s_asgL (el_sl (ev_var rfl) (eo_some ev_c) eo_none (sq_of (e8 _ _ hf8))) fun p9 H9 np9 e9 hp9 => ?_
              rw [List.map_cons, cutV_one] at hp9
              refine ⟨r, gs ++ [c], dropM Mc c, p9, rfl, ?_, gc.drop c mc, qc, ?_, hp9, fun z => ?_, nd2, fun k hk => keys_drop (hin k (List.mem_cons_of_mem _ hk)) (fun z => nd1 (by rw [← z]; exact hk)), ?_, ?_, st8.ex (e8.trans e9), lw8.ex (e8.trans e9), ?_⟩
              · rw [show (dropM Mc c).ents = dropA Mc.ents c from rfl, used_drop gc.nd mc]
                rfl
              · rw [List.map_append]
                exact (e8.trans e9) _ _ upd_same
              · rw [z, e8 _ _ upd_same] at np9
                cases np9
              · rw [← eg]
                show (gs ++ [c]) ++ _ = gs ++ (if Mc.quota < usedM Mc.ents + _ then c :: goneM _ r (dropM Mc c) else [])
                rw [if_pos (by rw [qc]; exact of_decide_eq_true hb1), List.append_assoc]
                rfl
              · rw [dropAll_append, ed]
                rfl
              · intro a o na ho
                have h7 := (kp'.trans (Kp.of (e6.trans e7))) a o na ho
                refine (e8.trans e9) _ _ ?_
                rw [upd_ne (fun z => ?_)]
                · exact h7
                · have : H pg = none := by
                    refine fresh_kp (kp.trans (Kp.of e2)) (fun a ha => ?_) npg
                    rcases List.mem_append.mp ha with ha | ha
                    · exact st2.some ha
                    · exact lw2.some ha
                  rw [z, this] at ho
                  cases ho
          · have eg0 : goneM ((txOf n).length : Nat) rest Mc = [] := by
              cases rest with
              | nil => rfl
              | cons c r =>
                have : decide (M.quota < usedM Mc.ents + ((txOf n).length : Nat)) = false := by simpa using hb
                show (if Mc.quota < usedM Mc.ents + _ then _ else _) = _
                rw [if_neg (by rw [qc]; exact of_decide_eq_false this)]
            rw [eg0, List.append_nil] at eg
            have emid : Mc = midM M n := by
              rw [← ed, eg, mid_law gd n, if_neg (by rw [hc]; decide)]
            refine s_asg (v := .bl (fullL M n)) (ev_is (ev_op (ev_op (ev_var rfl) (ev_lenS (ev_var rfl) (by omega)) rv_I0) (ev_var rfl) rv_I0) ?_) fun H7 e7 => ?_
            · unfold fullL
              rw [hc, ← emid]
              rfl
            · refine ⟨some (.int (usedM Mc.ents)), some (.ref pf), rfl, ?_, st'.ex (e6.trans e7), lw'.ex (e6.trans e7), kp'.trans (Kp.of (e6.trans e7))⟩
              rw [← eg]
              exact (e6.trans e7) _ _ hg
      · have hc : hasM M n = true := by simpa using hc
        refine ⟨some (.int (usedM (pre1 M n).ents)), none, ?_, ?_, st3.ex e4, lw3.ex e4, kp3.trans (Kp.of e4)⟩
        · unfold fullL
          rw [hc]
          rfl
        · unfold goneL
          rw [if_pos hc]
          exact e4 _ _ hpg
    subst es
    have fit := gd.fit
    have hhp := has_prog gd hn
    -- put
    refine q_cut (M := fun σ' H' => ∃ u11, σ' = sgP A L M.quota n u7 (some (.ref pg)) (some (.bl (fullL M n))) u10 u11 none none ∧ H' pg = some (.lst ((goneL M n).map V.str)) ∧ StA C H' A (progS (putM M n)) ∧ LwA H' L b1 (pre1 M n) ∧ Kp (A.all ++ L.all) H H') ?_ fun σ' H' ⟨u11, es, hpg', st', lw', kp'⟩ => ?_
    · have fin : ∀ (H5 H6 : Hp) (D : Ends), Ex H' H5 → StA C H6 A (progS (putM M n)) → Kp A.all H5 H6 → fullL M n = false → (∀ u11 H7, H7 pg = some (.lst ((goneL M n).map V.str)) → StA C H7 A (progS (putM M n)) → LwA H7 L b1 (pre1 M n) → Kp (A.all ++ L.all) H H7 → D.nx (sgP A L M.quota n u7 (some (.ref pg)) (some (.bl (fullL M n))) u10 (some u11) none none) H7) →
          tIfS (tOr (tB (tVar 9)) (tTest (tOp rNe (tVar 11) (tVar 4)))) (tRet (tC (.bl false))) tNext D (sgP A L M.quota n u7 (some (.ref pg)) (some (.bl (fullL M n))) u10 (some (.str n)) none none) H6 := fun H5 H6 D e5 st6 k6 hfull k => by
        refine s_when (b := fullL M n || !decide (V.str n = V.str n)) (et_or (et_B (ev_var rfl)) (fun _ => et_test (ev_op (ev_var rfl) (ev_var rfl) (rv_ne rfl)))) (fun hb => ?_) (fun _ H7 e7 => ?_)
        · rw [hfull, decide_eq_true rfl] at hb
          cases hb
        · have pA : pg ∉ A.all := fun m => (st'.kind m hpg').2 _ rfl
          have bA : b1 ∉ A.all := fun m => (st'.kind m lw'.bd).2 _ rfl
          exact k _ H7 (e7 _ _ (k6 _ _ pA (e5 _ _ hpg'))) (st6.ex e7) (((lw'.ex e5).kp k6 dj bA).ex e7) ((kp'.trans (Kp.of e5)).trans ((Kp.sub (fun a ha => List.mem_append_left _ ha) k6).trans (Kp.of e7)))
      have eput : ∀ {m : JM}, putM M n = m → StA C = StA C := fun _ => rfl
      refine t_methT (ev_var rfl) st'.ins rfl (ea_cons (ev_var rfl) ea_nil) fun H5 e5 => ?_
      refine ⟨A, progS M, txOf n, rfl, st'.ex e5, fit, by omega, fun h1 H6 st6 k6 => ?_, fun h1 h2 H6 st6 k6 => ?_, fun h1 h2 d H6 st6 k6 nd hd => ?_⟩
      · rw [f1, hhp] at h1
        rw [f1] at st6 ⊢
        have hc : hasM M n = true := h1
        have mem : n ∈ M.ents.map (·.1) := hasA_mem.mp (by unfold hasM at hc; exact (Bool.and_eq_true_iff.mp hc).1)
        rw [touch_prog mem] at st6
        refine fin H5 H6 _ e5 ?_ k6 (by unfold fullL; rw [hc]; rfl) fun u11 H7 a1 a2 a3 a4 => ⟨some u11, rfl, a1, a2, a3, a4⟩
        unfold putM
        rw [if_pos hc]
        exact st6
      · rw [f1, hhp] at h1
        have hc : hasM M n = false := h1
        obtain ⟨mp1, mp2⟩ := mid_prog gd hn
        rw [mp1] at h2 st6
        rw [f1] at st6 ⊢
        rw [new_prog mp2 (mid_not gd hc)] at st6
        have ff : fullL M n = false := by
          unfold fullL
          rw [hc]
          show decide (M.quota < _) = false
          refine decide_eq_false ?_
          have : usedM (midM M n).ents + ((txOf n).length : Nat) ≤ M.quota := h2
          omega
        refine fin H5 H6 _ e5 ?_ k6 ff fun u11 H7 a1 a2 a3 a4 => ⟨some u11, rfl, a1, a2, a3, a4⟩
        unfold putM
        rw [if_neg (by rw [hc]; decide), if_neg (by rw [ff]; decide)]
        exact st6
      · rw [f1, hhp] at h1
        have hc : hasM M n = false := h1
        obtain ⟨mp1, mp2⟩ := mid_prog gd hn
        rw [mp1] at h2 st6
        have ff : fullL M n = true := by
          unfold fullL
          rw [hc]
          show decide (M.quota < _) = true
          exact decide_eq_true h2
        refine ⟨true, R.te, fun _ a ha => ?_, fun q => nomatch q⟩
        refine s_when (b := false) (et_is (et_or (et_not (et_B (ev_var rfl))) (fun _ => et_test (evd_op (evd_pair (evd_str (ev_xf (v := .str "full") (ev_var rfl) hd rfl)) (evd_str (ev_xf (v := .str "") (ev_var rfl) hd rfl))) (evd_pair (evd_str ev_c) (evd_str ev_c))))) ?_) (fun hb => nomatch hb) (fun _ H7 e7 => ?_)
        · rw [ff]
          rfl
        · have pA : pg ∉ A.all := fun m => (st'.kind m hpg').2 _ rfl
          have bA : b1 ∉ A.all := fun m => (st'.kind m lw'.bd).2 _ rfl
          refine ⟨none, rfl, e7 _ _ (k6 _ _ pA (e5 _ _ hpg')), ?_, ((lw'.ex e5).kp k6 dj bA).ex e7, (kp'.trans (Kp.of e5)).trans ((Kp.sub (fun a ha => List.mem_append_left _ ha) k6).trans (Kp.of e7))⟩
          unfold putM
          rw [if_neg (by rw [hc]; decide), if_pos ff]
          exact st6.ex e7
    subst es
    have M2e := mid_law gd n
    obtain ⟨gl1, gl2⟩ := goneL_ok gd n
    -- the law drops what went
    refine q_cut (M := fun σ' H' => ∃ u13 b', σ' = sgP A L M.quota n u7 (some (.ref pg)) (some (.bl (fullL M n))) u10 u11 none u13 ∧ StA C H' A (progS (putM M n)) ∧ LwA H' L b' (dropAllM (goneL M n) (pre1 M n)) ∧ (b' = b ∨ H b' = none) ∧ Kp (A.all ++ L.all) H H') ?_ fun σ' H' ⟨u13, b2, es, st', lw', fb2, kp'⟩ => ?_
    · refine s_forLn (ev_var rfl) (sq_of hpg') (fun i σ'' H'' => ∃ u13 b', σ'' = sgP A L M.quota n u7 (some (.ref pg)) (some (.bl (fullL M n))) u10 u11 none u13 ∧ StA C H'' A (progS (putM M n)) ∧ LwA H'' L b' (dropAllM ((goneL M n).take i) (pre1 M n)) ∧ (b' = b ∨ H b' = none) ∧ Kp (A.all ++ L.all) H H'' ∧ H'' pg = some (.lst ((goneL M n).map V.str)))
        (fun H5 e5 => ⟨none, b1, rfl, st'.ex e5, lw'.ex e5, fb, kp'.trans (Kp.of e5), e5 _ _ hpg'⟩) (fun i σ'' H'' _ ⟨_, _, _, _, _, _, _, z⟩ => sq_of z) (fun i x σ'' H'' hx ⟨u13, b', es, st5, lw5, fb5, kp5, hg5⟩ => ?_) (fun σ'' H'' ⟨u13, b', es, st5, lw5, fb5, kp5, hg5⟩ => ?_)
      · subst es
        rw [List.getElem?_map] at hx
        cases q : (goneL M n)[i]? with
        | none => rw [q] at hx; cases hx
        | some c =>
          rw [q] at hx
          cases hx
          have cm := gl2 c (List.mem_of_getElem? q)
          have gdi := gd1.dropAll ((goneL M n).take i) ((List.take_sublist _ _).nodup gl1) fun k hk => gl2 k (List.mem_of_mem_take hk)
          refine s_lawdrop (n := c) lw5 gdi (kd_dropAll _ cm (nodup_take gl1 q)) (fun _ => ev_var rfl) (fun _ => ev_var rfl) (fun _ => ev_var rfl) (fun _ => ev_var rfl) (fun _ => rfl) (fun m H3 => et_test (ev_op (ev_var rfl) (ev_var rfl) (rv_ne rfl))) (fun v H3 => ev_var rfl) fun b'' H6 lw6 fr k6 => ?_
          have fr0 : H b'' = none := fresh_kp kp5 (fun a ha => by
            rcases List.mem_append.mp ha with ha | ha
            · exact st5.some ha
            · exact lw5.some ha) fr
          refine ⟨some (.str c), b'', rfl, st5.kp k6 fun a ha m => dj a m ha, ?_, .inr fr0, kp5.trans (Kp.sub (fun a ha => List.mem_append_right _ ha) k6), k6 _ _ (lw5.out hg5) hg5⟩
          rw [List.take_succ, q]
          show LwA H6 L b'' (dropAllM ((goneL M n).take i ++ [c]) (pre1 M n))
          rw [dropAll_append]
          exact lw6
      · rw [List.length_map, List.take_length] at lw5
        exact ⟨u13, b', es, st5, lw5, fb5, kp5⟩
    subst es
    rw [M2e] at lw'
    refine q_cut (M := fun σ' H' => StA C H' A (progS (putM M n)) ∧ LwA H' L b2 (putM M n) ∧ Kp (A.all ++ L.all) H H') ?_ fun σ' H' ⟨st', lw', kp'⟩ => ?_
    · refine s_when (b := !fullL M n) (et_not (et_B (ev_var rfl))) (fun hf H5 e5 => ?_) (fun hf H5 e5 => ?_)
      · have ff : fullL M n = false := by simpa using hf
        have lw5 := lw'.ex e5
        have st5 := st'.ex e5
        have kp5 := kp'.trans (Kp.of e5)
        have ep : putM M n = touchM (if hasM M n = true then M else midM M n) n := by
          unfold putM
          by_cases hc : hasM M n = true
          · rw [if_pos hc, if_pos hc]
          · rw [if_neg hc, if_neg hc, if_neg (by rw [ff]; decide)]
        rw [ep] at st5 ⊢
        have gm : Good (if hasM M n = true then M else midM M n) := by
          split
          · exact gd
          · exact (mid_prog gd hn).2
        generalize (if hasM M n = true then M else midM M n) = M2 at lw5 st5 gm ⊢
        obtain ⟨m1, m2, m3, m4, m5, m6⟩ := lw5.ne
        have few := gm.few
        have bs : b2 ≠ L.s := fun z => lw5.out lw5.bd (by rw [z]; simp [La.all])
        have bt : b2 ≠ L.t := fun z => lw5.out lw5.bd (by rw [z]; simp [La.all])
        have bl : b2 ≠ L.l := fun z => lw5.out lw5.bd (by rw [z]; simp [La.all])
        have i1 : L.t ∈ L.all := by simp [La.all]
        have i2 : L.l ∈ L.all := by simp [La.all]
        have i3 : L.s ∈ L.all := by simp [La.all]
        refine q_cut (M := fun σ' H' => σ' = sgP A L M.quota n u7 (some (.ref pg)) (some (.bl (fullL M n))) u10 u11 none u13 ∧ H' L.s = some (.dK (kvS L.t L.l L.p M2.clock b2)) ∧ H' L.t = some (.dK (dk V.str (lawT (touchM M2 n)))) ∧ H' L.l = some (.dK (dk V.int M2.ents)) ∧ H' L.p = some (.dK (dk V.int M2.pins)) ∧ H' b2 = some (.lst (M2.bad.map V.str)) ∧ Kp L.all H5 H') ?_ fun σ' H6 ⟨es, s6, t6, l6, p6, d6, k6⟩ => ?_
        · have nt := et_dnin (k := .inr n) (σ := sgP A L M.quota n u7 (some (.ref pg)) (some (.bl (fullL M n))) u10 u11 none u13) (ev_var (i := 4) rfl) (ev_var (i := 5) rfl) (.inl lw5.tx)
          have hh : (!(valV (dk V.str (lawT M2)) (Sum.inr n)).isSome) = !hasA M2.ents n := by
            rw [valV_dk, hasA_look, show (lawT M2).lookup n = (M2.ents.lookup n).map fun _ => txOf n from look_map (fun k _ => txOf k) n M2.ents]
            cases M2.ents.lookup n <;> rfl
          rw [hh] at nt
          refine s_when nt (fun hc H6 e6 => ?_) (fun hc H6 e6 => ?_)
          · have hc : hasA M2.ents n = false := by simpa using hc
            refine s_dput (k := .inr n) (v := .str (txOf n)) (ev_var rfl) (ev_var rfl) (ev_var rfl) (e6 _ _ lw5.tx) (by rw [dk_len, lawT, List.length_map]; omega) fun H7 e7 => ?_
            have e67 := e6.trans e7
            refine ⟨rfl, by rw [upd_ne m1]; exact e67 _ _ lw5.st, ?_, by rw [upd_ne m4.symm]; exact e67 _ _ lw5.la, by rw [upd_ne m5.symm]; exact e67 _ _ lw5.pi, by rw [upd_ne bt]; exact e67 _ _ lw5.bd, (Kp.of e67).trans (Kp.upd i1)⟩
            rw [upd_same, putK_dk, lawT_touch, if_neg (by rw [hc]; decide)]
          · have hc : hasA M2.ents n = true := by simpa using hc
            refine ⟨rfl, e6 _ _ lw5.st, ?_, e6 _ _ lw5.la, e6 _ _ lw5.pi, e6 _ _ lw5.bd, Kp.of e6⟩
            rw [lawT_touch, if_pos hc]
            exact e6 _ _ lw5.tx
        · subst es
          refine q_dput (k := .inr "clock") (v := .int (M2.clock + 1)) (ev_op (ev_dgetK (k := .inr "clock") (ev_var rfl) ev_c (.inl s6) kvS_clock) ev_c rv_I0) (ev_var rfl) ev_c s6 (by show 5 ≤ 50000; decide) fun H7 e7 => ?_
          rw [putS_clock]
          refine s_dput (k := .inr n) (v := .int (M2.clock + 1)) (ev_dgetK (k := .inr "clock") (ev_var rfl) ev_c (.inl upd_same) kvS_clock) (ev_var rfl) (ev_var rfl) (by rw [upd_ne m2.symm]; exact e7 _ _ l6) (by rw [dk_len]; omega) fun H8 e8 => ?_
          rw [putK_dk]
          have k8 : Kp L.all H5 (upd H8 L.l (.dK (dk V.int (putA M2.ents n (M2.clock + 1))))) := (k6.trans ((Kp.of e7).trans (Kp.upd i3))).trans ((Kp.of e8).trans (Kp.upd i2))
          refine ⟨st5.kp k8 fun a ha m => dj a m ha, ⟨?_, ?_, upd_same, ?_, ?_, lw5.nd⟩, kp5.trans (Kp.sub (fun a ha => List.mem_append_right _ ha) k8)⟩
          · rw [upd_ne m2]; exact e8 _ _ upd_same
          · rw [upd_ne m4]; exact e8 _ _ (by rw [upd_ne m1.symm]; exact e7 _ _ t6)
          · rw [upd_ne m6.symm]; exact e8 _ _ (by rw [upd_ne m3.symm]; exact e7 _ _ p6)
          · rw [upd_ne bl]; exact e8 _ _ (by rw [upd_ne bs]; exact e7 _ _ d6)
      · have ff : fullL M n = true := by simpa using hf
        have hc : hasM M n = false := by
          unfold fullL at ff
          simpa using (Bool.and_eq_true_iff.mp ff).1
        refine ⟨st'.ex e5, ?_, kp'.trans (Kp.of e5)⟩
        unfold putM
        rw [if_neg (by rw [hc]; decide), if_pos ff]
        rw [if_neg (by rw [hc]; decide)] at lw'
        exact lw'.ex e5
    exact s_ret ev_c fun H5 e5 => kk b2 H5 (st'.ex e5) (lw'.ex e5) fb2 (kp'.trans (Kp.of e5))
end
end Mx
set_option Elab.async false
set_option linter.all false
set_option maxRecDepth 100000
set_option maxHeartbeats 4000000
namespace Mx
open PySem PySem.Spec PyProof.Rows L2 Evl TL
open PySem.W (Datum DatumOrd Tup)
/-! ### what the loop keeps -/
structure Jn (P : Program) (w : World) (C : Addr) (A : Ad) (L : La) (tp c : Addr) (cs : List Int) (q : Int) (H : Hp) (b : Addr) (M : JM) : Prop where
  sa : StA C H A (progS M)
  lw : LwA H L b M
  gd : Good M
  dj : ∀ a ∈ L.all, a ∉ A.all
  qt : M.quota = q
  tq : H tp = some (tapeO P w tp c cs.length)
  cl : H c = some (.lst (cs.map V.int))
  nn : ∀ z ∈ cs, 0 ≤ z
  cb : c ≠ b
section
variable {P : Program} {w : World} {C : Addr} {A : Ad} {L : La} {tp c : Addr} {cs : List Int} {q : Int} {H H' : Hp} {b b' : Addr} {M M' : JM}
theorem Jn.ex (j : Jn P w C A L tp c cs q H b M) (e : Ex H H') : Jn P w C A L tp c cs q H' b M := ⟨j.sa.ex e, j.lw.ex e, j.gd, j.dj, j.qt, e _ _ j.tq, e _ _ j.cl, j.nn, j.cb⟩
theorem Jn.tape (j : Jn P w C A L tp c cs q H b M) : TapeAt P w H tp := ⟨c, cs, j.tq, j.cl, j.nn⟩
theorem Jn.step (j : Jn P w C A L tp c cs q H b M) (k : Kp (b :: (A.all ++ L.all)) H H') (sa : StA C H' A (progS M')) (lw : LwA H' L b' M') (gd : Good M') (qt : M'.quota = M.quota) (fb : b' = b ∨ H b' = none) : Jn P w C A L tp c cs q H' b' M' := by
  have t1 : tp ∉ b :: (A.all ++ L.all) := fun m => by
    rcases List.mem_cons.mp m with z | m
    · have := j.tq
      rw [z, j.lw.bd] at this
      cases this
    · rcases List.mem_append.mp m with m | m
      · have m' : tp = A.x ∨ tp = A.dT ∨ tp = A.dL ∨ tp = A.dP := by simpa [Ad.all] using m
        have := j.tq
        rcases m' with z | z | z | z
        · rw [z, j.sa.ins] at this; cases this
        · rw [z, j.sa.tx] at this; cases this
        · rw [z, j.sa.la] at this; cases this
        · rw [z, j.sa.pi] at this; cases this
      · obtain ⟨kvs, z⟩ := j.lw.dict m
        have := j.tq
        rw [z] at this
        cases this
  have c1 : c ∉ b :: (A.all ++ L.all) := fun m => by
    rcases List.mem_cons.mp m with z | m
    · exact j.cb z
    · rcases List.mem_append.mp m with m | m
      · exact (j.sa.kind m j.cl).2 _ rfl
      · exact j.lw.out j.cl m
  refine ⟨sa, lw, gd, j.dj, qt.trans j.qt, k _ _ t1 j.tq, k _ _ c1 j.cl, j.nn, fun z => ?_⟩
  rcases fb with e | e
  · exact j.cb (z.trans e)
  · rw [← z, j.cl] at e
    cases e
theorem Jn.bA (j : Jn P w C A L tp c cs q H b M) : b ∉ A.all := fun m => (j.sa.kind m j.lw.bd).2 _ rfl
theorem Jn.bL (j : Jn P w C A L tp c cs q H b M) : b ∉ L.all := j.lw.out j.lw.bd
/-- only the store's places are written -/
theorem Jn.lawKp (j : Jn P w C A L tp c cs q H b M) (k : Kp A.all H H') : LwA H' L b M := j.lw.kp k j.dj j.bA
/-- only the law's places are written -/
theorem Jn.stoKp (j : Jn P w C A L tp c cs q H b M) (k : Kp L.all H H') : StA C H' A (progS M) := j.sa.kp k fun a ha m => j.dj a m ha
theorem kpA {B : List Addr} (k : Kp A.all H H') : Kp (b :: (A.all ++ B)) H H' := Kp.sub (fun a ha => List.mem_cons_of_mem _ (List.mem_append_left _ ha)) k
theorem kpL {B : List Addr} (k : Kp L.all H H') : Kp (b :: (B ++ L.all)) H H' := Kp.sub (fun a ha => List.mem_cons_of_mem _ (List.mem_append_right _ ha)) k
theorem kpB {B : List Addr} {o : HO} : Kp (b :: B) H (L2.upd H b o) := Kp.upd (List.mem_cons_self ..)
end
abbrev sgL (a tp : Addr) (q : Int) (A : Ad) (L : La) (u5 u6 u7 u8 u9 u10 u11 u12 u13 u14 u16 u17 u18 : Option V) : L2.St := [some (.ref a), some (.ref tp), some (.int q), some (.ref A.x), some (.ref L.s), u5, u6, u7, u8, u9, u10, u11, u12, u13, u14, none, u16, u17, u18, none, none, none, none]
def loopL (P : Program) (w : World) (C : Addr) (A : Ad) (L : La) (a tp c : Addr) (cs : List Int) (q : Int) : L2.St → Hp → Prop := fun σ' H' => ∃ u5 u6 u7 u8 u9 u10 u11 u12 u13 u14 u16 u17 u18, σ' = sgL a tp q A L u5 u6 u7 u8 u9 u10 u11 u12 u13 u14 u16 u17 u18 ∧ ∃ b M, Jn P w C A L tp c cs q H' b M
def cutL (P : Program) (w : World) (C : Addr) (A : Ad) (L : La) (a tp c : Addr) (cs : List Int) (q : Int) (u5 : Option V) (hw kn : Int) (n : Str) (b : Addr) : L2.St → Hp → Prop := fun σ' H' => ∃ u14 u16 u17 u18, σ' = sgL a tp q A L u5 (some (.int hw)) (some (.int kn)) (some (.str (txOf n))) (some (.str n)) (some (.ref L.t)) (some (.ref L.l)) (some (.ref L.p)) (some (.ref b)) u14 u16 u17 u18 ∧ ∃ b' M', Jn P w C A L tp c cs q H' b' M'
section
variable {σ : L2.St} {H H' : Hp} {te ta tb tc td to : TE} {u v x y z : V} {K : PySem.W.Frag}
theorem evp_addI {r m : Int} (h : EvP te σ H fun v _ => ∃ d : Int, v = .int d ∧ 0 ≤ d ∧ d < m) : EvP (tOp (rI0 fun i j => .int (i + j)) (tC (.int r)) te) σ H (fun v _ => ∃ d : Int, v = .int d ∧ r ≤ d ∧ d < r + m) := fun H1 e Q q =>
  h H1 e _ fun v H2 e2 ⟨d, ev, d0, d1⟩ => by
    subst ev
    exact ⟨r, d, rfl, rfl, q _ H2 e2 ⟨r + d, rfl, by omega, by omega⟩⟩
theorem q_parP {i j : Nat} {D : Ends} {tz : TS} {R1 R2 : V → Prop} (ha : EvP ta σ H fun v _ => R1 v) (hb : EvP tb σ H fun v _ => R2 v) (k : ∀ u v H1, Ex H H1 → R1 u → R2 v → tz D ((σ.set i (some u)).set j (some v)) H1) : tSeq (tPar i j (tCons ta (tCons tb tNil))) tz D σ H := by
  show tCons ta (tCons tb tNil) σ H fun vs H1 => ∃ v w, vs = [v, w] ∧ tz D ((σ.set i (Option.some v)).set j (Option.some w)) H1
  exact ha H (Ex.refl H) _ fun u H1 e1 r1 => hb H1 e1 _ fun v H2 e2 r2 => ⟨_, _, rfl, k u v H2 (e1.trans e2) r1 r2⟩
theorem q_asg4 {i j k l : Nat} {D : Ends} {tz : TS} (ha : Ev ta σ H u) (hb : Ev tb σ H v) (hc : Ev tc σ H x) (hd : Ev td σ H y) (kk : ∀ H1, Ex H H1 → tz D ((((σ.set i (some u)).set j (some v)).set k (some x)).set l (some y)) H1) :
    tSeq (tAsg (tTup (tCons ta (tCons tb (tCons tc (tCons td tNil))))) (gTup K 4 (gCons (gName i) (gCons (gName j) (gCons (gName k) (gCons (gName l) gNil)))))) tz D σ H := by
  show tTup (tCons ta (tCons tb (tCons tc (tCons td tNil)))) σ H fun x H1 => gTup K 4 (gCons (gName i) (gCons (gName j) (gCons (gName k) (gCons (gName l) gNil)))) x σ H1 (tz D)
  exact eu_tup (ea_cons ha (ea_cons hb (ea_cons hc (ea_cons hd ea_nil)))) (by show 4 ≤ 100000; decide) H (Ex.refl H) _ fun p H1 _ e h1 => ⟨p, _, rfl, st_of h1, rfl, _, _, rfl, _, _, rfl, _, _, rfl, _, _, rfl, rfl, kk H1 e⟩
theorem t_callQ {sp : Sp} {dvs vs : List V} {E : XK} {t : TA} {Q : VK} (ha : EvA t σ H vs) (q : ∀ H1, Ex H H1 → sp (vs ++ dvs) H1 Q E) : tCall sp dvs E t σ H Q := ha H (Ex.refl H) _ fun H1 e1 => q H1 e1
theorem t_methM {m : Str} {sp : Sp} {E : XK} {t : TA} {Q : VK} {C x dx : Addr} {fs : List (Str × V)} (h : Ev to σ H (.ref x)) (hx : H x = some (.ins C dx fs)) (l : fs.lookup m = none) (q : ∀ H1, Ex H H1 → t σ H1 fun vs H2 => sp (.ref x :: (vs ++ [])) H2 Q E) : tMeth C m sp [] E to t σ H Q :=
  h H (Ex.refl H) _ fun H1 e1 => ⟨x, dx, fs, rfl, e1 _ _ hx, l, q H1 e1⟩
/-- a method's call whose one argument is a new list -/
theorem t_methL {m : Str} {sp : Sp} {E : XK} {tl : TE} {Q : VK} {C x dx : Addr} {fs : List (Str × V)} {xs : List V} (h : Ev to σ H (.ref x)) (hx : H x = some (.ins C dx fs)) (l : fs.lookup m = none) (ha : EvL tl σ H xs) (q : ∀ p H1, H p = none → Ex H H1 → H1 p = some (.lst xs) → sp [.ref x, .ref p] H1 Q E) : tMeth C m sp [] E to (tCons tl tNil) σ H Q :=
  h H (Ex.refl H) _ fun H1 e1 => ⟨x, dx, fs, rfl, e1 _ _ hx, l, ha H1 e1 _ fun p H2 hp e2 h2 => q p H2 (fresh_back e1 hp) (e1.trans e2) h2⟩
theorem q_methL {m : Str} {sp : Sp} {E : XK} {tl : TE} {D : Ends} {tz : TS} {C x dx : Addr} {fs : List (Str × V)} {xs : List V} (h : Ev to σ H (.ref x)) (hx : H x = some (.ins C dx fs)) (l : fs.lookup m = none) (ha : EvL tl σ H xs) (q : ∀ p H1, H p = none → Ex H H1 → H1 p = some (.lst xs) → sp [.ref x, .ref p] H1 (fun _ H2 => tz D σ H2) E) : tSeq (tDrop (tMeth C m sp [] E to (tCons tl tNil))) tz D σ H := t_methL h hx l ha q
/-- sorted(d) of a dict of texts -/
abbrev rSortD : List V → Hp → VK → Prop := fun xs H Q => ∃ (a : Addr) (kvs : List (Key × V)) (ks : List Str), xs = [.ref a] ∧ Rd H a (.dK kvs) ∧ kvs.map (·.1) = ks.map Sum.inr ∧ ks.length < 64 ∧
    ∀ ys p, ys.Perm ks → sortedS ys = true → H p = none → Q (.ref p) (upd H p (.lst (ys.map V.str)))
theorem evd_sortDk {α : Type} {f : α → V} {d : Addr} {l : List (Str × α)} (h : Ev te σ H (.ref d)) (hd : H d = some (.dK (dk f l))) (hl : l.length < 64) : EvP (tCB rSortD (tCons te tNil)) σ H fun v H2 => ∃ ys : List Str, Dt K H2 v ys ∧ ys.Perm (l.map (·.1)) ∧ sortedS ys = true := fun H1 e Q q =>
  h H1 e _ fun H2 e2 => ⟨d, _, l.map (·.1), rfl, .inl ((e.trans e2) _ _ hd), by unfold dk; rw [List.map_map, List.map_map]; rfl, by rw [List.length_map]; exact hl, fun ys p h1 h2 hp => q _ _ (e2.trans (Ex.new hp)) ⟨ys, dt_lst (sq_of upd_same) (dpAll_map fun _ _ => dt_str), h1, h2⟩⟩
end
theorem room_id {size : Int} : ∀ (l : List (Int × Str)) (S : SS), ¬ S.quota < S.used + size → roomS size l S = S
  | [], _, _ => rfl
  | (_, n) :: r, S, h => by
    unfold roomS
    rw [if_neg h]
theorem mul_len : ∀ k : Nat, k < 8 → (Txt.mul (⟨#[if k % 2 = 0 then 97 else 98]⟩ : Str) (1 + (k : Int))).length + (toString (k : Int) : Str).length ≤ 100 := by decide +kernel
theorem merge_kvS {t l p b : Addr} {c : Int} : mergeK [] (kvS t l p c b) = kvS t l p c b := by
  have nd : ((kvS t l p c b).map (·.1)).Nodup := show ([("texts" : Str), "last", "pins", "clock", "bad"].map fun s => (Sum.inr s : Key)).Nodup by decide +kernel
  rw [merge_new _ _ (fun _ _ m => absurd m (by simp)) nd, List.nil_append]
theorem flat_ks : ∀ ks : List Str, ((ks.map fun k => (Tup.mk [(("p" : Str), k)] : Tup (Str × Str))).flatMap fun m => m.items.map (·.2)) = ks
  | [] => rfl
  | k :: r => by
    rw [List.map_cons, List.flatMap_cons, flat_ks r]
    rfl
theorem sum_ks : ∀ ks : List Str, ((ks.map fun k => (Tup.mk [(("p" : Str), k)] : Tup (Str × Str))).map (·.items.length)).sum = ks.length
  | [] => rfl
  | k :: r => by
    rw [List.map_cons, List.map_cons, List.sum_cons, sum_ks r, List.length_cons]
    show 1 + r.length = r.length + 1
    omega
section
variable {σ : L2.St} {H H' : Hp} {te ta tb tc td to stE laE nmE : TE} {u v x y z : V} {K : PySem.W.Frag} {L : La} {b : Addr} {M : JM}
/-- state["clock"] = state["clock"] + 1; last[n] = state["clock"] -/
theorem s_lawtouch {D : Ends} {n : Str} (lw : LwA H L b M) (gd : Good M) (hn : hasA M.ents n = true) (h2 : ∀ H1, Ev laE σ H1 (.ref L.l)) (h3 : ∀ H1, Ev stE σ H1 (.ref L.s)) (h4 : ∀ H1, Ev nmE σ H1 (.str n))
    (k : ∀ H', LwA H' L b (touchM M n) → Kp L.all H H' → D.nx σ H') :
    tSeq (sDPut stE (tC (.str "clock")) (tOp (rI0 fun i j => .int (i + j)) (tDGet stE (tC (.str "clock"))) (tC (.int 1)))) (sDPut laE nmE (tDGet stE (tC (.str "clock")))) D σ H := by
  obtain ⟨m1, m2, m3, m4, m5, m6⟩ := lw.ne
  have few := gd.few
  have bs : b ≠ L.s := fun z => lw.out lw.bd (by rw [z]; simp [La.all])
  have bt : b ≠ L.t := fun z => lw.out lw.bd (by rw [z]; simp [La.all])
  have bl : b ≠ L.l := fun z => lw.out lw.bd (by rw [z]; simp [La.all])
  have i2 : L.l ∈ L.all := by simp [La.all]
  have i3 : L.s ∈ L.all := by simp [La.all]
  refine q_dput (k := .inr "clock") (v := .int (M.clock + 1)) (ev_op (ev_dgetK (k := .inr "clock") (h3 _) ev_c (.inl lw.st) kvS_clock) ev_c rv_I0) (h3 _) ev_c lw.st (by show 5 ≤ 50000; decide) fun H7 e7 => ?_
  rw [putS_clock]
  refine s_dput (k := .inr n) (v := .int (M.clock + 1)) (ev_dgetK (k := .inr "clock") (h3 _) ev_c (.inl upd_same) kvS_clock) (h2 _) (h4 _) (by rw [upd_ne m2.symm]; exact e7 _ _ lw.la) (by rw [dk_len]; omega) fun H8 e8 => ?_
  rw [putK_dk]
  have k8 : Kp L.all H (upd H8 L.l (.dK (dk V.int (putA M.ents n (M.clock + 1))))) := ((Kp.of e7).trans (Kp.upd i3)).trans ((Kp.of e8).trans (Kp.upd i2))
  refine k _ ⟨?_, ?_, upd_same, ?_, ?_, lw.nd⟩ k8
  · rw [upd_ne m2]; exact e8 _ _ upd_same
  · rw [lawT_touch, if_pos hn, upd_ne m4]; exact e8 _ _ (by rw [upd_ne m1.symm]; exact e7 _ _ lw.tx)
  · rw [upd_ne m6.symm]; exact e8 _ _ (by rw [upd_ne m3.symm]; exact e7 _ _ lw.pi)
  · rw [upd_ne bl]; exact e8 _ _ (by rw [upd_ne bs]; exact e7 _ _ lw.bd)
theorem q_whenCall {r : R2} {tu tz : TS} {D : Ends} (h : ta σ H fun x H1 => tb σ H1 fun y H2 => r x y H2 fun z H3 => ∃ b : Bool, z = .bl b ∧ (if b = true then tu { D with nx := tz D } σ H3 else tz D σ H3)) : tSeq (tIfS (tTest (tOp r ta tb)) tu tNext) tz D σ H := h
theorem s_whenAny {t1 : TT} {b1 : Bool} {tu : TS} {D : Ends} (h1 : EvT t1 σ H b1) (h2 : EvP te σ H fun v _ => ∃ d : Int, v = .int d) (k1 : b1 = true → ∀ H1, Ex H H1 → tu D σ H1) (k2 : ∀ H1, Ex H H1 → D.nx σ H1) : tIfS (tAnd t1 (tTest (tOp rEq te (tC (.int 0))))) tu tNext D σ H := by
  refine h1 H (Ex.refl H) _ fun H1 e1 => ?_
  cases b1 with
  | false => exact k2 H1 e1
  | true =>
    refine h2 H1 e1 _ fun v H2 e2 ⟨d, ev⟩ => ?_
    subst ev
    refine ⟨rfl, _, rfl, ?_⟩
    by_cases c : decide (V.int d = V.int 0) = true
    · rw [c]
      exact k1 rfl H2 (e1.trans e2)
    · rw [Bool.not_eq_true] at c
      rw [c]
      exact k2 H2 (e1.trans e2)
theorem et_neP2 {α : Type} [DecidableEq α] [Datum α] {P1 P2 : α → Prop} (ha : EvP ta σ H fun v H2 => ∃ a, Dt K H2 v a ∧ P1 a) (hb : EvP tb σ H fun v H2 => ∃ a, Dt K H2 v a ∧ P2 a) (hp : ∀ a b, P1 a → P2 b → a = b) : EvT (tTest (tOp (rDt α K fun a b => decide (a ≠ b)) ta tb)) σ H false := fun H1 e Q q =>
  ha H1 e _ fun v H2 e2 ⟨a, da, pa⟩ => hb H2 (e.trans e2) _ fun u H3 e3 ⟨b, db, pb⟩ => by
    have ab := hp a b pa pb
    subst ab
    refine ⟨a, a, da.ex e3, db, false, ?_, q H3 (e2.trans e3)⟩
    show V.bl (decide (a ≠ a)) = V.bl false
    rw [decide_eq_false (fun h => h rfl)]
end
end Mx
set_option Elab.async false
set_option linter.all false
set_option maxRecDepth 100000
set_option maxHeartbeats 4000000
namespace Mx
open PySem PySem.Spec PyProof.Rows L2 Evl TL
open PySem.W (Datum DatumOrd Tup)
/-! ### the law -/
theorem op_niK {X : Cx} {K' : PySem.W.Frag} (hK : X.K = K') : OpR X (compareOp .NotIn) (rIn K' true) := by
  subst hK
  exact op_notIn_seq
theorem op_inK {X : Cx} {K' : PySem.W.Frag} (hK : X.K = K') : OpR X (compareOp .In) (rIn K' false) := by
  subst hK
  exact op_in_seq
abbrev sLaw : Stmt := topW 21
abbrev nL : List Str := ["script", "tape", "quota", "store", "state", "turn", "how", "k", "text", "name", "texts", "last", "pins", "bad", "told", "e", "keep", "due", "one", "x", "some", "manifest", "wide"]
theorem scLaw : FnScope nL ["script"] (defScope sLaw) := ⟨rfl, rfl, rfl, by decide +kernel, rfl, by decide +kernel, by decide +kernel⟩
structure BtAll (mg : Str → Option Value) : Prop where
  len : mg "len" = none
  sum : mg "sum" = none
  sorted : mg "sorted" = none
  range : mg "range" = none
  str : mg "str" = none
def spLaw (K : PySem.W.Frag) : Sp := fun vs H Q _ => ∃ (a : Addr) (ns : List Int), vs = [.ref a] ∧ SqL K H a (ns.map V.int) ∧ ns.length ≤ 63 ∧ ∀ H', Q (.bl true) H'
structure HasMk (P : Program) (w : World) (K : PySem.W.Frag) (mg : Str → Option Value) (base : Heap) (C : Addr) : Prop where
  mgC : mg "Store" = some (.ref C)
  ex : ∃ (f : Addr) (fd : FuncData), Mk K C f ∧ Binds K fd ["self", "quota"] [] ∧ FnOk P w K mg base CX0 1 f fd ["self", "quota"] (spInit C)
theorem pe_store {X : Cx} {C : Addr} {j : Nat} {p pos : Pos} {e : Expr} {es : List Expr} {t : TA} (F : HasMk X.prog X.w X.K X.mg X.base C) (hr : Room j X.A) (hg : Gl X "Store") (ha : PA X (e :: es) t) (hj : 2 ≤ j := by decide)
    (he : starEach (e :: es) X.env = (false, eval e X.env) :: starEach es X.env := by rfl) (hpl : (backTo pos (starEach es X.env)).any (·.1) = false := by rfl) : PE X (.Call (.Name "Store" p) (e :: es) [] pos) (tMake C (spInit C) [] E0 t) := by
  obtain ⟨f, fd, hM, hb, G⟩ := F.ex
  exact pe_make hM G (hr.mono hj) hg F.mgC hb .nil pass0 ha (by decide) he hpl
section
variable {P : Program} {w : World} {K : PySem.W.Frag} {mg : Str → Option Value} {base : Heap} {C CE : Addr}
theorem evp_take {H : Hp} {p : Addr} {m : Int} {te : TE} {σ : L2.St} {E : XK} (h : Ev te σ H (.ref p)) (T : TapeAt P w H p) (m0 : 0 < m := by decide) (m1 : m < 1000000 := by decide) : EvP (tCall (spTake P w) [] E (tCons te (tCons (tC (.int m)) tNil))) σ H (fun v _ => ∃ d : Int, v = .int d ∧ 0 ≤ d ∧ d < m) := fun H1 e Q q =>
  h H1 e _ fun H2 e2 => ⟨p, m, rfl, T.ex (e.trans e2), m0, m1, fun d d0 d1 => q _ H2 e2 ⟨d, rfl, d0, d1⟩⟩
theorem ok_law {f : Addr} {fd : FuncData} (F : Fun K "law" "law" sLaw f fd) (T : Txt K mg C) (B : BtAll mg) (R : Err2 P w K mg base "StoreError" "word" "name" CE) (hMk : HasMk P w K mg base C)
    (hTp : Has P w K mg base CX0 1 "_law_tape" ["script"] (spTape P w K)) (hTk : Has P w K mg base CX0 1 "_law_take" ["tape", "many"] (spTake P w)) (hLp : Has P w K mg base CX0 5 "_law_put" ["store", "state", "quota", "text", "name"] (spLput C))
    (hD : Has P w K mg base CX0 2 "digest" ["text"] spDig) (hMa : Has P w K mg base CX0 3 "manifest_of" ["outputs"] (spMan K)) (hWh : Has P w K mg base CX0 4 "is_whole" ["store", "manifest"] (spWho K C)) (hTo : Has P w K mg base CX0 4 "texts_of" ["store", "manifest"] (spTof K C))
    (hPu : HasM P w K mg base (L2.CX P w) 4 C "put" ["self", "text"] (spPut C CE)) (hGe : HasM P w K mg base (L2.CX P w) 3 C "get" ["self", "name"] (spGet C CE)) (hHa : HasM P w K mg base CX0 3 C "has" ["self", "name"] (spHas C))
    (hPi : HasM P w K mg base CX0 1 C "pin" ["self", "names"] (spPin K C)) (hUn : HasM P w K mg base CX0 1 C "unpin" ["self", "names"] (spUnpin K C)) (hCo : HasM P w K mg base CX0 2 C "collect" ["self", "manifests"] (spColl K C)) (hSp : HasM P w K mg base CX0 3 C "spoilt" ["self"] (spSpo K C)) :
    FnOk P w K mg base (L2.CX P w) 6 f fd ["script"] (spLaw K) := by
  refine F.okX scLaw (fun vs H Q E h => ?_) (fun cdv Ar outer s H vs Q E hr h => ?_)
  · obtain ⟨a, ns, rfl, _⟩ := h
    rfl
  · obtain ⟨a, ns, rfl, hA, hlen, kk⟩ := h
    have hu := hu_of hr
    refine ⟨_,
      --WALK
      (pss_cons (ps_set (i := 1) scLaw.nd rfl (Or.inr rfl) (pe_h hTp hr (by rfl) pass0 (pa_cons (pv 0) pa_nil)))
      (pss_cons (ps_set (i := 2) scLaw.nd rfl (Or.inl rfl) (pe_op op_add (pe_int) (pe_h hTk hr (by rfl) pass0 (pa_cons (pv 1) (pa_cons (pe_int) pa_nil)))))
      (pss_cons (ps_par (i := 3) (j := 4) rfl scLaw.nd rfl rfl (by decide) rfl rfl (pa_cons (pe_store hMk hr (by rfl) (pa_cons (pv 2) pa_nil)) (pa_cons (pe_disp (pps_cons (pe_str) (pe_dnewK) (pps_cons (pe_str) (pe_dnewK) (pps_cons (pe_str) (pe_dnewK) (pps_cons (pe_str) (pe_int) (pps_cons (pe_str) (pe_lst pa_nil) pps_nil))))) (by rfl) (by rfl) (fun z => by cases z) (by decide)) pa_nil)) (by rfl))
      (pss_cut (ps_for (passes_of rfl) rfl (pi_range1 (by rfl) B.range (pa_cons pe_int pa_nil)) (pg_name (i := 5) scLaw.nd rfl (Or.inl rfl)) (pss_cons (ps_par (i := 6) (j := 7) rfl scLaw.nd rfl rfl (by decide) rfl rfl (pa_cons (pe_h hTk hr (by rfl) pass0 (pa_cons (pv 1) (pa_cons (pe_int) pa_nil))) (pa_cons (pe_h hTk hr (by rfl) pass0 (pa_cons (pv 1) (pa_cons (pe_int) pa_nil))) pa_nil)) (by rfl))
      (pss_cons (ps_set (i := 8) scLaw.nd rfl (Or.inl rfl) (pe_op op_add_str (pe_op op_repS (pe_ix ix_str pe_str (pe_op op_mod (pv 7) pe_int) (fun _ _ => rfl)) (pe_op op_add pe_int (pv 7))) (pe_callTy call_str_int (by rfl) B.str (by decide +kernel) (pa_cons (pv 7) pa_nil))))
      (pss_cons (ps_set (i := 9) scLaw.nd rfl (Or.inl rfl) (pe_h hD hr (by rfl) pass0 (pa_cons (pv 8) pa_nil)))
      (pss_cons (ps_asg (pe_tup (pa_cons (pe_dget hu (pv 4) (pe_str) (fun _ _ => rfl)) (pa_cons (pe_dget hu (pv 4) (pe_str) (fun _ _ => rfl)) (pa_cons (pe_dget hu (pv 4) (pe_str) (fun _ _ => rfl)) (pa_cons (pe_dget hu (pv 4) (pe_str) (fun _ _ => rfl)) pa_nil))))) (pg_tup rfl (pgs_cons (pg_name (i := 10) scLaw.nd rfl (Or.inr rfl)) (pgs_cons (pg_name (i := 11) scLaw.nd rfl (Or.inl rfl)) (pgs_cons (pg_name (i := 12) scLaw.nd rfl (Or.inr rfl)) (pgs_cons (pg_name (i := 13) scLaw.nd rfl (Or.inl rfl)) pgs_nil))))))
      (pss_cut (ps_if (pt_cmpR (op_lt) (pv 6) (pe_int) (nomark _)) (pss_one (ps_if (pt_not (pt_val (pe_h hLp hr (by rfl) pass0 (pa_cons (pv 3) (pa_cons (pv 4) (pa_cons (pv 2) (pa_cons (pv 8) (pa_cons (pv 9) pa_nil)))))))) (pss_one (ps_ret pe_bl)) pss_nil)) (pss_one (ps_if (pt_cmpR (op_eq) (pv 6) (pe_int) (nomark _)) (pss_one (ps_try_as (i := 15) rfl rfl scLaw.nd rfl rfl ⟨rfl, by decide, .inl R.mgC⟩ takes0 (fun W pn xe tk _ => (pss_cons (ps_set (i := 14) scLaw.nd rfl (Or.inl rfl) (pe_mS (pv 3) T.cl hGe hr (fun σ => passAt tk σ) (pa_cons (pv 9) pa_nil)))
      (pss_cons (ps_if (PW.pt (pw_or (pt_cmp (pc_dnotin hu (pv 9) (pv 10))) (pw_or (pt_cmpR (op_inK (K' := K) rfl) (pv 9) (pv 13) (by rfl)) (pw_or1 (pt_cmpR (op_ne) (pv 14) (pv 8) (nomark _)))))) (pss_one (ps_ret pe_bl)) pss_nil)
      (pss_cons (ps_dput hu (pv 4) (pe_str) (pe_op op_add (pe_dget hu (pv 4) (pe_str) (fun _ _ => rfl)) (pe_int)) rfl)
      (pss_one (ps_dput hu (pv 11) (pv 9) (pe_dget hu (pv 4) (pe_str) (fun _ _ => rfl)) rfl)))))) (fun a oe cls d pn hz hf => (pss_one (ps_if (PW.pt (pw_or (pt_cmpR (op_neTK (α := Str × Str) (K' := K) rfl (uD (α := Str × Str) hr (by decide))) (pe_tup (pa_cons (pe_xf R.xf R.n1 hz hf (pv 15)) (pa_cons (pe_xf R.xf R.n2 hz hf (pv 15)) pa_nil))) (pe_tup (pa_cons (pe_ifExp (pt_cmpR (op_inK (K' := K) rfl) (pv 9) (pv 13) (by rfl)) pe_str pe_str) (pa_cons (pv 9) pa_nil))) (nomark _)) (pw_or1 (PW.pt (pw_and (pt_cmp (pc_din hu (pv 9) (pv 10))) (pw_and1 (pt_cmpR (op_niK (K' := K) rfl) (pv 9) (pv 13) (by rfl)))))))) (pss_one (ps_ret pe_bl)) pss_nil))))) (pss_one (ps_if (pt_cmpR (op_eq) (pv 6) (pe_int) (nomark _)) (pss_cons (ps_expr (pe_m (pv 3) T.cl hPi hr pass0 (pa_cons (pe_lst (pa_cons (pv 9) pa_nil)) pa_nil)))
      (pss_one (ps_dput hu (pv 12) (pv 9) (pe_op op_add (pe_dget2 hu (pv 12) (pv 9) pe_int ⟨rfl, rfl, rfl, rfl⟩) (pe_int)) rfl))) (pss_one (ps_if (PW.pt (pw_and (pt_cmpR (op_eq) (pv 6) (pe_int) (nomark _)) (pw_and1 (pt_cmp (pc_din hu (pv 9) (pv 12)))))) (pss_cons (ps_expr (pe_m (pv 3) T.cl hUn hr pass0 (pa_cons (pe_lst (pa_cons (pv 9) pa_nil)) pa_nil)))
      (pss_cons (ps_dput hu (pv 12) (pv 9) (pe_op op_sub (pe_dget hu (pv 12) (pv 9) (fun _ _ => rfl)) (pe_int)) rfl)
      (pss_one (ps_if (pt_cmpR (op_eq) (pe_dget hu (pv 12) (pv 9) (fun _ _ => rfl)) (pe_int) (nomark _)) (pss_one (ps_expr (pe_dpop1 (pv 12) (pv 9) ⟨rfl, rfl, rfl, rfl⟩))) pss_nil)))) (pss_one (ps_if (PW.pt (pw_and (pt_cmpR (op_eq) (pv 6) (pe_int) (nomark _)) (pw_and (pt_cmp (pc_din hu (pv 9) (pv 10))) (pw_and1 (pt_cmpR (op_notIn_seq) (pv 9) (pv 13) (by rfl)))))) (pss_cons (ps_dput hu (pe_fld (pv 3) rfl) (pv 9) (pe_ifExp (pt_cmpR (op_ne) (pe_revS (pv 8)) (pv 8) (nomark _)) (pe_revS (pv 8)) (pe_op op_add_str (pe_slice sl_str (pv 8) (po_some pe_int) po_none) pe_str)) rfl)
      (pss_one (ps_expr (pe_bm PySem.F.plainAttrs_list PySem.F.slot_list_append PySem.F.type_list_append mt_append (pv 13) (pa_cons (pv 9) pa_nil))))) (pss_one (ps_if (PW.pt (pw_and (pt_cmpR (op_eq) (pv 6) (pe_int) (nomark _)) (pw_and1 (pt_cmpR (op_eq) (pe_h hTk hr (by rfl) pass0 (pa_cons (pv 1) (pa_cons (pe_int) pa_nil))) (pe_int) (nomark _))))) (pss_cons (ps_set (i := 16) scLaw.nd rfl (Or.inr rfl) (pe_lock (pe_lc (own := [("one", 18)]) (g := gName 18) rfl scLaw.nd (pi_keys (pv 10)) (blkOk_by (N := nL) (sc := defScope sLaw) (by decide +kernel)) (fun _ _ _ _ _ => pg_name (i := 18) scLaw.nd rfl (Or.inl rfl)) (fun _ _ _ _ _ => pts_one (pt_cmpR (op_eq) (pe_h hTk hr (by rfl) pass0 (pa_cons (pv 1) (pa_cons (pe_int) pa_nil))) (pe_int) (nomark _))) (fun _ _ _ _ _ => pv 18))))
      (pss_cons (ps_set (i := 17) scLaw.nd rfl (Or.inl rfl) (pe_callB (cr_sortedD (α := Str) (uS hr (by decide))) (by rfl) B.sorted (by decide +kernel) (pa_cons (pe_lock (pe_lc (own := [("one", 18)]) (g := gName 18) rfl scLaw.nd (pi_keys (pv 10)) (blkOk_by (N := nL) (sc := defScope sLaw) (by decide +kernel)) (fun _ _ _ _ _ => pg_name (i := 18) scLaw.nd rfl (Or.inl rfl)) (fun _ _ _ _ _ => pts_one (PW.pt (pw_and (pt_cmpR (op_niK (K' := K) rfl) (pv 18) (pv 16) (by rfl)) (pw_and1 (pt_cmp (pc_dnotin hu (pv 18) (pv 12))))))) (fun _ _ _ _ _ => pv 18))) pa_nil)))
      (pss_cons (ps_if (pt_cmpR (op_neT (α := List Str) (uD hr (by decide))) (pe_m (pv 3) T.cl hCo hr pass0 (pa_cons (pe_lc (own := [("one", 18)]) (g := gName 18) (tt := tYes) rfl scLaw.nd (pi_list (pv 16)) (blkOk_by (N := nL) (sc := defScope sLaw) (by decide +kernel)) (fun _ _ _ _ _ => pg_name (i := 18) scLaw.nd rfl (Or.inl rfl)) (fun _ _ _ _ _ => pts_nil) (fun _ _ _ _ _ => pe_tup (pa_cons (pe_tup (pa_cons (pe_str) (pa_cons (pv 18) pa_nil))) pa_nil))) pa_nil)) (pv 17) (nomark _)) (pss_one (ps_ret pe_bl)) pss_nil)
      (pss_one (ps_for (passes_of rfl) rfl (pi_list (pv 17)) (pg_name (i := 18) scLaw.nd rfl (Or.inr rfl)) (pss_cons (ps_expr (pe_dpop1 (pv 10) (pv 18) ⟨rfl, rfl, rfl, rfl⟩))
      (pss_cons (ps_expr (pe_dpop1 (pv 11) (pv 18) ⟨rfl, rfl, rfl, rfl⟩))
      (pss_one (ps_dput hu (pv 4) (pe_str) (pe_lc (own := [("x", 19)]) (g := gName 19) rfl scLaw.nd (pi_list (pe_dget hu (pv 4) (pe_str) (fun _ _ => rfl))) (blkOk_by (N := nL) (sc := defScope sLaw) (by decide +kernel)) (fun _ _ _ _ _ => pg_name (i := 19) scLaw.nd rfl (Or.inl rfl)) (fun _ _ _ _ _ => pts_one (pt_cmpR (op_ne) (pv 19) (pv 18) (nomark _))) (fun _ _ _ _ _ => pv 19)) rfl))))))))) pss_nil)))))))))))
      (pss_cons (ps_set (i := 13) scLaw.nd rfl (Or.inl rfl) (pe_dget hu (pv 4) (pe_str) (fun _ _ => rfl)))
      (pss_cons (ps_if (PW.pt (pw_or (pt_cmpR (op_neT (α := List Str) (uD hr (by decide))) (pe_callB (call_sortedD rfl) (by rfl) B.sorted (by decide +kernel) (pa_cons (pe_fld (pv 3) rfl) pa_nil)) (pe_callB (call_sortedD rfl) (by rfl) B.sorted (by decide +kernel) (pa_cons (pv 10) pa_nil)) (nomark _)) (pw_or (pt_cmpR (op_ne) (pe_fld (pv 3) rfl) (pe_callB (cr_sum rfl) (by rfl) B.sum (by decide +kernel) (pa_cons (pe_lock (pe_lc (own := [("one", 18)]) (g := gName 18) (tt := tYes) rfl scLaw.nd (pi_keys (pv 10)) (blkOk_by (N := nL) (sc := defScope sLaw) (by decide +kernel)) (fun _ _ _ _ _ => pg_name (i := 18) scLaw.nd rfl (Or.inl rfl)) (fun _ _ _ _ _ => pts_nil) (fun _ _ _ _ _ => pe_callB (call_len_str) (by rfl) B.len (PySem.boot_len) (pa_cons (pe_dget hu (pv 10) (pv 18) (fun _ _ => rfl)) pa_nil)))) pa_nil)) (nomark _)) (pw_or (pt_cmpR (op_gt) (pe_fld (pv 3) rfl) (pv 2) (nomark _)) (pw_or1 (pt_cmpR (op_neT (α := List Str) (uD hr (by decide))) (pe_m0' (pv 3) T.cl hSp hr pass0) (pe_callB (cr_sortedD (α := Str) (uS hr (by decide))) (by rfl) B.sorted (by decide +kernel) (pa_cons (pv 13) pa_nil)) (nomark _))))))) (pss_one (ps_ret pe_bl)) pss_nil)
      (pss_one (ps_if (pt_cmpR (op_ne) (pe_m (pv 3) T.cl hHa hr pass0 (pa_cons (pv 9) pa_nil)) (pe_and (pe_cmp (pc_din hu (pv 9) (pv 10)) rfl) (pe_one (pe_cmpR op_notIn_seq (pv 9) (pv 13) (by rfl)))) (nomark _)) (pss_one (ps_ret pe_bl)) pss_nil))))))))))
      (pss_cons (ps_set (i := 20) scLaw.nd rfl (Or.inl rfl) (pe_disp (pps_cons (pe_str) (pe_str) (pps_cons (pe_str) (pe_str) pps_nil)) (by rfl) (by rfl) (fun z => by cases z) (by decide)))
      (pss_cons (ps_set (i := 21) scLaw.nd rfl (Or.inl rfl) (pe_h hMa hr (by rfl) pass0 (pa_cons (pv 20) pa_nil)))
      (pss_cons (ps_if (pt_cmpR (op_neT (α := Tup (Str × Str)) (uD hr (by decide))) (pv 21) (pe_tup (pa_cons (pe_tup (pa_cons (pe_str) (pa_cons (pe_h hD hr (by rfl) pass0 (pa_cons (pe_str) pa_nil)) pa_nil))) (pa_cons (pe_tup (pa_cons (pe_str) (pa_cons (pe_h hD hr (by rfl) pass0 (pa_cons (pe_str) pa_nil)) pa_nil))) pa_nil))) (nomark _)) (pss_one (ps_ret pe_bl)) pss_nil)
      (pss_cons (ps_set (i := 22) scLaw.nd rfl (Or.inl rfl) (pe_store hMk hr (by rfl) (pa_cons pe_int pa_nil)))
      (pss_cons (ps_expr (pe_m (pv 22) T.cl hPu hr (passes_call (takes_of rfl rfl rfl rfl) fun _ _ _ _ z => z) (pa_cons (pe_str) pa_nil)))
      (pss_cons (ps_if (pt_val (pe_h hWh hr (by rfl) pass0 (pa_cons (pv 22) (pa_cons (pv 21) pa_nil)))) (pss_one (ps_ret pe_bl)) pss_nil)
      (pss_cons (ps_expr (pe_m (pv 22) T.cl hPu hr (passes_call (takes_of rfl rfl rfl rfl) fun _ _ _ _ z => z) (pa_cons (pe_str) pa_nil)))
      (pss_one (ps_ret (pe_and (pe_h hWh hr (by rfl) pass0 (pa_cons (pv 22) (pa_cons (pv 21) pa_nil))) (pe_one (pe_cmpR (op_eq_dictA (Nat.lt_of_le_of_lt (Nat.le_succ _) hu)) (pe_h hTo hr (by rfl) pass0 (pa_cons (pv 22) (pa_cons (pv 21) pa_nil))) (pv 20) (nomark _))))))))))))))))), ?_⟩
    refine ⟨_, rfl, a, ns, rfl, hA, hlen, fun tp H1 e1 T1 => ?_⟩
    obtain ⟨c, cs, t1, t2, t3⟩ := T1
    refine q_asgP (evp_addI (m := 30) (evp_take (ev_var rfl) ⟨c, cs, t1, t2, t3⟩)) fun v H2 e2 ⟨q, ev, q0, q1⟩ => ?_
    subst ev
    have t1 := e2 _ _ t1
    have t2 := e2 _ _ t2
    refine ⟨_, rfl, fun x dx hx hdx ndx => ⟨x, dx, q, rfl, upd_same, fun A H3 ax adx st3 kp3 fT fL fP => ⟨rfl, ?_⟩⟩⟩
    subst ax
    have E3 : Ex H2 H3 := fun d o hd => kp3 d o (ne_of_none hd hx) (by rw [upd_ne (ne_of_none hd hx), upd_ne (ne_of_none hd hdx)]; exact hd)
    intro s0 hs0 dt hdt dl hdl dp hdp
    refine ⟨by decide, fun b hb => ?_⟩
    have n1 : s0 ≠ dt := fun z => by rw [← z, upd_same] at hdt; cases hdt
    have n2 : s0 ≠ dl := fun z => by rw [← z, upd_ne n1, upd_same] at hdl; cases hdl
    have n3 : s0 ≠ dp := fun z => by rw [← z, upd_ne n2, upd_ne n1, upd_same] at hdp; cases hdp
    have n4 : s0 ≠ b := fun z => by rw [← z, upd_ne n3, upd_ne n2, upd_ne n1, upd_same] at hb; cases hb
    have n5 : dt ≠ dl := fun z => by rw [← z, upd_same] at hdl; cases hdl
    have n6 : dt ≠ dp := fun z => by rw [← z, upd_ne n5, upd_same] at hdp; cases hdp
    have n7 : dt ≠ b := fun z => by rw [← z, upd_ne n6, upd_ne n5, upd_same] at hb; cases hb
    have n8 : dl ≠ dp := fun z => by rw [← z, upd_same] at hdp; cases hdp
    have n9 : dl ≠ b := fun z => by rw [← z, upd_ne n8, upd_same] at hb; cases hb
    have n10 : dp ≠ b := fun z => by rw [← z, upd_same] at hb; cases hb
    refine ⟨?_, kvS dt dl dp 0 b, rfl, (by show 5 ≤ 15; decide), _, _, rfl, ?_⟩
    · rw [upd_ne n4, upd_ne n3, upd_ne n2, upd_ne n1, upd_same]
    have J0 : Jn P w C A ⟨s0, dt, dl, dp⟩ tp c cs q (upd (upd (upd (upd (upd (upd H3 s0 (.dK [])) dt (.dK [])) dl (.dK [])) dp (.dK [])) b (.lst [])) s0 (.dK (mergeK [] (kvS dt dl dp 0 b)))) b ⟨[], [], 0, [], q⟩ := by
      have EA : Ex H3 (upd (upd (upd (upd H3 s0 (.dK [])) dt (.dK [])) dl (.dK [])) dp (.dK [])) := ((((Ex.new hs0).trans (Ex.new hdt)).trans (Ex.new hdl)).trans (Ex.new hdp))
      have EB : Ex H3 (upd (upd (upd (upd (upd (upd H3 s0 (.dK [])) dt (.dK [])) dl (.dK [])) dp (.dK [])) b (.lst [])) s0 (.dK (mergeK [] (kvS dt dl dp 0 b)))) := Ex.mut (EA.trans (Ex.new hb)) hs0
      refine ⟨st3.ex EB, ⟨?_, ?_, ?_, ?_, ?_, ?_⟩, ⟨fun _ h => absurd h (by simp), by simp, fun _ h => absurd h (by simp), by simp, fun _ h => absurd h (by simp), by simp, fun _ h => absurd h (by simp), by show (0 : Int) ≤ q; omega⟩, fun d hd m => ?_, rfl, EB _ _ (E3 _ _ t1), EB _ _ (E3 _ _ t2), t3, fun z => ?_⟩
      · rw [upd_same, merge_kvS]
      · rw [upd_ne n1.symm, upd_ne n7, upd_ne n6, upd_ne n5, upd_same]; rfl
      · rw [upd_ne n2.symm, upd_ne n9, upd_ne n8, upd_same]; rfl
      · rw [upd_ne n3.symm, upd_ne n10, upd_same]; rfl
      · rw [upd_ne n4.symm, upd_same]; rfl
      · simp only [La.all, List.nodup_cons, List.mem_cons, List.not_mem_nil, not_or, or_false]
        exact ⟨⟨n1, n2, n3⟩, ⟨n5, n6⟩, n8, fun z => z, List.nodup_nil⟩
      · refine st3.some m ?_
        rcases La.mem hd with z | z | z | z <;> subst z
        · exact hs0
        · exact fresh_back (Ex.new hs0) hdt
        · exact fresh_back ((Ex.new hs0).trans (Ex.new hdt)) hdl
        · exact fresh_back (((Ex.new hs0).trans (Ex.new hdt)).trans (Ex.new hdl)) hdp
      · rw [← z, EA _ _ (E3 _ _ t2)] at hb
        cases hb
    refine q_cut (M := fun σ' _ => ∃ u5 u6 u7 u8 u9 u10 u11 u12 u13 u14 u16 u17 u18, σ' = sgL a tp q A ⟨s0, dt, dl, dp⟩ u5 u6 u7 u8 u9 u10 u11 u12 u13 u14 u16 u17 u18) ?_ fun σ' Hz ⟨u5, u6, u7, u8, u9, u10, u11, u12, u13, u14, u16, u17, u18, es⟩ => ?_
    · refine s_forR1 (ea_cons ev_c ea_nil) (by decide) (fun _ => loopL P w C A ⟨s0, dt, dl, dp⟩ a tp c cs q) (fun H4 e4 => ⟨none, none, none, none, none, none, none, none, none, none, none, none, none, rfl, b, _, J0.ex e4⟩) (fun i σ' H4 hi z => ?_) (fun σ' H4 z => ?_)
      · generalize (⟨s0, dt, dl, dp⟩ : La) = L at z ⊢
        obtain ⟨u5, u6, u7, u8, u9, u10, u11, u12, u13, u14, u16, u17, u18, es, b, M, J⟩ := z
        subst es
        refine q_parP (evp_take (m := 9) (ev_var rfl) J.tape) (evp_take (m := 8) (ev_var rfl) J.tape) fun v1 v2 H5 e5 ⟨hw, ev1, h0, h1⟩ ⟨k0, ev2, k1, k2⟩ => ?_
        subst ev1 ev2
        obtain ⟨kn, rfl⟩ := Int.eq_ofNat_of_zero_le k1
        have hk : kn < 8 := by omega
        obtain ⟨nm1, nm2, nm3⟩ := nm_k kn hk
        have tm := txt_made kn hk
        have tl9 := txt_len kn hk
        have hch : atI (Str.ofString "ab").cps.toList ((kn : Int) % 2) = some (if kn % 2 = 0 then 97 else 98) := by
          rcases Nat.mod_two_eq_zero_or_one kn with z | z
          · rw [show ((kn : Int) % 2) = 0 by omega, z]; decide +kernel
          · rw [show ((kn : Int) % 2) = 1 by omega, z]; decide +kernel
        refine q_asg (v := .str (txtK kn)) (ev_is (ev_addS (ev_op (ev_op ev_c (ev_op (ev_var rfl) ev_c (rv_I (by show (0 : Int) < 2; decide))) (rv_ixS (by decide +kernel) hch)) (ev_op ev_c (ev_var rfl) rv_I0) (rv_repS (by omega) (by omega) (by show 1 ≤ 1000; decide)))
          (ev_cb (ea_cons (ev_var rfl) ea_nil) (fun H6 _ Q q => ⟨(kn : Int), rfl, ?_, q H6 (Ex.refl H6)⟩)) ?_) (by rw [tm])) fun H6 e6 => ?_
        · exact Nat.lt_of_le_of_lt (Nat.log2_le_self _) (by omega)
        · exact Nat.le_trans (mul_len kn hk) (by decide)
        have hD1 : digS (txtK kn) = nmK kn := rfl
        refine q_asg (v := .str (nmK kn)) (ev_call (sp := spDig) (ea_cons (ev_var rfl) ea_nil) fun H1 e Q q1 E => ⟨txtK kn, rfl, by omega, q1 H1 (Ex.refl H1)⟩) fun H7 e7 => ?_
        rw [← nm2]
        rw [← nm2] at tl9 tm
        generalize hn : nmK kn = n at nm1 nm2 nm3 tl9 tm ⊢
        have J := J.ex ((e5.trans e6).trans e7)
        refine q_asg4 (ev_gT (ev_var rfl) J.lw) (ev_gL (ev_var rfl) J.lw) (ev_gP (ev_var rfl) J.lw) (ev_gB (ev_var rfl) J.lw) fun H8 e8 => ?_
        have J := J.ex e8
        have fit := J.gd.fit
        have few := J.gd.few
        have pfew := J.gd.pfew
        have bfew := J.gd.bfew
        have hhp := has_prog J.gd nm1
        obtain ⟨f1, f2, f3, f4, f5⟩ := nm_facts n nm1
        have hlaw : (valV (dk V.str (lawT M)) (Sum.inr n)).isSome = hasA M.ents n := by
          rw [valV_dk, hasA_look, show (lawT M).lookup n = (M.ents.lookup n).map fun _ => txOf n from look_map (fun k _ => txOf k) n M.ents]
          cases M.ents.lookup n <;> rfl
        have hpin : (valV (dk V.int M.pins) (Sum.inr n)).isSome = hasA M.pins n := by
          rw [valV_dk, hasA_look]
          cases M.pins.lookup n <;> rfl
        have hprog : (progS M).texts.lookup n = (M.ents.lookup n).map fun _ => if n ∈ M.bad then bdOf n else txOf n := look_map (fun k _ => if k ∈ M.bad then bdOf k else txOf k) n M.ents
        have hkeys : hasA (progS M).texts n = hasA M.ents n := by
          rw [Bool.eq_iff_iff, hasA_mem, hasA_mem, progS_keys]
        refine q_cut (M := cutL P w C A L a tp c cs q (some (.int (i : Nat))) hw (kn : Int) n b) ?_ fun σ' H9 ⟨u14, u16, u17, u18, es, b2, M2, J2⟩ => ?_
        · refine s_if (b := decide (hw < 4)) (et_test (ev_op (ev_var rfl) ev_c rv_I0)) (fun _ H9 e9 => ?_) (fun _ H9 e9 => ?_)
          · have J9 := J.ex e9
            refine t_callQ (ea_cons (ev_var rfl) (ea_cons (ev_var rfl) (ea_cons (ev_var rfl) (ea_cons (ev_var rfl) (ea_cons (ev_var rfl) ea_nil))))) fun H10 e10 => ?_
            have J10 := J9.ex e10
            refine ⟨A, L, b, M, n, by rw [J.qt]; rfl, nm1, J.gd, J10.sa, J10.lw, J.dj, fun b' H11 st lw fb kp => ⟨true, rfl, ?_⟩⟩
            exact ⟨u14, u16, u17, u18, rfl, b', putM M n, J10.step (Kp.sub (fun a ha => List.mem_cons_of_mem _ ha) kp) st lw (J.gd.put nm1) quota_put fb⟩
          refine s_if (b := decide (V.int hw = V.int 4)) (et_test (ev_op (ev_var rfl) ev_c (rv_eq rfl))) (fun _ H10 e10 => ?_) (fun _ H10 e10 => ?_)
          · have J10 := J.ex (e9.trans e10)
            refine t_methT (ev_var rfl) J10.sa.ins rfl (ea_cons (ev_var rfl) ea_nil) fun H11 e11 => ?_
            have J11 := J10.ex e11
            have off : ∀ {d : Addr} {wd : Str} {H12 : Hp}, Ex H11 H12 → H12 d = some (.xd (two "word" "name" (.str wd) (.str n))) → wd = (if n ∈ M.bad then ("spoilt" : Str) else ("missing" : Str)) → hasM M n = false →
                wAs K (.ref CE) 15 (fun a2 cls d2 => tIfS (tOr (tTest (tOp (rDt (Str × Str) K fun a b => decide (a ≠ b)) (tTup (tCons (tXf a2 cls d2 CE "word" (tVar 15)) (tCons (tXf a2 cls d2 CE "name" (tVar 15)) tNil))) (tTup (tCons (tIf (tTest (tOp (rIn K false) (tVar 9) (tVar 13))) (tC (.str "spoilt")) (tC (.str "missing"))) (tCons (tVar 9) tNil)))))
                  (tAnd (tB (tDIn (tVar 9) (tVar 10))) (tTest (tOp (rIn K true) (tVar 9) (tVar 13))))) (tRet (tC (.bl false))) tNext) (fun _ _ _ _ => False) { nx := cutL P w C A L a tp c cs q (some (.int (i : Nat))) hw (kn : Int) n b, rt := Q, bk := fun _ _ => False, ct := fun _ _ => False } (.ref CE) (some d) (sgL a tp q A L (some (.int (i : Nat))) (some (.int hw)) (some (.int kn)) (some (.str (txOf n))) (some (.str n)) (some (.ref L.t)) (some (.ref L.l)) (some (.ref L.p)) (some (.ref b)) u14 u16 u17 u18) H12 := fun {d wd H12} e12 hd ew hm => by
              have J12 := J11.ex e12
              refine ⟨true, R.te, fun _ a2 ha2 => ?_, fun q => nomatch q⟩
              refine s_when (b := false) (et_is (et_or (et_test (evd_op (evd_pair (evd_str (ev_xf (v := .str wd) (ev_var rfl) hd rfl)) (evd_str (ev_xf (v := .str n) (ev_var rfl) hd rfl))) (evd_pair (x := (if n ∈ M.bad then ("spoilt" : Str) else ("missing" : Str))) (evd_str (ev_if (b := decide (n ∈ M.bad)) (et_is (et_test (ev_inS (neg := false) (ev_var rfl) (ev_var rfl) (sq_of J12.lw.bd))) rfl) (fun hb => ?_) (fun hb => ?_))) (evd_str (ev_var rfl)))))
                (fun _ => et_and (et_is (et_B (ev_din (k := .inr n) (ev_var rfl) (ev_var rfl) (.inl J12.lw.tx))) hlaw) fun _ => et_is (et_test (ev_inS (neg := true) (ev_var rfl) (ev_var rfl) (sq_of J12.lw.bd))) rfl)) ?_) (fun hb => nomatch hb) fun _ H13 e13 => ?_
              · rw [if_pos (of_decide_eq_true hb)]; exact ev_c
              · rw [if_neg (of_decide_eq_false hb)]; exact ev_c
              · rw [ew, decide_eq_false (fun h => h rfl)]
                exact hm
              · exact ⟨u14, u16, u17, u18, rfl, b, M, J12.ex e13⟩
            refine ⟨A, progS M, n, rfl, J11.sa, fit, fun t ht hdig H12 st12 k12 => ?_, fun hno d H12 e12 nd hd => ?_, fun hyes hsp d H12 e12 nd hd => ?_⟩
            · have hM : hasM M n = true := by
                show (hasA M.ents n && !decide (n ∈ M.bad)) = true
                rw [← hhp]
                unfold hasS
                rw [ht]
                exact decide_eq_true hdig
              obtain ⟨hm1, hm2⟩ := Bool.and_eq_true_iff.mp (show (hasA M.ents n && !decide (n ∈ M.bad)) = true from hM)
              have hnb : n ∉ M.bad := by simpa using hm2
              have et : t = txOf n := by
                rw [hprog] at ht
                cases q2 : M.ents.lookup n with
                | none => rw [q2] at ht; cases ht
                | some x =>
                  rw [q2] at ht
                  have : (if n ∈ M.bad then bdOf n else txOf n) = t := Option.some.inj ht
                  rw [if_neg hnb] at this
                  exact this.symm
              subst et
              have mem := hasA_mem.mp hm1
              rw [touch_prog mem] at st12
              have lw12 := J11.lawKp k12
              refine q_when (b := false) (et_is (et_or (et_is (et_dnin (k := .inr n) (ev_var rfl) (ev_var rfl) (.inl lw12.tx)) (by rw [hlaw])) fun _ => et_or (et_is (et_test (ev_inS (neg := false) (ev_var rfl) (ev_var rfl) (sq_of lw12.bd))) (show _ = decide (n ∈ M.bad) from rfl)) fun _ => et_test (ev_op (ev_var rfl) (ev_var rfl) (rv_ne rfl))) ?_) (fun hb => nomatch hb) fun _ H13 e13 => ?_
              · rw [hm1, decide_eq_false hnb, decide_eq_true rfl]
                rfl
              · refine s_lawtouch (lw12.ex e13) J.gd hm1 (fun _ => ev_var rfl) (fun _ => ev_var rfl) (fun _ => ev_var rfl) fun H14 lw14 k14 => ?_
                have kp : Kp (b :: (A.all ++ L.all)) H11 H14 := (kpA k12).trans ((Kp.of e13).trans (kpL k14))
                exact ⟨_, u16, u17, u18, rfl, b, touchM M n, J11.step kp ((st12.ex e13).kp k14 fun a ha m => J.dj a m ha) lw14 (J.gd.touch mem) rfl (.inl rfl)⟩
            · have hno : hasA M.ents n = false := by rw [← hkeys]; exact hno
              refine off e12 hd ?_ (by unfold hasM; rw [hno]; rfl)
              rw [if_neg]
              intro hb
              rw [hasA_mem.mpr (J.gd.bad n hb)] at hno
              cases hno
            · have hyes : hasA M.ents n = true := by rw [← hkeys]; exact hyes
              have hM : hasM M n = false := by
                show (hasA M.ents n && !decide (n ∈ M.bad)) = false
                rw [← hhp]
                exact hsp
              refine off e12 hd ?_ hM
              rw [if_pos]
              have : (hasA M.ents n && !decide (n ∈ M.bad)) = false := hM
              rw [hyes] at this
              simpa using this
          refine s_if (b := decide (V.int hw = V.int 5)) (et_test (ev_op (ev_var rfl) ev_c (rv_eq rfl))) (fun _ H11 e11 => ?_) (fun _ H11 e11 => ?_)
          · have J11 := J.ex ((e9.trans e10).trans e11)
            refine q_methL (ev_var rfl) J11.sa.ins rfl (el_lst (ea_cons (ev_var rfl) ea_nil) (by show 1 ≤ 100000; decide)) fun p H12 np e12 hp => ?_
            have J12 := J11.ex e12
            refine ⟨A, progS M, n, p, rfl, J12.sa, (by show M.pins.length ≤ 1000; omega), hp, fun H13 st13 k13 => ?_⟩
            rw [pin_prog] at st13
            have lw13 := J12.lawKp k13
            obtain ⟨m1, m2, m3, m4, m5, m6⟩ := lw13.ne
            refine s_dput (k := .inr n) (v := .int ((M.pins.lookup n).getD 0 + 1)) (ev_op (ev_is (ev_dget2K (k := .inr n) (z := .int 0) (ev_var rfl) (ev_var rfl) ev_c (.inl lw13.pi)) (show _ = V.int ((M.pins.lookup n).getD 0) by rw [valV_dk]; cases M.pins.lookup n <;> rfl)) ev_c rv_I0) (ev_var rfl) (ev_var rfl) lw13.pi (by rw [dk_len]; omega) fun H14 e14 => ?_
            rw [putK_dk]
            have i1 : L.p ∈ L.all := by simp [La.all]
            have k14 : Kp L.all H13 (upd H14 L.p (.dK (dk V.int (putA M.pins n ((M.pins.lookup n).getD 0 + 1))))) := (Kp.of e14).trans (Kp.upd i1)
            have bp : b ≠ L.p := fun z => J.bL (by rw [z]; exact i1)
            refine ⟨u14, u16, u17, u18, rfl, b, pinM M n, J12.step ((kpA k13).trans (kpL k14)) (st13.kp k14 fun a ha m => J.dj a m ha) ⟨?_, ?_, ?_, upd_same, ?_, lw13.nd⟩ (J.gd.pin nm1) rfl (.inl rfl)⟩
            · rw [upd_ne m3]; exact e14 _ _ lw13.st
            · rw [upd_ne m5]; exact e14 _ _ lw13.tx
            · rw [upd_ne m6]; exact e14 _ _ lw13.la
            · rw [upd_ne bp]; exact e14 _ _ lw13.bd
          refine s_if (b := decide (V.int hw = V.int 6) && hasA M.pins n) (et_and (et_test (ev_op (ev_var rfl) ev_c (rv_eq rfl))) fun _ => ?_) (fun hc H12 e12 => ?_) (fun _ H12 e12 => ?_)
          · exact et_is (et_B (ev_din (k := .inr n) (ev_var rfl) (ev_var rfl) (.inl (J.ex ((e9.trans e10).trans e11)).lw.pi))) hpin
          · have J12 := J.ex (((e9.trans e10).trans e11).trans e12)
            obtain ⟨_, hpn⟩ := Bool.and_eq_true_iff.mp hc
            obtain ⟨c0, hc0⟩ := Option.isSome_iff_exists.mp ((hasA_look M.pins).symm.trans hpn)
            have c1 : 1 ≤ c0 := J.gd.pos _ (mem_of_look hc0)
            refine q_methL (ev_var rfl) J12.sa.ins rfl (el_lst (ea_cons (ev_var rfl) ea_nil) (by show 1 ≤ 100000; decide)) fun p H13 np e13 hp => ?_
            have J13 := J12.ex e13
            refine ⟨A, progS M, n, p, rfl, J13.sa, (by show M.pins.length ≤ 1000; omega), hp, fun H14 st14 k14 => ?_⟩
            rw [unpin_prog] at st14
            have lw14 := J13.lawKp k14
            obtain ⟨m1, m2, m3, m4, m5, m6⟩ := lw14.ne
            refine q_dput (k := .inr n) (v := .int (c0 - 1)) (ev_op (ev_dgetK (k := .inr n) (v := .int c0) (ev_var rfl) (ev_var rfl) (.inl lw14.pi) (by rw [valV_dk, hc0]; rfl)) ev_c rv_I0) (ev_var rfl) (ev_var rfl) lw14.pi (by rw [dk_len]; omega) fun H15 e15 => ?_
            rw [putK_dk]
            have i1 : L.p ∈ L.all := by simp [La.all]
            have k15 : Kp L.all H14 (upd H15 L.p (.dK (dk V.int (putA M.pins n (c0 - 1))))) := (Kp.of e15).trans (Kp.upd i1)
            have bp : b ≠ L.p := fun z => J.bL (by rw [z]; exact i1)
            have s15 : upd H15 L.p (.dK (dk V.int (putA M.pins n (c0 - 1)))) L.s = some (.dK (kvS L.t L.l L.p M.clock b)) := by rw [upd_ne m3]; exact e15 _ _ lw14.st
            have t15 : upd H15 L.p (.dK (dk V.int (putA M.pins n (c0 - 1)))) L.t = some (.dK (dk V.str (lawT M))) := by rw [upd_ne m5]; exact e15 _ _ lw14.tx
            have l15 : upd H15 L.p (.dK (dk V.int (putA M.pins n (c0 - 1)))) L.l = some (.dK (dk V.int M.ents)) := by rw [upd_ne m6]; exact e15 _ _ lw14.la
            have d15 : upd H15 L.p (.dK (dk V.int (putA M.pins n (c0 - 1)))) b = some (.lst (M.bad.map V.str)) := by rw [upd_ne bp]; exact e15 _ _ lw14.bd
            have upn : (unpinM M n).pins = if c0 - 1 ≤ 0 then dropA (putA M.pins n (c0 - 1)) n else putA M.pins n (c0 - 1) := by
              show (if (M.pins.lookup n).getD 0 - 1 ≤ 0 then dropA (putA M.pins n ((M.pins.lookup n).getD 0 - 1)) n else putA M.pins n ((M.pins.lookup n).getD 0 - 1)) = _
              rw [hc0]
              rfl
            refine s_when (b := decide (V.int (c0 - 1) = V.int 0)) (et_test (ev_op (ev_dgetK (k := .inr n) (v := .int (c0 - 1)) (ev_var rfl) (ev_var rfl) (.inl upd_same) (by rw [valV_dk, look_putA]; rfl)) ev_c (rv_eq rfl))) (fun h0 H16 e16 => ?_) (fun h0 H16 e16 => ?_)
            · have h0 : c0 - 1 = 0 := V.int.inj (of_decide_eq_true h0)
              refine s_dpop (k := .inr n) (v := .int (c0 - 1)) (ev_var rfl) (ev_var rfl) (e16 _ _ upd_same) (by rw [valV_dk, look_putA]; rfl) fun H17 e17 => ?_
              rw [dropK_dk]
              have k17 : Kp L.all H14 (upd H17 L.p (.dK (dk V.int (dropA (putA M.pins n (c0 - 1)) n)))) := k15.trans ((Kp.of (e16.trans e17)).trans (Kp.upd i1))
              refine ⟨u14, u16, u17, u18, rfl, b, unpinM M n, J13.step ((kpA k14).trans (kpL k17)) (st14.kp k17 fun a ha m => J.dj a m ha) ⟨?_, ?_, ?_, ?_, ?_, lw14.nd⟩ (J.gd.unpin nm1) rfl (.inl rfl)⟩
              · rw [upd_ne m3]; exact (e16.trans e17) _ _ s15
              · rw [upd_ne m5]; exact (e16.trans e17) _ _ t15
              · rw [upd_ne m6]; exact (e16.trans e17) _ _ l15
              · rw [upd_same, upn, if_pos (by omega)]
              · rw [upd_ne bp]; exact (e16.trans e17) _ _ d15
            · have h0 : ¬ c0 - 1 = 0 := fun z => of_decide_eq_false h0 (by rw [z])
              have k16 : Kp L.all H14 H16 := k15.trans (Kp.of e16)
              refine ⟨u14, u16, u17, u18, rfl, b, unpinM M n, J13.step ((kpA k14).trans (kpL k16)) (st14.kp k16 fun a ha m => J.dj a m ha) ⟨e16 _ _ s15, e16 _ _ t15, e16 _ _ l15, ?_, e16 _ _ d15, lw14.nd⟩ (J.gd.unpin nm1) rfl (.inl rfl)⟩
              rw [upn, if_neg (by omega)]
              exact e16 _ _ upd_same
          refine s_if (b := decide (V.int hw = V.int 7) && (hasA M.ents n && !decide (n ∈ M.bad))) (et_and (et_test (ev_op (ev_var rfl) ev_c (rv_eq rfl))) fun _ => et_and ?_ fun _ => ?_) (fun hc H13 e13 => ?_) (fun _ H13 e13 => ?_)
          · exact et_is (et_B (ev_din (k := .inr n) (ev_var rfl) (ev_var rfl) (.inl (J.ex (((e9.trans e10).trans e11).trans e12)).lw.tx))) hlaw
          · exact et_is (et_test (ev_inS (neg := true) (ev_var rfl) (ev_var rfl) (sq_of (J.ex (((e9.trans e10).trans e11).trans e12)).lw.bd))) rfl
          · have J13 := J.ex ((((e9.trans e10).trans e11).trans e12).trans e13)
            obtain ⟨_, hpn⟩ := Bool.and_eq_true_iff.mp hc
            obtain ⟨hm1, hm2⟩ := Bool.and_eq_true_iff.mp hpn
            have hnb : n ∉ M.bad := by simpa using hm2
            have mem := hasA_mem.mp hm1
            have sm := spo_made kn hk
            rw [← nm2, ← nm3] at sm
            refine q_dput (k := .inr n) (v := .str (bdOf n)) (ev_if (b := !decide (V.str (revT (txOf n)) = V.str (txOf n))) (et_test (ev_op (ev_revS (ev_var rfl) (by omega)) (ev_var rfl) (rv_ne rfl))) (fun hb => ?_) (fun hb => ?_)) (ev_texts T (ev_var rfl) J13.sa) (ev_var rfl) J13.sa.tx (by rw [dk_len]; show (progS M).texts.length ≤ 50000; have := fit.few; omega) fun H14 e14 => ?_
            · have : ¬ revT (txOf n) = txOf n := fun z => by rw [z, decide_eq_true rfl] at hb; cases hb
              rw [if_neg this] at sm
              exact ev_is (ev_revS (ev_var rfl) (by omega)) (by rw [sm])
            · have : revT (txOf n) = txOf n := by
                have : decide (V.str (revT (txOf n)) = V.str (txOf n)) = true := by simpa using hb
                exact V.str.inj (of_decide_eq_true this)
              rw [if_pos this] at sm
              exact ev_is (ev_addS (ev_slS (ev_var rfl) (eo_some ev_c) eo_none (by omega)) ev_c (by
                have := cutS_length (txOf n) (some 1) none
                have : ("z" : Str).length = 1 := by decide +kernel
                omega)) (by rw [sm])
            · rw [putK_dk]
              have st14 : StA C (upd H14 A.dT (.dK (dk V.str (putA (progS M).texts n (bdOf n))))) A (progS (spoilM M n)) := by
                rw [← spoil_prog J.gd mem]
                exact (J13.sa.ex e14).setT
              have mA : A.dT ∈ A.all := by simp [Ad.all]
              have k14 : Kp A.all H13 (upd H14 A.dT (.dK (dk V.str (putA (progS M).texts n (bdOf n))))) := (Kp.of e14).trans (Kp.upd mA)
              have lw14 := J13.lawKp k14
              refine s_app lw14.bd (ev_var rfl) (ev_var rfl) (by rw [List.length_map]; omega) fun H15 e15 => ?_
              have k15 : Kp [b] H15 (upd H15 b (.lst (M.bad.map V.str ++ [.str n]))) := Kp.upd (by simp)
              refine ⟨u14, u16, u17, u18, rfl, b, spoilM M n, J13.step ((kpA k14).trans ((Kp.of e15).trans kpB)) ((st14.ex e15).kp k15 fun a ha m => J.bA (by rw [← List.mem_singleton.mp m]; exact ha)) ⟨?_, ?_, ?_, ?_, ?_, lw14.nd⟩ (J.gd.spoil mem hnb) rfl (.inl rfl)⟩
              · rw [upd_ne (fun z => J.bL (by rw [← z]; simp [La.all]))]; exact e15 _ _ lw14.st
              · rw [upd_ne (fun z => J.bL (by rw [← z]; simp [La.all]))]; exact e15 _ _ lw14.tx
              · rw [upd_ne (fun z => J.bL (by rw [← z]; simp [La.all]))]; exact e15 _ _ lw14.la
              · rw [upd_ne (fun z => J.bL (by rw [← z]; simp [La.all]))]; exact e15 _ _ lw14.pi
              · rw [upd_same]
                show _ = some (HO.lst ((M.bad ++ [n]).map V.str))
                rw [List.map_append]
                rfl
          have J13 := J.ex ((((e9.trans e10).trans e11).trans e12).trans e13)
          refine s_whenAny (et_test (ev_op (ev_var rfl) ev_c (rv_eq rfl))) (EvP.imp (evp_take (m := 3) (ev_var rfl) J13.tape) fun v H14 e14 ⟨d, ev, _⟩ => ⟨d, ev⟩) (fun _ H14 e14 => ?_) (fun H14 e14 => ?_)
          · have J14 := J13.ex e14
            have tne : tp ≠ L.t := fun z => by
              have := J14.tq
              rw [z, J14.lw.tx] at this
              cases this
            have cne : c ≠ L.t := fun z => J14.lw.out J14.cl (by rw [z]; simp [La.all])
            have tkx : ∀ {H' : Hp} {o : Obj}, Ex (upd H14 L.t (.frz o (.dK (dk V.str (lawT M))))) H' → TapeAt P w H' tp := fun {H' o} e => ⟨c, cs, e _ _ (by rw [upd_ne tne]; exact J14.tq), e _ _ (by rw [upd_ne cne]; exact J14.cl), J14.nn⟩
            have llen : (lawT M).length ≤ 8 := by
              rw [show (lawT M).length = M.ents.length from List.length_map _]
              exact few
            refine q_asgP (evp_lcAny (l := lawT M) (fun o => ev_var rfl) J14.lw.tx (by omega) (fun _ => rfl) (fun k o H15 Q2 e15 q2 => (evp_take (m := 2) (ev_var rfl) (tkx e15)) H15 (Ex.refl H15) _ fun v H16 e16 ⟨d, ev, _⟩ => by subst ev; exact ⟨rfl, _, rfl, q2 _ H16 e16⟩) (fun v H15 => ev_var rfl)) fun v H15 e15 ⟨pk, ks, ev, hpk, hks, lks⟩ => ?_
            subst ev
            have J15 := J14.ex e15
            obtain ⟨m1, m2, m3, m4, m5, m6⟩ := J15.lw.ne
            have pkt : pk ≠ L.t := fun z => J15.lw.out hpk (by rw [z]; simp [La.all])
            have at_ : ∀ (i : Nat) (k : Key) (v : V), (dk V.str (lawT M))[i]? = some (k, v) → ∃ e, M.ents[i]? = some e ∧ k = .inr e.1 := fun i k v hk => by
              unfold dk lawT at hk
              rw [List.map_map, List.getElem?_map] at hk
              cases q : M.ents[i]? with
              | none => rw [q] at hk; cases hk
              | some e =>
                rw [q] at hk
                cases hk
                exact ⟨e, rfl, rfl⟩
            have getD_at : ∀ (i : Nat) (e : Str × Int), M.ents[i]? = some e → M.ents.getD i ("", 0) = e := fun i e he => by rw [List.getD_eq_getElem?_getD, he]; rfl
            have hlist : pickI (dk V.str (lawT M)).length (fun i => !decide ((M.ents.getD i ("", 0)).1 ∈ ks) && !hasA M.pins (M.ents.getD i ("", 0)).1) (fun i => (M.ents.getD i ("", 0)).1) = (M.ents.filter fun e => !decide (e.1 ∈ ks) && !hasA M.pins e.1).map (·.1) := by
              rw [dk_len, show (lawT M).length = M.ents.length from List.length_map _]
              refine pickI_map M.ents _ _ _ _ (fun i e he => ?_) (fun i e he => ?_) <;> rw [getD_at i e he]
            have lenp := pickI_len (dk V.str (lawT M)).length (fun i => !decide ((M.ents.getD i ("", 0)).1 ∈ ks) && !hasA M.pins (M.ents.getD i ("", 0)).1) (fun i => (M.ents.getD i ("", 0)).1)
            have dkl : (dk V.str (lawT M)).length ≤ 8 := by rw [dk_len]; exact llen
            refine q_asgP (evd_sorted (α := Str) (evd_lcK (β := Str) (fun i => !decide ((M.ents.getD i ("", 0)).1 ∈ ks) && !hasA M.pins (M.ents.getD i ("", 0)).1) (fun i => (M.ents.getD i ("", 0)).1) (fun o => ev_var rfl) J15.lw.tx (by omega) (fun _ => rfl) (fun i k v o H16 hk e16 => ?_) (fun i k v o H16 hk hf e16 => ?_)) (by omega)) fun v H16 e16 ⟨pd, vs, ev, npd, hpd, dpd⟩ => ?_
            · obtain ⟨e, he, rfl⟩ := at_ i k v hk
              rw [getD_at i e he]
              have k16 : H16 pk = some (.lst (ks.map V.str)) := e16 _ _ (by rw [upd_ne pkt]; exact hpk)
              have p16 : H16 L.p = some (.dK (dk V.int M.pins)) := e16 _ _ (by rw [upd_ne m5.symm]; exact J15.lw.pi)
              refine et_and (et_is (et_test (ev_inS (neg := true) (ev_var rfl) (ev_var rfl) (sq_of k16))) rfl) fun _ => et_is (et_dnin (k := .inr e.1) (ev_var rfl) (ev_var rfl) (.inl p16)) ?_
              rw [valV_dk, hasA_look]
              cases M.pins.lookup e.1 <;> rfl
            · obtain ⟨e, he, rfl⟩ := at_ i k v hk
              rw [getD_at i e he]
              exact evd_str (ev_var rfl)
            subst ev
            rw [hlist] at dpd
            have evs := dpAll_strs dpd
            subst evs
            have edue : sortD ((M.ents.filter fun e => !decide (e.1 ∈ ks) && !hasA M.pins e.1).map (·.1)) = collM M ks := rfl
            rw [edue] at hpd
            have J16 := J15.ex e16
            obtain ⟨cn1, cn2⟩ := coll_names J.gd ks
            refine q_whenCall ?_
            refine t_methM (ev_var rfl) J16.sa.ins rfl fun H17 e17 => ?_
            have J17 := J16.ex e17
            refine evl_lcLd (α := Str) (β := Tup (Str × Str)) (xs := ks) (fun k => Tup.mk [(("p" : Str), k)]) (evd_v (ev_var rfl) (dt_strs (sq_of ((e16.trans e17) _ _ hpk)))) (by omega) (fun _ => rfl) (fun x v H18 _ dx e18 => evd_tup (eda_cons (evd_pair (evd_str ev_c) (evd_v (ev_var rfl) dx)) eda_nil) (by show 1 ≤ 1000; decide)) H17 (Ex.refl H17) _ fun v H18 e18 ⟨al, us, ev, hal, dal⟩ => ?_
            subst ev
            have J18 := J17.ex e18
            refine ⟨A, progS M, al, us, ks.map fun k => Tup.mk [(("p" : Str), k)], rfl, J18.sa, fit, hal, dal, by rw [sum_ks]; omega, fun v H19 st19 k19 dv => ?_⟩
            rw [flat_ks, coll_prog J.gd] at st19 dv
            rw [(dropAll_prog _ J.gd cn1 cn2).1] at st19
            have gdd := (dropAll_prog _ J.gd cn1 cn2).2
            have hpd18 := (e17.trans e18) _ _ hpd
            have hpd19 := k19 _ _ (fun m => (J18.sa.kind m hpd18).2 _ rfl) hpd18
            refine ⟨_, rfl, collM M ks, collM M ks, dv, dt_strs (sq_of hpd19), false, (by show V.bl (decide (collM M ks ≠ collM M ks)) = V.bl false; rw [decide_eq_false fun h => h rfl]), ?_⟩
            rw [if_neg (by decide)]
            have kp19 : Kp (A.all ++ L.all) H14 H19 := (Kp.of (((e15.trans e16).trans e17).trans e18)).trans (Kp.sub (fun a ha => List.mem_append_left _ ha) k19)
            refine s_forLn (ev_var rfl) (sq_of hpd19) (fun i2 σ'' H'' => ∃ u18' b', σ'' = sgL a tp q A L (some (.int (i : Nat))) (some (.int hw)) (some (.int kn)) (some (.str (txOf n))) (some (.str n)) (some (.ref L.t)) (some (.ref L.l)) (some (.ref L.p)) (some (.ref b)) u14 (some (.ref pk)) (some (.ref pd)) u18' ∧
                StA C H'' A (progS (dropAllM (collM M ks) M)) ∧ LwA H'' L b' (dropAllM ((collM M ks).take i2) M) ∧ (b' = b ∨ H14 b' = none) ∧ Kp (A.all ++ L.all) H14 H'' ∧ H'' pd = some (.lst ((collM M ks).map V.str)))
              (fun H20 e20 => ⟨u18, b, rfl, st19.ex e20, (J18.lawKp k19).ex e20, .inl rfl, kp19.trans (Kp.of e20), e20 _ _ hpd19⟩) (fun i2 σ'' H'' _ ⟨_, _, _, _, _, _, _, z⟩ => sq_of z) (fun i2 x σ'' H'' hx ⟨u18', b', es, st5, lw5, fb5, kp5, hg5⟩ => ?_) (fun σ'' H'' ⟨u18', b', es, st5, lw5, fb5, kp5, hg5⟩ => ?_)
            · subst es
              rw [List.getElem?_map] at hx
              cases q2 : (collM M ks)[i2]? with
              | none => rw [q2] at hx; cases hx
              | some c2 =>
                rw [q2] at hx
                cases hx
                have cm := cn2 c2 (List.mem_of_getElem? q2)
                have gdi := J.gd.dropAll ((collM M ks).take i2) ((List.take_sublist _ _).nodup cn1) fun k hk => cn2 k (List.mem_of_mem_take hk)
                refine s_lawdrop (n := c2) lw5 gdi (kd_dropAll _ cm (nodup_take cn1 q2)) (fun _ => ev_var rfl) (fun _ => ev_var rfl) (fun _ => ev_var rfl) (fun _ => ev_var rfl) (fun _ => rfl) (fun m H3 => et_test (ev_op (ev_var rfl) (ev_var rfl) (rv_ne rfl))) (fun v H3 => ev_var rfl) fun b'' H6 lw6 fr k6 => ?_
                have fr0 : H14 b'' = none := fresh_kp kp5 (fun a ha => by
                  rcases List.mem_append.mp ha with ha | ha
                  · exact st5.some ha
                  · exact lw5.some ha) fr
                refine ⟨some (.str c2), b'', rfl, st5.kp k6 fun a ha m => J.dj a m ha, ?_, .inr fr0, kp5.trans (Kp.sub (fun a ha => List.mem_append_right _ ha) k6), k6 _ _ (lw5.out hg5) hg5⟩
                rw [List.take_succ, q2]
                show LwA H6 L b'' (dropAllM ((collM M ks).take i2 ++ [c2]) M)
                rw [dropAll_append]
                exact lw6
            · subst es
              rw [List.length_map, List.take_length] at lw5
              exact ⟨u14, some (.ref pk), some (.ref pd), u18', rfl, b', dropAllM (collM M ks) M, J14.step (Kp.sub (fun a ha => List.mem_cons_of_mem _ ha) kp5) st5 lw5 gdd (quota_dropAllM _ _) fb5⟩
          · exact ⟨u14, u16, u17, u18, rfl, b, M, J13.ex e14⟩
        · subst es
          refine q_asg (ev_gB (ev_var rfl) J2.lw) fun H10 e10 => ?_
          have J3 := J2.ex e10
          have few2 := J2.gd.few
          have bfew2 := J2.gd.bfew
          have fit2 := J2.gd.fit
          have hhp2 := has_prog J2.gd nm1
          have hlaw2 : (valV (dk V.str (lawT M2)) (Sum.inr n)).isSome = hasA M2.ents n := by
            rw [valV_dk, hasA_look, show (lawT M2).lookup n = (M2.ents.lookup n).map fun _ => txOf n from look_map (fun k _ => txOf k) n M2.ents]
            cases M2.ents.lookup n <;> rfl
          have hs1 : ∀ σ : L2.St, σ[3]? = some (some (.ref A.x)) → EvP (tCB rSortD (tCons (tFld K (tVar 3) "texts") tNil)) σ H10 fun v H2 => ∃ ys : List Str, Dt K H2 v ys ∧ (ys.Perm ((progS M2).texts.map fun e => e.1) ∧ sortedS ys = true) := fun σ h => EvP.imp (evd_sortDk (K := K) (f := V.str) (l := (progS M2).texts) (ev_texts T (ev_var h) J3.sa) J3.sa.tx (by show (M2.ents.map _).length < 64; rw [List.length_map]; omega)) fun v H2 _ z => z
          have hs2 : ∀ σ : L2.St, σ[10]? = some (some (.ref L.t)) → EvP (tCB rSortD (tCons (tVar 10) tNil)) σ H10 fun v H2 => ∃ ys : List Str, Dt K H2 v ys ∧ (ys.Perm ((lawT M2).map fun e => e.1) ∧ sortedS ys = true) := fun σ h => EvP.imp (evd_sortDk (K := K) (f := V.str) (l := lawT M2) (ev_var h) J3.lw.tx (by rw [lawT, List.length_map]; omega)) fun v H2 _ z => z
          refine q_when (b := false) (et_is (et_or (et_neP2 (hs1 _ rfl) (hs2 _ rfl) (fun a b pa pb => ?_))
            fun _ => et_or (et_test (ev_op (ev_used T (ev_var rfl) J3.sa) (ev_sumT J3.lw J3.gd (fun _ => ev_var rfl) (fun _ => rfl) (fun _ _ => ev_var rfl) (fun _ _ => ev_var rfl)) (rv_ne rfl)))
            fun _ => et_or (et_test (ev_op (ev_used T (ev_var rfl) J3.sa) (ev_var rfl) rv_I0))
            fun _ => et_test (evd_op (x := sortD M2.bad) (y := sortD M2.bad) (fun H11 e11 Q2 q2 => ?_) (EvP.imp (evd_sorted (α := Str) (evd_v (ev_var rfl) (dt_strs (sq_of J3.lw.bd))) (by omega)) fun v H11 e11 ⟨p, vs, ev, _, hp, dp⟩ => by subst ev; exact dt_lst (sq_of hp) dp))) ?_) (fun hb => nomatch hb) fun _ H11 e11 => ?_
          · rw [progS_keys] at pa
            rw [lawT_keys] at pb
            exact sortedS_one pa.2 pb.2 pa.1 pb.1
          · refine t_meth (ev_var rfl) (J3.ex e11).sa.ins rfl ea_nil fun H12 e12 => ⟨A, progS M2, rfl, (J3.ex (e11.trans e12)).sa, fit2, fun v H13 e13 dv => ?_⟩
            rw [spo_prog J2.gd] at dv
            exact q2 v H13 (e12.trans e13) dv
          · have r := J2.gd.room
            rw [J2.qt] at r
            have u1 : (progS M2).used = usedM M2.ents := rfl
            rw [u1, decide_eq_true rfl, decide_eq_false (show ¬ q < usedM M2.ents by omega), decide_eq_false (fun h : sortD M2.bad ≠ sortD M2.bad => h rfl)]
            rfl
          have J4 := J3.ex e11
          refine s_when (b := false) (et_is (et_test (ev_op (ev_has (n := n) (ev_var rfl) (ev_var rfl) J4.sa fun t ht => fit2.lt ht) (ev_andV (ev_is (ev_din (k := .inr n) (ev_var rfl) (ev_var rfl) (.inl J4.lw.tx)) (by rw [hlaw2])) fun _ => ev_is (ev_inS (neg := true) (ev_var rfl) (ev_var rfl) (sq_of J4.lw.bd)) (show _ = V.bl (!decide (n ∈ M2.bad)) from rfl)) (rv_ne rfl))) ?_) (fun hb => nomatch hb) fun _ H12 e12 => ?_
          · rw [hhp2, decide_eq_true rfl]
            rfl
          · exact ⟨_, _, _, _, _, _, _, _, _, _, _, _, _, rfl, b2, M2, J4.ex e12⟩
      · obtain ⟨u5, u6, u7, u8, u9, u10, u11, u12, u13, u14, u16, u17, u18, es, _⟩ := z
        exact ⟨u5, u6, u7, u8, u9, u10, u11, u12, u13, u14, u16, u17, u18, es⟩
    · subst es
      intro pso hpso
      refine ⟨upd_same, dk V.str [(("b" : Str), ("two" : Str)), ("a", "one")], rfl, (by show 2 ≤ 15; decide), ?_⟩
      have emg : mergeK [] (dk V.str [(("b" : Str), ("two" : Str)), ("a", "one")]) = dk V.str [(("b" : Str), ("two" : Str)), ("a", "one")] := by
        have nd : ((dk V.str [(("b" : Str), ("two" : Str)), ("a", "one")]).map (·.1)).Nodup := show ([("b" : Str), "a"].map fun s => (Sum.inr s : Key)).Nodup by decide +kernel
        rw [merge_new _ _ (fun _ _ m => absurd m (by simp)) nd, List.nil_append]
      rw [emg, upd_upd]
      refine t_callQ (ea_cons (ev_var rfl) ea_nil) fun Ha ea => ?_
      refine ⟨pso, "one", "two", rfl, ea _ _ upd_same, by decide +kernel, by decide +kernel, fun vm Hb eb dm => ?_⟩
      have so_b := eb _ _ (ea _ _ upd_same)
      generalize hn1 : digS "one" = n1 at dm
      generalize hn2 : digS "two" = n2 at dm
      have hne : n1 ≠ n2 := by
        rw [← hn1, ← hn2]
        decide +kernel
      have l1 : ("one" : Str).length = 3 := by decide +kernel
      have l2 : ("two" : Str).length = 3 := by decide +kernel
      refine q_when (b := false) (et_is (et_test (evd_op (evd_v (ev_var rfl) dm) (evd_tup (xs := [(("a" : Str), n1), ("b", n2)]) (eda_cons (evd_pair (evd_str ev_c) (evd_str (ev_is (ev_call (sp := spDig) (z := .str (digS "one")) (ea_cons ev_c ea_nil) fun H1 e Q q1 E => ⟨"one", rfl, by omega, q1 H1 (Ex.refl H1)⟩) (by rw [hn1])))) (eda_cons (evd_pair (evd_str ev_c) (evd_str (ev_is (ev_call (sp := spDig) (z := .str (digS "two")) (ea_cons ev_c ea_nil) fun H1 e Q q1 E => ⟨"two", rfl, by omega, q1 H1 (Ex.refl H1)⟩) (by rw [hn2])))) eda_nil)) (by show 2 ≤ 1000; decide)))) ?_) (fun hb => nomatch hb) fun _ Hc ec => ?_
      · exact decide_eq_false fun h => h rfl
      refine fun xw dxw hxw hdxw ndw => ⟨xw, dxw, 100, rfl, upd_same, fun W Hd aW bW st0 kpw fTw fLw fPw => ⟨rfl, ?_⟩⟩
      subst aW
      have so_c := ec _ _ so_b
      have dm_c := dm.ex ec
      have kcd : Ex Hc Hd := fun d o hd => kpw d o (ne_of_none hd hxw) (by rw [upd_ne (ne_of_none hd hxw), upd_ne (ne_of_none hd hdxw)]; exact hd)
      have soW : pso ∉ W.all := fun m => by
        have m' : pso = W.x ∨ pso = W.dT ∨ pso = W.dL ∨ pso = W.dP := by simpa [Ad.all] using m
        have hs2 : upd (upd Hc dxw (.own W.x)) W.x (.ins C dxw []) pso = some (.dK (dk V.str [(("b" : Str), ("two" : Str)), ("a", "one")])) := by
          rw [upd_ne (ne_of_none so_c hxw), upd_ne (ne_of_none so_c hdxw)]
          exact so_c
        rcases m' with z | z | z | z
        · rw [z, hxw] at so_c; cases so_c
        · rw [z, fTw] at hs2; cases hs2
        · rw [z, fLw] at hs2; cases hs2
        · rw [z, fPw] at hs2; cases hs2
      have so_d := kcd _ _ so_c
      have dm_d := dm_c.ex kcd
      have fit0 : Fit (emptyS 100) := ⟨rfl, by simp [emptyS], by show 0 ≤ 1000; decide, by show 0 ≤ 1000; decide, fun e he => absurd he (by simp [emptyS])⟩
      have mid0 : midS (emptyS 100) "one" = emptyS 100 := by
        unfold midS
        rw [show preS (emptyS 100) (digS "one") = emptyS 100 from rfl]
        exact room_id _ _ (by show ¬ (100 : Int) < 0 + (("one" : Str).length : Nat); rw [l1]; decide)
      -- one
      refine q_meth (ev_var rfl) st0.ins rfl (ea_cons ev_c ea_nil) fun He ee => ⟨W, emptyS 100, "one", rfl, st0.ex ee, fit0, by omega, fun h => (by cases h), fun _ _ Hf st1 k1 => ?_, fun _ h => ?_⟩
      · rw [mid0, hn1] at st1
        have eS1 : touchS (addS (emptyS 100) n1 "one") n1 = ⟨[(n1, "one")], 100, 3, 1, [(n1, 1)], []⟩ := rfl
        rw [eS1] at st1
        have so_f := k1 _ _ soW (ee _ _ so_d)
        have dm_f : Dt K Hf vm (Tup.mk [(("a" : Str), n1), ("b", n2)]) := (dm_d.ex ee).ux (Kp.ux (st0.ex ee) k1)
        have fit1 : Fit ⟨[(n1, "one")], 100, 3, 1, [(n1, 1)], []⟩ := ⟨rfl, by simp, by show 1 ≤ 1000; decide, by show 0 ≤ 1000; decide, fun e he => by rw [List.mem_singleton.mp he]; show ("one" : Str).length ≤ 1000; omega⟩
        have has1 : hasS ⟨[(n1, "one")], 100, 3, 1, [(n1, 1)], []⟩ n2 = false := by
          unfold hasS
          have : List.lookup n2 [(n1, ("one" : Str))] = none := by
            rw [List.lookup_cons, show (n2 == n1) = false by simpa using fun z => hne z.symm]
            rfl
          show (match List.lookup n2 [(n1, ("one" : Str))] with | some t => decide (digS t = n2) | none => false) = false
          rw [this]
        have hasN : hasA [(n1, ("one" : Str))] n2 = false := by
          show (decide (n1 = n2) || false) = false
          rw [decide_eq_false hne]
          rfl
        have who : ∀ {He : Hp} {S : SS} {σ : L2.St}, StA C He W S → Fit S → Dt K He vm (Tup.mk [(("a" : Str), n1), ("b", n2)]) → σ[22]? = some (some (.ref W.x)) → σ[21]? = some (some vm) → Ev (tCall (spWho K C) [] E0 (tCons (tVar 22) (tCons (tVar 21) tNil))) σ He (.bl (hasS S n1 && (hasS S n2 && true))) := fun {He S σ} s f d g1 g2 =>
          ev_call (ea_cons (ev_var g1) (ea_cons (ev_var g2) ea_nil)) fun H1 e Q q1 E => ⟨W, S, vm, [(("a" : Str), n1), ("b", n2)], rfl, s.ex e, f, d.ex e, by show 2 ≤ 1000; decide, q1⟩
        refine q_when (b := false) (et_is (et_B (who st1 fit1 dm_f rfl rfl)) (by rw [has1]; simp)) (fun hb => nomatch hb) fun _ Hg eg => ?_
        -- two
        have mid1 : midS ⟨[(n1, "one")], 100, 3, 1, [(n1, 1)], []⟩ "two" = ⟨[(n1, "one")], 100, 3, 1, [(n1, 1)], []⟩ := by
          unfold midS
          rw [hn2, show preS ⟨[(n1, "one")], 100, 3, 1, [(n1, 1)], []⟩ n2 = ⟨[(n1, "one")], 100, 3, 1, [(n1, 1)], []⟩ by unfold preS; rw [if_neg (by show ¬ hasA [(n1, ("one" : Str))] n2 = true; rw [hasN]; decide)]]
          exact room_id _ _ (by show ¬ (100 : Int) < 3 + (("two" : Str).length : Nat); rw [l2]; decide)
        refine q_meth (ev_var rfl) (st1.ex eg).ins rfl (ea_cons ev_c ea_nil) fun Hh eh => ⟨W, _, "two", rfl, (st1.ex eg).ex eh, fit1, by omega, fun h => (by rw [hn2, has1] at h; cases h), fun _ _ Hi st2 k2 => ?_, fun _ h => ?_⟩
        · rw [mid1, hn2] at st2
          have eS2 : touchS (addS ⟨[(n1, "one")], 100, 3, 1, [(n1, 1)], []⟩ n2 "two") n2 = ⟨[(n1, "one"), (n2, "two")], 100, 6, 2, [(n1, 1), (n2, 2)], []⟩ := by
            unfold touchS addS
            have p1 : putA [(n1, ("one" : Str))] n2 ("two" : Str) = [(n1, ("one" : Str)), (n2, ("two" : Str))] := putA_new (fun z => hne (by simpa using z : n2 = n1).symm)
            have p2 : putA [(n1, (1 : Int))] n2 (1 + 1) = [(n1, 1), (n2, 2)] := putA_new (fun z => hne (by simpa using z : n2 = n1).symm)
            show SS.mk (putA [(n1, ("one" : Str))] n2 ("two" : Str)) 100 (3 + (("two" : Str).length : Nat)) (1 + 1) (putA [(n1, (1 : Int))] n2 (1 + 1)) [] = _
            rw [p1, p2, l2]
            rfl
          rw [eS2] at st2
          have so_i := k2 _ _ soW ((eg.trans eh) _ _ so_f)
          have dm_i : Dt K Hi vm (Tup.mk [(("a" : Str), n1), ("b", n2)]) := (dm_f.ex (eg.trans eh)).ux (Kp.ux ((st1.ex eg).ex eh) k2)
          have fit2 : Fit ⟨[(n1, "one"), (n2, "two")], 100, 6, 2, [(n1, 1), (n2, 2)], []⟩ := ⟨rfl, by simpa using hne, by show 2 ≤ 1000; decide, by show 0 ≤ 1000; decide, fun e he => by
            rcases List.mem_cons.mp he with z | z
            · rw [z]; show ("one" : Str).length ≤ 1000; omega
            · rw [List.mem_singleton.mp z]; show ("two" : Str).length ≤ 1000; omega⟩
          have k1' : List.lookup n1 [(n1, ("one" : Str)), (n2, "two")] = some ("one" : Str) := by
            rw [List.lookup_cons, show (n1 == n1) = true by simp]
          have k2' : List.lookup n2 [(n1, ("one" : Str)), (n2, "two")] = some ("two" : Str) := by
            rw [List.lookup_cons, show (n2 == n1) = false by simpa using fun z => hne z.symm]
            show List.lookup n2 [(n2, ("two" : Str))] = _
            rw [List.lookup_cons, show (n2 == n2) = true by simp]
          have h1' : hasS ⟨[(n1, "one"), (n2, "two")], 100, 6, 2, [(n1, 1), (n2, 2)], []⟩ n1 = true := by
            unfold hasS
            show (match List.lookup n1 [(n1, ("one" : Str)), (n2, "two")] with | some t => decide (digS t = n1) | none => false) = true
            rw [k1']
            exact decide_eq_true hn1
          have h2' : hasS ⟨[(n1, "one"), (n2, "two")], 100, 6, 2, [(n1, 1), (n2, 2)], []⟩ n2 = true := by
            unfold hasS
            show (match List.lookup n2 [(n1, ("one" : Str)), (n2, "two")] with | some t => decide (digS t = n2) | none => false) = true
            rw [k2']
            exact decide_eq_true hn2
          have w2 := who st2 fit2 dm_i (σ := [some (.ref a), some (.ref tp), some (.int q), some (.ref A.x), some (.ref s0), u5, u6, u7, u8, u9, u10, u11, u12, u13, u14, none, u16, u17, u18, none, some (.ref pso), some vm, some (.ref W.x)]) rfl rfl
          rw [h1', h2'] at w2
          refine w2 Hi (Ex.refl Hi) _ fun Hj ej => ⟨true, rfl, ?_⟩
          refine t_callQ (ea_cons (ev_var rfl) (ea_cons (ev_var rfl) ea_nil)) fun Hk ek => ?_
          refine ⟨W, _, vm, n1, n2, "one", "two", rfl, (st2.ex ej).ex ek, fit2, (dm_i.ex ej).ex ek, k1', hn1, k2', hn2, fun p Hl kpl npl hpl => ?_⟩
          have so_l := kpl _ _ soW ((ej.trans ek) _ _ so_i)
          refine ⟨_, rfl, p, pso, _, _, rfl, rfl, hpl, so_l, rfl, fun kv hkv => ?_, kk _⟩
          have hkv' : kv = ((Sum.inr "a" : Key), V.str "one") ∨ kv = ((Sum.inr "b" : Key), V.str "two") := by simpa [dk] using hkv
          rcases hkv' with z | z
          · rw [z]
            exact ⟨(vN (by decide +kernel)).trans vS, rfl⟩
          · rw [z]
            exact ⟨vS, rfl⟩
        · exfalso
          rw [mid1] at h
          have h : (100 : Int) < 3 + (("two" : Str).length : Nat) := h
          rw [l2] at h
          omega
      · exfalso
        rw [mid0] at h
        have h : (100 : Int) < 0 + (("one" : Str).length : Nat) := h
        rw [l1] at h
        omega
end
end Mx
set_option Elab.async false
set_option linter.all false
set_option maxRecDepth 100000
set_option maxHeartbeats 4000000
namespace Mx
open PySem PySem.Spec PyProof.Rows L2 Evl TL
open PySem.W (Datum DatumOrd Tup)
/-! ### the end -/
abbrev sIT : Stmt := inClass (topS 8) 0
theorem look_in {α : Type} {x : Str} {v : α} : ∀ {l : List (Str × α)}, l.lookup x = some v → (x, v) ∈ l
  | (k, u) :: r, h => by
    by_cases e : x = k
    · rw [List.lookup_cons, e] at h
      have h : some u = some v := by simpa using h
      cases h
      rw [e]
      exact List.mem_cons_self ..
    · have h3 : (x == k) = false := by simpa using e
      rw [List.lookup_cons, h3] at h
      exact List.mem_cons_of_mem _ (look_in h)
theorem free_by {l : List (Str × NameKind)} (h : ∀ p ∈ l, p.2 = .free → p.1 = ("__class__" : Str)) (x : Str) (e : l.lookup x = some .free) : x = ("__class__" : Str) := h _ (look_in e) rfl
theorem bindsK {K : PySem.W.Frag} {fd : FuncData} {p1 p2 p3 : Str} (h : ∀ a b c : Value, bindArgs fd ⟨[a, b, c], []⟩ = pure ([p1, p2, p3].zip [a, b, c])) : Binds K fd [p1, p2, p3] [] := .all fun us hl => match us, hl with | [a, b, c], _ => h a b c
theorem cx_false {P : Program} {w : World} {H : Hp} {s s' : Shared} {e : Value} (z : L2.CX P w [] H s (fun _ _ _ => False) e s') : False := by
  obtain ⟨_, _, _, _, _, _, _, _, _, _, _, _, z⟩ := z
  exact z
theorem sIT_scope : SScope ["self", "word", "name"] (defScope sIT) := ⟨rfl, rfl, rfl, by decide +kernel, by decide +kernel, by decide +kernel, free_by (by decide +kernel), rfl, rfl⟩
theorem exm_self {K : PySem.W.Frag} {S : Addr} (h1 : PySem.W.subIn K (.ref S) (.type "BaseException") = some true) (h2 : PySem.W.isClsIn K S = true) (h3 : PySem.W.typeIn K (.ref S) = some (.type "type")) (h4 : PySem.W.subIn K (.ref S) (.ref S) = some true) :
    PySem.W.exmOne K (.ref S) (.ref S) = some true := by
  have e1 : (PySem.W.subIn K (.ref S) (.type "BaseException") == some true) = true := by rw [h1] <;> rfl
  have e2 : ((PySem.W.clsIn K S).isSome && PySem.W.typeIn K (.ref S) == some (.type "type")) = true := by
    have h2' : (PySem.W.clsIn K S).isSome = true := h2
    rw [h2', h3] <;> rfl
  show (if (PySem.W.subIn K (.ref S) (.type "BaseException") == some true) = true then (if ((PySem.W.clsIn K S).isSome && PySem.W.typeIn K (.ref S) == some (.type "type")) = true then PySem.W.subIn K (.ref S) (.ref S) else none) else none) = some true
  rw [if_pos e1, if_pos e2]
  exact h4
theorem all_mk {P : Program} {w : World} {K : PySem.W.Frag} {h : Heap} {mg : Str → Option Value} {fa CT fIT ccT cdaT CS : Addr} {f0 f1 f2 f3 f4 f5 f6 f7 f8 f9 f10 f11 f12 f13 f14 f15 f16 f17 f18 f19 : Addr}
    {nmT qT : Str} {NT : Addr} {bsT bmT : List Value} {snT : List Str} {subT : List Value} {abT : Bool} {colT : Option Bool} {ddT : Option Addr} {m0T m1T m2T m3T m5T : Option Value} {odIT anIT ddcT cldT : Option Addr} {slIT slcT cslT : Array (Option Value)} {ocIT kVIT dcIT pmIT ctIT cc0T clT : Value} {vscT : Array Value} {fileT : Str} {tfT : Tok}
    {od0 an0 : Option Addr} {sl0 : Array (Option Value)} {oc0 kV0 dc0 pm0 cd0 ct0 : Value}
    {od1 an1 : Option Addr} {sl1 : Array (Option Value)} {oc1 kV1 dc1 pm1 cd1 ct1 : Value}
    {od2 an2 : Option Addr} {sl2 : Array (Option Value)} {oc2 kV2 dc2 pm2 cd2 ct2 : Value}
    {od3 an3 : Option Addr} {sl3 : Array (Option Value)} {oc3 kV3 dc3 pm3 cd3 ct3 : Value}
    {od4 an4 : Option Addr} {sl4 : Array (Option Value)} {oc4 kV4 dc4 pm4 cd4 ct4 : Value}
    {od5 an5 : Option Addr} {sl5 : Array (Option Value)} {oc5 kV5 dc5 pm5 cd5 ct5 : Value}
    {od6 an6 : Option Addr} {sl6 : Array (Option Value)} {oc6 kV6 dc6 pm6 cd6 ct6 : Value}
    {od7 an7 : Option Addr} {sl7 : Array (Option Value)} {oc7 kV7 dc7 pm7 cd7 ct7 : Value}
    {od8 an8 : Option Addr} {sl8 : Array (Option Value)} {oc8 kV8 dc8 pm8 cd8 ct8 : Value}
    {od9 an9 : Option Addr} {sl9 : Array (Option Value)} {oc9 kV9 dc9 pm9 cd9 ct9 : Value}
    {od10 an10 : Option Addr} {sl10 : Array (Option Value)} {oc10 kV10 dc10 pm10 cd10 ct10 : Value}
    {od11 an11 : Option Addr} {sl11 : Array (Option Value)} {oc11 kV11 dc11 pm11 cd11 ct11 : Value}
    {od12 an12 : Option Addr} {sl12 : Array (Option Value)} {oc12 kV12 dc12 pm12 cd12 ct12 : Value}
    {od13 an13 : Option Addr} {sl13 : Array (Option Value)} {oc13 kV13 dc13 pm13 cd13 ct13 : Value}
    {od14 an14 : Option Addr} {sl14 : Array (Option Value)} {oc14 kV14 dc14 pm14 cd14 ct14 : Value}
    {od15 an15 : Option Addr} {sl15 : Array (Option Value)} {oc15 kV15 dc15 pm15 cd15 ct15 : Value}
    {od16 an16 : Option Addr} {sl16 : Array (Option Value)} {oc16 kV16 dc16 pm16 cd16 ct16 : Value}
    {od17 an17 : Option Addr} {sl17 : Array (Option Value)} {oc17 kV17 dc17 pm17 cd17 ct17 : Value}
    {od18 an18 : Option Addr} {sl18 : Array (Option Value)} {oc18 kV18 dc18 pm18 cd18 ct18 : Value}
    {od19 an19 : Option Addr} {sl19 : Array (Option Value)} {oc19 kV19 dc19 pm19 cd19 ct19 : Value}
    {tP tB tS : Tok} (X : K.In h) (G : h.Ns mainGlobals mg) (hfa : mg "law" = some (.ref fa))
    (eCT : PySem.W.nsIn K mainGlobals "StoreError" = some (some (.ref CT))) (xLT : K.lookup CT = some (excClassObj nmT qT CT NT bsT bmT true snT subT abT colT ddT m0T m1T m2T m3T m5T "ValueError.__new__")) (bmRT : PySem.HandSPX.refsVE bmT = true) (saT : PySem.W.findIn K (.ref CT) "__setattr__" = some (some (.builtin "object.__setattr__"))) (gaT : PySem.W.findIn K (.ref CT) "__getattribute__" = some (some (.builtin "BaseException.__getattribute__"))) (ggT : PySem.W.findIn K (.ref CT) "__getattr__" = some none) (n1T : PySem.W.findIn K (.ref CT) "word" = some none) (n2T : PySem.W.findIn K (.ref CT) "name" = some none) (i1T : PySem.W.findIn K (.ref CT) "__init__" = some (some (.ref fIT))) (itT : PySem.W.typeIn K (.ref fIT) = some (.type "function")) (iLT : K.lookup fIT = some ⟨ocIT, odIT, .func (PySem.W.ksFn "__init__" "StoreError.__init__" (defArgs sIT) (defBody sIT) (defScope sIT) .none kVIT dcIT pmIT anIT (.ref cdaT) ctIT ccT), slIT⟩) (icT : PySem.W.codeIn K (.ref cdaT) "StoreError.__init__" = true) (coT : K.lookup cdaT = some ⟨cc0T, ddcT, .fields vscT, slcT⟩) (cvT : vscT[2]? = some (.str fileT tfT)) (cfT : (P.main.file == fileT) = true) (ceT : K.lookup ccT = some ⟨clT, cldT, .cell (some (.ref CT)), cslT⟩) (mrT : PySem.W.mroIn K CT (.ref CT) = some true) (svT : PySem.W.subIn K (.ref CT) (.type "ValueError") = some true) (alT : PySem.W.ks_superIn K CT CT "__init__" = some (some (.builtin "ValueError.__init__"))) (kCT : PySem.W.keepIn K (.ref CT) = true) (xBT : PySem.W.subIn K (.ref CT) (.type "BaseException") = some true) (tCT : PySem.W.typeIn K (.ref CT) = some (.type "type")) (hCT : PySem.W.hasDictIn K CT = true) (jCT : PySem.W.isClsIn K CT = true) (sCT : PySem.W.subIn K (.ref CT) (.ref CT) = some true)
    (a0 : PySem.W.nsIn K mainGlobals "number_of" = some (some (.ref f0))) (l0 : K.lookup f0 = some ⟨oc0, od0, .func (PySem.W.fnOf "number_of" "number_of" (defArgs sNum) (defBody sNum) (defScope sNum) .none kV0 dc0 pm0 an0 cd0 ct0), sl0⟩) (c0 : PySem.W.codeIn K cd0 "number_of" = true) (k0 : PySem.W.keepIn K (.ref f0) = true)
    (a1 : PySem.W.nsIn K mainGlobals "digest" = some (some (.ref f1))) (l1 : K.lookup f1 = some ⟨oc1, od1, .func (PySem.W.fnOf "digest" "digest" (defArgs sDig) (defBody sDig) (defScope sDig) .none kV1 dc1 pm1 an1 cd1 ct1), sl1⟩) (c1 : PySem.W.codeIn K cd1 "digest" = true) (k1 : PySem.W.keepIn K (.ref f1) = true)
    (a2 : PySem.W.nsIn K mainGlobals "manifest_of" = some (some (.ref f2))) (l2 : K.lookup f2 = some ⟨oc2, od2, .func (PySem.W.fnOf "manifest_of" "manifest_of" (defArgs sMan) (defBody sMan) (defScope sMan) .none kV2 dc2 pm2 an2 cd2 ct2), sl2⟩) (c2 : PySem.W.codeIn K cd2 "manifest_of" = true) (k2 : PySem.W.keepIn K (.ref f2) = true)
    (a3 : PySem.W.nsIn K mainGlobals "texts_of" = some (some (.ref f3))) (l3 : K.lookup f3 = some ⟨oc3, od3, .func (PySem.W.fnOf "texts_of" "texts_of" (defArgs sTof) (defBody sTof) (defScope sTof) .none kV3 dc3 pm3 an3 cd3 ct3), sl3⟩) (c3 : PySem.W.codeIn K cd3 "texts_of" = true) (k3 : PySem.W.keepIn K (.ref f3) = true)
    (a4 : PySem.W.nsIn K mainGlobals "is_whole" = some (some (.ref f4))) (l4 : K.lookup f4 = some ⟨oc4, od4, .func (PySem.W.fnOf "is_whole" "is_whole" (defArgs sWho) (defBody sWho) (defScope sWho) .none kV4 dc4 pm4 an4 cd4 ct4), sl4⟩) (c4 : PySem.W.codeIn K cd4 "is_whole" = true) (k4 : PySem.W.keepIn K (.ref f4) = true)
    (a5 : PySem.W.nsIn K mainGlobals "_law_tape" = some (some (.ref f5))) (l5 : K.lookup f5 = some ⟨oc5, od5, .func (PySem.W.fnOf "_law_tape" "_law_tape" (defArgs sTape) (defBody sTape) (defScope sTape) .none kV5 dc5 pm5 an5 cd5 ct5), sl5⟩) (c5 : PySem.W.codeIn K cd5 "_law_tape" = true) (k5 : PySem.W.keepIn K (.ref f5) = true)
    (a6 : PySem.W.nsIn K mainGlobals "_law_take" = some (some (.ref f6))) (l6 : K.lookup f6 = some ⟨oc6, od6, .func (PySem.W.fnOf "_law_take" "_law_take" (defArgs sTake) (defBody sTake) (defScope sTake) .none kV6 dc6 pm6 an6 cd6 ct6), sl6⟩) (c6 : PySem.W.codeIn K cd6 "_law_take" = true) (k6 : PySem.W.keepIn K (.ref f6) = true)
    (a7 : PySem.W.nsIn K mainGlobals "_law_put" = some (some (.ref f7))) (l7 : K.lookup f7 = some ⟨oc7, od7, .func (PySem.W.fnOf "_law_put" "_law_put" (defArgs sLput) (defBody sLput) (defScope sLput) .none kV7 dc7 pm7 an7 cd7 ct7), sl7⟩) (c7 : PySem.W.codeIn K cd7 "_law_put" = true) (k7 : PySem.W.keepIn K (.ref f7) = true)
    (a8 : PySem.W.nsIn K mainGlobals "law" = some (some (.ref f8))) (l8 : K.lookup f8 = some ⟨oc8, od8, .func (PySem.W.fnOf "law" "law" (defArgs sLaw) (defBody sLaw) (defScope sLaw) .none kV8 dc8 pm8 an8 cd8 ct8), sl8⟩) (c8 : PySem.W.codeIn K cd8 "law" = true) (k8 : PySem.W.keepIn K (.ref f8) = true)
    (gC : PySem.W.nsIn K mainGlobals "Store" = some (some (.ref CS))) (cPg : PySem.W.plainGet K CS Str.empty = true) (cHd : PySem.W.hasDictIn K CS = true) (cPo : PySem.W.plainOver K CS = true) (cSa : PySem.W.findIn K (.ref CS) "__setattr__" = some (some (.builtin "object.__setattr__"))) (cMk : PySem.W.makesIn K CS = true) (cKp : PySem.W.keepIn K (.ref CS) = true)
    (nA_texts : PySem.W.findIn K (.ref CS) "texts" = some none)
    (nA_quota : PySem.W.findIn K (.ref CS) "quota" = some none)
    (nA_used : PySem.W.findIn K (.ref CS) "used" = some none)
    (nA_clock : PySem.W.findIn K (.ref CS) "clock" = some none)
    (nA_last : PySem.W.findIn K (.ref CS) "last" = some none)
    (nA_pins : PySem.W.findIn K (.ref CS) "pins" = some none)
    (a9 : PySem.W.findIn K (.ref CS) "__init__" = some (some (.ref f9))) (m9 : PySem.W.isFn K (.ref f9) = true) (l9 : K.lookup f9 = some ⟨oc9, od9, .func (PySem.W.fnOf "__init__" "Store.__init__" (defArgs sInit) (defBody sInit) (defScope sInit) .none kV9 dc9 pm9 an9 cd9 ct9), sl9⟩) (c9 : PySem.W.codeIn K cd9 "Store.__init__" = true) (k9 : PySem.W.keepIn K (.ref f9) = true)
    (a10 : PySem.W.findIn K (.ref CS) "touch" = some (some (.ref f10))) (m10 : PySem.W.isFn K (.ref f10) = true) (l10 : K.lookup f10 = some ⟨oc10, od10, .func (PySem.W.fnOf "touch" "Store.touch" (defArgs sTouch) (defBody sTouch) (defScope sTouch) .none kV10 dc10 pm10 an10 cd10 ct10), sl10⟩) (c10 : PySem.W.codeIn K cd10 "Store.touch" = true) (k10 : PySem.W.keepIn K (.ref f10) = true)
    (a11 : PySem.W.findIn K (.ref CS) "put" = some (some (.ref f11))) (m11 : PySem.W.isFn K (.ref f11) = true) (l11 : K.lookup f11 = some ⟨oc11, od11, .func (PySem.W.fnOf "put" "Store.put" (defArgs sPut) (defBody sPut) (defScope sPut) .none kV11 dc11 pm11 an11 cd11 ct11), sl11⟩) (c11 : PySem.W.codeIn K cd11 "Store.put" = true) (k11 : PySem.W.keepIn K (.ref f11) = true)
    (a12 : PySem.W.findIn K (.ref CS) "get" = some (some (.ref f12))) (m12 : PySem.W.isFn K (.ref f12) = true) (l12 : K.lookup f12 = some ⟨oc12, od12, .func (PySem.W.fnOf "get" "Store.get" (defArgs sGet) (defBody sGet) (defScope sGet) .none kV12 dc12 pm12 an12 cd12 ct12), sl12⟩) (c12 : PySem.W.codeIn K cd12 "Store.get" = true) (k12 : PySem.W.keepIn K (.ref f12) = true)
    (a13 : PySem.W.findIn K (.ref CS) "has" = some (some (.ref f13))) (m13 : PySem.W.isFn K (.ref f13) = true) (l13 : K.lookup f13 = some ⟨oc13, od13, .func (PySem.W.fnOf "has" "Store.has" (defArgs sHas) (defBody sHas) (defScope sHas) .none kV13 dc13 pm13 an13 cd13 ct13), sl13⟩) (c13 : PySem.W.codeIn K cd13 "Store.has" = true) (k13 : PySem.W.keepIn K (.ref f13) = true)
    (a14 : PySem.W.findIn K (.ref CS) "drop" = some (some (.ref f14))) (m14 : PySem.W.isFn K (.ref f14) = true) (l14 : K.lookup f14 = some ⟨oc14, od14, .func (PySem.W.fnOf "drop" "Store.drop" (defArgs sDrop) (defBody sDrop) (defScope sDrop) .none kV14 dc14 pm14 an14 cd14 ct14), sl14⟩) (c14 : PySem.W.codeIn K cd14 "Store.drop" = true) (k14 : PySem.W.keepIn K (.ref f14) = true)
    (a15 : PySem.W.findIn K (.ref CS) "make_room" = some (some (.ref f15))) (m15 : PySem.W.isFn K (.ref f15) = true) (l15 : K.lookup f15 = some ⟨oc15, od15, .func (PySem.W.fnOf "make_room" "Store.make_room" (defArgs sRoom) (defBody sRoom) (defScope sRoom) .none kV15 dc15 pm15 an15 cd15 ct15), sl15⟩) (c15 : PySem.W.codeIn K cd15 "Store.make_room" = true) (k15 : PySem.W.keepIn K (.ref f15) = true)
    (a16 : PySem.W.findIn K (.ref CS) "pin" = some (some (.ref f16))) (m16 : PySem.W.isFn K (.ref f16) = true) (l16 : K.lookup f16 = some ⟨oc16, od16, .func (PySem.W.fnOf "pin" "Store.pin" (defArgs sPin) (defBody sPin) (defScope sPin) .none kV16 dc16 pm16 an16 cd16 ct16), sl16⟩) (c16 : PySem.W.codeIn K cd16 "Store.pin" = true) (k16 : PySem.W.keepIn K (.ref f16) = true)
    (a17 : PySem.W.findIn K (.ref CS) "unpin" = some (some (.ref f17))) (m17 : PySem.W.isFn K (.ref f17) = true) (l17 : K.lookup f17 = some ⟨oc17, od17, .func (PySem.W.fnOf "unpin" "Store.unpin" (defArgs sUnpin) (defBody sUnpin) (defScope sUnpin) .none kV17 dc17 pm17 an17 cd17 ct17), sl17⟩) (c17 : PySem.W.codeIn K cd17 "Store.unpin" = true) (k17 : PySem.W.keepIn K (.ref f17) = true)
    (a18 : PySem.W.findIn K (.ref CS) "collect" = some (some (.ref f18))) (m18 : PySem.W.isFn K (.ref f18) = true) (l18 : K.lookup f18 = some ⟨oc18, od18, .func (PySem.W.fnOf "collect" "Store.collect" (defArgs sColl) (defBody sColl) (defScope sColl) .none kV18 dc18 pm18 an18 cd18 ct18), sl18⟩) (c18 : PySem.W.codeIn K cd18 "Store.collect" = true) (k18 : PySem.W.keepIn K (.ref f18) = true)
    (a19 : PySem.W.findIn K (.ref CS) "spoilt" = some (some (.ref f19))) (m19 : PySem.W.isFn K (.ref f19) = true) (l19 : K.lookup f19 = some ⟨oc19, od19, .func (PySem.W.fnOf "spoilt" "Store.spoilt" (defArgs sSpo) (defBody sSpo) (defScope sSpo) .none kV19 dc19 pm19 an19 cd19 ct19), sl19⟩) (c19 : PySem.W.codeIn K cd19 "Store.spoilt" = true) (k19 : PySem.W.keepIn K (.ref f19) = true)
    (gP : PySem.W.nsIn K mainGlobals "PRIME" = some (some (.int 2305843009213693951 tP))) (gB : PySem.W.nsIn K mainGlobals "BASE" = some (some (.int 2000003 tB))) (gS : PySem.W.nsIn K mainGlobals "SIGNS" = some (some (.str "0123456789abcdef" tS)))
    (z_int : PySem.W.nsIn K mainGlobals "int" = some none)
    (z_len : PySem.W.nsIn K mainGlobals "len" = some none)
    (z_abs : PySem.W.nsIn K mainGlobals "abs" = some none)
    (z_ord : PySem.W.nsIn K mainGlobals "ord" = some none)
    (z_range : PySem.W.nsIn K mainGlobals "range" = some none)
    (z_all : PySem.W.nsIn K mainGlobals "all" = some none)
    (z_str : PySem.W.nsIn K mainGlobals "str" = some none)
    (z_tuple : PySem.W.nsIn K mainGlobals "tuple" = some none)
    (z_super : PySem.W.nsIn K mainGlobals "super" = some none)
    (z_sum : PySem.W.nsIn K mainGlobals "sum" = some none)
    (z_sorted : PySem.W.nsIn K mainGlobals "sorted" = some none)
    (opq : PySem.W.nsIn K cStatics "thirdparty.any" = some none) (top : (P.main.scope.names.lookup ("super" : Str)).isSome = false) :
    ∃ fd : FuncData, (∀ (s : Shared) (v : Value), BindsTo s fd ⟨[v], []⟩ [("script", v)]) ∧ ∀ base : Heap, K.In base → base.Ns mainGlobals mg → FnOk P w K mg base (L2.CX P w) 6 fa fd ["script"] (spLaw K) := by
  have e := hfa.symm.trans (PySem.W.mg_of X G a8)
  cases e
  have TT : OexC K CT := ⟨⟨nmT, qT, NT, bsT, bmT, snT, subT, abT, colT, ddT, m0T, m1T, m2T, m3T, m5T, xLT, bmRT⟩, saT, xBT, tCT, kCT⟩
  have ST : SupTxt P K mg CT fIT ccT cdaT "StoreError.__init__" ["self", "word", "name"] sIT :=
    ⟨TT, ⟨_, _, _, _, _, _, _, _, iLT⟩, icT, sIT_scope, ⟨_, rfl, rfl⟩, ⟨_, _, _, _, _, _, coT, cvT, cfT⟩, ⟨_, _, _, ceT⟩, mrT, svT, PySem.W.mg_none_of X G z_super, alT, opq, top⟩
  have ET : ∀ base : Heap, Err2 P w K mg base "StoreError" "word" "name" CT := fun base => ⟨PySem.W.mg_of X G eCT, TT, ⟨fIT, _, "self", i1T, itT, ok_two ST ⟨_, _, _, iLT⟩ rfl (fun env => ⟨_, rfl⟩) n1T n2T, (bindsK fun _ _ _ => rfl)⟩, ⟨gaT, ggT, xBT, hCT⟩, n1T, n2T, exm_self xBT jCT tCT sCT⟩
  have F0 := fun_mk (st := sNum) l0 c0 k0
  have b0 := F0.binds (ps := ["text"]) fun _ _ _ _ _ _ us hl => match us, hl with | [_], _ => rfl
  have F1 := fun_mk (st := sDig) l1 c1 k1
  have b1 := F1.binds (ps := ["text"]) fun _ _ _ _ _ _ us hl => match us, hl with | [_], _ => rfl
  have F2 := fun_mk (st := sMan) l2 c2 k2
  have b2 := F2.binds (ps := ["outputs"]) fun _ _ _ _ _ _ us hl => match us, hl with | [_], _ => rfl
  have F3 := fun_mk (st := sTof) l3 c3 k3
  have b3 := F3.binds (ps := ["store", "manifest"]) fun _ _ _ _ _ _ us hl => match us, hl with | [_, _], _ => rfl
  have F4 := fun_mk (st := sWho) l4 c4 k4
  have b4 := F4.binds (ps := ["store", "manifest"]) fun _ _ _ _ _ _ us hl => match us, hl with | [_, _], _ => rfl
  have F5 := fun_mk (st := sTape) l5 c5 k5
  have b5 := F5.binds (ps := ["script"]) fun _ _ _ _ _ _ us hl => match us, hl with | [_], _ => rfl
  have F6 := fun_mk (st := sTake) l6 c6 k6
  have b6 := F6.binds (ps := ["tape", "many"]) fun _ _ _ _ _ _ us hl => match us, hl with | [_, _], _ => rfl
  have F7 := fun_mk (st := sLput) l7 c7 k7
  have b7 := F7.binds (ps := ["store", "state", "quota", "text", "name"]) fun _ _ _ _ _ _ us hl => match us, hl with | [_, _, _, _, _], _ => rfl
  have F8 := fun_mk (st := sLaw) l8 c8 k8
  have b8 := F8.binds (ps := ["script"]) fun _ _ _ _ _ _ us hl => match us, hl with | [_], _ => rfl
  have F9 := fun_mk (st := sInit) l9 c9 k9
  have b9 := F9.binds (ps := ["self", "quota"]) fun _ _ _ _ _ _ us hl => match us, hl with | [_, _], _ => rfl
  have F10 := fun_mk (st := sTouch) l10 c10 k10
  have b10 := F10.binds (ps := ["self", "name"]) fun _ _ _ _ _ _ us hl => match us, hl with | [_, _], _ => rfl
  have F11 := fun_mk (st := sPut) l11 c11 k11
  have b11 := F11.binds (ps := ["self", "text"]) fun _ _ _ _ _ _ us hl => match us, hl with | [_, _], _ => rfl
  have F12 := fun_mk (st := sGet) l12 c12 k12
  have b12 := F12.binds (ps := ["self", "name"]) fun _ _ _ _ _ _ us hl => match us, hl with | [_, _], _ => rfl
  have F13 := fun_mk (st := sHas) l13 c13 k13
  have b13 := F13.binds (ps := ["self", "name"]) fun _ _ _ _ _ _ us hl => match us, hl with | [_, _], _ => rfl
  have F14 := fun_mk (st := sDrop) l14 c14 k14
  have b14 := F14.binds (ps := ["self", "name"]) fun _ _ _ _ _ _ us hl => match us, hl with | [_, _], _ => rfl
  have F15 := fun_mk (st := sRoom) l15 c15 k15
  have b15 := F15.binds (ps := ["self", "size"]) fun _ _ _ _ _ _ us hl => match us, hl with | [_, _], _ => rfl
  have F16 := fun_mk (st := sPin) l16 c16 k16
  have b16 := F16.binds (ps := ["self", "names"]) fun _ _ _ _ _ _ us hl => match us, hl with | [_, _], _ => rfl
  have F17 := fun_mk (st := sUnpin) l17 c17 k17
  have b17 := F17.binds (ps := ["self", "names"]) fun _ _ _ _ _ _ us hl => match us, hl with | [_, _], _ => rfl
  have F18 := fun_mk (st := sColl) l18 c18 k18
  have b18 := F18.binds (ps := ["self", "manifests"]) fun _ _ _ _ _ _ us hl => match us, hl with | [_, _], _ => rfl
  have F19 := fun_mk (st := sSpo) l19 c19 k19
  have b19 := F19.binds (ps := ["self"]) fun _ _ _ _ _ _ us hl => match us, hl with | [_], _ => rfl
  have M := fun {x : Str} (z : PySem.W.nsIn K mainGlobals x = some none) => PySem.W.mg_none_of X G z
  have BD : BtDig mg := ⟨M z_len, M z_ord, M z_range, ⟨_, PySem.W.mg_of X G gP⟩, ⟨_, PySem.W.mg_of X G gB⟩, ⟨_, PySem.W.mg_of X G gS⟩⟩
  have BM : BtMan mg := ⟨M z_tuple, M z_sorted, M z_all⟩
  have BP : BtPut mg := ⟨M z_len, M z_sum, M z_sorted⟩
  have BA : BtAll mg := ⟨M z_len, M z_sum, M z_sorted, M z_range, M z_str⟩
  have BT : BtTape mg := ⟨M z_int, M z_abs⟩
  have BK : BtTake mg := ⟨M z_int, M z_len⟩
  have T : Txt K mg CS := ⟨⟨cPg, cHd, cPo, cSa⟩, nA_texts, nA_quota, nA_used, nA_clock, nA_last, nA_pins, M z_len, M z_sorted⟩
  refine ⟨PySem.W.fnOf "law" "law" (defArgs sLaw) (defBody sLaw) (defScope sLaw) .none kV8 dc8 pm8 an8 cd8 ct8, fun s v => .of_eq rfl, fun base _ _ => ?_⟩
  have hNum : Has P w K mg base CX0 1 "number_of" ["text"] spNum := ⟨f0, _, PySem.W.mg_of X G a0, k0, b0, ok_num F0 BD⟩
  have hDig : Has P w K mg base CX0 2 "digest" ["text"] spDig := ⟨f1, _, PySem.W.mg_of X G a1, k1, b1, ok_dig F1 BD hNum⟩
  have hTo : HasM P w K mg base CX0 1 CS "touch" ["self", "name"] (spTouch CS) := ⟨f10, _, ⟨a10, m10, k10⟩, b10, ok_touch F10 T⟩
  have hDr : HasM P w K mg base CX0 1 CS "drop" ["self", "name"] (spDrop CS) := ⟨f14, _, ⟨a14, m14, k14⟩, b14, ok_drop F14 T⟩
  have hHa : HasM P w K mg base CX0 3 CS "has" ["self", "name"] (spHas CS) := ⟨f13, _, ⟨a13, m13, k13⟩, b13, ok_has F13 T hDig⟩
  have hRo : HasM P w K mg base (L2.CX P w) 3 CS "make_room" ["self", "size"] (spRoom CS CT) := ⟨f15, _, ⟨a15, m15, k15⟩, b15, ok_room F15 T (ET base) hDr⟩
  have hPu : HasM P w K mg base (L2.CX P w) 4 CS "put" ["self", "text"] (spPut CS CT) := ⟨f11, _, ⟨a11, m11, k11⟩, b11, ok_put F11 T hDig hTo hHa hDr hRo⟩
  have hGe : HasM P w K mg base (L2.CX P w) 3 CS "get" ["self", "name"] (spGet CS CT) := ⟨f12, _, ⟨a12, m12, k12⟩, b12, ok_get F12 T (ET base) hDig hTo⟩
  have hGe0 : HasM P w K mg base CX0 3 CS "get" ["self", "name"] (spGet0 CS) := ⟨f12, _, ⟨a12, m12, k12⟩, b12, ok_get0 F12 T hDig hTo⟩
  have hPi : HasM P w K mg base CX0 1 CS "pin" ["self", "names"] (spPin K CS) := ⟨f16, _, ⟨a16, m16, k16⟩, b16, ok_pin F16 T⟩
  have hUn : HasM P w K mg base CX0 1 CS "unpin" ["self", "names"] (spUnpin K CS) := ⟨f17, _, ⟨a17, m17, k17⟩, b17, ok_unpin F17 T⟩
  have hCo : HasM P w K mg base CX0 2 CS "collect" ["self", "manifests"] (spColl K CS) := ⟨f18, _, ⟨a18, m18, k18⟩, b18, ok_coll F18 T hDr⟩
  have hSp : HasM P w K mg base CX0 3 CS "spoilt" ["self"] (spSpo K CS) := ⟨f19, _, ⟨a19, m19, k19⟩, b19, ok_spo F19 T hDig⟩
  have hMk : HasMk P w K mg base CS := ⟨PySem.W.mg_of X G gC, f9, _, ⟨cMk, a9, m9, cKp⟩, b9, ok_init F9 T⟩
  have hMa : Has P w K mg base CX0 3 "manifest_of" ["outputs"] (spMan K) := ⟨f2, _, PySem.W.mg_of X G a2, k2, b2, ok_man F2 BM hDig⟩
  have hWh : Has P w K mg base CX0 4 "is_whole" ["store", "manifest"] (spWho K CS) := ⟨f4, _, PySem.W.mg_of X G a4, k4, b4, ok_who F4 T BM hHa⟩
  have hTof : Has P w K mg base CX0 4 "texts_of" ["store", "manifest"] (spTof K CS) := ⟨f3, _, PySem.W.mg_of X G a3, k3, b3, ok_tof F3 T hGe0⟩
  have hTp : Has P w K mg base CX0 1 "_law_tape" ["script"] (spTape P w K) := ⟨f5, _, PySem.W.mg_of X G a5, k5, b5, ok_tape F5 BT⟩
  have hTk : Has P w K mg base CX0 1 "_law_take" ["tape", "many"] (spTake P w) := ⟨f6, _, PySem.W.mg_of X G a6, k6, b6, ok_take F6 BK⟩
  have hLp : Has P w K mg base CX0 5 "_law_put" ["store", "state", "quota", "text", "name"] (spLput CS) := ⟨f7, _, PySem.W.mg_of X G a7, k7, b7, ok_lput F7 T BP (ET base) hPu⟩
  exact ok_law F8 T BA (ET base) hMk hTp hTk hLp hDig hMa hWh hTof hPu hGe hHa hPi hUn hCo hSp
theorem walk {l : PySem.W.OpenLaw} {q : Program} {loose : List Str} {XP : (Str → Option Value) → Heap → Prop} {YP : World → Heap → Prop} {d : DefRec} {K : Params → PySem.W.Frag} (hn : l.most = some 63) (hdf : d.params.defaults = [])
    (hY : ∀ (w : World) (h : Heap), YP w h → (K w.params).In h)
    (F : ∀ (w : World) (mg : Str → Option Value) (fa : Addr) (h : Heap), (K w.params).In h → h.Ns mainGlobals mg → mg d.name = some (.ref fa) →
      ∃ fd : FuncData, (∀ (s : Shared) (u : Value), BindsTo s fd ⟨[u], []⟩ [("script", u)]) ∧ ∀ base : Heap, (K w.params).In base → base.Ns mainGlobals mg → FnOk l.prog w (K w.params) mg base (L2.CX l.prog w) 6 fa fd ["script"] (spLaw (K w.params))) :
    PySem.W.WalkO q loose XP YP l.row.toRowW d [] (fun f vs => PySem.call f vs) :=
  L2.walk_of (n := 63) (k := 6) (x := "script") (CX := fun w => L2.CX l.prog w) (sp := fun w => spLaw (K w.params)) hn (by decide) hdf ⟨rfl, by decide, by decide⟩ hY F (fun _ _ a ns hl _ hS => ⟨a, ns, rfl, hS, hl, fun _ => rfl⟩) fun w H s e s' z => cx_false z
end Mx
open PySem PySem.W PyProof.Rows
set_option maxRecDepth 100000 in
set_option maxHeartbeats 0 in
theorem PySem.Challenge.cw_sameinsameout_k11_whole_stores_holds : PySem.Challenge.rw_sameinsameout_k11_whole_stores.Holds := by
  w_on; o_law; k_head; (case hw => w_witness2)
  k_fill
  refine Mx.walk (l := PySem.Challenge.rw_sameinsameout_k11_whole_stores) rfl rfl (fun w h Y => PySem.W.kIn_of Y) ?F
  case F =>
    intro w mg fa h KX G hmg
    refine' Mx.all_mk KX G hmg ?eCT ?xLT ?bmRT ?saT ?gaT ?ggT ?n1T ?n2T ?i1T ?itT ?iLT ?icT ?coT ?cvT ?cfT ?ceT ?mrT ?svT ?alT ?kCT ?xBT ?tCT ?hCT ?jCT ?sCT ?a0 ?l0 ?c0 ?k0 ?a1 ?l1 ?c1 ?k1 ?a2 ?l2 ?c2 ?k2 ?a3 ?l3 ?c3 ?k3 ?a4 ?l4 ?c4 ?k4 ?a5 ?l5 ?c5 ?k5 ?a6 ?l6 ?c6 ?k6 ?a7 ?l7 ?c7 ?k7 ?a8 ?l8 ?c8 ?k8 ?gC ?cPg ?cHd ?cPo ?cSa ?cMk ?cKp ?nA_texts ?nA_quota ?nA_used ?nA_clock ?nA_last ?nA_pins ?a9 ?m9 ?l9 ?c9 ?k9 ?a10 ?m10 ?l10 ?c10 ?k10 ?a11 ?m11 ?l11 ?c11 ?k11 ?a12 ?m12 ?l12 ?c12 ?k12 ?a13 ?m13 ?l13 ?c13 ?k13 ?a14 ?m14 ?l14 ?c14 ?k14 ?a15 ?m15 ?l15 ?c15 ?k15 ?a16 ?m16 ?l16 ?c16 ?k16 ?a17 ?m17 ?l17 ?c17 ?k17 ?a18 ?m18 ?l18 ?c18 ?k18 ?a19 ?m19 ?l19 ?c19 ?k19 ?gP ?gB ?gS ?z_int ?z_len ?z_abs ?z_ord ?z_range ?z_all ?z_str ?z_tuple ?z_super ?z_sum ?z_sorted ?opq ?top
    (case eCT => k_is)
    (case xLT => k_is)
    (case bmRT => first | decide +kernel | k_is)
    (case saT => k_is)
    (case gaT => k_is)
    (case ggT => k_is)
    (case n1T => k_is)
    (case n2T => k_is)
    (case i1T => k_is)
    (case itT => k_is)
    (case iLT => k_is)
    (case icT => k_is)
    (case coT => k_is)
    (case cvT => first | rfl | k_is)
    (case cfT => first | rfl | decide +kernel | k_is)
    (case ceT => k_is)
    (case mrT => first | rfl | k_is)
    (case svT => k_is)
    (case alT => ks_is)
    (case kCT => k_is)
    (case xBT => k_is)
    (case tCT => k_is)
    (case hCT => k_is)
    (case jCT => k_is)
    (case sCT => first | rfl | k_is)
    (case a0 => k_is)
    (case l0 => k_is)
    (case c0 => k_is)
    (case k0 => k_is)
    (case a1 => k_is)
    (case l1 => k_is)
    (case c1 => k_is)
    (case k1 => k_is)
    (case a2 => k_is)
    (case l2 => k_is)
    (case c2 => k_is)
    (case k2 => k_is)
    (case a3 => k_is)
    (case l3 => k_is)
    (case c3 => k_is)
    (case k3 => k_is)
    (case a4 => k_is)
    (case l4 => k_is)
    (case c4 => k_is)
    (case k4 => k_is)
    (case a5 => k_is)
    (case l5 => k_is)
    (case c5 => k_is)
    (case k5 => k_is)
    (case a6 => k_is)
    (case l6 => k_is)
    (case c6 => k_is)
    (case k6 => k_is)
    (case a7 => k_is)
    (case l7 => k_is)
    (case c7 => k_is)
    (case k7 => k_is)
    (case a8 => k_is)
    (case l8 => k_is)
    (case c8 => k_is)
    (case k8 => k_is)
    (case gC => k_is)
    (case cPg => k_is)
    (case cHd => k_is)
    (case cPo => k_is)
    (case cSa => k_is)
    (case cMk => k_is)
    (case cKp => k_is)
    (case nA_texts => k_is)
    (case nA_quota => k_is)
    (case nA_used => k_is)
    (case nA_clock => k_is)
    (case nA_last => k_is)
    (case nA_pins => k_is)
    (case a9 => k_is)
    (case m9 => k_is)
    (case l9 => k_is)
    (case c9 => k_is)
    (case k9 => k_is)
    (case a10 => k_is)
    (case m10 => k_is)
    (case l10 => k_is)
    (case c10 => k_is)
    (case k10 => k_is)
    (case a11 => k_is)
    (case m11 => k_is)
    (case l11 => k_is)
    (case c11 => k_is)
    (case k11 => k_is)
    (case a12 => k_is)
    (case m12 => k_is)
    (case l12 => k_is)
    (case c12 => k_is)
    (case k12 => k_is)
    (case a13 => k_is)
    (case m13 => k_is)
    (case l13 => k_is)
    (case c13 => k_is)
    (case k13 => k_is)
    (case a14 => k_is)
    (case m14 => k_is)
    (case l14 => k_is)
    (case c14 => k_is)
    (case k14 => k_is)
    (case a15 => k_is)
    (case m15 => k_is)
    (case l15 => k_is)
    (case c15 => k_is)
    (case k15 => k_is)
    (case a16 => k_is)
    (case m16 => k_is)
    (case l16 => k_is)
    (case c16 => k_is)
    (case k16 => k_is)
    (case a17 => k_is)
    (case m17 => k_is)
    (case l17 => k_is)
    (case c17 => k_is)
    (case k17 => k_is)
    (case a18 => k_is)
    (case m18 => k_is)
    (case l18 => k_is)
    (case c18 => k_is)
    (case k18 => k_is)
    (case a19 => k_is)
    (case m19 => k_is)
    (case l19 => k_is)
    (case c19 => k_is)
    (case k19 => k_is)
    (case gP => k_is)
    (case gB => k_is)
    (case gS => k_is)
    (case z_int => k_is)
    (case z_len => k_is)
    (case z_abs => k_is)
    (case z_ord => k_is)
    (case z_range => k_is)
    (case z_all => k_is)
    (case z_str => k_is)
    (case z_tuple => k_is)
    (case z_super => k_is)
    (case z_sum => k_is)
    (case z_sorted => k_is)
    (case opq => k_is)
    (case top => first | rfl | decide +kernel | k_is)
