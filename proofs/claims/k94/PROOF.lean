import PyProof.Rows.All
import Wide.All
import OpenK.AllK
import Wide.FinOn
import HandS.ForMost
import HandS.Exc
import HandS.ExcOwn
import HandS.TryOnly
import HandS.WordsExc
import HandS.Defaults
import HandS.IsInst
import HandS.ExcIs
import HandS.ExcInit
import HandS.FStr
import HandS.Wide
import HandS.CallSlots
import HandS.Head0
import HandS.Head1
import HandS.Head2
import HandS.HeadEnd
import HandS.HeadHook1
import HandS.HeadHook2
import HandS.HeadHook3
import HandS.HeadHook4
import HandS.Walk
import HandS.ExcField
import HandS.Deep
import HandS.Dict
import HandS.Text
import HandS.Evl
import KE.KStateDown
import PySem.Challenge.RW_fourcreases_k94_whole_numbers_and_trees
set_option Elab.async false
set_option linter.all false
set_option maxRecDepth 100000
set_option maxHeartbeats 4000000
/-! P1: what every proof of ours rests on, over the hand layer: persistent facts, calls by name, types of data, small rules -/
namespace Q
open PySem PySem.Spec PyProof.Rows L2
/-! ### heaps: F holds what is known for good, H all that is tracked -/
/-- from (F, H) to (F', H'): P may have changed, all else that was tracked stands, nothing that was tracked ahead is new in F' -/
structure Mv (P : Addr → Prop) (F H F' H' : Hp) : Prop where
  f : Same F F'
  k : Same F' H'
  h : ∀ b o, H b = some o → ¬ P b → H' b = some o
  n : ∀ b o, H b = some o → F b = none → F' b = none
abbrev P0 : Addr → Prop := fun _ => False
theorem Same.sqT {K : PySem.W.Frag} {H H' : Hp} {a : Addr} {xs : List V} (e : Same H H') (h : SqT K H a xs) : SqT K H' a xs := by
  rcases h with (h | ⟨o, h⟩) | h
  · exact .inl (.inl (e _ _ h))
  · exact .inl (.inr ⟨o, e _ _ h⟩)
  · exact .inr h
theorem Mv.refl {F H : Hp} (k : Same F H) {P : Addr → Prop} : Mv P F H F H := ⟨Same.refl F, k, fun _ _ h _ => h, fun _ _ _ h => h⟩
theorem Mv.trans {P : Addr → Prop} {F H F1 H1 F2 H2 : Hp} (a : Mv P F H F1 H1) (b : Mv P F1 H1 F2 H2) (hp : ∀ x, P x → ∃ o o1, H x = some o ∧ H1 x = some o1) : Mv P F H F2 H2 :=
  ⟨a.f.trans b.f, b.k, fun x o h n => b.h x o (a.h x o h n) n, fun x o h n => by
    have n1 := a.n x o h n
    by_cases q : P x
    · obtain ⟨_, o1, _, h1⟩ := hp x q
      exact b.n x o1 h1 n1
    · exact b.n x o (a.h x o h q) n1⟩
theorem Mv.tr {F H F1 H1 F2 H2 : Hp} (a : Mv P0 F H F1 H1) (b : Mv P0 F1 H1 F2 H2) : Mv P0 F H F2 H2 := a.trans b fun _ h => h.elim
/-- a new object, known for good -/
theorem Mv.new {P : Addr → Prop} {F H F1 H1 : Hp} (a : Mv P F H F1 H1) {p : Addr} {o : HO} (h : H1 p = none) (hP : ∀ x, P x → ∃ o, H1 x = some o) (h0 : ∀ x o, H x = some o → P x → x ≠ p := fun x _ _ q e => by obtain ⟨_, z⟩ := hP x q; rw [e, h] at z; cases z) : Mv P F H (upd F1 p o) (upd H1 p o) where
  f := fun b u e => by
    have e1 := a.f b u e
    rw [upd_ne (ne_of_none (a.k b u e1) h)]
    exact e1
  k := fun b u e => by
    by_cases q : b = p
    · subst q
      rw [upd_same] at e ⊢
      exact e
    · rw [upd_ne q] at e ⊢
      exact a.k b u e
  h := fun b u e n => by
    have e1 := a.h b u e n
    rw [upd_ne (ne_of_none e1 h)]
    exact e1
  n := fun b u e n => by
    have n1 := a.n b u e n
    have q : b ≠ p := by
      by_cases w : P b
      · exact h0 b u e w
      · exact ne_of_none (a.h b u e w) h
    rw [upd_ne q]
    exact n1
theorem Mv.nw {F H F1 H1 : Hp} (a : Mv P0 F H F1 H1) {p : Addr} {o : HO} (h : H1 p = none) : Mv P0 F H (upd F1 p o) (upd H1 p o) := a.new h fun _ h => h.elim
/-- a new object of the def's own, not (yet) known for good -/
theorem Mv.own {P : Addr → Prop} {F H F1 H1 : Hp} (a : Mv P F H F1 H1) {p : Addr} {o : HO} (h : H1 p = none) : Mv P F H F1 (upd H1 p o) where
  f := a.f
  k := fun b u e => by
    rw [upd_ne (ne_of_none (a.k b u e) h)]
    exact a.k b u e
  h := fun b u e n => by
    have e1 := a.h b u e n
    rw [upd_ne (ne_of_none e1 h)]
    exact e1
  n := a.n
/-- an own object (unknown ahead) is changed -/
theorem Mv.set {P : Addr → Prop} {F H F1 H1 : Hp} (a : Mv P F H F1 H1) {p : Addr} {o : HO} (h0 : H p = none ∨ P p) (h : F1 p = none) : Mv P F H F1 (upd H1 p o) where
  f := a.f
  k := fun b u e => by
    rw [upd_ne (ne_of_none e h)]
    exact a.k b u e
  h := fun b u e n => by
    have q : b ≠ p := by
      rcases h0 with h0 | h0
      · exact ne_of_none e h0
      · intro z
        rw [z] at n
        exact n h0
    rw [upd_ne q]
    exact a.h b u e n
  n := a.n
/-- an own object is known for good from here on -/
theorem Mv.keep {P : Addr → Prop} {F H F1 H1 : Hp} (a : Mv P F H F1 H1) {p : Addr} {o : HO} (h0 : H p = none) (h : F1 p = none) (e1 : H1 p = some o) : Mv P F H (upd F1 p o) H1 where
  f := fun b u e => by
    have e2 := a.f b u e
    rw [upd_ne (ne_of_none e2 h)]
    exact e2
  k := fun b u e => by
    by_cases q : b = p
    · subst q
      rw [upd_same] at e
      cases e
      exact e1
    · rw [upd_ne q] at e
      exact a.k b u e
  h := a.h
  n := fun b u e n => by
    rw [upd_ne (ne_of_none e h0)]
    exact a.n b u e n
theorem Mv.weak {P P' : Addr → Prop} {F H F1 H1 : Hp} (a : Mv P F H F1 H1) (h : ∀ x, P x → P' x) : Mv P' F H F1 H1 := ⟨a.f, a.k, fun b o e n => a.h b o e fun q => n (h b q), a.n⟩
/-! ### data -/
mutual
theorem Dp.mono {K : PySem.W.Frag} {H H' : Hp} (e : Same H H') : ∀ (d : PyData) (v : V), Dp K H v d → Dp K H' v d
  | .none, _, .non => .non
  | .bool b, _, .bl _ => .bl b
  | .int i, _, .int _ => .int i
  | .str x, _, .str _ => .str x
  | .list ds, _, .lst h a => .lst (Same.seq e h) (DpAll.mono e ds _ a)
  | .tuple ds, _, .tup h a => .tup (Same.sqT e h) (DpAll.mono e ds _ a)
theorem DpAll.mono {K : PySem.W.Frag} {H H' : Hp} (e : Same H H') : ∀ (ds : List PyData) (vs : List V), DpAll K H vs ds → DpAll K H' vs ds
  | [], _, .nil => .nil
  | d :: ds, _, .cons h r => .cons (Dp.mono e d _ h) (DpAll.mono e ds _ r)
end
theorem DpAll.len {K : PySem.W.Frag} {H : Hp} : ∀ {vs : List V} {ds : List PyData}, DpAll K H vs ds → vs.length = ds.length
  | _, _, .nil => rfl
  | _, _, .cons _ r => congrArg Nat.succ (DpAll.len r)
theorem DpAll.at {K : PySem.W.Frag} {H : Hp} : ∀ {vs : List V} {ds : List PyData}, DpAll K H vs ds → ∀ {i : Nat} {d : PyData}, ds[i]? = some d → ∃ v, vs[i]? = some v ∧ Dp K H v d
  | _, _, .cons h _, 0, d, e => by
    have e1 := Option.some.inj e
    subst e1
    exact ⟨_, rfl, h⟩
  | _, _, .cons _ r, i + 1, d, e => DpAll.at r (i := i) (d := d) e
theorem DpAll.atV {K : PySem.W.Frag} {H : Hp} : ∀ {vs : List V} {ds : List PyData}, DpAll K H vs ds → ∀ {i : Nat} {v : V}, vs[i]? = some v → ∃ d, ds[i]? = some d ∧ Dp K H v d
  | _, _, .cons h _, 0, d, e => by
    have e1 := Option.some.inj e
    subst e1
    exact ⟨_, rfl, h⟩
  | _, _, .cons _ r, i + 1, d, e => DpAll.atV r (i := i) (v := d) e
theorem DpAll.app {K : PySem.W.Frag} {H : Hp} : ∀ {vs : List V} {ds : List PyData} {ws : List V} {es : List PyData}, DpAll K H vs ds → DpAll K H ws es → DpAll K H (vs ++ ws) (ds ++ es)
  | _, _, _, _, .nil, s => s
  | _, _, _, _, .cons h r, s => .cons h (DpAll.app r s)
theorem DpAll.take {K : PySem.W.Frag} {H : Hp} : ∀ {vs : List V} {ds : List PyData} (n : Nat), DpAll K H vs ds → DpAll K H (vs.take n) (ds.take n)
  | _, _, 0, _ => .nil
  | _, _, _ + 1, .nil => .nil
  | _, _, n + 1, .cons h r => .cons h (DpAll.take n r)
theorem DpAll.drop {K : PySem.W.Frag} {H : Hp} : ∀ {vs : List V} {ds : List PyData} (n : Nat), DpAll K H vs ds → DpAll K H (vs.drop n) (ds.drop n)
  | _, _, 0, r => r
  | _, _, _ + 1, .nil => .nil
  | _, _, n + 1, .cons _ r => DpAll.drop n r
/-- the name of a datum's type -/
def tyN : PyData → String
  | .none => "NoneType"
  | .bool _ => "bool"
  | .int _ => "int"
  | .str _ => "str"
  | .list _ => "list"
  | .tuple _ => "tuple"
  | .dict _ => "dict"
theorem tyX_of {K : PySem.W.Frag} {H : Hp} {v : V} {d : PyData} (h : Dp K H v d) : TyX K H v (.type (tyN d)) := by
  cases h with
  | non => exact .base .non
  | bl b => exact .base (.bl b)
  | int i => exact .base (.int i)
  | str x => exact .base (.str x)
  | lst s _ =>
    rcases s with (s | ⟨o, s⟩) | ⟨o, its, n, s, c, _⟩
    · exact .base (.lst s)
    · exact .base (.frz s)
    · exact .kList s c
  | tup s _ =>
    rcases s with (s | ⟨o, s⟩) | ⟨o, its, n, s, c, _⟩
    · exact .base (.tup s)
    · exact .fTuple s
    · exact .kTuple s c
/-! isinstance(d, T) -/
def isiI : PyData → Bool
  | .bool _ => true
  | .int _ => true
  | _ => false
theorem isiI_is : ∀ d : PyData, kitB (tyN d) "int" = some (isiI d)
  | .none => (by decide +kernel : kitB "NoneType" "int" = some false)
  | .bool _ => (by decide +kernel : kitB "bool" "int" = some true)
  | .int _ => (by decide +kernel : kitB "int" "int" = some true)
  | .str _ => (by decide +kernel : kitB "str" "int" = some false)
  | .list _ => (by decide +kernel : kitB "list" "int" = some false)
  | .tuple _ => (by decide +kernel : kitB "tuple" "int" = some false)
  | .dict _ => (by decide +kernel : kitB "dict" "int" = some false)
def isiB : PyData → Bool
  | .bool _ => true
  | _ => false
theorem isiB_is : ∀ d : PyData, kitB (tyN d) "bool" = some (isiB d)
  | .none => (by decide +kernel : kitB "NoneType" "bool" = some false)
  | .bool _ => (by decide +kernel : kitB "bool" "bool" = some true)
  | .int _ => (by decide +kernel : kitB "int" "bool" = some false)
  | .str _ => (by decide +kernel : kitB "str" "bool" = some false)
  | .list _ => (by decide +kernel : kitB "list" "bool" = some false)
  | .tuple _ => (by decide +kernel : kitB "tuple" "bool" = some false)
  | .dict _ => (by decide +kernel : kitB "dict" "bool" = some false)
def isiS : PyData → Bool
  | .str _ => true
  | _ => false
theorem isiS_is : ∀ d : PyData, kitB (tyN d) "str" = some (isiS d)
  | .none => (by decide +kernel : kitB "NoneType" "str" = some false)
  | .bool _ => (by decide +kernel : kitB "bool" "str" = some false)
  | .int _ => (by decide +kernel : kitB "int" "str" = some false)
  | .str _ => (by decide +kernel : kitB "str" "str" = some true)
  | .list _ => (by decide +kernel : kitB "list" "str" = some false)
  | .tuple _ => (by decide +kernel : kitB "tuple" "str" = some false)
  | .dict _ => (by decide +kernel : kitB "dict" "str" = some false)
def isiL : PyData → Bool
  | .list _ => true
  | _ => false
theorem isiL_is : ∀ d : PyData, kitB (tyN d) "list" = some (isiL d)
  | .none => (by decide +kernel : kitB "NoneType" "list" = some false)
  | .bool _ => (by decide +kernel : kitB "bool" "list" = some false)
  | .int _ => (by decide +kernel : kitB "int" "list" = some false)
  | .str _ => (by decide +kernel : kitB "str" "list" = some false)
  | .list _ => (by decide +kernel : kitB "list" "list" = some true)
  | .tuple _ => (by decide +kernel : kitB "tuple" "list" = some false)
  | .dict _ => (by decide +kernel : kitB "dict" "list" = some false)
def isiT : PyData → Bool
  | .tuple _ => true
  | _ => false
theorem isiT_is : ∀ d : PyData, kitB (tyN d) "tuple" = some (isiT d)
  | .none => (by decide +kernel : kitB "NoneType" "tuple" = some false)
  | .bool _ => (by decide +kernel : kitB "bool" "tuple" = some false)
  | .int _ => (by decide +kernel : kitB "int" "tuple" = some false)
  | .str _ => (by decide +kernel : kitB "str" "tuple" = some false)
  | .list _ => (by decide +kernel : kitB "list" "tuple" = some false)
  | .tuple _ => (by decide +kernel : kitB "tuple" "tuple" = some true)
  | .dict _ => (by decide +kernel : kitB "dict" "tuple" = some false)
theorem rIsi_ty {K : PySem.W.Frag} {H : Hp} {v : V} {t : String} {T : String} {b : Bool} {Q : VK} (h : TyX K H v (.type t)) (hb : kitB t T = some b) (q : Q (.bl b) H) : rIsi K [v, .ty T] H Q :=
  ⟨v, .ty T, _, _, b, rfl, .ty T, h, kit_ty hb, q⟩
theorem rIsi_d {K : PySem.W.Frag} {H : Hp} {v : V} {d : PyData} {T : String} {b : Bool} {Q : VK} (h : Dp K H v d) (hb : kitB (tyN d) T = some b) (q : Q (.bl b) H) : rIsi K [v, .ty T] H Q := rIsi_ty (tyX_of h) hb q
/-- isinstance(x, (A, B)), the tuple just laid at p -/
theorem rIsiT_ty {K : PySem.W.Frag} {H : Hp} {v : V} {p : Addr} {t : String} {A B : String} {a b : Bool} {Q : VK} (hp : H p = some (.tup [.ty A, .ty B])) (h : TyX K H v (.type t)) (ha : kitB t A = some a) (hb : kitB t B = some b)
    (q : Q (.bl (a || b)) H) : rIsiT K [v, .ref p] H Q := by
  refine ⟨v, p, _, _, [.type A, .type B], (a || b), rfl, hp, .cons (.ty A) (.cons (.ty B) .nil), h, kitAny_cons (kit_ty ha) (fun e => kitAny_cons (kit_ty hb) (fun e2 => ?_) fun e2 => ?_) (fun e => ?_), q⟩
  · rw [e, e2]
    exact kitAny_nil
  · rw [e, e2] <;> rfl
  · rw [e] <;> rfl
/-! ### defs, called by name -/
/-- the def that the module's name x stands for keeps the promise sp, by at most level k -/
def G (P : Program) (w : World) (K : PySem.W.Frag) (mg : Str → Option Value) (base : Heap) (CX : CXT) (k : Nat) (x : Str) (ps : List Str) (sp : Sp) : Prop :=
  ∃ f fd, mg x = some (.ref f) ∧ PySem.W.keepIn K (.ref f) = true ∧ FnOk P w K mg base CX k f fd ps sp ∧ Binds K fd ps []
/-- a method of the class at C -/
def GM (P : Program) (w : World) (K : PySem.W.Frag) (mg : Str → Option Value) (base : Heap) (CX : CXT) (k : Nat) (C : Addr) (m : Str) (ps : List Str) (sp : Sp) : Prop :=
  ∃ f fd, Meth K C m f ∧ FnOk P w K mg base CX k f fd ps sp ∧ Binds K fd ps []
section
variable {P : Program} {w : World} {K : PySem.W.Frag} {mg : Str → Option Value} {base : Heap} {CX : CXT} {j k : Nat} {x : Str} {ps : List Str} {sp sp' : Sp}
theorem G.mono (g : G P w K mg base CX j x ps sp) (h : j ≤ k) : G P w K mg base CX k x ps sp := by
  obtain ⟨f, fd, a, b, c, d⟩ := g
  exact ⟨f, fd, a, b, c.mono h, d⟩
theorem G.imp (g : G P w K mg base CX k x ps sp) (h : ∀ vs H Q E, sp' vs H Q E → sp vs H Q E) : G P w K mg base CX k x ps sp' := by
  obtain ⟨f, fd, a, b, c, d⟩ := g
  exact ⟨f, fd, a, b, c.imp h, d⟩
end
section
variable {X : Cx} {CX : CXT} {j k : Nat} {x : Str} {ps : List Str} {sp : Sp} {E : XK} {p pos : Pos} {e : Expr} {es : List Expr} {t : TA}
theorem pe_g (g : G X.prog X.w X.K X.mg X.base CX k x ps sp) (hr : Room j X.A) (hx : Passes CX X E) (ha : PA X (e :: es) t) (hj : k ≤ j := by omega) (hg : Gl X x := by rfl)
    (hdb : (x == ("__debug__" : Str)) = false := by decide) (he : starEach (e :: es) X.env = (false, eval e X.env) :: starEach es X.env := by rfl) (hpl : (backTo pos (starEach es X.env)).any (·.1) = false := by rfl) :
    PE X (.Call (.Name x p) (e :: es) [] pos) (tCall sp [] E t) := by
  obtain ⟨f, fd, a, b, c, d⟩ := g
  exact pe_call c (hr.mono hj) hg a b d .nil hx ha hdb he hpl
end
end Q
/-! P2: facts of the top by decidable looks; exceptions of one's own; more rules -/
namespace Q
open PySem PySem.Spec PyProof.Rows L2
/-! ### an own exception class with an __init__ -/
def oexB (K : PySem.W.Frag) (C : Addr) : Bool := match K.lookup C with
  | some ⟨.type t, _, .cls cd, sl⟩ => (match cd.mro, sl.toList with
    | .ref C' :: bm, [_, _, _, _, some (.builtin n), _] => decide (t = "type") && (C' == C && (n == "ValueError.__new__" && (!cd.hasDel && (cd.hasDict && PySem.HandSPX.refsVE bm))))
    | _, _ => false)
  | _ => false
theorem oexB_ok {K : PySem.W.Frag} {C : Addr} (h : oexB K C = true) : ∃ nm q N bs bm sn sub ab col dd k0 k1 k2 k3 k5, K.lookup C = some (excClassObj nm q C N bs bm true sn sub ab col dd k0 k1 k2 k3 k5 "ValueError.__new__") ∧ PySem.HandSPX.refsVE bm = true := by
  unfold oexB at h
  split at h
  · rename_i t dd cd sl ho
    split at h
    · rename_i C' bm k0 k1 k2 k3 n k5 hm hs
      simp only [Bool.and_eq_true, beq_iff_eq, Bool.not_eq_true', decide_eq_true_eq] at h
      obtain ⟨rfl, rfl, rfl, hdel, hdict, hbm⟩ := h
      obtain ⟨nm, bs, mro, ns, qn, hd, sn, sub, ab, col, del⟩ := cd
      dsimp only at hm hdel hdict
      subst hm hdel hdict
      have hsl : sl = #[k0, k1, k2, k3, some (.builtin "ValueError.__new__"), k5] := by
        obtain ⟨l⟩ := sl
        simp only at hs
        rw [hs]
      subst hsl
      exact ⟨nm, qn, ns, bs, bm, sn, sub, ab, col, dd, k0, k1, k2, k3, k5, ho, hbm⟩
    · cases h
  · cases h
/-- what the end shows of such a class: init its __init__'s address -/
def oexF (K : PySem.W.Frag) (x : Str) : Bool := oexB K (He.ga K x) && (He.eqO (PySem.W.findIn K (.ref (He.ga K x)) "__setattr__") (some (some (.builtin "object.__setattr__"))) && (decide (PySem.W.subIn K (.ref (He.ga K x)) (.type "BaseException") = some true) &&
  (decide (PySem.W.typeIn K (.ref (He.ga K x)) = some (.type "type")) && (PySem.W.keepIn K (.ref (He.ga K x)) && (He.eqO (PySem.W.findIn K (.ref (He.ga K x)) "__init__") (some (some (.ref (He.ma K (He.ga K x) "__init__")))) &&
  decide (PySem.W.typeIn K (.ref (He.ma K (He.ga K x) "__init__")) = some (.type "function")))))))
theorem oexF_ok {K : PySem.W.Frag} {x : Str} (h : oexF K x = true) : OexC K (He.ga K x) ∧ PySem.W.findIn K (.ref (He.ga K x)) "__init__" = some (some (.ref (He.ma K (He.ga K x) "__init__"))) ∧ PySem.W.typeIn K (.ref (He.ma K (He.ga K x) "__init__")) = some (.type "function") := by
  unfold oexF at h
  simp only [Bool.and_eq_true, decide_eq_true_eq] at h
  obtain ⟨h1, h2, h3, h4, h5, h6, h7⟩ := h
  exact ⟨⟨oexB_ok h1, He.eqO_ok h2, h3, h4, h5⟩, He.eqO_ok h6, h7⟩
/-- what isinstance asks of a caught error's class -/
def excCB (K : PySem.W.Frag) (x : Str) : Bool := He.eqO (PySem.W.findIn K (.ref (He.ga K x)) "__getattribute__") (some (some (.builtin "BaseException.__getattribute__"))) && (He.eqO (PySem.W.findIn K (.ref (He.ga K x)) "__getattr__") (some none) &&
  (decide (PySem.W.subIn K (.ref (He.ga K x)) (.type "BaseException") = some true) && (PySem.W.hasDictIn K (He.ga K x) && (He.eqO (PySem.W.findIn K (.ref (He.ga K x)) "__class__") (some (some (.builtin "object.__class__"))) &&
  (He.eqO (PySem.W.specialIn K (.builtin "object.__class__") "__get__") (some (some (.builtin "getset_descriptor.__get__"))) && (decide (PySem.W.takesIn K (.builtin "object.__class__") = some true) && decide (PySem.W.mroIn K (He.ga K x) (.type "object") = some true)))))))
theorem excCB_ok {K : PySem.W.Frag} {x : Str} (h : excCB K x = true) : ExcC K (He.ga K x) := by
  unfold excCB at h
  simp only [Bool.and_eq_true, decide_eq_true_eq] at h
  obtain ⟨h1, h2, h3, h4, h5, h6, h7, h8⟩ := h
  exact ⟨He.eqO_ok h1, He.eqO_ok h2, h3, h4, He.eqO_ok h5, He.eqO_ok h6, h7, h8⟩
def kitF (K : PySem.W.Frag) (x y : Str) (b : Bool) : Bool := decide (PySem.W.kitOne K (.ref (He.ga K x)) (.ref (He.ga K y)) = some b)
section
variable {X : Cx} {C : Addr} {bmB : List Value} {B newId initId : String}
/-- X() -/
theorem pmk_own0 {x : Str} {p pos : Pos} (F : ExcBaseFacts B newId initId bmB) (q : PySem.W.excIn X.K C bmB newId = true) (gC : X.mg x = some (.ref C)) (kC : PySem.W.keepIn X.K (.ref C) = true) (r : Raises X (.ref C)) (hg : Gl X x := by rfl)
    (hdb : (x == ("__debug__" : Str)) = false := by decide) : PMk X (.Call (.Name x p) [] [] pos) (fun _ H Q => Q (.ref C) none H) := by
  intro pins s σ H Q I h
  refine wpAny_Call_Name_kw (ld_glob I hg gC ?_ hdb)
  refine PySem.W.callWith_K0 I.kIn kC ?_
  show wpAny _ _ (call (.ref C) []) _ _ _
  obtain ⟨bm, N, nm, qn, bs, hdct, sn, sub, ab, col, dd, k0, k1, k2, k3, k5, mN, hC, hN, hni, T⟩ := exc_obj I.kIn q
  refine wpAny_call_exc_subT F T hC hN hni (fun h' e hm => ?_) (by show 0 ≤ sizeLine; exact Nat.zero_le _)
  exact mk_of I hm r h (I.hok.gone hm.new)
end
/-! ### values by names -/
section
variable {X : Cx}
theorem pe_ty {x : Str} {T : String} {pos : Pos} (hm : X.mg x = none) (hv : bootBuiltins x = some (.type T)) (hg : Gl X x := by rfl) (hn : x ≠ "__name__" := by decide) (hd : (x == ("__debug__" : Str)) = false := by decide) : PE X (.Name x pos) (tC (.ty T)) := pe_bltn hg hm hv rfl hn hd
theorem pe_gint {x : Str} {i : Int} {pos : Pos} (hm : ∃ t, X.mg x = some (.int i t)) (hg : Gl X x := by rfl) (hd : (x == ("__debug__" : Str)) = false := by decide) : PE X (.Name x pos) (tC (.int i)) := by
  obtain ⟨t, hm⟩ := hm
  exact pe_glob hg hm ⟨_, rfl⟩ hd
theorem pe_gstr {x z : Str} {pos : Pos} (hm : ∃ t, X.mg x = some (.str z t)) (hg : Gl X x := by rfl) (hd : (x == ("__debug__" : Str)) = false := by decide) : PE X (.Name x pos) (tC (.str z)) := by
  obtain ⟨t, hm⟩ := hm
  exact pe_glob hg hm ⟨_, rfl⟩ hd
theorem pe_gref {x : Str} {a : Addr} {pos : Pos} (hm : X.mg x = some (.ref a)) (hg : Gl X x := by rfl) (hd : (x == ("__debug__" : Str)) = false := by decide) : PE X (.Name x pos) (tC (.ref a)) := pe_glob hg hm rfl hd
end
/-! ### calls within what may raise -/
section
variable {X : Cx} {CX : CXT} {j k : Nat} {x : Str} {ps : List Str} {sp : Sp} {E : XK} {p pos : Pos} {e : Expr} {es : List Expr} {t : TA}
theorem pe_gS {E : L2.St → XK} (g : G X.prog X.w X.K X.mg X.base CX k x ps sp) (hr : Room j X.A) (hx : ∀ σ, PassesAt CX X σ (E σ)) (ha : PA X (e :: es) t) (hj : k ≤ j := by omega) (hg : Gl X x := by rfl)
    (hdb : (x == ("__debug__" : Str)) = false := by decide) (he : starEach (e :: es) X.env = (false, eval e X.env) :: starEach es X.env := by rfl) (hpl : (backTo pos (starEach es X.env)).any (·.1) = false := by rfl) :
    PE X (.Call (.Name x p) (e :: es) [] pos) (tCallS sp E t) := by
  obtain ⟨f, fd, a, b, c, d⟩ := g
  exact pe_callS c (hr.mono hj) hg a b d hx ha hdb he hpl
end
end Q
namespace Q
open PySem PySem.Spec PyProof.Rows L2
def top (i : Nat) : Stmt := PySem.Challenge.pw_fourcreases_k94_whole_numbers_and_trees.main.body.getD i (.Pass ⟨0, 0, 0, 0⟩)
abbrev s_BadText___init__ : Stmt := inClass (top 3) 0
abbrev s_is_integer : Stmt := top 6
abbrev s_is_row : Stmt := top 7
abbrev s_common_part : Stmt := top 8
abbrev s_is_fraction : Stmt := top 9
abbrev s_is_whole_text : Stmt := top 15
abbrev s_is_signed_text : Stmt := top 16
abbrev s_frac_word : Stmt := top 17
abbrev s_word_frac : Stmt := top 18
abbrev s_numbers_text : Stmt := top 19
abbrev s_read_numbers : Stmt := top 20
abbrev s_is_plain_tree : Stmt := top 21
abbrev s_tree_word : Stmt := top 22
abbrev s_tree_text : Stmt := top 23
abbrev s_TreeReader___init__ : Stmt := inClass (top 24) 0
abbrev s_TreeReader_fail : Stmt := inClass (top 24) 1
abbrev s_TreeReader_sign : Stmt := inClass (top 24) 2
abbrev s_TreeReader_take : Stmt := inClass (top 24) 3
abbrev s_TreeReader_number : Stmt := inClass (top 24) 4
abbrev s_TreeReader_tree : Stmt := inClass (top 24) 5
abbrev s_read_tree : Stmt := top 25
abbrev s__law_mixed : Stmt := top 27
abbrev s__law_great : Stmt := top 28
abbrev s__law_stream : Stmt := top 29
abbrev s__law_take : Stmt := top 30
abbrev s__law_low : Stmt := top 31
abbrev s__law_is_integer : Stmt := top 32
abbrev s__law_alike : Stmt := top 33
abbrev s__law_word : Stmt := top 34
abbrev s__law_whole : Stmt := top 35
abbrev s__law_read_word : Stmt := top 36
abbrev s__law_is_long : Stmt := top 37
abbrev s__law_numbers_due : Stmt := top 38
abbrev s__law_numbers_read : Stmt := top 39
abbrev s__law_tree_read : Stmt := top 40
abbrev s__law_no_numbers : Stmt := top 41
abbrev s__law_no_tree : Stmt := top 42
abbrev s__law_changed : Stmt := top 43
abbrev s__law_size_drawn : Stmt := top 44
abbrev s__law_numbers_judged : Stmt := top 45
abbrev s__law_tree_drawn : Stmt := top 46
abbrev s__law_tree_word : Stmt := top 47
abbrev s__law_is_tree : Stmt := top 48
abbrev s__law_bad_sign : Stmt := top 49
abbrev s__law_spoilt : Stmt := top 50
abbrev s__law_trees_judged : Stmt := top 51
abbrev s__law_deepest : Stmt := top 52
abbrev s_law : Stmt := top 53
abbrev FnP (K : PySem.W.Frag) (x q : Str) (st : Stmt) (f : Addr) (fd : FuncData) : Prop := FunD K x q (defArgs st) (defBody st) (defScope st) [] [] f fd
abbrev N_BadText___init__ : List Str := ["self", "at"]
theorem sc_BadText___init__ : FnScope N_BadText___init__ ["self", "at"] (defScope s_BadText___init__) := ⟨rfl, rfl, rfl, by decide +kernel, rfl, by decide +kernel, by decide +kernel⟩
abbrev N_is_integer : List Str := ["thing"]
theorem sc_is_integer : FnScope N_is_integer ["thing"] (defScope s_is_integer) := ⟨rfl, rfl, rfl, by decide +kernel, rfl, by decide +kernel, by decide +kernel⟩
abbrev N_is_row : List Str := ["thing"]
theorem sc_is_row : FnScope N_is_row ["thing"] (defScope s_is_row) := ⟨rfl, rfl, rfl, by decide +kernel, rfl, by decide +kernel, by decide +kernel⟩
abbrev N_common_part : List Str := ["one", "other"]
theorem sc_common_part : FnScope N_common_part ["one", "other"] (defScope s_common_part) := ⟨rfl, rfl, rfl, by decide +kernel, rfl, by decide +kernel, by decide +kernel⟩
abbrev N_is_fraction : List Str := ["thing"]
theorem sc_is_fraction : FnScope N_is_fraction ["thing"] (defScope s_is_fraction) := ⟨rfl, rfl, rfl, by decide +kernel, rfl, by decide +kernel, by decide +kernel⟩
abbrev N_is_whole_text : List Str := ["text", "sign"]
theorem sc_is_whole_text : FnScope N_is_whole_text ["text"] (defScope s_is_whole_text) := ⟨rfl, rfl, rfl, by decide +kernel, rfl, by decide +kernel, by decide +kernel⟩
abbrev N_is_signed_text : List Str := ["text"]
theorem sc_is_signed_text : FnScope N_is_signed_text ["text"] (defScope s_is_signed_text) := ⟨rfl, rfl, rfl, by decide +kernel, rfl, by decide +kernel, by decide +kernel⟩
abbrev N_frac_word : List Str := ["one"]
theorem sc_frac_word : FnScope N_frac_word ["one"] (defScope s_frac_word) := ⟨rfl, rfl, rfl, by decide +kernel, rfl, by decide +kernel, by decide +kernel⟩
abbrev N_word_frac : List Str := ["text", "parts", "found"]
theorem sc_word_frac : FnScope N_word_frac ["text"] (defScope s_word_frac) := ⟨rfl, rfl, rfl, by decide +kernel, rfl, by decide +kernel, by decide +kernel⟩
abbrev N_numbers_text : List Str := ["numbers", "item"]
theorem sc_numbers_text : FnScope N_numbers_text ["numbers"] (defScope s_numbers_text) := ⟨rfl, rfl, rfl, by decide +kernel, rfl, by decide +kernel, by decide +kernel⟩
abbrev N_read_numbers : List Str := ["text", "found", "at", "word", "item"]
theorem sc_read_numbers : FnScope N_read_numbers ["text"] (defScope s_read_numbers) := ⟨rfl, rfl, rfl, by decide +kernel, rfl, by decide +kernel, by decide +kernel⟩
abbrev N_is_plain_tree : List Str := ["thing", "deep"]
theorem sc_is_plain_tree : FnScope N_is_plain_tree ["thing", "deep"] (defScope s_is_plain_tree) := ⟨rfl, rfl, rfl, by decide +kernel, rfl, by decide +kernel, by decide +kernel⟩
abbrev N_tree_word : List Str := ["tree"]
theorem sc_tree_word : FnScope N_tree_word ["tree"] (defScope s_tree_word) := ⟨rfl, rfl, rfl, by decide +kernel, rfl, by decide +kernel, by decide +kernel⟩
abbrev N_tree_text : List Str := ["tree"]
theorem sc_tree_text : FnScope N_tree_text ["tree"] (defScope s_tree_text) := ⟨rfl, rfl, rfl, by decide +kernel, rfl, by decide +kernel, by decide +kernel⟩
abbrev N_TreeReader___init__ : List Str := ["self", "text"]
theorem sc_TreeReader___init__ : FnScope N_TreeReader___init__ ["self", "text"] (defScope s_TreeReader___init__) := ⟨rfl, rfl, rfl, by decide +kernel, rfl, by decide +kernel, by decide +kernel⟩
abbrev N_TreeReader_fail : List Str := ["self"]
theorem sc_TreeReader_fail : FnScope N_TreeReader_fail ["self"] (defScope s_TreeReader_fail) := ⟨rfl, rfl, rfl, by decide +kernel, rfl, by decide +kernel, by decide +kernel⟩
abbrev N_TreeReader_sign : List Str := ["self"]
theorem sc_TreeReader_sign : FnScope N_TreeReader_sign ["self"] (defScope s_TreeReader_sign) := ⟨rfl, rfl, rfl, by decide +kernel, rfl, by decide +kernel, by decide +kernel⟩
abbrev N_TreeReader_take : List Str := ["self", "sign"]
theorem sc_TreeReader_take : FnScope N_TreeReader_take ["self", "sign"] (defScope s_TreeReader_take) := ⟨rfl, rfl, rfl, by decide +kernel, rfl, by decide +kernel, by decide +kernel⟩
abbrev N_TreeReader_number : List Str := ["self", "begin"]
theorem sc_TreeReader_number : FnScope N_TreeReader_number ["self"] (defScope s_TreeReader_number) := ⟨rfl, rfl, rfl, by decide +kernel, rfl, by decide +kernel, by decide +kernel⟩
abbrev N_TreeReader_tree : List Str := ["self", "deep", "corner", "first", "second"]
theorem sc_TreeReader_tree : FnScope N_TreeReader_tree ["self", "deep"] (defScope s_TreeReader_tree) := ⟨rfl, rfl, rfl, by decide +kernel, rfl, by decide +kernel, by decide +kernel⟩
abbrev N_read_tree : List Str := ["text", "reader", "found"]
theorem sc_read_tree : FnScope N_read_tree ["text"] (defScope s_read_tree) := ⟨rfl, rfl, rfl, by decide +kernel, rfl, by decide +kernel, by decide +kernel⟩
abbrev N__law_mixed : List Str := ["_law_cell", "_law_k", "_law_number"]
theorem sc__law_mixed : FnScope N__law_mixed ["_law_cell", "_law_k"] (defScope s__law_mixed) := ⟨rfl, rfl, rfl, by decide +kernel, rfl, by decide +kernel, by decide +kernel⟩
abbrev N__law_great : List Str := ["_law_cells", "_law_place"]
theorem sc__law_great : FnScope N__law_great ["_law_cells", "_law_place"] (defScope s__law_great) := ⟨rfl, rfl, rfl, by decide +kernel, rfl, by decide +kernel, by decide +kernel⟩
abbrev N__law_stream : List Str := ["_law_script", "_law_cells"]
theorem sc__law_stream : FnScope N__law_stream ["_law_script"] (defScope s__law_stream) := ⟨rfl, rfl, rfl, by decide +kernel, rfl, by decide +kernel, by decide +kernel⟩
abbrev N__law_take : List Str := ["_law_stream_here", "_law_many", "_law_cells", "_law_place", "_law_digit"]
theorem sc__law_take : FnScope N__law_take ["_law_stream_here", "_law_many"] (defScope s__law_take) := ⟨rfl, rfl, rfl, by decide +kernel, rfl, by decide +kernel, by decide +kernel⟩
abbrev N__law_low : List Str := ["_law_top", "_law_bottom", "_law_one", "_law_other"]
theorem sc__law_low : FnScope N__law_low ["_law_top", "_law_bottom"] (defScope s__law_low) := ⟨rfl, rfl, rfl, by decide +kernel, rfl, by decide +kernel, by decide +kernel⟩
abbrev N__law_is_integer : List Str := ["_law_thing"]
theorem sc__law_is_integer : FnScope N__law_is_integer ["_law_thing"] (defScope s__law_is_integer) := ⟨rfl, rfl, rfl, by decide +kernel, rfl, by decide +kernel, by decide +kernel⟩
abbrev N__law_alike : List Str := ["_law_told", "_law_due", "_law_k"]
theorem sc__law_alike : FnScope N__law_alike ["_law_told", "_law_due"] (defScope s__law_alike) := ⟨rfl, rfl, rfl, by decide +kernel, rfl, by decide +kernel, by decide +kernel⟩
abbrev N__law_word : List Str := ["_law_one"]
theorem sc__law_word : FnScope N__law_word ["_law_one"] (defScope s__law_word) := ⟨rfl, rfl, rfl, by decide +kernel, rfl, by decide +kernel, by decide +kernel⟩
abbrev N__law_whole : List Str := ["_law_word_here", "_law_sign"]
theorem sc__law_whole : FnScope N__law_whole ["_law_word_here"] (defScope s__law_whole) := ⟨rfl, rfl, rfl, by decide +kernel, rfl, by decide +kernel, by decide +kernel⟩
abbrev N__law_read_word : List Str := ["_law_word_here", "_law_parts", "_law_top", "_law_factor", "_law_first", "_law_second"]
theorem sc__law_read_word : FnScope N__law_read_word ["_law_word_here"] (defScope s__law_read_word) := ⟨rfl, rfl, rfl, by decide +kernel, rfl, by decide +kernel, by decide +kernel⟩
abbrev N__law_is_long : List Str := ["_law_text", "_law_run", "_law_sign"]
theorem sc__law_is_long : FnScope N__law_is_long ["_law_text"] (defScope s__law_is_long) := ⟨rfl, rfl, rfl, by decide +kernel, rfl, by decide +kernel, by decide +kernel⟩
abbrev N__law_numbers_due : List Str := ["_law_text", "_law_words", "_law_items", "_law_word_here"]
theorem sc__law_numbers_due : FnScope N__law_numbers_due ["_law_text"] (defScope s__law_numbers_due) := ⟨rfl, rfl, rfl, by decide +kernel, rfl, by decide +kernel, by decide +kernel⟩
abbrev N__law_numbers_read : List Str := ["_law_text", "_law_found", "e"]
theorem sc__law_numbers_read : FnScope N__law_numbers_read ["_law_text"] (defScope s__law_numbers_read) := ⟨rfl, rfl, rfl, by decide +kernel, rfl, by decide +kernel, by decide +kernel⟩
abbrev N__law_tree_read : List Str := ["_law_text", "_law_found", "e"]
theorem sc__law_tree_read : FnScope N__law_tree_read ["_law_text"] (defScope s__law_tree_read) := ⟨rfl, rfl, rfl, by decide +kernel, rfl, by decide +kernel, by decide +kernel⟩
abbrev N__law_no_numbers : List Str := ["_law_thing", "_law_refused", "e"]
theorem sc__law_no_numbers : FnScope N__law_no_numbers ["_law_thing"] (defScope s__law_no_numbers) := ⟨rfl, rfl, rfl, by decide +kernel, rfl, by decide +kernel, by decide +kernel⟩
abbrev N__law_no_tree : List Str := ["_law_thing", "_law_refused", "e"]
theorem sc__law_no_tree : FnScope N__law_no_tree ["_law_thing"] (defScope s__law_no_tree) := ⟨rfl, rfl, rfl, by decide +kernel, rfl, by decide +kernel, by decide +kernel⟩
abbrev N__law_changed : List Str := ["_law_stream_here", "_law_text", "_law_most", "_law_kind", "_law_at", "_law_sign"]
theorem sc__law_changed : FnScope N__law_changed ["_law_stream_here", "_law_text", "_law_most"] (defScope s__law_changed) := ⟨rfl, rfl, rfl, by decide +kernel, rfl, by decide +kernel, by decide +kernel⟩
abbrev N__law_size_drawn : List Str := ["_law_stream_here"]
theorem sc__law_size_drawn : FnScope N__law_size_drawn ["_law_stream_here"] (defScope s__law_size_drawn) := ⟨rfl, rfl, rfl, by decide +kernel, rfl, by decide +kernel, by decide +kernel⟩
abbrev N__law_numbers_judged : List Str := ["_law_stream_here", "_law_numbers", "_law_turn", "_law_minus", "_law_top", "_law_text", "_law_item", "_law_most", "_law_changed_here", "_law_at", "_law_kind", "_law_bad"]
theorem sc__law_numbers_judged : FnScope N__law_numbers_judged ["_law_stream_here"] (defScope s__law_numbers_judged) := ⟨rfl, rfl, rfl, by decide +kernel, rfl, by decide +kernel, by decide +kernel⟩
abbrev N__law_tree_drawn : List Str := ["_law_stream_here", "_law_deep", "_law_many", "_law_kind", "_law_number", "_law_half"]
theorem sc__law_tree_drawn : FnScope N__law_tree_drawn ["_law_stream_here", "_law_deep", "_law_many"] (defScope s__law_tree_drawn) := ⟨rfl, rfl, rfl, by decide +kernel, rfl, by decide +kernel, by decide +kernel⟩
abbrev N__law_tree_word : List Str := ["_law_tree"]
theorem sc__law_tree_word : FnScope N__law_tree_word ["_law_tree"] (defScope s__law_tree_word) := ⟨rfl, rfl, rfl, by decide +kernel, rfl, by decide +kernel, by decide +kernel⟩
abbrev N__law_is_tree : List Str := ["_law_tree"]
theorem sc__law_is_tree : FnScope N__law_is_tree ["_law_tree"] (defScope s__law_is_tree) := ⟨rfl, rfl, rfl, by decide +kernel, rfl, by decide +kernel, by decide +kernel⟩
abbrev N__law_bad_sign : List Str := ["_law_text", "_law_due", "_law_digits", "_law_at", "_law_sign", "_law_wish"]
theorem sc__law_bad_sign : FnScope N__law_bad_sign ["_law_text"] (defScope s__law_bad_sign) := ⟨rfl, rfl, rfl, by decide +kernel, rfl, by decide +kernel, by decide +kernel⟩
abbrev N__law_spoilt : List Str := ["_law_stream_here", "_law_tree", "_law_kind", "_law_side"]
theorem sc__law_spoilt : FnScope N__law_spoilt ["_law_stream_here", "_law_tree"] (defScope s__law_spoilt) := ⟨rfl, rfl, rfl, by decide +kernel, rfl, by decide +kernel, by decide +kernel⟩
abbrev N__law_trees_judged : List Str := ["_law_stream_here", "_law_deep", "_law_tree", "_law_text", "_law_most", "_law_changed_here", "_law_told", "_law_bad"]
theorem sc__law_trees_judged : FnScope N__law_trees_judged ["_law_stream_here"] (defScope s__law_trees_judged) := ⟨rfl, rfl, rfl, by decide +kernel, rfl, by decide +kernel, by decide +kernel⟩
abbrev N__law_deepest : List Str := ["_law_stream_here", "_law_number", "_law_tree", "_law_turn", "_law_text", "_law_longer"]
theorem sc__law_deepest : FnScope N__law_deepest ["_law_stream_here"] (defScope s__law_deepest) := ⟨rfl, rfl, rfl, by decide +kernel, rfl, by decide +kernel, by decide +kernel⟩
abbrev N_law : List Str := ["_law_script", "_law_stream_here", "_law_kind", "_law_other", "_law_digits"]
theorem sc_law : FnScope N_law ["_law_script"] (defScope s_law) := ⟨rfl, rfl, rfl, by decide +kernel, rfl, by decide +kernel, by decide +kernel⟩
def fa0 : List He.Fa := [.glo "is_integer", .glo "is_row", .glo "common_part", .glo "is_fraction", .glo "is_whole_text", .glo "is_signed_text", .glo "frac_word", .glo "word_frac", .glo "numbers_text", .glo "read_numbers", .glo "is_plain_tree", .glo "tree_word", .glo "tree_text", .glo "read_tree", .glo "_law_mixed", .glo "_law_great", .glo "_law_stream", .glo "_law_take", .glo "_law_low", .glo "_law_is_integer", .glo "_law_alike", .glo "_law_word", .glo "_law_whole", .glo "_law_read_word", .glo "_law_is_long", .glo "_law_numbers_due", .glo "_law_numbers_read", .glo "_law_tree_read", .glo "_law_no_numbers", .glo "_law_no_tree"]
def fa1 : List He.Fa := [.glo "_law_changed", .glo "_law_size_drawn", .glo "_law_numbers_judged", .glo "_law_tree_drawn", .glo "_law_tree_word", .glo "_law_is_tree", .glo "_law_bad_sign", .glo "_law_spoilt", .glo "_law_trees_judged", .glo "_law_deepest", .glo "law", .glo "FoldError", .glo "NoNumbers", .glo "BadText", .glo "NoTree", .glo "TreeReader", .free "ValueError", .free "abs", .free "all", .free "any", .free "bool", .free "enumerate", .free "int", .free "isinstance", .free "len", .free "list", .free "range", .free "str", .free "tuple", .exc "FoldError"]
def fa2 : List He.Fa := [.keep "FoldError", .exc "NoNumbers", .keep "NoNumbers", .keep "BadText", .exc "NoTree", .keep "NoTree", .exm "FoldError" "FoldError" true, .exm "FoldError" "NoNumbers" false, .exm "FoldError" "BadText" false, .exm "FoldError" "NoTree" false, .exm "NoNumbers" "FoldError" true, .exm "NoNumbers" "NoNumbers" true, .exm "NoNumbers" "BadText" false, .exm "NoNumbers" "NoTree" false, .exm "BadText" "FoldError" true, .exm "BadText" "NoNumbers" false, .exm "BadText" "BadText" true, .exm "BadText" "NoTree" false, .exm "NoTree" "FoldError" true, .exm "NoTree" "NoNumbers" false, .exm "NoTree" "BadText" false, .exm "NoTree" "NoTree" true, .noat "BadText" "at", .noat "TreeReader" "at", .noat "TreeReader" "text", .cls "TreeReader", .mkr "TreeReader", .meth "TreeReader" "fail", .meth "TreeReader" "sign", .meth "TreeReader" "take"]
def fa3 : List He.Fa := [.meth "TreeReader" "number", .meth "TreeReader" "tree", .int "MOST_DEEP" 12, .glo "LEAF", .str "DIGITS" "0123456789", .int "MOST_DIGITS" 40]
def fa : List He.Fa := fa0 ++ fa1 ++ fa2 ++ fa3
def d_BadText___init__ : He.DefD := ⟨("BadText", some "__init__"), "__init__", "BadText.__init__", defArgs s_BadText___init__, defBody s_BadText___init__, defScope s_BadText___init__, [], []⟩
def d_is_integer : He.DefD := ⟨("is_integer", none), "is_integer", "is_integer", defArgs s_is_integer, defBody s_is_integer, defScope s_is_integer, [], []⟩
def d_is_row : He.DefD := ⟨("is_row", none), "is_row", "is_row", defArgs s_is_row, defBody s_is_row, defScope s_is_row, [], []⟩
def d_common_part : He.DefD := ⟨("common_part", none), "common_part", "common_part", defArgs s_common_part, defBody s_common_part, defScope s_common_part, [], []⟩
def d_is_fraction : He.DefD := ⟨("is_fraction", none), "is_fraction", "is_fraction", defArgs s_is_fraction, defBody s_is_fraction, defScope s_is_fraction, [], []⟩
def d_is_whole_text : He.DefD := ⟨("is_whole_text", none), "is_whole_text", "is_whole_text", defArgs s_is_whole_text, defBody s_is_whole_text, defScope s_is_whole_text, [], []⟩
def d_is_signed_text : He.DefD := ⟨("is_signed_text", none), "is_signed_text", "is_signed_text", defArgs s_is_signed_text, defBody s_is_signed_text, defScope s_is_signed_text, [], []⟩
def d_frac_word : He.DefD := ⟨("frac_word", none), "frac_word", "frac_word", defArgs s_frac_word, defBody s_frac_word, defScope s_frac_word, [], []⟩
def d_word_frac : He.DefD := ⟨("word_frac", none), "word_frac", "word_frac", defArgs s_word_frac, defBody s_word_frac, defScope s_word_frac, [], []⟩
def d_numbers_text : He.DefD := ⟨("numbers_text", none), "numbers_text", "numbers_text", defArgs s_numbers_text, defBody s_numbers_text, defScope s_numbers_text, [], []⟩
def d_read_numbers : He.DefD := ⟨("read_numbers", none), "read_numbers", "read_numbers", defArgs s_read_numbers, defBody s_read_numbers, defScope s_read_numbers, [], []⟩
def d_is_plain_tree : He.DefD := ⟨("is_plain_tree", none), "is_plain_tree", "is_plain_tree", defArgs s_is_plain_tree, defBody s_is_plain_tree, defScope s_is_plain_tree, [], []⟩
def d_tree_word : He.DefD := ⟨("tree_word", none), "tree_word", "tree_word", defArgs s_tree_word, defBody s_tree_word, defScope s_tree_word, [], []⟩
def d_tree_text : He.DefD := ⟨("tree_text", none), "tree_text", "tree_text", defArgs s_tree_text, defBody s_tree_text, defScope s_tree_text, [], []⟩
def d_TreeReader___init__ : He.DefD := ⟨("TreeReader", some "__init__"), "__init__", "TreeReader.__init__", defArgs s_TreeReader___init__, defBody s_TreeReader___init__, defScope s_TreeReader___init__, [], []⟩
def d_TreeReader_fail : He.DefD := ⟨("TreeReader", some "fail"), "fail", "TreeReader.fail", defArgs s_TreeReader_fail, defBody s_TreeReader_fail, defScope s_TreeReader_fail, [], []⟩
def d_TreeReader_sign : He.DefD := ⟨("TreeReader", some "sign"), "sign", "TreeReader.sign", defArgs s_TreeReader_sign, defBody s_TreeReader_sign, defScope s_TreeReader_sign, [], []⟩
def d_TreeReader_take : He.DefD := ⟨("TreeReader", some "take"), "take", "TreeReader.take", defArgs s_TreeReader_take, defBody s_TreeReader_take, defScope s_TreeReader_take, [], []⟩
def d_TreeReader_number : He.DefD := ⟨("TreeReader", some "number"), "number", "TreeReader.number", defArgs s_TreeReader_number, defBody s_TreeReader_number, defScope s_TreeReader_number, [], []⟩
def d_TreeReader_tree : He.DefD := ⟨("TreeReader", some "tree"), "tree", "TreeReader.tree", defArgs s_TreeReader_tree, defBody s_TreeReader_tree, defScope s_TreeReader_tree, [], []⟩
def d_read_tree : He.DefD := ⟨("read_tree", none), "read_tree", "read_tree", defArgs s_read_tree, defBody s_read_tree, defScope s_read_tree, [], []⟩
def d__law_mixed : He.DefD := ⟨("_law_mixed", none), "_law_mixed", "_law_mixed", defArgs s__law_mixed, defBody s__law_mixed, defScope s__law_mixed, [], []⟩
def d__law_great : He.DefD := ⟨("_law_great", none), "_law_great", "_law_great", defArgs s__law_great, defBody s__law_great, defScope s__law_great, [], []⟩
def d__law_stream : He.DefD := ⟨("_law_stream", none), "_law_stream", "_law_stream", defArgs s__law_stream, defBody s__law_stream, defScope s__law_stream, [], []⟩
def d__law_take : He.DefD := ⟨("_law_take", none), "_law_take", "_law_take", defArgs s__law_take, defBody s__law_take, defScope s__law_take, [], []⟩
def d__law_low : He.DefD := ⟨("_law_low", none), "_law_low", "_law_low", defArgs s__law_low, defBody s__law_low, defScope s__law_low, [], []⟩
def d__law_is_integer : He.DefD := ⟨("_law_is_integer", none), "_law_is_integer", "_law_is_integer", defArgs s__law_is_integer, defBody s__law_is_integer, defScope s__law_is_integer, [], []⟩
def d__law_alike : He.DefD := ⟨("_law_alike", none), "_law_alike", "_law_alike", defArgs s__law_alike, defBody s__law_alike, defScope s__law_alike, [], []⟩
def d__law_word : He.DefD := ⟨("_law_word", none), "_law_word", "_law_word", defArgs s__law_word, defBody s__law_word, defScope s__law_word, [], []⟩
def d__law_whole : He.DefD := ⟨("_law_whole", none), "_law_whole", "_law_whole", defArgs s__law_whole, defBody s__law_whole, defScope s__law_whole, [], []⟩
def d__law_read_word : He.DefD := ⟨("_law_read_word", none), "_law_read_word", "_law_read_word", defArgs s__law_read_word, defBody s__law_read_word, defScope s__law_read_word, [], []⟩
def d__law_is_long : He.DefD := ⟨("_law_is_long", none), "_law_is_long", "_law_is_long", defArgs s__law_is_long, defBody s__law_is_long, defScope s__law_is_long, [], []⟩
def d__law_numbers_due : He.DefD := ⟨("_law_numbers_due", none), "_law_numbers_due", "_law_numbers_due", defArgs s__law_numbers_due, defBody s__law_numbers_due, defScope s__law_numbers_due, [], []⟩
def d__law_numbers_read : He.DefD := ⟨("_law_numbers_read", none), "_law_numbers_read", "_law_numbers_read", defArgs s__law_numbers_read, defBody s__law_numbers_read, defScope s__law_numbers_read, [], []⟩
def d__law_tree_read : He.DefD := ⟨("_law_tree_read", none), "_law_tree_read", "_law_tree_read", defArgs s__law_tree_read, defBody s__law_tree_read, defScope s__law_tree_read, [], []⟩
def d__law_no_numbers : He.DefD := ⟨("_law_no_numbers", none), "_law_no_numbers", "_law_no_numbers", defArgs s__law_no_numbers, defBody s__law_no_numbers, defScope s__law_no_numbers, [], []⟩
def d__law_no_tree : He.DefD := ⟨("_law_no_tree", none), "_law_no_tree", "_law_no_tree", defArgs s__law_no_tree, defBody s__law_no_tree, defScope s__law_no_tree, [], []⟩
def d__law_changed : He.DefD := ⟨("_law_changed", none), "_law_changed", "_law_changed", defArgs s__law_changed, defBody s__law_changed, defScope s__law_changed, [], []⟩
def d__law_size_drawn : He.DefD := ⟨("_law_size_drawn", none), "_law_size_drawn", "_law_size_drawn", defArgs s__law_size_drawn, defBody s__law_size_drawn, defScope s__law_size_drawn, [], []⟩
def d__law_numbers_judged : He.DefD := ⟨("_law_numbers_judged", none), "_law_numbers_judged", "_law_numbers_judged", defArgs s__law_numbers_judged, defBody s__law_numbers_judged, defScope s__law_numbers_judged, [], []⟩
def d__law_tree_drawn : He.DefD := ⟨("_law_tree_drawn", none), "_law_tree_drawn", "_law_tree_drawn", defArgs s__law_tree_drawn, defBody s__law_tree_drawn, defScope s__law_tree_drawn, [], []⟩
def d__law_tree_word : He.DefD := ⟨("_law_tree_word", none), "_law_tree_word", "_law_tree_word", defArgs s__law_tree_word, defBody s__law_tree_word, defScope s__law_tree_word, [], []⟩
def d__law_is_tree : He.DefD := ⟨("_law_is_tree", none), "_law_is_tree", "_law_is_tree", defArgs s__law_is_tree, defBody s__law_is_tree, defScope s__law_is_tree, [], []⟩
def d__law_bad_sign : He.DefD := ⟨("_law_bad_sign", none), "_law_bad_sign", "_law_bad_sign", defArgs s__law_bad_sign, defBody s__law_bad_sign, defScope s__law_bad_sign, [], []⟩
def d__law_spoilt : He.DefD := ⟨("_law_spoilt", none), "_law_spoilt", "_law_spoilt", defArgs s__law_spoilt, defBody s__law_spoilt, defScope s__law_spoilt, [], []⟩
def d__law_trees_judged : He.DefD := ⟨("_law_trees_judged", none), "_law_trees_judged", "_law_trees_judged", defArgs s__law_trees_judged, defBody s__law_trees_judged, defScope s__law_trees_judged, [], []⟩
def d__law_deepest : He.DefD := ⟨("_law_deepest", none), "_law_deepest", "_law_deepest", defArgs s__law_deepest, defBody s__law_deepest, defScope s__law_deepest, [], []⟩
def d_law : He.DefD := ⟨("law", none), "law", "law", defArgs s_law, defBody s_law, defScope s_law, [], []⟩
def fn0 : List He.DefD := [d_BadText___init__, d_is_integer, d_is_row, d_common_part, d_is_fraction, d_is_whole_text, d_is_signed_text, d_frac_word, d_word_frac, d_numbers_text, d_read_numbers, d_is_plain_tree, d_tree_word, d_tree_text, d_TreeReader___init__, d_TreeReader_fail, d_TreeReader_sign, d_TreeReader_take, d_TreeReader_number, d_TreeReader_tree, d_read_tree, d__law_mixed, d__law_great, d__law_stream, d__law_take, d__law_low, d__law_is_integer, d__law_alike, d__law_word, d__law_whole]
def fn1 : List He.DefD := [d__law_read_word, d__law_is_long, d__law_numbers_due, d__law_numbers_read, d__law_tree_read, d__law_no_numbers, d__law_no_tree, d__law_changed, d__law_size_drawn, d__law_numbers_judged, d__law_tree_drawn, d__law_tree_word, d__law_is_tree, d__law_bad_sign, d__law_spoilt, d__law_trees_judged, d__law_deepest, d_law]
def fn : List He.DefD := fn0 ++ fn1
def exB (K : PySem.W.Frag) : Bool := excCB K "FoldError" && (excCB K "NoNumbers" && (excCB K "BadText" && (oexF K "BadText" && (excCB K "NoTree" && (kitF K "FoldError" "FoldError" true && (kitF K "FoldError" "NoNumbers" false && (kitF K "FoldError" "BadText" false && (kitF K "FoldError" "NoTree" false && (kitF K "NoNumbers" "FoldError" true && (kitF K "NoNumbers" "NoNumbers" true && (kitF K "NoNumbers" "BadText" false && (kitF K "NoNumbers" "NoTree" false && (kitF K "BadText" "FoldError" true && (kitF K "BadText" "NoNumbers" false && (kitF K "BadText" "BadText" true && (kitF K "BadText" "NoTree" false && (kitF K "NoTree" "FoldError" true && (kitF K "NoTree" "NoNumbers" false && (kitF K "NoTree" "BadText" false && (kitF K "NoTree" "NoTree" true && (He.tupB K "LEAF" [.str "leaf"])))))))))))))))))))))
/-- what the top has left -/
structure Txt (K : PySem.W.Frag) (mg : Str → Option Value) : Prop where
  ex0 : ∃ h : Heap, K.In h ∧ h.Ns mainGlobals mg
  sd : He.SaysD fa fn K
  ex : exB K = true
section
variable {K : PySem.W.Frag} {mg : Str → Option Value}
theorem Txt.glo_is_integer (T : Txt K mg) : mg "is_integer" = some (.ref (He.ga K "is_integer")) := by
  obtain ⟨h, X, G⟩ := T.ex0
  exact He.glo_ok X G (T.sd.fact 0 (f := .glo "is_integer") rfl)
theorem Txt.glo_is_row (T : Txt K mg) : mg "is_row" = some (.ref (He.ga K "is_row")) := by
  obtain ⟨h, X, G⟩ := T.ex0
  exact He.glo_ok X G (T.sd.fact 1 (f := .glo "is_row") rfl)
theorem Txt.glo_common_part (T : Txt K mg) : mg "common_part" = some (.ref (He.ga K "common_part")) := by
  obtain ⟨h, X, G⟩ := T.ex0
  exact He.glo_ok X G (T.sd.fact 2 (f := .glo "common_part") rfl)
theorem Txt.glo_is_fraction (T : Txt K mg) : mg "is_fraction" = some (.ref (He.ga K "is_fraction")) := by
  obtain ⟨h, X, G⟩ := T.ex0
  exact He.glo_ok X G (T.sd.fact 3 (f := .glo "is_fraction") rfl)
theorem Txt.glo_is_whole_text (T : Txt K mg) : mg "is_whole_text" = some (.ref (He.ga K "is_whole_text")) := by
  obtain ⟨h, X, G⟩ := T.ex0
  exact He.glo_ok X G (T.sd.fact 4 (f := .glo "is_whole_text") rfl)
theorem Txt.glo_is_signed_text (T : Txt K mg) : mg "is_signed_text" = some (.ref (He.ga K "is_signed_text")) := by
  obtain ⟨h, X, G⟩ := T.ex0
  exact He.glo_ok X G (T.sd.fact 5 (f := .glo "is_signed_text") rfl)
theorem Txt.glo_frac_word (T : Txt K mg) : mg "frac_word" = some (.ref (He.ga K "frac_word")) := by
  obtain ⟨h, X, G⟩ := T.ex0
  exact He.glo_ok X G (T.sd.fact 6 (f := .glo "frac_word") rfl)
theorem Txt.glo_word_frac (T : Txt K mg) : mg "word_frac" = some (.ref (He.ga K "word_frac")) := by
  obtain ⟨h, X, G⟩ := T.ex0
  exact He.glo_ok X G (T.sd.fact 7 (f := .glo "word_frac") rfl)
theorem Txt.glo_numbers_text (T : Txt K mg) : mg "numbers_text" = some (.ref (He.ga K "numbers_text")) := by
  obtain ⟨h, X, G⟩ := T.ex0
  exact He.glo_ok X G (T.sd.fact 8 (f := .glo "numbers_text") rfl)
theorem Txt.glo_read_numbers (T : Txt K mg) : mg "read_numbers" = some (.ref (He.ga K "read_numbers")) := by
  obtain ⟨h, X, G⟩ := T.ex0
  exact He.glo_ok X G (T.sd.fact 9 (f := .glo "read_numbers") rfl)
theorem Txt.glo_is_plain_tree (T : Txt K mg) : mg "is_plain_tree" = some (.ref (He.ga K "is_plain_tree")) := by
  obtain ⟨h, X, G⟩ := T.ex0
  exact He.glo_ok X G (T.sd.fact 10 (f := .glo "is_plain_tree") rfl)
theorem Txt.glo_tree_word (T : Txt K mg) : mg "tree_word" = some (.ref (He.ga K "tree_word")) := by
  obtain ⟨h, X, G⟩ := T.ex0
  exact He.glo_ok X G (T.sd.fact 11 (f := .glo "tree_word") rfl)
theorem Txt.glo_tree_text (T : Txt K mg) : mg "tree_text" = some (.ref (He.ga K "tree_text")) := by
  obtain ⟨h, X, G⟩ := T.ex0
  exact He.glo_ok X G (T.sd.fact 12 (f := .glo "tree_text") rfl)
theorem Txt.glo_read_tree (T : Txt K mg) : mg "read_tree" = some (.ref (He.ga K "read_tree")) := by
  obtain ⟨h, X, G⟩ := T.ex0
  exact He.glo_ok X G (T.sd.fact 13 (f := .glo "read_tree") rfl)
theorem Txt.glo__law_mixed (T : Txt K mg) : mg "_law_mixed" = some (.ref (He.ga K "_law_mixed")) := by
  obtain ⟨h, X, G⟩ := T.ex0
  exact He.glo_ok X G (T.sd.fact 14 (f := .glo "_law_mixed") rfl)
theorem Txt.glo__law_great (T : Txt K mg) : mg "_law_great" = some (.ref (He.ga K "_law_great")) := by
  obtain ⟨h, X, G⟩ := T.ex0
  exact He.glo_ok X G (T.sd.fact 15 (f := .glo "_law_great") rfl)
theorem Txt.glo__law_stream (T : Txt K mg) : mg "_law_stream" = some (.ref (He.ga K "_law_stream")) := by
  obtain ⟨h, X, G⟩ := T.ex0
  exact He.glo_ok X G (T.sd.fact 16 (f := .glo "_law_stream") rfl)
theorem Txt.glo__law_take (T : Txt K mg) : mg "_law_take" = some (.ref (He.ga K "_law_take")) := by
  obtain ⟨h, X, G⟩ := T.ex0
  exact He.glo_ok X G (T.sd.fact 17 (f := .glo "_law_take") rfl)
theorem Txt.glo__law_low (T : Txt K mg) : mg "_law_low" = some (.ref (He.ga K "_law_low")) := by
  obtain ⟨h, X, G⟩ := T.ex0
  exact He.glo_ok X G (T.sd.fact 18 (f := .glo "_law_low") rfl)
theorem Txt.glo__law_is_integer (T : Txt K mg) : mg "_law_is_integer" = some (.ref (He.ga K "_law_is_integer")) := by
  obtain ⟨h, X, G⟩ := T.ex0
  exact He.glo_ok X G (T.sd.fact 19 (f := .glo "_law_is_integer") rfl)
theorem Txt.glo__law_alike (T : Txt K mg) : mg "_law_alike" = some (.ref (He.ga K "_law_alike")) := by
  obtain ⟨h, X, G⟩ := T.ex0
  exact He.glo_ok X G (T.sd.fact 20 (f := .glo "_law_alike") rfl)
theorem Txt.glo__law_word (T : Txt K mg) : mg "_law_word" = some (.ref (He.ga K "_law_word")) := by
  obtain ⟨h, X, G⟩ := T.ex0
  exact He.glo_ok X G (T.sd.fact 21 (f := .glo "_law_word") rfl)
theorem Txt.glo__law_whole (T : Txt K mg) : mg "_law_whole" = some (.ref (He.ga K "_law_whole")) := by
  obtain ⟨h, X, G⟩ := T.ex0
  exact He.glo_ok X G (T.sd.fact 22 (f := .glo "_law_whole") rfl)
theorem Txt.glo__law_read_word (T : Txt K mg) : mg "_law_read_word" = some (.ref (He.ga K "_law_read_word")) := by
  obtain ⟨h, X, G⟩ := T.ex0
  exact He.glo_ok X G (T.sd.fact 23 (f := .glo "_law_read_word") rfl)
theorem Txt.glo__law_is_long (T : Txt K mg) : mg "_law_is_long" = some (.ref (He.ga K "_law_is_long")) := by
  obtain ⟨h, X, G⟩ := T.ex0
  exact He.glo_ok X G (T.sd.fact 24 (f := .glo "_law_is_long") rfl)
theorem Txt.glo__law_numbers_due (T : Txt K mg) : mg "_law_numbers_due" = some (.ref (He.ga K "_law_numbers_due")) := by
  obtain ⟨h, X, G⟩ := T.ex0
  exact He.glo_ok X G (T.sd.fact 25 (f := .glo "_law_numbers_due") rfl)
theorem Txt.glo__law_numbers_read (T : Txt K mg) : mg "_law_numbers_read" = some (.ref (He.ga K "_law_numbers_read")) := by
  obtain ⟨h, X, G⟩ := T.ex0
  exact He.glo_ok X G (T.sd.fact 26 (f := .glo "_law_numbers_read") rfl)
theorem Txt.glo__law_tree_read (T : Txt K mg) : mg "_law_tree_read" = some (.ref (He.ga K "_law_tree_read")) := by
  obtain ⟨h, X, G⟩ := T.ex0
  exact He.glo_ok X G (T.sd.fact 27 (f := .glo "_law_tree_read") rfl)
theorem Txt.glo__law_no_numbers (T : Txt K mg) : mg "_law_no_numbers" = some (.ref (He.ga K "_law_no_numbers")) := by
  obtain ⟨h, X, G⟩ := T.ex0
  exact He.glo_ok X G (T.sd.fact 28 (f := .glo "_law_no_numbers") rfl)
theorem Txt.glo__law_no_tree (T : Txt K mg) : mg "_law_no_tree" = some (.ref (He.ga K "_law_no_tree")) := by
  obtain ⟨h, X, G⟩ := T.ex0
  exact He.glo_ok X G (T.sd.fact 29 (f := .glo "_law_no_tree") rfl)
theorem Txt.glo__law_changed (T : Txt K mg) : mg "_law_changed" = some (.ref (He.ga K "_law_changed")) := by
  obtain ⟨h, X, G⟩ := T.ex0
  exact He.glo_ok X G (T.sd.fact 30 (f := .glo "_law_changed") rfl)
theorem Txt.glo__law_size_drawn (T : Txt K mg) : mg "_law_size_drawn" = some (.ref (He.ga K "_law_size_drawn")) := by
  obtain ⟨h, X, G⟩ := T.ex0
  exact He.glo_ok X G (T.sd.fact 31 (f := .glo "_law_size_drawn") rfl)
theorem Txt.glo__law_numbers_judged (T : Txt K mg) : mg "_law_numbers_judged" = some (.ref (He.ga K "_law_numbers_judged")) := by
  obtain ⟨h, X, G⟩ := T.ex0
  exact He.glo_ok X G (T.sd.fact 32 (f := .glo "_law_numbers_judged") rfl)
theorem Txt.glo__law_tree_drawn (T : Txt K mg) : mg "_law_tree_drawn" = some (.ref (He.ga K "_law_tree_drawn")) := by
  obtain ⟨h, X, G⟩ := T.ex0
  exact He.glo_ok X G (T.sd.fact 33 (f := .glo "_law_tree_drawn") rfl)
theorem Txt.glo__law_tree_word (T : Txt K mg) : mg "_law_tree_word" = some (.ref (He.ga K "_law_tree_word")) := by
  obtain ⟨h, X, G⟩ := T.ex0
  exact He.glo_ok X G (T.sd.fact 34 (f := .glo "_law_tree_word") rfl)
theorem Txt.glo__law_is_tree (T : Txt K mg) : mg "_law_is_tree" = some (.ref (He.ga K "_law_is_tree")) := by
  obtain ⟨h, X, G⟩ := T.ex0
  exact He.glo_ok X G (T.sd.fact 35 (f := .glo "_law_is_tree") rfl)
theorem Txt.glo__law_bad_sign (T : Txt K mg) : mg "_law_bad_sign" = some (.ref (He.ga K "_law_bad_sign")) := by
  obtain ⟨h, X, G⟩ := T.ex0
  exact He.glo_ok X G (T.sd.fact 36 (f := .glo "_law_bad_sign") rfl)
theorem Txt.glo__law_spoilt (T : Txt K mg) : mg "_law_spoilt" = some (.ref (He.ga K "_law_spoilt")) := by
  obtain ⟨h, X, G⟩ := T.ex0
  exact He.glo_ok X G (T.sd.fact 37 (f := .glo "_law_spoilt") rfl)
theorem Txt.glo__law_trees_judged (T : Txt K mg) : mg "_law_trees_judged" = some (.ref (He.ga K "_law_trees_judged")) := by
  obtain ⟨h, X, G⟩ := T.ex0
  exact He.glo_ok X G (T.sd.fact 38 (f := .glo "_law_trees_judged") rfl)
theorem Txt.glo__law_deepest (T : Txt K mg) : mg "_law_deepest" = some (.ref (He.ga K "_law_deepest")) := by
  obtain ⟨h, X, G⟩ := T.ex0
  exact He.glo_ok X G (T.sd.fact 39 (f := .glo "_law_deepest") rfl)
theorem Txt.glo_law (T : Txt K mg) : mg "law" = some (.ref (He.ga K "law")) := by
  obtain ⟨h, X, G⟩ := T.ex0
  exact He.glo_ok X G (T.sd.fact 40 (f := .glo "law") rfl)
theorem Txt.glo_FoldError (T : Txt K mg) : mg "FoldError" = some (.ref (He.ga K "FoldError")) := by
  obtain ⟨h, X, G⟩ := T.ex0
  exact He.glo_ok X G (T.sd.fact 41 (f := .glo "FoldError") rfl)
theorem Txt.glo_NoNumbers (T : Txt K mg) : mg "NoNumbers" = some (.ref (He.ga K "NoNumbers")) := by
  obtain ⟨h, X, G⟩ := T.ex0
  exact He.glo_ok X G (T.sd.fact 42 (f := .glo "NoNumbers") rfl)
theorem Txt.glo_BadText (T : Txt K mg) : mg "BadText" = some (.ref (He.ga K "BadText")) := by
  obtain ⟨h, X, G⟩ := T.ex0
  exact He.glo_ok X G (T.sd.fact 43 (f := .glo "BadText") rfl)
theorem Txt.glo_NoTree (T : Txt K mg) : mg "NoTree" = some (.ref (He.ga K "NoTree")) := by
  obtain ⟨h, X, G⟩ := T.ex0
  exact He.glo_ok X G (T.sd.fact 44 (f := .glo "NoTree") rfl)
theorem Txt.glo_TreeReader (T : Txt K mg) : mg "TreeReader" = some (.ref (He.ga K "TreeReader")) := by
  obtain ⟨h, X, G⟩ := T.ex0
  exact He.glo_ok X G (T.sd.fact 45 (f := .glo "TreeReader") rfl)
theorem Txt.free_ValueError (T : Txt K mg) : mg "ValueError" = none := by
  obtain ⟨h, X, G⟩ := T.ex0
  exact He.free_ok X G (T.sd.fact 46 (f := .free "ValueError") rfl)
theorem Txt.free_abs (T : Txt K mg) : mg "abs" = none := by
  obtain ⟨h, X, G⟩ := T.ex0
  exact He.free_ok X G (T.sd.fact 47 (f := .free "abs") rfl)
theorem Txt.free_all (T : Txt K mg) : mg "all" = none := by
  obtain ⟨h, X, G⟩ := T.ex0
  exact He.free_ok X G (T.sd.fact 48 (f := .free "all") rfl)
theorem Txt.free_any (T : Txt K mg) : mg "any" = none := by
  obtain ⟨h, X, G⟩ := T.ex0
  exact He.free_ok X G (T.sd.fact 49 (f := .free "any") rfl)
theorem Txt.free_bool (T : Txt K mg) : mg "bool" = none := by
  obtain ⟨h, X, G⟩ := T.ex0
  exact He.free_ok X G (T.sd.fact 50 (f := .free "bool") rfl)
theorem Txt.free_enumerate (T : Txt K mg) : mg "enumerate" = none := by
  obtain ⟨h, X, G⟩ := T.ex0
  exact He.free_ok X G (T.sd.fact 51 (f := .free "enumerate") rfl)
theorem Txt.free_int (T : Txt K mg) : mg "int" = none := by
  obtain ⟨h, X, G⟩ := T.ex0
  exact He.free_ok X G (T.sd.fact 52 (f := .free "int") rfl)
theorem Txt.free_isinstance (T : Txt K mg) : mg "isinstance" = none := by
  obtain ⟨h, X, G⟩ := T.ex0
  exact He.free_ok X G (T.sd.fact 53 (f := .free "isinstance") rfl)
theorem Txt.free_len (T : Txt K mg) : mg "len" = none := by
  obtain ⟨h, X, G⟩ := T.ex0
  exact He.free_ok X G (T.sd.fact 54 (f := .free "len") rfl)
theorem Txt.free_list (T : Txt K mg) : mg "list" = none := by
  obtain ⟨h, X, G⟩ := T.ex0
  exact He.free_ok X G (T.sd.fact 55 (f := .free "list") rfl)
theorem Txt.free_range (T : Txt K mg) : mg "range" = none := by
  obtain ⟨h, X, G⟩ := T.ex0
  exact He.free_ok X G (T.sd.fact 56 (f := .free "range") rfl)
theorem Txt.free_str (T : Txt K mg) : mg "str" = none := by
  obtain ⟨h, X, G⟩ := T.ex0
  exact He.free_ok X G (T.sd.fact 57 (f := .free "str") rfl)
theorem Txt.free_tuple (T : Txt K mg) : mg "tuple" = none := by
  obtain ⟨h, X, G⟩ := T.ex0
  exact He.free_ok X G (T.sd.fact 58 (f := .free "tuple") rfl)
theorem Txt.exc_FoldError (T : Txt K mg) : PySem.W.excIn K (He.ga K "FoldError") He.veBase "ValueError.__new__" = true ∧ PySem.W.keepIn K (.ref (He.ga K "FoldError")) = true ∧ PySem.W.subIn K (.ref (He.ga K "FoldError")) (.type "BaseException") = some true ∧ PySem.W.typeIn K (.ref (He.ga K "FoldError")) = some (.type "type") := He.exc_ok (T.sd.fact 59 (f := .exc "FoldError") rfl)
theorem Txt.keep_FoldError (T : Txt K mg) : PySem.W.keepIn K (.ref (He.ga K "FoldError")) = true := He.keep_ok (T.sd.fact 60 (f := .keep "FoldError") rfl)
theorem Txt.exc_NoNumbers (T : Txt K mg) : PySem.W.excIn K (He.ga K "NoNumbers") He.veBase "ValueError.__new__" = true ∧ PySem.W.keepIn K (.ref (He.ga K "NoNumbers")) = true ∧ PySem.W.subIn K (.ref (He.ga K "NoNumbers")) (.type "BaseException") = some true ∧ PySem.W.typeIn K (.ref (He.ga K "NoNumbers")) = some (.type "type") := He.exc_ok (T.sd.fact 61 (f := .exc "NoNumbers") rfl)
theorem Txt.keep_NoNumbers (T : Txt K mg) : PySem.W.keepIn K (.ref (He.ga K "NoNumbers")) = true := He.keep_ok (T.sd.fact 62 (f := .keep "NoNumbers") rfl)
theorem Txt.keep_BadText (T : Txt K mg) : PySem.W.keepIn K (.ref (He.ga K "BadText")) = true := He.keep_ok (T.sd.fact 63 (f := .keep "BadText") rfl)
theorem Txt.exc_NoTree (T : Txt K mg) : PySem.W.excIn K (He.ga K "NoTree") He.veBase "ValueError.__new__" = true ∧ PySem.W.keepIn K (.ref (He.ga K "NoTree")) = true ∧ PySem.W.subIn K (.ref (He.ga K "NoTree")) (.type "BaseException") = some true ∧ PySem.W.typeIn K (.ref (He.ga K "NoTree")) = some (.type "type") := He.exc_ok (T.sd.fact 64 (f := .exc "NoTree") rfl)
theorem Txt.keep_NoTree (T : Txt K mg) : PySem.W.keepIn K (.ref (He.ga K "NoTree")) = true := He.keep_ok (T.sd.fact 65 (f := .keep "NoTree") rfl)
theorem Txt.exm_FoldError_FoldError (T : Txt K mg) : PySem.W.exmOne K (.ref (He.ga K "FoldError")) (.ref (He.ga K "FoldError")) = some true := He.exm_ok (T.sd.fact 66 (f := .exm "FoldError" "FoldError" true) rfl)
theorem Txt.exm_FoldError_NoNumbers (T : Txt K mg) : PySem.W.exmOne K (.ref (He.ga K "FoldError")) (.ref (He.ga K "NoNumbers")) = some false := He.exm_ok (T.sd.fact 67 (f := .exm "FoldError" "NoNumbers" false) rfl)
theorem Txt.exm_FoldError_BadText (T : Txt K mg) : PySem.W.exmOne K (.ref (He.ga K "FoldError")) (.ref (He.ga K "BadText")) = some false := He.exm_ok (T.sd.fact 68 (f := .exm "FoldError" "BadText" false) rfl)
theorem Txt.exm_FoldError_NoTree (T : Txt K mg) : PySem.W.exmOne K (.ref (He.ga K "FoldError")) (.ref (He.ga K "NoTree")) = some false := He.exm_ok (T.sd.fact 69 (f := .exm "FoldError" "NoTree" false) rfl)
theorem Txt.exm_NoNumbers_FoldError (T : Txt K mg) : PySem.W.exmOne K (.ref (He.ga K "NoNumbers")) (.ref (He.ga K "FoldError")) = some true := He.exm_ok (T.sd.fact 70 (f := .exm "NoNumbers" "FoldError" true) rfl)
theorem Txt.exm_NoNumbers_NoNumbers (T : Txt K mg) : PySem.W.exmOne K (.ref (He.ga K "NoNumbers")) (.ref (He.ga K "NoNumbers")) = some true := He.exm_ok (T.sd.fact 71 (f := .exm "NoNumbers" "NoNumbers" true) rfl)
theorem Txt.exm_NoNumbers_BadText (T : Txt K mg) : PySem.W.exmOne K (.ref (He.ga K "NoNumbers")) (.ref (He.ga K "BadText")) = some false := He.exm_ok (T.sd.fact 72 (f := .exm "NoNumbers" "BadText" false) rfl)
theorem Txt.exm_NoNumbers_NoTree (T : Txt K mg) : PySem.W.exmOne K (.ref (He.ga K "NoNumbers")) (.ref (He.ga K "NoTree")) = some false := He.exm_ok (T.sd.fact 73 (f := .exm "NoNumbers" "NoTree" false) rfl)
theorem Txt.exm_BadText_FoldError (T : Txt K mg) : PySem.W.exmOne K (.ref (He.ga K "BadText")) (.ref (He.ga K "FoldError")) = some true := He.exm_ok (T.sd.fact 74 (f := .exm "BadText" "FoldError" true) rfl)
theorem Txt.exm_BadText_NoNumbers (T : Txt K mg) : PySem.W.exmOne K (.ref (He.ga K "BadText")) (.ref (He.ga K "NoNumbers")) = some false := He.exm_ok (T.sd.fact 75 (f := .exm "BadText" "NoNumbers" false) rfl)
theorem Txt.exm_BadText_BadText (T : Txt K mg) : PySem.W.exmOne K (.ref (He.ga K "BadText")) (.ref (He.ga K "BadText")) = some true := He.exm_ok (T.sd.fact 76 (f := .exm "BadText" "BadText" true) rfl)
theorem Txt.exm_BadText_NoTree (T : Txt K mg) : PySem.W.exmOne K (.ref (He.ga K "BadText")) (.ref (He.ga K "NoTree")) = some false := He.exm_ok (T.sd.fact 77 (f := .exm "BadText" "NoTree" false) rfl)
theorem Txt.exm_NoTree_FoldError (T : Txt K mg) : PySem.W.exmOne K (.ref (He.ga K "NoTree")) (.ref (He.ga K "FoldError")) = some true := He.exm_ok (T.sd.fact 78 (f := .exm "NoTree" "FoldError" true) rfl)
theorem Txt.exm_NoTree_NoNumbers (T : Txt K mg) : PySem.W.exmOne K (.ref (He.ga K "NoTree")) (.ref (He.ga K "NoNumbers")) = some false := He.exm_ok (T.sd.fact 79 (f := .exm "NoTree" "NoNumbers" false) rfl)
theorem Txt.exm_NoTree_BadText (T : Txt K mg) : PySem.W.exmOne K (.ref (He.ga K "NoTree")) (.ref (He.ga K "BadText")) = some false := He.exm_ok (T.sd.fact 80 (f := .exm "NoTree" "BadText" false) rfl)
theorem Txt.exm_NoTree_NoTree (T : Txt K mg) : PySem.W.exmOne K (.ref (He.ga K "NoTree")) (.ref (He.ga K "NoTree")) = some true := He.exm_ok (T.sd.fact 81 (f := .exm "NoTree" "NoTree" true) rfl)
theorem Txt.noat_BadText_at (T : Txt K mg) : NoAttr K (He.ga K "BadText") "at" := He.noat_ok (T.sd.fact 82 (f := .noat "BadText" "at") rfl)
theorem Txt.noat_TreeReader_at (T : Txt K mg) : NoAttr K (He.ga K "TreeReader") "at" := He.noat_ok (T.sd.fact 83 (f := .noat "TreeReader" "at") rfl)
theorem Txt.noat_TreeReader_text (T : Txt K mg) : NoAttr K (He.ga K "TreeReader") "text" := He.noat_ok (T.sd.fact 84 (f := .noat "TreeReader" "text") rfl)
theorem Txt.cls_TreeReader (T : Txt K mg) : Cls K (He.ga K "TreeReader") := He.cls_ok (T.sd.fact 85 (f := .cls "TreeReader") rfl)
theorem Txt.mk_TreeReader (T : Txt K mg) : Mk K (He.ga K "TreeReader") (He.ma K (He.ga K "TreeReader") "__init__") := He.mkr_ok (T.sd.fact 86 (f := .mkr "TreeReader") rfl)
theorem Txt.meth_TreeReader_fail (T : Txt K mg) : Meth K (He.ga K "TreeReader") "fail" (He.ma K (He.ga K "TreeReader") "fail") := He.meth_ok (T.sd.fact 87 (f := .meth "TreeReader" "fail") rfl)
theorem Txt.meth_TreeReader_sign (T : Txt K mg) : Meth K (He.ga K "TreeReader") "sign" (He.ma K (He.ga K "TreeReader") "sign") := He.meth_ok (T.sd.fact 88 (f := .meth "TreeReader" "sign") rfl)
theorem Txt.meth_TreeReader_take (T : Txt K mg) : Meth K (He.ga K "TreeReader") "take" (He.ma K (He.ga K "TreeReader") "take") := He.meth_ok (T.sd.fact 89 (f := .meth "TreeReader" "take") rfl)
theorem Txt.meth_TreeReader_number (T : Txt K mg) : Meth K (He.ga K "TreeReader") "number" (He.ma K (He.ga K "TreeReader") "number") := He.meth_ok (T.sd.fact 90 (f := .meth "TreeReader" "number") rfl)
theorem Txt.meth_TreeReader_tree (T : Txt K mg) : Meth K (He.ga K "TreeReader") "tree" (He.ma K (He.ga K "TreeReader") "tree") := He.meth_ok (T.sd.fact 91 (f := .meth "TreeReader" "tree") rfl)
theorem Txt.int_MOST_DEEP (T : Txt K mg) : ∃ t, mg "MOST_DEEP" = some (.int 12 t) := by
  obtain ⟨h, X, G⟩ := T.ex0
  exact He.int_ok X G (T.sd.fact 92 (f := .int "MOST_DEEP" 12) rfl)
theorem Txt.glo_LEAF (T : Txt K mg) : mg "LEAF" = some (.ref (He.ga K "LEAF")) := by
  obtain ⟨h, X, G⟩ := T.ex0
  exact He.glo_ok X G (T.sd.fact 93 (f := .glo "LEAF") rfl)
theorem Txt.str_DIGITS (T : Txt K mg) : ∃ t, mg "DIGITS" = some (.str "0123456789" t) := by
  obtain ⟨h, X, G⟩ := T.ex0
  exact He.str_ok X G (T.sd.fact 94 (f := .str "DIGITS" "0123456789") rfl)
theorem Txt.int_MOST_DIGITS (T : Txt K mg) : ∃ t, mg "MOST_DIGITS" = some (.int 40 t) := by
  obtain ⟨h, X, G⟩ := T.ex0
  exact He.int_ok X G (T.sd.fact 95 (f := .int "MOST_DIGITS" 40) rfl)
theorem Txt.fn_BadText___init__ (T : Txt K mg) : ∃ fd, FnP K "__init__" "BadText.__init__" s_BadText___init__ (He.ma K (He.ga K "BadText") "__init__") fd := T.sd.def_ 0 (d := d_BadText___init__) rfl
theorem Txt.fn_is_integer (T : Txt K mg) : ∃ fd, FnP K "is_integer" "is_integer" s_is_integer (He.ga K "is_integer") fd := T.sd.def_ 1 (d := d_is_integer) rfl
theorem Txt.fn_is_row (T : Txt K mg) : ∃ fd, FnP K "is_row" "is_row" s_is_row (He.ga K "is_row") fd := T.sd.def_ 2 (d := d_is_row) rfl
theorem Txt.fn_common_part (T : Txt K mg) : ∃ fd, FnP K "common_part" "common_part" s_common_part (He.ga K "common_part") fd := T.sd.def_ 3 (d := d_common_part) rfl
theorem Txt.fn_is_fraction (T : Txt K mg) : ∃ fd, FnP K "is_fraction" "is_fraction" s_is_fraction (He.ga K "is_fraction") fd := T.sd.def_ 4 (d := d_is_fraction) rfl
theorem Txt.fn_is_whole_text (T : Txt K mg) : ∃ fd, FnP K "is_whole_text" "is_whole_text" s_is_whole_text (He.ga K "is_whole_text") fd := T.sd.def_ 5 (d := d_is_whole_text) rfl
theorem Txt.fn_is_signed_text (T : Txt K mg) : ∃ fd, FnP K "is_signed_text" "is_signed_text" s_is_signed_text (He.ga K "is_signed_text") fd := T.sd.def_ 6 (d := d_is_signed_text) rfl
theorem Txt.fn_frac_word (T : Txt K mg) : ∃ fd, FnP K "frac_word" "frac_word" s_frac_word (He.ga K "frac_word") fd := T.sd.def_ 7 (d := d_frac_word) rfl
theorem Txt.fn_word_frac (T : Txt K mg) : ∃ fd, FnP K "word_frac" "word_frac" s_word_frac (He.ga K "word_frac") fd := T.sd.def_ 8 (d := d_word_frac) rfl
theorem Txt.fn_numbers_text (T : Txt K mg) : ∃ fd, FnP K "numbers_text" "numbers_text" s_numbers_text (He.ga K "numbers_text") fd := T.sd.def_ 9 (d := d_numbers_text) rfl
theorem Txt.fn_read_numbers (T : Txt K mg) : ∃ fd, FnP K "read_numbers" "read_numbers" s_read_numbers (He.ga K "read_numbers") fd := T.sd.def_ 10 (d := d_read_numbers) rfl
theorem Txt.fn_is_plain_tree (T : Txt K mg) : ∃ fd, FnP K "is_plain_tree" "is_plain_tree" s_is_plain_tree (He.ga K "is_plain_tree") fd := T.sd.def_ 11 (d := d_is_plain_tree) rfl
theorem Txt.fn_tree_word (T : Txt K mg) : ∃ fd, FnP K "tree_word" "tree_word" s_tree_word (He.ga K "tree_word") fd := T.sd.def_ 12 (d := d_tree_word) rfl
theorem Txt.fn_tree_text (T : Txt K mg) : ∃ fd, FnP K "tree_text" "tree_text" s_tree_text (He.ga K "tree_text") fd := T.sd.def_ 13 (d := d_tree_text) rfl
theorem Txt.fn_TreeReader___init__ (T : Txt K mg) : ∃ fd, FnP K "__init__" "TreeReader.__init__" s_TreeReader___init__ (He.ma K (He.ga K "TreeReader") "__init__") fd := T.sd.def_ 14 (d := d_TreeReader___init__) rfl
theorem Txt.fn_TreeReader_fail (T : Txt K mg) : ∃ fd, FnP K "fail" "TreeReader.fail" s_TreeReader_fail (He.ma K (He.ga K "TreeReader") "fail") fd := T.sd.def_ 15 (d := d_TreeReader_fail) rfl
theorem Txt.fn_TreeReader_sign (T : Txt K mg) : ∃ fd, FnP K "sign" "TreeReader.sign" s_TreeReader_sign (He.ma K (He.ga K "TreeReader") "sign") fd := T.sd.def_ 16 (d := d_TreeReader_sign) rfl
theorem Txt.fn_TreeReader_take (T : Txt K mg) : ∃ fd, FnP K "take" "TreeReader.take" s_TreeReader_take (He.ma K (He.ga K "TreeReader") "take") fd := T.sd.def_ 17 (d := d_TreeReader_take) rfl
theorem Txt.fn_TreeReader_number (T : Txt K mg) : ∃ fd, FnP K "number" "TreeReader.number" s_TreeReader_number (He.ma K (He.ga K "TreeReader") "number") fd := T.sd.def_ 18 (d := d_TreeReader_number) rfl
theorem Txt.fn_TreeReader_tree (T : Txt K mg) : ∃ fd, FnP K "tree" "TreeReader.tree" s_TreeReader_tree (He.ma K (He.ga K "TreeReader") "tree") fd := T.sd.def_ 19 (d := d_TreeReader_tree) rfl
theorem Txt.fn_read_tree (T : Txt K mg) : ∃ fd, FnP K "read_tree" "read_tree" s_read_tree (He.ga K "read_tree") fd := T.sd.def_ 20 (d := d_read_tree) rfl
theorem Txt.fn__law_mixed (T : Txt K mg) : ∃ fd, FnP K "_law_mixed" "_law_mixed" s__law_mixed (He.ga K "_law_mixed") fd := T.sd.def_ 21 (d := d__law_mixed) rfl
theorem Txt.fn__law_great (T : Txt K mg) : ∃ fd, FnP K "_law_great" "_law_great" s__law_great (He.ga K "_law_great") fd := T.sd.def_ 22 (d := d__law_great) rfl
theorem Txt.fn__law_stream (T : Txt K mg) : ∃ fd, FnP K "_law_stream" "_law_stream" s__law_stream (He.ga K "_law_stream") fd := T.sd.def_ 23 (d := d__law_stream) rfl
theorem Txt.fn__law_take (T : Txt K mg) : ∃ fd, FnP K "_law_take" "_law_take" s__law_take (He.ga K "_law_take") fd := T.sd.def_ 24 (d := d__law_take) rfl
theorem Txt.fn__law_low (T : Txt K mg) : ∃ fd, FnP K "_law_low" "_law_low" s__law_low (He.ga K "_law_low") fd := T.sd.def_ 25 (d := d__law_low) rfl
theorem Txt.fn__law_is_integer (T : Txt K mg) : ∃ fd, FnP K "_law_is_integer" "_law_is_integer" s__law_is_integer (He.ga K "_law_is_integer") fd := T.sd.def_ 26 (d := d__law_is_integer) rfl
theorem Txt.fn__law_alike (T : Txt K mg) : ∃ fd, FnP K "_law_alike" "_law_alike" s__law_alike (He.ga K "_law_alike") fd := T.sd.def_ 27 (d := d__law_alike) rfl
theorem Txt.fn__law_word (T : Txt K mg) : ∃ fd, FnP K "_law_word" "_law_word" s__law_word (He.ga K "_law_word") fd := T.sd.def_ 28 (d := d__law_word) rfl
theorem Txt.fn__law_whole (T : Txt K mg) : ∃ fd, FnP K "_law_whole" "_law_whole" s__law_whole (He.ga K "_law_whole") fd := T.sd.def_ 29 (d := d__law_whole) rfl
theorem Txt.fn__law_read_word (T : Txt K mg) : ∃ fd, FnP K "_law_read_word" "_law_read_word" s__law_read_word (He.ga K "_law_read_word") fd := T.sd.def_ 30 (d := d__law_read_word) rfl
theorem Txt.fn__law_is_long (T : Txt K mg) : ∃ fd, FnP K "_law_is_long" "_law_is_long" s__law_is_long (He.ga K "_law_is_long") fd := T.sd.def_ 31 (d := d__law_is_long) rfl
theorem Txt.fn__law_numbers_due (T : Txt K mg) : ∃ fd, FnP K "_law_numbers_due" "_law_numbers_due" s__law_numbers_due (He.ga K "_law_numbers_due") fd := T.sd.def_ 32 (d := d__law_numbers_due) rfl
theorem Txt.fn__law_numbers_read (T : Txt K mg) : ∃ fd, FnP K "_law_numbers_read" "_law_numbers_read" s__law_numbers_read (He.ga K "_law_numbers_read") fd := T.sd.def_ 33 (d := d__law_numbers_read) rfl
theorem Txt.fn__law_tree_read (T : Txt K mg) : ∃ fd, FnP K "_law_tree_read" "_law_tree_read" s__law_tree_read (He.ga K "_law_tree_read") fd := T.sd.def_ 34 (d := d__law_tree_read) rfl
theorem Txt.fn__law_no_numbers (T : Txt K mg) : ∃ fd, FnP K "_law_no_numbers" "_law_no_numbers" s__law_no_numbers (He.ga K "_law_no_numbers") fd := T.sd.def_ 35 (d := d__law_no_numbers) rfl
theorem Txt.fn__law_no_tree (T : Txt K mg) : ∃ fd, FnP K "_law_no_tree" "_law_no_tree" s__law_no_tree (He.ga K "_law_no_tree") fd := T.sd.def_ 36 (d := d__law_no_tree) rfl
theorem Txt.fn__law_changed (T : Txt K mg) : ∃ fd, FnP K "_law_changed" "_law_changed" s__law_changed (He.ga K "_law_changed") fd := T.sd.def_ 37 (d := d__law_changed) rfl
theorem Txt.fn__law_size_drawn (T : Txt K mg) : ∃ fd, FnP K "_law_size_drawn" "_law_size_drawn" s__law_size_drawn (He.ga K "_law_size_drawn") fd := T.sd.def_ 38 (d := d__law_size_drawn) rfl
theorem Txt.fn__law_numbers_judged (T : Txt K mg) : ∃ fd, FnP K "_law_numbers_judged" "_law_numbers_judged" s__law_numbers_judged (He.ga K "_law_numbers_judged") fd := T.sd.def_ 39 (d := d__law_numbers_judged) rfl
theorem Txt.fn__law_tree_drawn (T : Txt K mg) : ∃ fd, FnP K "_law_tree_drawn" "_law_tree_drawn" s__law_tree_drawn (He.ga K "_law_tree_drawn") fd := T.sd.def_ 40 (d := d__law_tree_drawn) rfl
theorem Txt.fn__law_tree_word (T : Txt K mg) : ∃ fd, FnP K "_law_tree_word" "_law_tree_word" s__law_tree_word (He.ga K "_law_tree_word") fd := T.sd.def_ 41 (d := d__law_tree_word) rfl
theorem Txt.fn__law_is_tree (T : Txt K mg) : ∃ fd, FnP K "_law_is_tree" "_law_is_tree" s__law_is_tree (He.ga K "_law_is_tree") fd := T.sd.def_ 42 (d := d__law_is_tree) rfl
theorem Txt.fn__law_bad_sign (T : Txt K mg) : ∃ fd, FnP K "_law_bad_sign" "_law_bad_sign" s__law_bad_sign (He.ga K "_law_bad_sign") fd := T.sd.def_ 43 (d := d__law_bad_sign) rfl
theorem Txt.fn__law_spoilt (T : Txt K mg) : ∃ fd, FnP K "_law_spoilt" "_law_spoilt" s__law_spoilt (He.ga K "_law_spoilt") fd := T.sd.def_ 44 (d := d__law_spoilt) rfl
theorem Txt.fn__law_trees_judged (T : Txt K mg) : ∃ fd, FnP K "_law_trees_judged" "_law_trees_judged" s__law_trees_judged (He.ga K "_law_trees_judged") fd := T.sd.def_ 45 (d := d__law_trees_judged) rfl
theorem Txt.fn__law_deepest (T : Txt K mg) : ∃ fd, FnP K "_law_deepest" "_law_deepest" s__law_deepest (He.ga K "_law_deepest") fd := T.sd.def_ 46 (d := d__law_deepest) rfl
theorem Txt.fn_law (T : Txt K mg) : ∃ fd, FnP K "law" "law" s_law (He.ga K "law") fd := T.sd.def_ 47 (d := d_law) rfl
theorem Txt.excC_FoldError (T : Txt K mg) : ExcC K (He.ga K "FoldError") := excCB_ok (He.ba (show exB K = true from T.ex)).1
theorem Txt.excC_NoNumbers (T : Txt K mg) : ExcC K (He.ga K "NoNumbers") := excCB_ok (He.ba (He.ba (show exB K = true from T.ex)).2).1
theorem Txt.excC_BadText (T : Txt K mg) : ExcC K (He.ga K "BadText") := excCB_ok (He.ba (He.ba (He.ba (show exB K = true from T.ex)).2).2).1
theorem Txt.oex_BadText (T : Txt K mg) : OexC K (He.ga K "BadText") ∧ PySem.W.findIn K (.ref (He.ga K "BadText")) "__init__" = some (some (.ref (He.ma K (He.ga K "BadText") "__init__"))) ∧ PySem.W.typeIn K (.ref (He.ma K (He.ga K "BadText") "__init__")) = some (.type "function") := oexF_ok (He.ba (He.ba (He.ba (He.ba (show exB K = true from T.ex)).2).2).2).1
theorem Txt.excC_NoTree (T : Txt K mg) : ExcC K (He.ga K "NoTree") := excCB_ok (He.ba (He.ba (He.ba (He.ba (He.ba (show exB K = true from T.ex)).2).2).2).2).1
theorem Txt.kit_FoldError_FoldError (T : Txt K mg) : PySem.W.kitOne K (.ref (He.ga K "FoldError")) (.ref (He.ga K "FoldError")) = some true := of_decide_eq_true (He.ba (He.ba (He.ba (He.ba (He.ba (He.ba (show exB K = true from T.ex)).2).2).2).2).2).1
theorem Txt.kit_FoldError_NoNumbers (T : Txt K mg) : PySem.W.kitOne K (.ref (He.ga K "FoldError")) (.ref (He.ga K "NoNumbers")) = some false := of_decide_eq_true (He.ba (He.ba (He.ba (He.ba (He.ba (He.ba (He.ba (show exB K = true from T.ex)).2).2).2).2).2).2).1
theorem Txt.kit_FoldError_BadText (T : Txt K mg) : PySem.W.kitOne K (.ref (He.ga K "FoldError")) (.ref (He.ga K "BadText")) = some false := of_decide_eq_true (He.ba (He.ba (He.ba (He.ba (He.ba (He.ba (He.ba (He.ba (show exB K = true from T.ex)).2).2).2).2).2).2).2).1
theorem Txt.kit_FoldError_NoTree (T : Txt K mg) : PySem.W.kitOne K (.ref (He.ga K "FoldError")) (.ref (He.ga K "NoTree")) = some false := of_decide_eq_true (He.ba (He.ba (He.ba (He.ba (He.ba (He.ba (He.ba (He.ba (He.ba (show exB K = true from T.ex)).2).2).2).2).2).2).2).2).1
theorem Txt.kit_NoNumbers_FoldError (T : Txt K mg) : PySem.W.kitOne K (.ref (He.ga K "NoNumbers")) (.ref (He.ga K "FoldError")) = some true := of_decide_eq_true (He.ba (He.ba (He.ba (He.ba (He.ba (He.ba (He.ba (He.ba (He.ba (He.ba (show exB K = true from T.ex)).2).2).2).2).2).2).2).2).2).1
theorem Txt.kit_NoNumbers_NoNumbers (T : Txt K mg) : PySem.W.kitOne K (.ref (He.ga K "NoNumbers")) (.ref (He.ga K "NoNumbers")) = some true := of_decide_eq_true (He.ba (He.ba (He.ba (He.ba (He.ba (He.ba (He.ba (He.ba (He.ba (He.ba (He.ba (show exB K = true from T.ex)).2).2).2).2).2).2).2).2).2).2).1
theorem Txt.kit_NoNumbers_BadText (T : Txt K mg) : PySem.W.kitOne K (.ref (He.ga K "NoNumbers")) (.ref (He.ga K "BadText")) = some false := of_decide_eq_true (He.ba (He.ba (He.ba (He.ba (He.ba (He.ba (He.ba (He.ba (He.ba (He.ba (He.ba (He.ba (show exB K = true from T.ex)).2).2).2).2).2).2).2).2).2).2).2).1
theorem Txt.kit_NoNumbers_NoTree (T : Txt K mg) : PySem.W.kitOne K (.ref (He.ga K "NoNumbers")) (.ref (He.ga K "NoTree")) = some false := of_decide_eq_true (He.ba (He.ba (He.ba (He.ba (He.ba (He.ba (He.ba (He.ba (He.ba (He.ba (He.ba (He.ba (He.ba (show exB K = true from T.ex)).2).2).2).2).2).2).2).2).2).2).2).2).1
theorem Txt.kit_BadText_FoldError (T : Txt K mg) : PySem.W.kitOne K (.ref (He.ga K "BadText")) (.ref (He.ga K "FoldError")) = some true := of_decide_eq_true (He.ba (He.ba (He.ba (He.ba (He.ba (He.ba (He.ba (He.ba (He.ba (He.ba (He.ba (He.ba (He.ba (He.ba (show exB K = true from T.ex)).2).2).2).2).2).2).2).2).2).2).2).2).2).1
theorem Txt.kit_BadText_NoNumbers (T : Txt K mg) : PySem.W.kitOne K (.ref (He.ga K "BadText")) (.ref (He.ga K "NoNumbers")) = some false := of_decide_eq_true (He.ba (He.ba (He.ba (He.ba (He.ba (He.ba (He.ba (He.ba (He.ba (He.ba (He.ba (He.ba (He.ba (He.ba (He.ba (show exB K = true from T.ex)).2).2).2).2).2).2).2).2).2).2).2).2).2).2).1
theorem Txt.kit_BadText_BadText (T : Txt K mg) : PySem.W.kitOne K (.ref (He.ga K "BadText")) (.ref (He.ga K "BadText")) = some true := of_decide_eq_true (He.ba (He.ba (He.ba (He.ba (He.ba (He.ba (He.ba (He.ba (He.ba (He.ba (He.ba (He.ba (He.ba (He.ba (He.ba (He.ba (show exB K = true from T.ex)).2).2).2).2).2).2).2).2).2).2).2).2).2).2).2).1
theorem Txt.kit_BadText_NoTree (T : Txt K mg) : PySem.W.kitOne K (.ref (He.ga K "BadText")) (.ref (He.ga K "NoTree")) = some false := of_decide_eq_true (He.ba (He.ba (He.ba (He.ba (He.ba (He.ba (He.ba (He.ba (He.ba (He.ba (He.ba (He.ba (He.ba (He.ba (He.ba (He.ba (He.ba (show exB K = true from T.ex)).2).2).2).2).2).2).2).2).2).2).2).2).2).2).2).2).1
theorem Txt.kit_NoTree_FoldError (T : Txt K mg) : PySem.W.kitOne K (.ref (He.ga K "NoTree")) (.ref (He.ga K "FoldError")) = some true := of_decide_eq_true (He.ba (He.ba (He.ba (He.ba (He.ba (He.ba (He.ba (He.ba (He.ba (He.ba (He.ba (He.ba (He.ba (He.ba (He.ba (He.ba (He.ba (He.ba (show exB K = true from T.ex)).2).2).2).2).2).2).2).2).2).2).2).2).2).2).2).2).2).1
theorem Txt.kit_NoTree_NoNumbers (T : Txt K mg) : PySem.W.kitOne K (.ref (He.ga K "NoTree")) (.ref (He.ga K "NoNumbers")) = some false := of_decide_eq_true (He.ba (He.ba (He.ba (He.ba (He.ba (He.ba (He.ba (He.ba (He.ba (He.ba (He.ba (He.ba (He.ba (He.ba (He.ba (He.ba (He.ba (He.ba (He.ba (show exB K = true from T.ex)).2).2).2).2).2).2).2).2).2).2).2).2).2).2).2).2).2).2).1
theorem Txt.kit_NoTree_BadText (T : Txt K mg) : PySem.W.kitOne K (.ref (He.ga K "NoTree")) (.ref (He.ga K "BadText")) = some false := of_decide_eq_true (He.ba (He.ba (He.ba (He.ba (He.ba (He.ba (He.ba (He.ba (He.ba (He.ba (He.ba (He.ba (He.ba (He.ba (He.ba (He.ba (He.ba (He.ba (He.ba (He.ba (show exB K = true from T.ex)).2).2).2).2).2).2).2).2).2).2).2).2).2).2).2).2).2).2).2).1
theorem Txt.kit_NoTree_NoTree (T : Txt K mg) : PySem.W.kitOne K (.ref (He.ga K "NoTree")) (.ref (He.ga K "NoTree")) = some true := of_decide_eq_true (He.ba (He.ba (He.ba (He.ba (He.ba (He.ba (He.ba (He.ba (He.ba (He.ba (He.ba (He.ba (He.ba (He.ba (He.ba (He.ba (He.ba (He.ba (He.ba (He.ba (He.ba (show exB K = true from T.ex)).2).2).2).2).2).2).2).2).2).2).2).2).2).2).2).2).2).2).2).2).1
theorem Txt.tup_LEAF (T : Txt K mg) (H : Hp) : SqT K H (He.ga K "LEAF") (([.str "leaf"] : List He.Dv).map (He.Dv.v K)) := He.tupB_ok (He.ba (He.ba (He.ba (He.ba (He.ba (He.ba (He.ba (He.ba (He.ba (He.ba (He.ba (He.ba (He.ba (He.ba (He.ba (He.ba (He.ba (He.ba (He.ba (He.ba (He.ba (show exB K = true from T.ex)).2).2).2).2).2).2).2).2).2).2).2).2).2).2).2).2).2).2).2).2).2 H
end
end Q
/-! P3: comprehensions by what is made so far; keyword calls; methods that may raise; tests -/
namespace Q
open PySem PySem.Spec PyProof.Rows L2
theorem szl {n : Nat} (h : n < 1000000) : n < sizeLine := Nat.lt_of_lt_of_le h (by decide)
theorem szle {n : Nat} (h : n ≤ 1000000) : n ≤ sizeLine := Nat.le_trans h (by decide)
/-! ### a comprehension whose values need no heap -/
def PvS (H1 : Hp) (D : Addr) (f : Nat → V) (i : Nat) (H : Hp) : Prop := Same H1 H ∧ H D = some (.lst ((List.range i).map f))
section
variable {H1 H H4 : Hp} {D : Addr} {f : Nat → V} {i : Nat} {y : V}
theorem same_new {p : Addr} {o : HO} (h : H p = none) : Same H (upd H p o) := fun b u e => by
  rw [upd_ne (ne_of_none e h)]
  exact e
theorem same_set {p : Addr} {o : HO} (e : Same H1 H) (h : H1 p = none) : Same H1 (upd H p o) := fun b u z => by
  rw [upd_ne (ne_of_none z h)]
  exact e b u z
theorem PvS.z (hD : H1 D = none) : PvS H1 D f 0 (upd H1 D (.lst [])) := ⟨same_new hD, upd_same⟩
theorem PvS.step (hD : H1 D = none) (p : PvS H1 D f i H) (e : Same H H4) (hi : i < 1000000) (hv : y = f i) :
    ∃ acc, H4 D = some (.lst acc) ∧ acc.length < sizeLine ∧ PvS H1 D f (i + 1) (upd H4 D (.lst (acc ++ [y]))) := by
  refine ⟨_, e _ _ p.2, ?_, same_set (p.1.trans e) hD, ?_⟩
  · rw [List.length_map, List.length_range]
    exact szl hi
  · rw [upd_same, List.range_succ, List.map_append, hv]
    rfl
end
/-! ### a comprehension whose values are data -/
def PvD (K : PySem.W.Frag) (F H1 : Hp) (D : Addr) (ds : Nat → List PyData) (i : Nat) (H : Hp) : Prop := ∃ F' vs, Mv P0 F H1 F' H ∧ F' D = none ∧ H D = some (.lst vs) ∧ DpAll K F' vs (ds i)
section
variable {K : PySem.W.Frag} {F F1 F2 H1 H H4 : Hp} {D : Addr} {ds : Nat → List PyData} {i : Nat} {y : V} {d : PyData} {vs : List V}
theorem none_of_same (e : Same F H) {p : Addr} (h : H p = none) : F p = none := by
  cases q : F p with
  | none => rfl
  | some o =>
    rw [e p o q] at h
    cases h
theorem PvD.z (m : Mv P0 F H1 F1 H) (hD : H D = none) (h0 : ds 0 = []) : PvD K F H1 D ds 0 (upd H D (.lst [])) :=
  ⟨F1, [], m.own hD, none_of_same m.k hD, upd_same, by rw [h0]; exact .nil⟩
theorem PvD.step (hD : H1 D = none) (m : Mv P0 F H1 F1 H) (hF : F1 D = none) (hl : H D = some (.lst vs)) (ha : DpAll K F1 vs (ds i)) (m2 : Mv P0 F1 H F2 H4) (hy : Dp K F2 y d) (hi : (ds i).length < 1000000) (e : ds (i + 1) = ds i ++ [d]) :
    ∃ acc, H4 D = some (.lst acc) ∧ acc.length < sizeLine ∧ PvD K F H1 D ds (i + 1) (upd H4 D (.lst (acc ++ [y]))) := by
  have hF2 := m2.n D _ hl hF
  refine ⟨_, m2.h _ _ hl fun z => z, ?_, F2, vs ++ [y], (m.tr m2).set (.inl hD) hF2, hF2, upd_same, ?_⟩
  · rw [DpAll.len ha]
    exact szl hi
  · rw [e]
    exact DpAll.app (DpAll.mono m2.f _ _ ha) (.cons hy .nil)
end
/-! ### what a pure def hands back -/
/-- a scalar; nothing that was tracked has changed -/
def RetS (H : Hp) (Q : VK) (v : V) : Prop := ∀ H', Same H H' → Q v H'
/-- a datum, known for good -/
def RetD (K : PySem.W.Frag) (F H : Hp) (Q : VK) (d : PyData) : Prop := ∀ v F' H', Mv P0 F H F' H' → Dp K F' v d → Q v H'
theorem Mv.same {P : Addr → Prop} {F H F1 H1 H2 : Hp} (a : Mv P F H F1 H1) (e : Same H1 H2) : Mv P F H F1 H2 := ⟨a.f, a.k.trans e, fun b o x n => e b o (a.h b o x n), a.n⟩
theorem Mv.s0 {F H F1 H1 : Hp} (a : Mv P0 F H F1 H1) : Same H H1 := fun b o x => a.h b o x fun z => z
theorem RetD.none {K : PySem.W.Frag} {F H F1 H1 : Hp} {Q : VK} (q : RetD K F H Q .none) (m : Mv P0 F H F1 H1) : Q .non H1 := q _ F1 H1 m .non
theorem RetS.mono {H H1 : Hp} {Q : VK} {v : V} (q : RetS H Q v) (e : Same H H1) : RetS H1 Q v := fun H' e2 => q H' (e.trans e2)
theorem RetD.mono {K : PySem.W.Frag} {F H F1 H1 : Hp} {Q : VK} {d : PyData} (q : RetD K F H Q d) (m : Mv P0 F H F1 H1) : RetD K F1 H1 Q d := fun v F' H' m2 hd => q v F' H' (m.tr m2) hd
/-! ### f(k = v), one parameter -/
def tCallK1 (sp : Sp) (E : XK) (tk : TA) : TE := fun σ H Q => tk σ H fun zs H2 => sp zs H2 Q E
/-- how the one parameter, named, binds -/
def KB1 (K : PySem.W.Frag) (fd : FuncData) (p : Str) : Prop := ∀ (s : Shared) (u : Value), K.In s.heap → BindsTo s fd ⟨[], [(p, u)]⟩ [(p, u)]
def GK (P : Program) (w : World) (K : PySem.W.Frag) (mg : Str → Option Value) (base : Heap) (CX : CXT) (k : Nat) (x p : Str) (sp : Sp) : Prop :=
  ∃ f fd, mg x = some (.ref f) ∧ PySem.W.keepIn K (.ref f) = true ∧ FnOk P w K mg base CX k f fd [p] sp ∧ KB1 K fd p
section
variable {X : Cx} {CX : CXT} {j k : Nat} {x q : Str} {sp : Sp} {E : XK} {p pos : Pos} {e : Expr} {kws : List Keyword} {tk : TA}
theorem run_k1 {f : Addr} {fd : FuncData} {pins : List (Addr × Obj)} {σ : L2.St} {H : Hp} {s : Shared} {Q : VK} {ws : List Value} {zs : List V} (F : FnOk X.prog X.w X.K X.mg X.base CX k f fd [q] sp) (hr : Room k X.A) (hb : KB1 X.K fd q) (hx : PassesAt CX X σ E)
    (I : Inv X pins σ H s) (rz : Vals zs ws) (h : sp zs H Q E) : wpAny (model X.prog X.w) X.A (call (.ref f) [] (([q] : List Str).zip ws)) (EP X pins σ Q) X.xe s := by
  have hl := F.len _ _ _ _ h
  match zs, ws, rz, hl with
  | [z], [u], rz, _ =>
    refine wpAny_call (codeAny_mono (F.run X.A X.stack s H ⟨[], [(q, u)]⟩ [u] [z] Q E hr I.env0 (hb s u I.kIn) rz h) fun r s' hq => ?_)
    cases r with
    | error e => exact hx pins H s e s' I hq
    | ok fl =>
      cases fl with
      | ret u => exact I.after hq
      | next => exact False.elim hq
      | brk => exact False.elim hq
      | cont => exact False.elim hq
theorem pe_gkS {E : L2.St → XK} (g : GK X.prog X.w X.K X.mg X.base CX k x q sp) (hr : Room j X.A) (hx : ∀ σ, PassesAt CX X σ (E σ)) (hkw : PK X kws tk) (hj : k ≤ j := by omega) (hg : Gl X x := by rfl)
    (hall : (backToKw pos (keywordEach kws X.env)).all (·.1.isSome) = true := by rfl) (hks : (backToKw pos (keywordEach kws X.env)).filterMap (·.1) = [q] := by rfl) (hdb : (x == ("__debug__" : Str)) = false := by decide)
    (hpl : ((backTo pos (starEach [] X.env)).any (·.1) || (backToKw pos (keywordEach kws X.env)).any (·.1.isNone)) = false := by rfl) :
    PE X (.Call (.Name x p) [] kws pos) (fun σ H Q => tCallK1 sp (E σ) tk σ H Q) := by
  obtain ⟨f, fd, a, b, c, d⟩ := g
  refine ⟨fun pins s σ H Q I h => ?_⟩
  refine wpAny_Call_Name_kw (ld_glob I hg a ?_ hdb)
  refine PySem.W.callWith_KW0 (h₀ := X.base) I.ok.mod.kin b hall ?_ hpl
  refine thn (hkw.run pos pins s σ H _ I h) fun ws s2 ⟨zs, H2, I2, rz, q2⟩ => ⟨I2.kIn, ?_⟩
  rw [hks]
  exact run_k1 c (hr.mono hj) d (hx σ) I2 rz q2
theorem pe_gk (g : GK X.prog X.w X.K X.mg X.base CX k x q sp) (hr : Room j X.A) (hx : Passes CX X E) (hkw : PK X kws tk) (hj : k ≤ j := by omega) (hg : Gl X x := by rfl)
    (hall : (backToKw pos (keywordEach kws X.env)).all (·.1.isSome) = true := by rfl) (hks : (backToKw pos (keywordEach kws X.env)).filterMap (·.1) = [q] := by rfl) (hdb : (x == ("__debug__" : Str)) = false := by decide)
    (hpl : ((backTo pos (starEach [] X.env)).any (·.1) || (backToKw pos (keywordEach kws X.env)).any (·.1.isNone)) = false := by rfl) :
    PE X (.Call (.Name x p) [] kws pos) (fun σ H Q => tCallK1 sp E tk σ H Q) := pe_gkS (E := fun _ => E) g hr (fun σ pins H s e s' I h => hx pins σ H s e s' I h) hkw hj hg hall hks hdb hpl
end
/-! ### tests over texts -/
theorem dstr (a b : Str) : decide (V.str a = V.str b) = decide (TL.tl a = TL.tl b) := by
  by_cases h : a = b
  · subst h
    simp
  · have h2 : ¬ TL.tl a = TL.tl b := fun z => h (TL.ext_tl z)
    rw [decide_eq_false h2]
    exact decide_eq_false fun z => h (by injection z)
theorem dint (a b : Int) : decide (V.int a = V.int b) = decide (a = b) := by
  by_cases h : a = b
  · subst h
    simp
  · rw [decide_eq_false h]
    exact decide_eq_false fun z => h (by injection z)
end Q
/-! P4: errors: raised with one field or none, passed on, caught -/
namespace Q
open PySem PySem.Spec PyProof.Rows L2
/-- __init__(self, f): self.f = f, of an exception class -/
def sp_f1 (K : PySem.W.Frag) (C : Addr) (f : Str) : Sp := fun vs H Q _ => ∃ (a : Addr) (y : V), vs = [.ref a, y] ∧ H a = some (exo a C none) ∧ ∀ d, H d = none → d ≠ a → Q .non (upd (upd H d (exd d [(f, y)])) a (exo a C (some d)))
/-- an exception class with such an __init__, made by name -/
def GE (P : Program) (w : World) (K : PySem.W.Frag) (mg : Str → Option Value) (base : Heap) (x f : Str) : Prop :=
  ∃ C fI fd ps, mg x = some (.ref C) ∧ C = He.ga K x ∧ OexC K C ∧ PySem.W.findIn K (.ref C) "__init__" = some (some (.ref fI)) ∧ PySem.W.typeIn K (.ref fI) = some (.type "function") ∧ FnOk P w K mg base CX0 1 fI fd ps (sp_f1 K C f) ∧ Binds K fd ps []
/-- an error of the class C, with the field f = y, is on its way -/
def Err1 (C : Addr) (f : Str) (y : V) (H : Hp) (E : XK) : Prop := ∀ d H', Same H H' → H d = none → H' d = some (.xd [(f, y)]) → E (.ref C) (some d) H'
theorem Err1.mono {C : Addr} {f : Str} {y : V} {H H1 : Hp} {E : XK} (h : Err1 C f y H E) (e : Same H H1) : Err1 C f y H1 E := fun d H' s n q => h d H' (e.trans s) (e.free n) q
section
variable {X : Cx} {x f : Str} {p pos : Pos} {e : Expr} {es : List Expr} {ta : TA}
/-- an argument list's reading, weakened -/
def tMonoA (t : TA) : TA := fun σ H Q => ∃ R : List V → Hp → Prop, t σ H R ∧ ∀ vs H1, R vs H1 → Q vs H1
theorem pa_mono (ha : PA X es ta) : PA X es (tMonoA ta) := by
  refine ⟨fun pos pins s σ H Q I h => ?_⟩
  obtain ⟨R, h, k⟩ := h
  exact thn (ha.run pos pins s σ H R I h) fun us s1 ⟨vs, H1, I1, r, q⟩ => ⟨vs, H1, I1, r, k vs H1 q⟩
def tMk1 (K : PySem.W.Frag) (x f : Str) (ta : TA) : L2.St → Hp → XK → Prop := fun σ H Q => ta σ H fun vs H1 => ∃ y, vs = [y] ∧ Err1 (He.ga K x) f y H1 Q
theorem pmk_f1 {j : Nat} (g : GE X.prog X.w X.K X.mg X.base x f) (hr : Room j X.A) (ha : PA X (e :: es) ta) (hj : 2 ≤ j := by omega) (hg : Gl X x := by rfl) (hdb : (x == ("__debug__" : Str)) = false := by decide) (he : starEach (e :: es) X.env = (false, eval e X.env) :: starEach es X.env := by rfl)
    (hpl : (backTo pos (starEach es X.env)).any (·.1) = false := by rfl) : PMk X (.Call (.Name x p) (e :: es) [] pos) (tMk1 X.K x f ta) := by
  obtain ⟨C, fI, fd, ps, hm, rfl, T, iC, tI, F1, hb⟩ := g
  have k := pmk_oex (p := p) (dvs := []) T iC tI F1 (hr.mono hj) hb .nil pass0 hg hm (pa_mono ha) hdb he hpl
  intro pins s σ H Q I h
  refine k pins s σ H Q I ⟨_, h, fun vs H1 z => ?_⟩
  obtain ⟨y, rfl, q⟩ := z
  refine ⟨by show 1 ≤ 1000; decide, fun a ha => ⟨a, y, rfl, upd_same, fun d hd hda => ⟨rfl, d, [(f, y)], upd_same, ?_, ?_, ?_⟩⟩⟩
  · rw [upd_ne hda, upd_same]
  · rw [upd_ne hda] at hd
    exact hd
  · rw [upd_ne hda] at hd
    refine q d _ (fun b o z => ?_) hd upd_same
    rw [upd_ne (ne_of_none z hd), del_ne (ne_of_none z ha), upd_ne (ne_of_none z ha), upd_ne (ne_of_none z hd), upd_ne (ne_of_none z ha)]
    exact z
/-- what a def that raises lets out, handed on by its caller -/
theorem passX {W : WX} {E : XK} {σ0 : L2.St} (tk : Takes X W) (h : ∀ cls d σ H, E cls d H → W cls d σ H) : Passes (L2.CX X.prog X.w) X E := fun pins σ H s e s' I c => passes_call tk h pins σ H s e s' I c
end
theorem XfC.of {K : PySem.W.Frag} {C : Addr} (h : ExcC K C) : XfC K C := ⟨h.hg, h.hk, h.hs, h.hd⟩
/-! ### methods by name, that may raise or not -/
section
variable {X : Cx} {CX : CXT} {j k : Nat} {C : Addr} {m : Str} {ps : List Str} {sp : Sp} {E : XK} {apos pos : Pos} {o e : Expr} {es : List Expr} {ta : TE} {t : TA} {pl : Sem Bool}
theorem pe_gm (g : GM X.prog X.w X.K X.mg X.base CX k C m ps sp) (ho : PE X o ta) (c : Cls X.K C) (hr : Room j X.A) (hx : Passes CX X E) (ha : PA X (e :: es) t) (hj : k ≤ j := by omega)
    (hst : starEach (e :: es) X.env = (false, eval e X.env) :: starEach es X.env := by rfl) (hpl : (backTo pos (starEach es X.env)).any (·.1) = false := by rfl)
    (ht : eval (.Call (.Attribute o m apos) (e :: es) [] pos) X.env = (do
      let ov ← eval o X.env
      standAt apos.atName
      let (f, first) ← holding [ov] (getMethod ov m pl)
      callWith pos f first (backTo pos (starEach (e :: es) X.env)) (backToKw pos (keywordEach [] X.env))) := by rfl) :
    PE X (.Call (.Attribute o m apos) (e :: es) [] pos) (tMeth C m sp [] E ta t) := by
  obtain ⟨f, fd, a, b, d⟩ := g
  exact pe_meth ho c a b (hr.mono hj) d .nil hx ha hst hpl ht
theorem pe_gm0 (g : GM X.prog X.w X.K X.mg X.base CX k C m ps sp) (ho : PE X o ta) (c : Cls X.K C) (hr : Room j X.A) (hx : Passes CX X E) (hj : k ≤ j := by omega)
    (ht : eval (.Call (.Attribute o m apos) [] [] pos) X.env = (do
      let ov ← eval o X.env
      standAt apos.atName
      let (f, first) ← holding [ov] (getMethod ov m pl)
      callWith pos f first (backTo pos (starEach [] X.env)) (backToKw pos (keywordEach [] X.env))) := by rfl) :
    PE X (.Call (.Attribute o m apos) [] [] pos) (tMeth C m sp [] E ta tNil) := by
  obtain ⟨f, fd, a, b, d⟩ := g
  exact pe_meth0 ho c a b (hr.mono hj) d .nil hx ht
end
end Q
/-! P5: a walk over a list or a tuple; rows among data; big ints -/
namespace Q
open PySem PySem.Spec PyProof.Rows L2
def iSeq (K : PySem.W.Frag) (tl : TE) : TI := fun σ H R => tl σ H fun x H1 => ∃ a, x = .ref a ∧ ∃ xs, (SqL K H1 a xs ∨ SqT K H1 a xs) ∧ ∀ (J : It) (G : Hp → Prop), Walk J xs.length G (YAt xs) → (∀ H', Same H1 H' → G H') → R J H1
theorem pi_seq {X : Cx} {tg l : Expr} {tl : TE} (hl : PE X l tl) : PI X tg l (iSeq X.K tl) := by
  refine ⟨fun pins s σ H R I h => ?_⟩
  refine thn (hl.run pins s σ H _ I h) fun v s1 ⟨x, H1, I1, r1, q1⟩ => ?_
  obtain ⟨a, e, xs, hs, q1⟩ := q1
  subst e
  cases r1
  rcases hs with hq | hq
  · have q := q1 _ _ walk_list fun _ e => Same.seq e hq
    obtain ⟨its, rv, p, hz⟩ := I1.list hq
    refine wpAny_pyIter_list p.isList ?_
    refine ⟨s1.heap.objs.size, [s1.heap.objs.size], _, _, H1, rfl, I1.kept (t' := s1.toks) fun b o e => Heap.get?_push_of_some _ e, turn_list a _, ⟨_, Heap.get?_push_size _ rfl, rfl, rfl⟩, fun b hb => ?_, q⟩
    have e : b = s1.heap.objs.size := by simpa using hb
    subst e
    exact I1.fpOk (Nat.le_refl _) (I1.hok.fresh (Nat.le_refl _))
  · have q := q1 _ _ walk_tup fun _ e => Same.sqT e hq
    obtain ⟨its, rv, p, hz⟩ := I1.tuple hq
    refine wpAny_pyIter_tuple (show s1.heap.IsTuple a its.toArray from p) ?_
    refine ⟨s1.heap.objs.size, [s1.heap.objs.size], _, _, H1, rfl, I1.kept (t' := s1.toks) fun b o e => Heap.get?_push_of_some _ e, turn_tuple a _, ⟨_, Heap.get?_push_size _ rfl, rfl, rfl⟩, fun b hb => ?_, q⟩
    have e : b = s1.heap.objs.size := by simpa using hb
    subst e
    exact I1.fpOk (Nat.le_refl _) (I1.hok.fresh (Nat.le_refl _))
/-- the items of a row -/
def itemsD : PyData → List PyData
  | .list xs => xs
  | .tuple xs => xs
  | _ => []
theorem Room.units65 {k : Nat} {A : Around} (r : Room k A) : A.units + 65 < cLine := by
  have := r.un
  omega
/-- x // y, x % y of a power of ten -/
theorem cdivW {i j : Int} (h : 0 < j) (hb : j ≤ 10 ^ 700) : CDivW i j := wide_div (b := 2400) h (by
  have e : (10 : Nat) ^ 700 < 2 ^ 2400 := by decide +kernel
  have e3 : ((10 ^ 700 : Nat) : Int) = (10 : Int) ^ 700 := by rw [Int.natCast_pow] <;> rfl
  have e2 : j.natAbs ≤ 10 ^ 700 := by
    rw [← e3] at hb
    generalize (10 : Nat) ^ 700 = m at hb ⊢
    omega
  exact Nat.lt_of_le_of_lt e2 e) (by decide) (by decide)
/-! ### equality of data -/
theorem eq_self {d : PyData} (h : SeqAt.shaped d = true) : PyData.eqv d d = true := SeqAt.eqv_refl d (SeqAt.canLay_of_shaped h)
end Q
/-! P6: more rules -/
namespace Q
open PySem PySem.Spec PyProof.Rows L2
section
variable {X : Cx}
/-- isinstance(e, C) in a suite: of what class the error is, is told by the reading -/
theorem call_isE2 {a D : Addr} {cls : Value} {d : Option Addr} {oe : Obj} {pn : List (Addr × Obj)} (C : ExcC X.K D) (hz : Zc cls d oe) (hf : ∃ vs, oe.data = .fields vs) :
    CallR (X.suite a ((a, oe) :: pn)) (.builtin "isinstance") (fun xs H Q => cls = .ref D ∧ d = none ∧ rIsE X.K D a xs H Q) := by
  intro pins s σ H xs us Q I r h
  obtain ⟨rfl, rfl, h⟩ := h
  exact call_isE C hz hf pins s σ H xs us Q I r h
/-- r[i], r a list or a tuple -/
def rIxR (K : PySem.W.Frag) : R2 := fun x y H Q => ∃ p xs i v, x = .ref p ∧ y = .int i ∧ (SqL K H p xs ∨ SqT K H p xs) ∧ atI xs i = some v ∧ Q v H
theorem ix_row : IxR X (rIxR X.K) := by
  have k := ix_list.or (X := X) ix_tup
  intro value slice pins s σ H x y v u Q I rx ry h hs
  refine k value slice pins s σ H x y v u Q I rx ry ?_ hs
  obtain ⟨p, xs, i, z, e1, e2, hs, hv, q⟩ := h
  rcases hs with hs | hs
  · exact .inl ⟨p, xs, i, z, e1, e2, hs, hv, q⟩
  · exact .inr ⟨p, xs, i, z, e1, e2, hs, hv, q⟩
theorem ix_rowK {K : PySem.W.Frag} (h : X.K = K) : IxR X (rIxR K) := by
  subst h
  exact ix_row
theorem ix_listK {K : PySem.W.Frag} (h : X.K = K) : IxR X (rIxL K) := by
  subst h
  exact ix_list
theorem ix_tupK {K : PySem.W.Frag} (h : X.K = K) : IxR X (rIxT K) := by
  subst h
  exact ix_tup
end
end Q
/-! P7: data with dicts among them (of which no more is told than that they are dicts) -/
namespace Q
open PySem PySem.Spec PyProof.Rows L2
mutual
inductive Dx (K : PySem.W.Frag) (H : Hp) : V → PyData → Prop
  | non : Dx K H .non .none
  | bl (b : Bool) : Dx K H (.bl b) (.bool b)
  | int (i : Int) : Dx K H (.int i) (.int i)
  | str (x : Str) : Dx K H (.str x) (.str x)
  | lst {a : Addr} {xs : List V} {ds : List PyData} : SqL K H a xs → DxAll K H xs ds → Dx K H (.ref a) (.list ds)
  | tup {a : Addr} {xs : List V} {ds : List PyData} : SqT K H a xs → DxAll K H xs ds → Dx K H (.ref a) (.tuple ds)
  | dK {a : Addr} {kvs : List (L2.Key × V)} : H a = some (.dK kvs) → Dx K H (.ref a) (.dict [])
  | dT {a : Addr} {kvs : List (List L2.Key × V)} : H a = some (.dT kvs) → Dx K H (.ref a) (.dict [])
inductive DxAll (K : PySem.W.Frag) (H : Hp) : List V → List PyData → Prop
  | nil : DxAll K H [] []
  | cons {v : V} {d : PyData} {vs : List V} {ds : List PyData} : Dx K H v d → DxAll K H vs ds → DxAll K H (v :: vs) (d :: ds)
end
mutual
theorem Dx.of {K : PySem.W.Frag} {H : Hp} : ∀ (d : PyData) (v : V), Dp K H v d → Dx K H v d
  | .none, _, .non => .non
  | .bool b, _, .bl _ => .bl b
  | .int i, _, .int _ => .int i
  | .str x, _, .str _ => .str x
  | .list ds, _, .lst h a => .lst h (DxAll.of ds _ a)
  | .tuple ds, _, .tup h a => .tup h (DxAll.of ds _ a)
theorem DxAll.of {K : PySem.W.Frag} {H : Hp} : ∀ (ds : List PyData) (vs : List V), DpAll K H vs ds → DxAll K H vs ds
  | [], _, .nil => .nil
  | d :: ds, _, .cons h r => .cons (Dx.of d _ h) (DxAll.of ds _ r)
end
theorem dx {K : PySem.W.Frag} {H : Hp} {d : PyData} {v : V} (h : Dp K H v d) : Dx K H v d := Dx.of d v h
mutual
theorem Dx.mono {K : PySem.W.Frag} {H H' : Hp} (e : Same H H') : ∀ (d : PyData) (v : V), Dx K H v d → Dx K H' v d
  | .none, _, .non => .non
  | .bool b, _, .bl _ => .bl b
  | .int i, _, .int _ => .int i
  | .str x, _, .str _ => .str x
  | .list ds, _, .lst h a => .lst (Same.seq e h) (DxAll.mono e ds _ a)
  | .tuple ds, _, .tup h a => .tup (Same.sqT e h) (DxAll.mono e ds _ a)
  | .dict _, _, .dK h => .dK (e _ _ h)
  | .dict _, _, .dT h => .dT (e _ _ h)
theorem DxAll.mono {K : PySem.W.Frag} {H H' : Hp} (e : Same H H') : ∀ (ds : List PyData) (vs : List V), DxAll K H vs ds → DxAll K H' vs ds
  | [], _, .nil => .nil
  | d :: ds, _, .cons h r => .cons (Dx.mono e d _ h) (DxAll.mono e ds _ r)
end
theorem DxAll.len {K : PySem.W.Frag} {H : Hp} : ∀ {vs : List V} {ds : List PyData}, DxAll K H vs ds → vs.length = ds.length
  | _, _, .nil => rfl
  | _, _, .cons _ r => congrArg Nat.succ (DxAll.len r)
theorem tyX_ofX {K : PySem.W.Frag} {H : Hp} {v : V} {d : PyData} (h : Dx K H v d) : TyX K H v (.type (tyN d)) := by
  cases h with
  | non => exact .base .non
  | bl b => exact .base (.bl b)
  | int i => exact .base (.int i)
  | str x => exact .base (.str x)
  | lst s _ =>
    rcases s with (s | ⟨o, s⟩) | ⟨o, its, n, s, c, _⟩
    · exact .base (.lst s)
    · exact .base (.frz s)
    · exact .kList s c
  | tup s _ =>
    rcases s with (s | ⟨o, s⟩) | ⟨o, its, n, s, c, _⟩
    · exact .base (.tup s)
    · exact .fTuple s
    · exact .kTuple s c
  | dK h => exact .base (.dK h)
  | dT h => exact .base (.dT h)
theorem tup_ofX {K : PySem.W.Frag} {H : Hp} {v : V} {ds : List PyData} (h : Dx K H v (.tuple ds)) : ∃ p xs, v = .ref p ∧ SqT K H p xs ∧ DxAll K H xs ds := by
  cases h with
  | tup s a => exact ⟨_, _, rfl, s, a⟩
theorem all1X {K : PySem.W.Frag} {H : Hp} {xs : List V} {x : PyData} (h : DxAll K H xs [x]) : ∃ a, xs = [a] ∧ Dx K H a x := by
  cases h with
  | cons h r =>
    cases r
    exact ⟨_, rfl, h⟩
theorem all2X {K : PySem.W.Frag} {H : Hp} {xs : List V} {x y : PyData} (h : DxAll K H xs [x, y]) : ∃ a b, xs = [a, b] ∧ Dx K H a x ∧ Dx K H b y := by
  cases h with
  | cons h r =>
    obtain ⟨b, rfl, h2⟩ := all1X r
    exact ⟨_, _, rfl, h, h2⟩
theorem all4X {K : PySem.W.Frag} {H : Hp} {xs : List V} {x y z u : PyData} (h : DxAll K H xs [x, y, z, u]) : ∃ a b c d, xs = [a, b, c, d] ∧ Dx K H a x ∧ Dx K H b y ∧ Dx K H c z ∧ Dx K H d u := by
  cases h with
  | cons h r =>
    cases r with
    | cons h2 r =>
      obtain ⟨c, d, rfl, h3, h4⟩ := all2X r
      exact ⟨_, _, _, _, rfl, h, h2, h3, h4⟩
theorem int_ofX {K : PySem.W.Frag} {H : Hp} {v : V} {i : Int} (h : Dx K H v (.int i)) : v = .int i := by
  cases h
  rfl
theorem str_ofX {K : PySem.W.Frag} {H : Hp} {v : V} {t : Str} (h : Dx K H v (.str t)) : v = .str t := by
  cases h
  rfl
theorem int_of {K : PySem.W.Frag} {H : Hp} {v : V} {i : Int} (h : Dp K H v (.int i)) : v = .int i := by
  cases h
  rfl
theorem str_of {K : PySem.W.Frag} {H : Hp} {v : V} {t : Str} (h : Dp K H v (.str t)) : v = .str t := by
  cases h
  rfl
end Q
/-! P8: defs of one parameter that are called by its name, too -/
namespace Q
open PySem PySem.Spec PyProof.Rows L2
theorem kb1_of {K : PySem.W.Frag} {x qual p : Str} {params : Arguments} {body : List Stmt} {scope : Scope} {kws : List (Str × V)} {f : Addr} {fd : FuncData} (F : FunD K x qual params body scope [] kws f fd)
    (h : ∀ (kV doc pm : Value) (an : Option Addr) (cdv ct u : Value), bindArgs (PySem.W.fnOf x qual params body scope .none kV doc pm an cdv ct) ⟨[], [(p, u)]⟩ = pure [(p, u)]) : KB1 K fd p := by
  obtain ⟨oc, od, dV, kV, doc, pm, an, cdv, ct, osl, rfl, lk, hcd, hD, hK⟩ := F.ex
  rcases hD with ⟨_, rfl⟩ | ⟨e, _⟩
  · intro s u _
    exact .of_eq (h kV doc pm an cdv ct u)
  · exact absurd rfl e
/-- a def that may raise, called where it does not -/
abbrev EF : XK := fun _ _ _ => False
theorem passF {X : Cx} {P : Program} {w : World} : Passes (L2.CX P w) X EF := fun pins σ H s e s' I c => by
  obtain ⟨_, _, _, _, _, _, _, _, _, _, _, _, z⟩ := c
  exact z.elim
/-- both ways of calling -/
def GB (P : Program) (w : World) (K : PySem.W.Frag) (mg : Str → Option Value) (base : Heap) (CX : CXT) (k : Nat) (x p : Str) (sp : Sp) : Prop :=
  ∃ f fd, mg x = some (.ref f) ∧ PySem.W.keepIn K (.ref f) = true ∧ FnOk P w K mg base CX k f fd [p] sp ∧ Binds K fd [p] [] ∧ KB1 K fd p
section
variable {P : Program} {w : World} {K : PySem.W.Frag} {mg : Str → Option Value} {base : Heap} {CX : CXT} {k : Nat} {x p : Str} {sp : Sp}
theorem GB.g (h : GB P w K mg base CX k x p sp) : G P w K mg base CX k x [p] sp := by
  obtain ⟨f, fd, a, b, c, d, _⟩ := h
  exact ⟨f, fd, a, b, c, d⟩
theorem GB.kw (h : GB P w K mg base CX k x p sp) : GK P w K mg base CX k x p sp := by
  obtain ⟨f, fd, a, b, c, _, d⟩ := h
  exact ⟨f, fd, a, b, c, d⟩
end
end Q
/-! P9: {k: v}, the key a tuple -/
namespace Q
open PySem PySem.Spec PyProof.Rows L2
def tDisp1T (tk tv : TE) : TE := fun σ H Q => ∀ p, H p = none → tPairs [(tk, tv)] σ (upd H p (.dT [])) fun ps H2 => ∃ (x y : V), ps = [(x, y)] ∧ ∃ (k : List L2.Key) (b : Addr), x = .ref b ∧ H2 b = some (.tup (k.map kV)) ∧ H2 p = some (.dT []) ∧ Q (.ref p) (upd H2 p (.dT [(k, y)]))
theorem pe_disp1T {X : Cx} {pos : Pos} {k v : Expr} {tk tv : TE} (hu : X.A.units + 1 < cLine) (hk : PE X k tk) (hv : PE X v tv) : PE X (.Dict [some k] [v] pos) (tDisp1T tk tv) := by
  refine ⟨fun pins s σ H Q I q => ?_⟩
  have hn := I.hok.fresh (Nat.le_refl s.heap.objs.size)
  have I1 := I.laid (a := s.heap.objs.size) (o := .dT []) (h' := s.heap.push { cls := .type "dict", data := .dict #[] }) (t' := s.toks) (fun _ _ q => Heap.get?_push_of_some _ q) (Nat.le_refl _) (dt_empty s.heap I.big)
  have hs := zip_pairTrees [some k] [v] X.env pos rfl rfl
  rw [arm_eval_Dict, hs, dictDisplay_pairs _ (by intro e; cases e) (by show 1 < 17; decide)]
  refine wpAny_bind (wpAny_standAt (wpAny_bind ?_))
  unfold subDict
  refine wpAny_bind (wpAny_alloc ?_)
  refine wpAny_bind (wpAny_holding ?_)
  rw [if_pos (by show 1 ≤ 15; decide)]
  refine wpAny_bind (wpAny_mono ((pps_cons hk hv pps_nil).run pins _ σ _ _ I1 (q _ hn)) (fun vs s2 h => ?_) fun _ _ e => e)
  obtain ⟨ps, H2, I2, rel, x, y, rfl, kk, b, rfl, hb, hp, q2⟩ := h
  obtain ⟨u2, rfl, ry⟩ : ∃ u2, vs = [(.ref b, u2)] ∧ RelV y u2 := by
    cases rel with
    | cons h t =>
      cases t
      obtain ⟨h1, h2⟩ := h
      have h1' : _ = Value.ref b := h1
      refine ⟨_, ?_, h2⟩
      rw [← h1']
  refine wpAny_holding ?_
  rw [List.forIn_cons]
  obtain ⟨z, hd, xs, rel, dd⟩ := dt_of I2.hok hp
  cases rel
  refine wpAny_bind (wpAny_bind (wpAny_bind (wpAny_dictSet_heap (hsz := Nat.zero_le _) (show X.A.units < cLine by omega) (key_of I2.hok hb) dd fun h' dd' hs' => wpAny_pure ?_)))
  show wpAny _ _ (forIn [] PUnit.unit _) _ _ _
  rw [List.forIn_nil]
  refine wpAny_pure (wpAny_pure (wpAny_pure (wpAny_pure ⟨.ref s.heap.objs.size, _, ?_, rfl, q2⟩)))
  obtain ⟨q, es, ep, hq, h2, h3, h4, _, h5⟩ := dd'
  refine d_write I2 (by rw [hp]; exact True.intro) hs' ⟨q, hq⟩ ⟨by show 1 ≤ sizeLine; decide, hd, _, ?_, q, es, ep, hq, h2, h3, h4, h5⟩
  refine .cons ⟨rfl, ?_, ry⟩ .nil
  rw [upd_ne (ne_of hb hp (fun z => nomatch z))]
  exact hb
theorem u1 {k : Nat} {A : Around} (r : Room k A) : A.units + 1 < cLine := by
  have := Room.units65 r
  omega
end Q
/-! P10: objects made by a class's name -/
namespace Q
open PySem PySem.Spec PyProof.Rows L2
def GI (P : Program) (w : World) (K : PySem.W.Frag) (mg : Str → Option Value) (base : Heap) (CX : CXT) (k : Nat) (x : Str) (C : Addr) (ps : List Str) (sp : Sp) : Prop :=
  ∃ f fd, mg x = some (.ref C) ∧ Mk K C f ∧ FnOk P w K mg base CX k f fd ps sp ∧ Binds K fd ps []
section
variable {X : Cx} {CX : CXT} {j k : Nat} {x : Str} {C : Addr} {ps : List Str} {sp : Sp} {E : XK} {p pos : Pos} {e : Expr} {es : List Expr} {t : TA}
theorem pe_gmake (g : GI X.prog X.w X.K X.mg X.base CX k x C ps sp) (hr : Room j X.A) (hx : Passes CX X E) (ha : PA X (e :: es) t) (hj : k + 1 ≤ j := by omega) (hg : Gl X x := by rfl) (hdb : (x == ("__debug__" : Str)) = false := by decide)
    (he : starEach (e :: es) X.env = (false, eval e X.env) :: starEach es X.env := by rfl) (hpl : (backTo pos (starEach es X.env)).any (·.1) = false := by rfl) :
    PE X (.Call (.Name x p) (e :: es) [] pos) (tMake C sp [] E t) := by
  obtain ⟨f, fd, a, b, c, d⟩ := g
  exact pe_make b c (hr.mono hj) hg a d .nil hx ha hdb he hpl
end
end Q
/-! M94: the mathematics of texts of fractions (lists of signs), and of data that are fractions -/
namespace Q
open PySem PySem.Spec PyProof.Rows L2
open TL (tl)
/-! ### fractions among data -/
def isIntD (d : PyData) : Bool := isiI d && !isiB d
def isRowD (d : PyData) : Bool := isiL d || isiT d
def isFrac : PyData → Bool
  | .tuple [.int a, .int b] => decide (1 ≤ b) && decide (Int.gcd a b = 1)
  | _ => false
theorem isFrac_other {x : PyData} {y : PyData} (h : isIntD x = false ∨ isIntD y = false) : isFrac (.tuple [x, y]) = false := by
  cases x with
  | int a =>
    cases y with
    | int b =>
      rcases h with h | h <;> cases h
    | _ => rfl
  | _ => rfl
theorem isFrac_len {ds : List PyData} (h : ds.length ≠ 2) : isFrac (.tuple ds) = false := by
  match ds, h with
  | [], _ => rfl
  | [_], _ => unfold isFrac; split <;> simp_all
  | [_, _], h => exact absurd rfl h
  | _ :: _ :: _ :: _, _ => unfold isFrac; split <;> simp_all
theorem isInt_int {d : PyData} (h : isIntD d = true) : ∃ i, d = .int i := by
  cases d with
  | int i => exact ⟨i, rfl⟩
  | _ => cases h
theorem two_of {K : PySem.W.Frag} {H : Hp} {xs : List V} {ds : List PyData} (h : DpAll K H xs ds) (c : ds.length = 2) : ∃ x y vx vy, ds = [x, y] ∧ xs = [vx, vy] ∧ Dp K H vx x ∧ Dp K H vy y := by
  match ds, xs, h, c with
  | [x, y], [vx, vy], .cons hx (.cons hy .nil), _ => exact ⟨x, y, vx, vy, rfl, rfl, hx, hy⟩
/-- a fraction as a datum -/
def fr (q : Int × Int) : PyData := .tuple [.int q.1, .int q.2]
theorem isFrac_is {d : PyData} (h : isFrac d = true) : ∃ a b : Int, d = fr (a, b) ∧ 1 ≤ b ∧ Int.gcd a b = 1 := by
  unfold isFrac at h
  split at h
  · rename_i a b
    rw [Bool.and_eq_true, decide_eq_true_eq, decide_eq_true_eq] at h
    exact ⟨a, b, rfl, h.1, h.2⟩
  · cases h
theorem isFrac_fr {q : Int × Int} (h1 : 1 ≤ q.2) (h2 : Int.gcd q.1 q.2 = 1) : isFrac (fr q) = true := by
  show (decide (1 ≤ q.2) && decide (Int.gcd q.1 q.2 = 1)) = true
  rw [decide_eq_true h1, decide_eq_true h2] <;> rfl
/-! ### digits -/
def isDig (c : Nat) : Bool := decide (48 ≤ c ∧ c ≤ 57)
theorem mem_dig (c : Nat) : decide (c ∈ ("0123456789" : Str).cps.toList) = isDig c := by
  have e : ("0123456789" : Str).cps.toList = [48, 49, 50, 51, 52, 53, 54, 55, 56, 57] := by decide +kernel
  rw [e]
  unfold isDig
  refine decide_eq_decide.mpr ?_
  simp only [List.mem_cons, List.not_mem_nil, or_false]
  omega
theorem nmem_dig (c : Nat) : (!decide (c ∈ ("0123456789" : Str).cps.toList)) = !isDig c := by rw [mem_dig]
/-- the signs of an integer from 0 on, without needless zeros -/
def wholeL (l : List Nat) : Bool := !l.isEmpty && (l.all isDig && (decide (l = [48]) || decide (l.head? ≠ some 48)))
def signedL : List Nat → Bool
  | 45 :: r => wholeL r && decide (r ≠ [48])
  | l => wholeL l
def valN (l : List Nat) : Nat := PySem.NumText.digitsVal l
def intL : List Nat → Int
  | 45 :: r => -(valN r : Int)
  | l => (valN l : Int)
def splitL (s : Nat) (l : List Nat) : List (List Nat) := TL.spl [s] 0 [] l
/-- the fraction that signs tell -/
def wordFrac (l : List Nat) : Option (Int × Int) := match splitL 47 l with
  | [p] => if signedL p = true then some (intL p, 1) else none
  | [p, q] => if signedL p = true ∧ wholeL q = true ∧ 2 ≤ valN q ∧ Int.gcd (intL p) (valN q) = 1 then some (intL p, (valN q : Int)) else none
  | _ => none
def numS (i : Int) : List Nat := tl (toString i : Str)
/-! ### slices of texts -/
theorem tl_to (z : Str) (n : Nat) : tl (cutS z none (some (n : Int))) = (tl z).take n := by
  show (((tl z).drop (HT.sIx z.length 0 none)).take (HT.sIx z.length z.length (some (n : Int)) - HT.sIx z.length 0 none)) = _
  rw [HT.sIx_nat, HT.sIx_none, List.drop_zero, Nat.sub_zero, TL.len_tl]
  by_cases h : n ≤ (tl z).length
  · rw [Nat.min_eq_left h]
  · rw [Nat.min_eq_right (show (tl z).length ≤ n by omega), List.take_of_length_le (Nat.le_refl _), List.take_of_length_le (show (tl z).length ≤ n by omega)]
theorem tl_from (z : Str) (n : Nat) : tl (cutS z (some (n : Int)) none) = (tl z).drop n := by
  show (((tl z).drop (HT.sIx z.length 0 (some (n : Int)))).take (HT.sIx z.length z.length none - HT.sIx z.length 0 (some (n : Int)))) = _
  rw [HT.sIx_nat, HT.sIx_none, TL.len_tl]
  by_cases h : n ≤ (tl z).length
  · rw [Nat.min_eq_left h]
    exact List.take_of_length_le (by rw [List.length_drop]; exact Nat.le_refl _)
  · rw [Nat.min_eq_right (show (tl z).length ≤ n by omega), List.drop_of_length_le (Nat.le_refl _), List.drop_of_length_le (show (tl z).length ≤ n by omega), List.take_nil]
theorem tl_mid (z : Str) (i j : Nat) : tl (cutS z (some (i : Int)) (some (j : Int))) = ((tl z).drop i).take (j - i) := by
  show (((tl z).drop (HT.sIx z.length 0 (some (i : Int)))).take (HT.sIx z.length z.length (some (j : Int)) - HT.sIx z.length 0 (some (i : Int)))) = _
  rw [HT.sIx_nat, HT.sIx_nat, TL.len_tl]
  by_cases h : i ≤ (tl z).length
  · rw [Nat.min_eq_left h]
    by_cases h2 : j ≤ (tl z).length
    · rw [Nat.min_eq_left h2]
    · rw [Nat.min_eq_right (show (tl z).length ≤ j by omega), List.take_of_length_le (by rw [List.length_drop]; exact Nat.le_refl _), List.take_of_length_le (by rw [List.length_drop]; omega)]
  · rw [Nat.min_eq_right (show (tl z).length ≤ i by omega), List.drop_of_length_le (Nat.le_refl _), List.drop_of_length_le (show (tl z).length ≤ i by omega), List.take_nil, List.take_nil]
/-! ### whole numbers of signs -/
theorem allDig_of {l : List Nat} (h : l.all isDig = true) : PySem.NumText.AllDigits l := fun c hc => by
  have e := List.all_eq_true.mp h c hc
  exact of_decide_eq_true e
theorem wholeL_dig {l : List Nat} (h : wholeL l = true) : l.all isDig = true := (Bool.and_eq_true_iff.mp (Bool.and_eq_true_iff.mp h).2).1
theorem wholeL_ne {l : List Nat} (h : wholeL l = true) : l ≠ [] := fun e => by
  rw [e] at h
  cases h
theorem int_whole {a : Str} (h : wholeL (tl a) = true) (hl : a.length ≤ 640) : intText? a = some (valN (tl a) : Int) := intText_digits (allDig_of (wholeL_dig h)) (wholeL_ne h) (by omega)
theorem signed_cases {l : List Nat} (h : signedL l = true) : (∃ r, l = 45 :: r ∧ wholeL r = true ∧ r ≠ [48] ∧ intL l = -(valN r : Int)) ∨ (l.head? ≠ some 45 ∧ wholeL l = true ∧ intL l = (valN l : Int)) := by
  match l, h with
  | 45 :: r, h =>
    have h2 : (wholeL r && decide (r ≠ [48])) = true := h
    obtain ⟨h3, h4⟩ := Bool.and_eq_true_iff.mp h2
    exact .inl ⟨r, rfl, h3, of_decide_eq_true h4, rfl⟩
  | [], h => cases h
  | c :: r, h =>
    by_cases hc : c = 45
    · subst hc
      have h2 : (wholeL r && decide (r ≠ [48])) = true := h
      obtain ⟨h3, h4⟩ := Bool.and_eq_true_iff.mp h2
      exact .inl ⟨r, rfl, h3, of_decide_eq_true h4, rfl⟩
    · refine .inr ⟨fun e => hc (Option.some.inj e), ?_, ?_⟩
      · unfold signedL at h
        split at h
        · rename_i e
          exact absurd (List.cons.inj e).1 hc
        · exact h
      · unfold intL
        split
        · rename_i e
          exact absurd (List.cons.inj e).1 hc
        · rfl
theorem int_signed {a : Str} (h : signedL (tl a) = true) (hl : a.length ≤ 640) : intText? a = some (intL (tl a)) := by
  rcases signed_cases h with ⟨r, e, h1, h2, h3⟩ | ⟨_, h1, h2⟩
  · rw [h3]
    exact intText_neg (cs := r) e (allDig_of (wholeL_dig h1)) (wholeL_ne h1) (by omega)
  · rw [h2]
    exact int_whole h1 hl
/-- no more than 600 digits side by side -/
def Runs (l : List Nat) : Prop := ∀ b : List Nat, b <:+: l → b.all isDig = true → b.length ≤ 600
theorem Runs.sub {l m : List Nat} (h : Runs l) (i : m <:+: l) : Runs m := fun b hb hd => h b (hb.trans i) hd
theorem Runs.whole {a : Str} (h : Runs (tl a)) (w : wholeL (tl a) = true) : a.length ≤ 640 := by
  have q := h (tl a) List.infix_rfl (wholeL_dig w)
  rw [TL.len_tl]
  omega
theorem Runs.signed {a : Str} (h : Runs (tl a)) (w : signedL (tl a) = true) : a.length ≤ 640 := by
  rcases signed_cases w with ⟨r, e, h1, _, _⟩ | ⟨_, h1, _⟩
  · have q := h r ⟨[45], [], by rw [e] <;> simp⟩ (wholeL_dig h1)
    rw [TL.len_tl, e, List.length_cons]
    omega
  · exact h.whole h1
/-! ### parts -/
theorem spl_infix {s : Nat} : ∀ (l acc : List Nat) (p : List Nat), p ∈ TL.spl [s] 0 acc l → p <:+: acc ++ l
  | [], acc, p, h => by
    have e : p = acc := by simpa [TL.spl] using h
    subst e
    simp
  | c :: r, acc, p, h => by
    cases hp : TL.pre [s] (c :: r) with
    | true =>
      rw [TL.spl_hit hp] at h
      rcases List.mem_cons.mp h with e | h
      · subst e
        exact ⟨[], c :: r, by simp⟩
      · obtain ⟨x, y, e⟩ := spl_infix r [] p h
        refine ⟨acc ++ [c] ++ x, y, ?_⟩
        simp only [List.nil_append] at e
        rw [← e]
        simp
    | false =>
      rw [TL.spl_miss hp] at h
      have q := spl_infix r (acc ++ [c]) p h
      rw [List.append_assoc] at q
      exact q
theorem splitL_infix {s : Nat} {l p : List Nat} (h : p ∈ splitL s l) : p <:+: l := by
  have q := spl_infix l [] p h
  rw [List.nil_append] at q
  exact q
theorem splitL_ne (s : Nat) : ∀ (l acc : List Nat), TL.spl [s] 0 acc l ≠ []
  | [], acc => by simp [TL.spl]
  | c :: r, acc => by
    cases hp : TL.pre [s] (c :: r) with
    | true =>
      rw [TL.spl_hit hp]
      simp
    | false =>
      rw [TL.spl_miss hp]
      exact splitL_ne s r _
theorem shape3 {α : Type} (l : List α) (h : l ≠ []) : (∃ a, l = [a]) ∨ (∃ a b, l = [a, b]) ∨ ∃ a b c r, l = a :: b :: c :: r := by
  match l, h with
  | [a], _ => exact .inl ⟨a, rfl⟩
  | [a, b], _ => exact .inr (.inl ⟨a, b, rfl⟩)
  | a :: b :: c :: r, _ => exact .inr (.inr ⟨a, b, c, r, rfl⟩)
theorem splitL_len (s : Nat) : ∀ (l acc : List Nat), (TL.spl [s] 0 acc l).length ≤ l.length + 1
  | [], acc => by simp [TL.spl]
  | c :: r, acc => by
    cases hp : TL.pre [s] (c :: r) with
    | true =>
      rw [TL.spl_hit hp]
      have q := splitL_len s r []
      simp only [List.length_cons, List.length_nil, Nat.zero_add, Nat.sub_self] at q ⊢
      omega
    | false =>
      rw [TL.spl_miss hp]
      have q := splitL_len s r (acc ++ [c])
      rw [List.length_cons]
      omega
/-- None or a fraction -/
def optFr : Option (Int × Int) → PyData
  | none => .none
  | some q => fr q
theorem tup_of {K : PySem.W.Frag} {H : Hp} {v : V} {ds : List PyData} (h : Dp K H v (.tuple ds)) : ∃ p xs, v = .ref p ∧ SqT K H p xs ∧ DpAll K H xs ds := by
  cases h with
  | tup s a => exact ⟨_, _, rfl, s, a⟩
theorem lst_of {K : PySem.W.Frag} {H : Hp} {v : V} {ds : List PyData} (h : Dp K H v (.list ds)) : ∃ p xs, v = .ref p ∧ SqL K H p xs ∧ DpAll K H xs ds := by
  cases h with
  | lst s a => exact ⟨_, _, rfl, s, a⟩
theorem all1 {K : PySem.W.Frag} {H : Hp} {xs : List V} {x : PyData} (h : DpAll K H xs [x]) : ∃ a, xs = [a] ∧ Dp K H a x := by
  cases h with
  | cons h r =>
    cases r
    exact ⟨_, rfl, h⟩
theorem all2 {K : PySem.W.Frag} {H : Hp} {xs : List V} {x y : PyData} (h : DpAll K H xs [x, y]) : ∃ a b, xs = [a, b] ∧ Dp K H a x ∧ Dp K H b y := by
  cases h with
  | cons h r =>
    obtain ⟨b, rfl, h2⟩ := all1 r
    exact ⟨_, _, rfl, h, h2⟩
theorem all4 {K : PySem.W.Frag} {H : Hp} {xs : List V} {x y z u : PyData} (h : DpAll K H xs [x, y, z, u]) : ∃ a b c d, xs = [a, b, c, d] ∧ Dp K H a x ∧ Dp K H b y ∧ Dp K H c z ∧ Dp K H d u := by
  cases h with
  | cons h r =>
    cases r with
    | cons h2 r =>
      obtain ⟨c, d, rfl, h3, h4⟩ := all2 r
      exact ⟨_, _, _, _, rfl, h, h2, h3, h4⟩
/-! ### the signs of an integer -/
theorem tl_int (i : Int) : tl (Str.ofString (toString i)) = if i < 0 then 45 :: TL.numL i.natAbs else TL.numL i.natAbs := by
  by_cases h : i < 0
  · rw [if_pos h, TL.tl_ofString, PyProof.Rows.toString_neg h]
    have e : (0 - i) = ((i.natAbs : Nat) : Int) := by omega
    rw [e, String.toList_append, List.map_append, ← TL.tl_ofString, ← TL.tl_ofString, TL.tl_num]
    rfl
  · rw [if_neg h]
    have e : i = ((i.natAbs : Nat) : Int) := by omega
    have q := TL.tl_num i.natAbs
    rw [← e] at q
    exact q
/-- few digits -/
abbrev Sm (i : Int) : Prop := i.natAbs < 10 ^ 60
theorem Sm.log {i : Int} (h : Sm i) : i.natAbs.log2 < 1920 := Nat.lt_of_lt_of_le (PySem.Flt.log2_lt_of (k := 200) (by decide) (Nat.lt_trans h (by decide))) (by decide)
theorem Sm.len {i : Int} (h : Sm i) : (Str.ofString (toString i)).length ≤ 61 := by
  rw [TL.len_tl, tl_int]
  have q := TL.numL_len (k := 60) (by decide) h
  split
  · rw [List.length_cons]
    omega
  · omega
/-- the text of a fraction -/
def fracS (q : Int × Int) : Str := if q.2 = 1 then Str.ofString (toString q.1) else Str.ofString (toString q.1) ++ ("/" : Str) ++ Str.ofString (toString q.2)
def SmQ (q : Int × Int) : Prop := Sm q.1 ∧ Sm q.2
theorem SmQ.len {q : Int × Int} (h : SmQ q) : (fracS q).length ≤ 123 := by
  have h1 := h.1.len
  have h2 := h.2.len
  unfold fracS
  split
  · omega
  · rw [TL.len_tl] at h1 h2 ⊢
    rw [TL.tl_append, TL.tl_append, List.length_append, List.length_append, show tl "/" = [47] by decide +kernel]
    simp only [List.length_cons, List.length_nil]
    omega
/-! ### rows of words -/
/-- the fractions that words tell, or the number of the first one that is none -/
def readW : Nat → List (List Nat) → Sum Nat (List (Int × Int))
  | _, [] => .inr []
  | k, w :: ws => match wordFrac w with
    | none => .inl (k + 1)
    | some q => match readW (k + 1) ws with
      | .inl n => .inl n
      | .inr qs => .inr (q :: qs)
theorem readW_cons (k : Nat) (w : List Nat) (ws : List (List Nat)) : readW k (w :: ws) = (match wordFrac w with
    | none => .inl (k + 1)
    | some q => match readW (k + 1) ws with
      | .inl n => .inl n
      | .inr qs => .inr (q :: qs)) := by
  rw [readW]
theorem readW_app : ∀ (a b : List (List Nat)) (k : Nat) (qs : List (Int × Int)), a.map wordFrac = qs.map some → readW k (a ++ b) = (match readW (k + a.length) b with | .inl n => .inl n | .inr r => .inr (qs ++ r))
  | [], b, k, qs, h => by
    cases qs with
    | nil =>
      rw [List.nil_append, List.length_nil, Nat.add_zero]
      cases readW k b <;> rfl
    | cons _ _ => cases h
  | w :: a, b, k, qs, h => by
    cases qs with
    | nil => cases h
    | cons q qs =>
      rw [List.map_cons, List.map_cons] at h
      injection h with h1 h2
      rw [List.cons_append, readW_cons, h1, readW_app a b (k + 1) qs h2, List.length_cons]
      have e : k + 1 + a.length = k + (a.length + 1) := by omega
      rw [e]
      cases readW (k + (a.length + 1)) b <;> rfl
theorem readW_bad {ws : List (List Nat)} {i : Nat} {w : List Nat} {qs : List (Int × Int)} (h : (ws.take i).map wordFrac = qs.map some) (hi : ws[i]? = some w) (hw : wordFrac w = none) : readW 0 ws = .inl (i + 1) := by
  obtain ⟨hl, e⟩ := List.getElem?_eq_some_iff.mp hi
  have e2 : ws = ws.take i ++ (w :: ws.drop (i + 1)) := by
    rw [← e, ← List.drop_eq_getElem_cons hl, List.take_append_drop]
  have k := readW_app (ws.take i) (w :: ws.drop (i + 1)) 0 qs h
  rw [← e2] at k
  rw [k, List.length_take, Nat.min_eq_left (by omega), Nat.zero_add, readW_cons, hw]
theorem readW_ok {ws : List (List Nat)} {qs : List (Int × Int)} (h : ws.map wordFrac = qs.map some) : readW 0 ws = .inr qs := by
  have k := readW_app ws [] 0 qs h
  rw [List.append_nil] at k
  rw [k, readW]
  show Sum.inr (qs ++ []) = _
  rw [List.append_nil]
def readNums (l : List Nat) : Sum Nat (List (Int × Int)) := if l = [] then .inr [] else readW 0 (splitL 32 l)
theorem take_more {α : Type} {l : List α} {i : Nat} {x : α} (h : l[i]? = some x) : l.take (i + 1) = l.take i ++ [x] := by
  rw [List.take_add_one, h]
  rfl
theorem foldl_bound : ∀ (l : List Nat) (a : Nat), (∀ c ∈ l, 48 ≤ c ∧ c ≤ 57) → l.foldl (fun acc c => acc * 10 + (c - 48)) a < (a + 1) * 10 ^ l.length
  | [], a, _ => by simp
  | c :: r, a, h => by
    have hc := h c List.mem_cons_self
    have ih := foldl_bound r (a * 10 + (c - 48)) fun d hd => h d (List.mem_cons_of_mem _ hd)
    rw [List.foldl_cons, List.length_cons, Nat.pow_succ]
    refine Nat.lt_of_lt_of_le ih ?_
    have e : (a + 1) * (10 ^ r.length * 10) = ((a + 1) * 10) * 10 ^ r.length := by
      rw [Nat.mul_comm (10 ^ r.length) 10, Nat.mul_assoc]
    rw [e]
    exact Nat.mul_le_mul_right _ (by omega)
theorem valN_lt {l : List Nat} (h : l.all isDig = true) : valN l < 10 ^ l.length := by
  have q := foldl_bound l 0 (fun c hc => allDig_of h c hc)
  rw [Nat.zero_add, Nat.one_mul] at q
  exact q
theorem valN_700 {a : Str} (h : wholeL (tl a) = true) (hl : a.length ≤ 640) : (valN (tl a) : Int) ≤ 10 ^ 700 := by
  have q := valN_lt (wholeL_dig h)
  have q2 : valN (tl a) < 10 ^ 700 := Nat.lt_of_lt_of_le q (Nat.pow_le_pow_right (by decide) (by rw [← TL.len_tl]; omega))
  have e : ((10 ^ 700 : Nat) : Int) = (10 : Int) ^ 700 := by rw [Int.natCast_pow] <;> rfl
  rw [← e]
  generalize (10 : Nat) ^ 700 = m at q2
  omega
theorem valN_zero : ∀ {l : List Nat}, wholeL l = true → valN l = 0 → l = [48] := fun {l} h h0 => by
  obtain ⟨c, r, e⟩ := List.exists_cons_of_ne_nil (wholeL_ne h)
  subst e
  have hd := allDig_of (wholeL_dig h)
  have hc := hd c List.mem_cons_self
  have mono : ∀ (l : List Nat) (a : Nat), a ≤ l.foldl (fun acc c => acc * 10 + (c - 48)) a := by
    intro l
    induction l with
    | nil => intro a; exact Nat.le_refl _
    | cons x y ih =>
      intro a
      rw [List.foldl_cons]
      exact Nat.le_trans (by omega) (ih _)
  have h1 : valN (c :: r) = r.foldl (fun acc c => acc * 10 + (c - 48)) (0 * 10 + (c - 48)) := rfl
  have h2 := mono r (0 * 10 + (c - 48))
  have h3 : c = 48 := by
    rw [← h1, h0] at h2
    omega
  subst h3
  have h4 := (Bool.and_eq_true_iff.mp (Bool.and_eq_true_iff.mp h).2).2
  rw [Bool.or_eq_true, decide_eq_true_eq, decide_eq_true_eq] at h4
  rcases h4 with h4 | h4
  · exact h4
  · exact absurd rfl h4
theorem eqv_fr (a b c d : Int) : PyData.eqv (fr (a, b)) (fr (c, d)) = (decide (a = c) && decide (b = d)) := by
  unfold fr
  simp [PyData.eqv, PyData.eqvAll]
  rfl
theorem shaped_fr (q : Int × Int) : SeqAt.shaped (fr q) = true := rfl
theorem spl_parts_len {s : Nat} {l p : List Nat} (h : p ∈ splitL s l) : p.length ≤ l.length := (splitL_infix h).length_le
end Q
/-! N94: what is written reads back -/
namespace Q
open PySem PySem.Spec PyProof.Rows L2
open TL (tl numL)
/-! ### numerals -/
theorem all_dig_num (n : Nat) : (numL n).all isDig = true := List.all_eq_true.mpr fun c hc => decide_eq_true (TL.numL_digits n c hc)
theorem head_num : ∀ (n : Nat), 0 < n → (numL n).head? ≠ some 48 := by
  intro n
  induction n using Nat.strongRecOn with
  | ind n ih =>
    intro h0
    by_cases h : n < 10
    · rw [TL.numL_lt h]
      intro e
      have e2 := Option.some.inj e
      omega
    · rw [TL.numL_step (by omega)]
      have h1 := ih (n / 10) (by omega) (by omega)
      obtain ⟨c, r, e⟩ := List.exists_cons_of_ne_nil (TL.numL_ne (n / 10))
      rw [e] at h1 ⊢
      exact h1
theorem whole_num (n : Nat) : wholeL (numL n) = true := by
  unfold wholeL
  rw [all_dig_num, Bool.true_and]
  have h1 : (numL n).isEmpty = false := by
    cases e : numL n with
    | nil => exact absurd e (TL.numL_ne n)
    | cons _ _ => rfl
  rw [h1]
  by_cases h : n = 0
  · subst h
    rw [TL.numL_lt (by decide)]
    rfl
  · rw [decide_eq_true (head_num n (by omega)), Bool.or_true]
    rfl
theorem val_num (n : Nat) : valN (numL n) = n := TL.numL_val n
theorem num_zero {n : Nat} (h : n ≠ 0) : numL n ≠ [48] := fun e => by
  have h1 := val_num n
  rw [e] at h1
  exact h h1.symm
theorem num_head45 (n : Nat) : (numL n).head? ≠ some 45 := fun e => by
  obtain ⟨c, r, e2⟩ := List.exists_cons_of_ne_nil (TL.numL_ne n)
  rw [e2] at e
  have h := TL.numL_digits n c (by rw [e2]; exact List.mem_cons_self)
  have h2 := Option.some.inj e
  omega
theorem signed_int (i : Int) : signedL (tl (Str.ofString (toString i))) = true ∧ intL (tl (Str.ofString (toString i))) = i := by
  rw [tl_int]
  by_cases h : i < 0
  · rw [if_pos h]
    constructor
    · show (wholeL (numL i.natAbs) && decide (numL i.natAbs ≠ [48])) = true
      rw [whole_num, decide_eq_true (num_zero (by omega))]
      rfl
    · show -(valN (numL i.natAbs) : Int) = i
      rw [val_num]
      omega
  · rw [if_neg h]
    have h45 := num_head45 i.natAbs
    constructor
    · have e : signedL (numL i.natAbs) = wholeL (numL i.natAbs) := by
        unfold signedL
        split
        · rename_i e
          rw [e] at h45
          exact absurd rfl h45
        · rfl
      rw [e, whole_num]
    · have e : intL (numL i.natAbs) = (valN (numL i.natAbs) : Int) := by
        unfold intL
        split
        · rename_i e
          rw [e] at h45
          exact absurd rfl h45
        · rfl
      rw [e, val_num]
      omega
theorem int_free {i : Int} {s : Nat} (h : s < 45 ∨ 57 < s ∨ s = 47) : s ∉ tl (Str.ofString (toString i)) := by
  rw [tl_int]
  have h2 : s ∉ numL i.natAbs := TL.numL_free (by omega)
  split
  · intro z
    rcases List.mem_cons.mp z with z | z
    · omega
    · exact h2 z
  · exact h2
/-- a fraction that may be written -/
structure FrOk (q : Int × Int) : Prop where
  pos : 1 ≤ q.2
  low : Int.gcd q.1 q.2 = 1
  sm : SmQ q
theorem tl_frac (q : Int × Int) : tl (fracS q) = if q.2 = 1 then tl (Str.ofString (toString q.1)) else tl (Str.ofString (toString q.1)) ++ 47 :: tl (Str.ofString (toString q.2)) := by
  unfold fracS
  split
  · rfl
  · rw [TL.tl_append, TL.tl_append, show tl "/" = [47] by decide +kernel, List.append_assoc]
    rfl
theorem frac_free {q : Int × Int} : 32 ∉ tl (fracS q) := by
  rw [tl_frac]
  split
  · exact int_free (by omega)
  · intro z
    rcases List.mem_append.mp z with z | z
    · exact int_free (by omega) z
    · rcases List.mem_cons.mp z with z | z
      · omega
      · exact int_free (by omega) z
theorem frac_read {q : Int × Int} (h : FrOk q) : wordFrac (tl (fracS q)) = some q := by
  obtain ⟨a, b⟩ := q
  obtain ⟨h1, h2, _⟩ := h
  have hb : (0 : Int) < b := h1
  obtain ⟨s1, s2⟩ := signed_int a
  rw [tl_frac]
  unfold wordFrac
  by_cases c : b = 1
  · subst c
    rw [if_pos rfl]
    have e : splitL 47 (tl (Str.ofString (toString a))) = [tl (Str.ofString (toString a))] := by
      unfold splitL
      rw [TL.spl_last1 (int_free (by omega))]
      rfl
    rw [e]
    show (if signedL (tl (Str.ofString (toString a))) = true then some (intL (tl (Str.ofString (toString a))), 1) else none) = some (a, 1)
    rw [if_pos s1, s2]
  · rw [if_neg c]
    have e : splitL 47 (tl (Str.ofString (toString a)) ++ 47 :: tl (Str.ofString (toString b))) = [tl (Str.ofString (toString a)), tl (Str.ofString (toString b))] := by
      unfold splitL
      have h1 := TL.spl_part1 (S := []) (s := 47) (acc := []) (rest := tl (Str.ofString (toString b))) (int_free (i := a) (s := 47) (by omega))
      rw [TL.spl_last1 (int_free (i := b) (s := 47) (by omega))] at h1
      exact h1
    rw [e]
    have eb : tl (Str.ofString (toString b)) = numL b.natAbs := by
      rw [tl_int, if_neg (by omega)]
    show (if signedL (tl (Str.ofString (toString a))) = true ∧ wholeL (tl (Str.ofString (toString b))) = true ∧ 2 ≤ valN (tl (Str.ofString (toString b))) ∧ Int.gcd (intL (tl (Str.ofString (toString a)))) (valN (tl (Str.ofString (toString b)))) = 1 then some (intL (tl (Str.ofString (toString a))), (valN (tl (Str.ofString (toString b))) : Int)) else none) = some (a, b)
    rw [s2, eb, whole_num, val_num]
    have e2 : ((b.natAbs : Nat) : Int) = b := by omega
    rw [e2, if_pos ⟨s1, rfl, by omega, h2⟩]
/-! ### rows -/
theorem tl_words (qs : List (Int × Int)) : tl (Txt.join " " (qs.map fracS)) = TL.joinL [32] ((qs.map fracS).map tl) := by
  rw [TL.join_eq, TL.tl_join, show tl " " = [32] by decide +kernel]
theorem join_ne {s : Nat} {S : List Nat} : ∀ {ps : List (List Nat)}, ps ≠ [] → (∀ p ∈ ps, p ≠ []) → TL.joinL (s :: S) ps ≠ []
  | [p], _, h => by
    have e : TL.joinL (s :: S) [p] = p := rfl
    rw [e]
    exact h p List.mem_cons_self
  | p :: q :: r, _, h => by
    have e : TL.joinL (s :: S) (p :: q :: r) = p ++ ((s :: S) ++ TL.joinL (s :: S) (q :: r)) := rfl
    rw [e]
    simp
theorem frac_ne {q : Int × Int} : tl (fracS q) ≠ [] := by
  rw [tl_frac]
  have h : tl (Str.ofString (toString q.1)) ≠ [] := by
    rw [tl_int]
    split
    · simp
    · exact TL.numL_ne _
  split
  · exact h
  · simp
theorem read_back {qs : List (Int × Int)} (h : ∀ q ∈ qs, FrOk q) : readNums (tl (Txt.join " " (qs.map fracS))) = .inr qs := by
  rw [tl_words]
  unfold readNums
  cases qs with
  | nil => rfl
  | cons q r =>
    have hne : (((q :: r).map fracS).map tl) ≠ [] := by simp
    have hp : ∀ p ∈ (((q :: r).map fracS).map tl), ∃ x ∈ q :: r, p = tl (fracS x) := fun p hp => by
      rw [List.map_map] at hp
      obtain ⟨x, hx, e⟩ := List.mem_map.mp hp
      exact ⟨x, hx, e.symm⟩
    rw [if_neg (join_ne hne fun p hh => by obtain ⟨x, _, e⟩ := hp p hh; rw [e]; exact frac_ne)]
    unfold splitL
    rw [TL.spl_join hne fun p hh => by obtain ⟨x, _, e⟩ := hp p hh; rw [e]; exact frac_free]
    refine readW_ok ?_
    rw [List.map_map, List.map_map]
    refine List.map_congr_left fun x hx => ?_
    exact frac_read (h x hx)
theorem infix_part {s : Nat} {b x y : List Nat} (h : b <:+: x ++ s :: y) (hs : s ∉ b) : b <:+: x ∨ b <:+: y := by
  obtain ⟨u, v, e⟩ := h
  rcases List.append_eq_append_iff.mp e with ⟨a, e1, e2⟩ | ⟨c, e1, e2⟩
  · exact .inl ⟨u, a, e1.symm⟩
  · cases c with
    | nil =>
      rw [List.append_nil] at e1
      exact .inl ⟨u, [], by rw [List.append_nil, e1]⟩
    | cons z c =>
      rw [List.cons_append] at e2
      injection e2 with e3 e4
      subst e3
      have e5 : u ++ b = (x ++ [s]) ++ c := by rw [e1, List.append_assoc] <;> rfl
      rcases List.append_eq_append_iff.mp e5 with ⟨a, e6, e7⟩ | ⟨a, e6, e7⟩
      · rcases List.eq_nil_or_concat a with rfl | ⟨a', z, rfl⟩
        · rw [List.nil_append] at e7
          exact .inr ⟨[], v, by rw [List.nil_append, e7, e4]⟩
        · exfalso
          rw [List.concat_eq_append, ← List.append_assoc] at e6
          have e8 := (List.append_inj' e6 rfl).2
          injection e8 with e9
          refine hs ?_
          rw [e7, ← e9]
          simp
      · exact .inr ⟨a, v, by rw [e4, e7]⟩
theorem infix_join {s : Nat} {b : List Nat} (hs : s ∉ b) : ∀ {ps : List (List Nat)}, b <:+: TL.joinL [s] ps → b = [] ∨ ∃ p ∈ ps, b <:+: p
  | [], h => .inl (List.eq_nil_of_infix_nil h)
  | [p], h => .inr ⟨p, List.mem_cons_self, h⟩
  | p :: q :: r, h => by
    have e : TL.joinL [s] (p :: q :: r) = p ++ s :: TL.joinL [s] (q :: r) := rfl
    rw [e] at h
    rcases infix_part h hs with h | h
    · exact .inr ⟨p, List.mem_cons_self, h⟩
    · rcases infix_join hs h with h | ⟨z, hz, h⟩
      · exact .inl h
      · exact .inr ⟨z, List.mem_cons_of_mem _ hz, h⟩
theorem words_runs {qs : List (Int × Int)} (h : ∀ q ∈ qs, FrOk q) : Runs (tl (Txt.join " " (qs.map fracS))) := by
  intro b hb hd
  rw [tl_words] at hb
  have hs : 32 ∉ b := fun z => by
    have := List.all_eq_true.mp hd 32 z
    cases this
  rcases infix_join hs hb with rfl | ⟨p, hp, hi⟩
  · exact Nat.zero_le _
  · rw [List.map_map] at hp
    obtain ⟨q, hq, rfl⟩ := List.mem_map.mp hp
    have h1 := (h q hq).sm.len
    have h2 := hi.length_le
    have h3 : (fracS q).length = (tl (fracS q)).length := TL.len_tl _
    have h4 : ((tl ∘ fracS) q).length = (tl (fracS q)).length := rfl
    omega
theorem words_len : ∀ (qs : List (Int × Int)), (∀ q ∈ qs, FrOk q) → (TL.joinL [32] ((qs.map fracS).map tl)).length ≤ 124 * qs.length
  | [], _ => Nat.le_refl _
  | [q], h => by
    have h1 := (h q List.mem_cons_self).sm.len
    have h3 : (fracS q).length = (tl (fracS q)).length := TL.len_tl _
    show (tl (fracS q)).length ≤ 124 * 1
    omega
  | q :: p :: r, h => by
    have h1 := (h q List.mem_cons_self).sm.len
    have h3 : (fracS q).length = (tl (fracS q)).length := TL.len_tl _
    have ih := words_len (p :: r) fun x hx => h x (List.mem_cons_of_mem _ hx)
    have e : TL.joinL [32] (((q :: p :: r).map fracS).map tl) = tl (fracS q) ++ 32 :: TL.joinL [32] (((p :: r).map fracS).map tl) := rfl
    rw [e, List.length_append, List.length_cons, List.length_cons]
    omega
theorem text_len {qs : List (Int × Int)} (h : ∀ q ∈ qs, FrOk q) : (Txt.join " " (qs.map fracS)).length ≤ 124 * qs.length := by
  rw [TL.len_tl, tl_words]
  exact words_len qs h
end Q
/-! R94: the mathematics of trees' texts: reading by descent, reading by a stack, writing -/
namespace Q
open PySem PySem.Spec PyProof.Rows L2
open TL (tl numL)
inductive Tr where
  | leaf : Tr
  | motion : Nat → Tr
  | split : Nat → Tr → Tr → Tr
def trD : Tr → PyData
  | .leaf => .tuple [.str "leaf"]
  | .motion n => .tuple [.str "motion", .int n]
  | .split n a b => .tuple [.str "split", .int n, trD a, trD b]
/-- the signs of a tree -/
def trW : Tr → List Nat
  | .leaf => [46]
  | .motion n => numL n
  | .split n a b => 40 :: (numL n ++ 32 :: (trW a ++ 32 :: (trW b ++ [41])))
def hgt : Tr → Nat
  | .leaf => 1
  | .motion _ => 1
  | .split _ a b => max (hgt a) (hgt b) + 1
/-- labels of at most 40 digits -/
def sml : Tr → Prop
  | .leaf => True
  | .motion n => n < 10 ^ 40
  | .split n a b => n < 10 ^ 40 ∧ sml a ∧ sml b
/-! ### a number -/
def goOn (ds : List Nat) (c : Nat) : Bool := isDig c && (decide (ds.head? ≠ some 48) && decide (ds.length < 40))
def numGo : List Nat → List Nat → List Nat × List Nat
  | ds, [] => (ds, [])
  | ds, c :: r => if goOn ds c = true then numGo (ds ++ [c]) r else (ds, c :: r)
def numP : List Nat → Option (List Nat × List Nat)
  | [] => none
  | c :: r => if isDig c = true then some (numGo [c] r) else none
theorem numGo_cons (ds : List Nat) (c : Nat) (r : List Nat) : numGo ds (c :: r) = if goOn ds c = true then numGo (ds ++ [c]) r else (ds, c :: r) := rfl
theorem numP_cons (c : Nat) (r : List Nat) : numP (c :: r) = if isDig c = true then some (numGo [c] r) else none := rfl
/-- no further digit is taken -/
def Stop (ds l : List Nat) : Prop := ds = [] ∨ ∀ c r, l = c :: r → goOn ds c = false
theorem numGo_stop : ∀ (l ds : List Nat), Stop (numGo ds l).1 (numGo ds l).2
  | [], ds => .inr fun c r h => nomatch h
  | c :: r, ds => by
    rw [numGo_cons]
    by_cases e : goOn ds c = true
    · rw [if_pos e]
      exact numGo_stop r (ds ++ [c])
    · rw [if_neg e]
      refine .inr fun c' r' h => ?_
      have h2 : c :: r = c' :: r' := h
      injection h2 with h3 _
      rw [← h3]
      exact Bool.eq_false_iff.mpr e
theorem numGo_app : ∀ (l ds : List Nat), ∃ k, (numGo ds l).1 = ds ++ k ∧ l = k ++ (numGo ds l).2 ∧ k.all isDig = true
  | [], ds => ⟨[], by rw [List.append_nil]; rfl, rfl, rfl⟩
  | c :: r, ds => by
    rw [numGo_cons]
    cases e : goOn ds c with
    | true =>
      obtain ⟨k, e1, e2, e3⟩ := numGo_app r (ds ++ [c])
      have hc : isDig c = true := (Bool.and_eq_true_iff.mp e).1
      refine ⟨c :: k, ?_, ?_, ?_⟩
      · rw [if_pos rfl, e1, List.append_assoc]
        rfl
      · rw [if_pos rfl, List.cons_append, ← e2]
      · rw [List.all_cons, hc, e3]
        rfl
    | false => exact ⟨[], by rw [if_neg (by decide), List.append_nil], by rw [if_neg (by decide)] <;> rfl, rfl⟩
theorem numGo_zero : ∀ (l : List Nat), numGo [48] l = ([48], l)
  | [] => rfl
  | c :: r => by
    rw [numGo_cons]
    rw [show goOn [48] c = false by unfold goOn; simp]
    rfl
theorem numGo_len : ∀ (l ds : List Nat), ds.length ≤ 40 → (numGo ds l).1.length ≤ 40
  | [], ds, h => h
  | c :: r, ds, h => by
    rw [numGo_cons]
    cases e : goOn ds c with
    | true =>
      have h1 := (Bool.and_eq_true_iff.mp (Bool.and_eq_true_iff.mp e).2).2
      have h2 := of_decide_eq_true h1
      exact numGo_len r (ds ++ [c]) (by rw [List.length_append]; exact h2)
    | false => exact h
/-- what a number's signs are -/
theorem numP_is {l ds r : List Nat} (h : numP l = some (ds, r)) : l = ds ++ r ∧ wholeL ds = true ∧ ds.length ≤ 40 ∧ Stop ds r := by
  match l, h with
  | c :: l, h =>
    rw [numP_cons] at h
    by_cases hc : isDig c = true
    · rw [if_pos hc] at h
      have h2 := Option.some.inj h
      have h3 := numGo_stop l [c]
      have h4 := numGo_len l [c] (by show 1 ≤ 40; decide)
      obtain ⟨k, e1, e2, e3⟩ := numGo_app l [c]
      rw [h2] at h3 h4 e1 e2
      have e1 : ds = [c] ++ k := e1
      have e2 : l = k ++ r := e2
      refine ⟨by rw [e1, e2] <;> rfl, ?_, h4, h3⟩
      unfold wholeL
      by_cases c48 : c = 48
      · subst c48
        rw [numGo_zero] at h2
        have h5 : [48] = ds := congrArg Prod.fst h2
        rw [← h5] <;> rfl
      · rw [e1]
        show (true && ((isDig c && k.all isDig) && (decide ([c] ++ k = [48]) || decide (some c ≠ some 48)))) = true
        rw [hc, e3, decide_eq_true (show some c ≠ some 48 from fun e => c48 (Option.some.inj e)), Bool.or_true]
        rfl
    · rw [if_neg hc] at h
      cases h
/-- signs of a whole number are that number's -/
theorem num_val {ds : List Nat} (h : wholeL ds = true) : numL (valN ds) = ds := by
  have hd := allDig_of (wholeL_dig h)
  obtain ⟨c, r, e⟩ := List.exists_cons_of_ne_nil (wholeL_ne h)
  have h4 := (Bool.and_eq_true_iff.mp (Bool.and_eq_true_iff.mp h).2).2
  rw [Bool.or_eq_true, decide_eq_true_eq, decide_eq_true_eq] at h4
  have k := PySem.NumText.toDigits_digitsVal r.length ds (by rw [e] <;> rfl) hd (by
    rcases h4 with h4 | h4
    · rw [h4] at e
      injection e with _ e2
      rw [← e2]
      exact .inl rfl
    · refine .inr ⟨c, r, e, ?_⟩
      rw [e] at h4
      have h5 := hd c (by rw [e]; exact List.mem_cons_self)
      have h6 : c ≠ 48 := fun z => h4 (by rw [z] <;> rfl)
      omega)
  unfold TL.numL
  show (Nat.toDigits 10 (PySem.NumText.digitsVal ds)).map Char.toNat = ds
  rw [k, List.map_map]
  have e2 : ∀ x ∈ ds, (Char.toNat ∘ Char.ofNat) x = id x := fun x hx => by
    have h5 := hd x hx
    show (Char.ofNat x).toNat = x
    exact (show ∀ x, x < 58 → (Char.ofNat x).toNat = x by decide) x (by omega)
  rw [List.map_congr_left e2, List.map_id]
/-! ### by descent -/
def takeC (c : Nat) : List Nat → Sum (List Nat) (List Nat)
  | [] => .inl []
  | d :: r => if d = c then .inr r else .inl (d :: r)
theorem takeC_cons (c d : Nat) (r : List Nat) : takeC c (d :: r) = if d = c then .inr r else .inl (d :: r) := rfl
def treeP : Nat → List Nat → Sum (List Nat) (Tr × List Nat)
  | 0, l => match l with
    | [] => .inl []
    | c :: r => if c = 46 then .inr (.leaf, r) else match numP (c :: r) with
      | none => .inl (c :: r)
      | some (ds, r1) => .inr (.motion (valN ds), r1)
  | n + 1, l => match l with
    | [] => .inl []
    | c :: r => if c = 46 then .inr (.leaf, r) else if c = 40 then
        match numP r with
        | none => .inl r
        | some (ds, r1) => match takeC 32 r1 with
          | .inl e => .inl e
          | .inr r2 => match treeP n r2 with
            | .inl e => .inl e
            | .inr (a, r3) => match takeC 32 r3 with
              | .inl e => .inl e
              | .inr r4 => match treeP n r4 with
                | .inl e => .inl e
                | .inr (b, r5) => match takeC 41 r5 with
                  | .inl e => .inl e
                  | .inr r6 => .inr (.split (valN ds) a b, r6)
      else match numP (c :: r) with
      | none => .inl (c :: r)
      | some (ds, r1) => .inr (.motion (valN ds), r1)
theorem takeC_is {c : Nat} {l r : List Nat} (h : takeC c l = .inr r) : l = c :: r := by
  match l, h with
  | d :: l, h =>
    rw [takeC_cons] at h
    by_cases e : d = c
    · rw [if_pos e] at h
      rw [e, Sum.inr.inj h]
    · rw [if_neg e] at h
      cases h
theorem takeC_ok (c : Nat) (r : List Nat) : takeC c (c :: r) = .inr r := by
  rw [takeC_cons]
  rw [if_pos rfl]
/-- what is read is what was written -/
theorem treeP_is : ∀ (n : Nat) (l : List Nat) (t : Tr) (r : List Nat), treeP n l = .inr (t, r) → l = trW t ++ r ∧ hgt t ≤ n + 1 ∧ sml t := by
  have num : ∀ (l : List Nat) (n : Nat) (t : Tr) (r : List Nat), (match numP l with
      | none => Sum.inl l
      | some (ds, r1) => Sum.inr (Tr.motion (valN ds), r1)) = (Sum.inr (t, r) : Sum (List Nat) (Tr × List Nat)) → l = trW t ++ r ∧ hgt t ≤ n + 1 ∧ sml t := by
    intro l n t r h
    cases e : numP l with
    | none =>
      rw [e] at h
      cases h
    | some p =>
      obtain ⟨ds, r1⟩ := p
      rw [e] at h
      have h2 := Sum.inr.inj h
      injection h2 with h3 h4
      obtain ⟨e1, e2, e3, _⟩ := numP_is e
      rw [← h3, ← h4]
      refine ⟨?_, by show 1 ≤ n + 1; omega, ?_⟩
      · show l = numL (valN ds) ++ r1
        rw [num_val e2]
        exact e1
      · show valN ds < 10 ^ 40
        exact Nat.lt_of_lt_of_le (valN_lt (wholeL_dig e2)) (Nat.pow_le_pow_right (by decide) e3)
  intro n
  induction n with
  | zero =>
    intro l t r h
    match l, h with
    | c :: l, h =>
      unfold treeP at h
      by_cases c46 : c = 46
      · rw [c46] at h
        have h2 := Sum.inr.inj (show (Sum.inr (Tr.leaf, l) : Sum (List Nat) (Tr × List Nat)) = .inr (t, r) from h)
        injection h2 with h3 h4
        rw [← h3, ← h4, c46]
        exact ⟨rfl, by show 1 ≤ 1; decide, True.intro⟩
      · simp only [if_neg c46] at h
        exact num _ 0 _ _ h
  | succ n ih =>
    intro l t r h
    match l, h with
    | c :: l, h =>
      unfold treeP at h
      by_cases c46 : c = 46
      · rw [c46] at h
        have h2 := Sum.inr.inj (show (Sum.inr (Tr.leaf, l) : Sum (List Nat) (Tr × List Nat)) = .inr (t, r) from h)
        injection h2 with h3 h4
        rw [← h3, ← h4, c46]
        exact ⟨rfl, by show 1 ≤ n + 1 + 1; omega, True.intro⟩
      · by_cases c40 : c = 40
        · simp only [if_neg c46, if_pos c40] at h
          cases e1 : numP l with
          | none => rw [e1] at h; cases h
          | some p =>
            obtain ⟨ds, r1⟩ := p
            simp only [e1] at h
            cases e2 : takeC 32 r1 with
            | inl e => rw [e2] at h; cases h
            | inr r2 =>
              simp only [e2] at h
              cases e3 : treeP n r2 with
              | inl e => rw [e3] at h; cases h
              | inr p3 =>
                obtain ⟨a, r3⟩ := p3
                simp only [e3] at h
                cases e4 : takeC 32 r3 with
                | inl e => rw [e4] at h; cases h
                | inr r4 =>
                  simp only [e4] at h
                  cases e5 : treeP n r4 with
                  | inl e => rw [e5] at h; cases h
                  | inr p5 =>
                    obtain ⟨b, r5⟩ := p5
                    simp only [e5] at h
                    cases e6 : takeC 41 r5 with
                    | inl e => rw [e6] at h; cases h
                    | inr r6 =>
                      simp only [e6] at h
                      have h2 := Sum.inr.inj h
                      injection h2 with h3 h4
                      obtain ⟨f1, f2, f3, _⟩ := numP_is e1
                      obtain ⟨g1, g2, g3⟩ := ih _ _ _ e3
                      obtain ⟨k1, k2, k3⟩ := ih _ _ _ e5
                      rw [← h3, ← h4]
                      refine ⟨?_, ?_, ?_, g3, k3⟩
                      · show c :: l = 40 :: (numL (valN ds) ++ 32 :: (trW a ++ 32 :: (trW b ++ [41]))) ++ r6
                        rw [num_val f2, c40, f1, takeC_is e2, g1, takeC_is e4, k1, takeC_is e6]
                        simp
                      · show max (hgt a) (hgt b) + 1 ≤ n + 1 + 1
                        omega
                      · exact Nat.lt_of_lt_of_le (valN_lt (wholeL_dig f2)) (Nat.pow_le_pow_right (by decide) f3)
        · simp only [if_neg c46, if_neg c40] at h
          exact num _ (n + 1) _ _ h
/-! ### what was written is read -/
def NoDig (r : List Nat) : Prop := ∀ c z, r = c :: z → isDig c = false
theorem numGo_all : ∀ (k ds r : List Nat), ds.head? ≠ some 48 → ds ≠ [] → k.all isDig = true → ds.length + k.length ≤ 40 → NoDig r → numGo ds (k ++ r) = (ds ++ k, r)
  | [], ds, r, _, _, _, _, hr => by
    rw [List.nil_append, List.append_nil]
    cases r with
    | nil => rfl
    | cons c z =>
      rw [numGo_cons]
      rw [show goOn ds c = false by unfold goOn; rw [hr c z rfl]; rfl]
      rfl
  | c :: k, ds, r, h0, hne, hk, hl, hr => by
    rw [List.all_cons, Bool.and_eq_true] at hk
    rw [List.length_cons] at hl
    rw [List.cons_append]
    rw [numGo_cons]
    rw [show goOn ds c = true by unfold goOn; rw [hk.1, decide_eq_true h0, decide_eq_true (show ds.length < 40 by omega)]; rfl, if_pos rfl]
    obtain ⟨d, z, e⟩ := List.exists_cons_of_ne_nil hne
    rw [numGo_all k (ds ++ [c]) r (by rw [e] at h0 ⊢; exact h0) (by simp) hk.2 (by rw [List.length_append]; simp only [List.length_cons, List.length_nil]; omega) hr, List.append_assoc]
    rfl
theorem numP_num {n : Nat} {r : List Nat} (hn : n < 10 ^ 40) (hr : NoDig r) : numP (numL n ++ r) = some (numL n, r) := by
  have hw := whole_num n
  have hl := TL.numL_len (k := 40) (by decide) hn
  have hd := all_dig_num n
  obtain ⟨c, k, e⟩ := List.exists_cons_of_ne_nil (TL.numL_ne n)
  rw [e] at hd hl hw ⊢
  rw [List.all_cons, Bool.and_eq_true] at hd
  rw [List.length_cons] at hl
  rw [List.cons_append]
  rw [numP_cons]
  rw [if_pos hd.1]
  congr 1
  by_cases c48 : c = 48
  · have h4 := (Bool.and_eq_true_iff.mp (Bool.and_eq_true_iff.mp hw).2).2
    rw [Bool.or_eq_true, decide_eq_true_eq, decide_eq_true_eq] at h4
    rcases h4 with h4 | h4
    · injection h4 with _ h5
      rw [c48, h5, List.nil_append, numGo_zero]
    · exact absurd (by rw [c48] <;> rfl) h4
  · exact numGo_all k [c] r (fun e => c48 (Option.some.inj e)) (by simp) hd.2 (by simp only [List.length_cons, List.length_nil]; omega) hr
theorem noDig_cons {c : Nat} {r : List Nat} (h : isDig c = false) : NoDig (c :: r) := fun d z e => by
  injection e with e1 _
  rw [← e1]
  exact h
theorem num_head (n : Nat) (r : List Nat) : ∃ c z, numL n ++ r = c :: z ∧ isDig c = true := by
  have hd := all_dig_num n
  obtain ⟨c, k, e⟩ := List.exists_cons_of_ne_nil (TL.numL_ne n)
  rw [e] at hd ⊢
  rw [List.all_cons, Bool.and_eq_true] at hd
  exact ⟨c, k ++ r, rfl, hd.1⟩
theorem treeP_ok : ∀ (t : Tr) (n : Nat) (r : List Nat), hgt t ≤ n + 1 → sml t → NoDig r → treeP n (trW t ++ r) = .inr (t, r)
  | .leaf, n, r, _, _, _ => by
    show treeP n (46 :: r) = _
    cases n <;> rfl
  | .motion m, n, r, _, hm, hr => by
    show treeP n (numL m ++ r) = _
    have k := numP_num hm hr
    obtain ⟨c, z, e, hc⟩ := num_head m r
    have hc1 : c ≠ 46 := fun e => by rw [e] at hc; cases hc
    have hc2 : c ≠ 40 := fun e => by rw [e] at hc; cases hc
    rw [e] at k ⊢
    cases n with
    | zero =>
      unfold treeP
      simp only [if_neg hc1, k, val_num]
    | succ n =>
      unfold treeP
      simp only [if_neg hc1, if_neg hc2, k, val_num]
  | .split m a b, 0, r, h, _, _ => by
    have h2 : max (hgt a) (hgt b) + 1 ≤ 1 := h
    have h3 : 1 ≤ hgt a := by cases a <;> simp [hgt]
    omega
  | .split m a b, n + 1, r, h, ⟨hm, ha, hb⟩, hr => by
    have h2 : max (hgt a) (hgt b) + 1 ≤ n + 1 + 1 := h
    have e : trW (.split m a b) ++ r = 40 :: (numL m ++ (32 :: (trW a ++ (32 :: (trW b ++ (41 :: r)))))) := by
      show 40 :: (numL m ++ 32 :: (trW a ++ 32 :: (trW b ++ [41]))) ++ r = _
      simp
    rw [e]
    unfold treeP
    have k1 := numP_num (r := 32 :: (trW a ++ (32 :: (trW b ++ (41 :: r))))) hm (noDig_cons rfl)
    have k2 := treeP_ok a n (32 :: (trW b ++ (41 :: r))) (by omega) ha (noDig_cons rfl)
    have k3 := treeP_ok b n (41 :: r) (by omega) hb (noDig_cons rfl)
    simp only [show ¬ (40 : Nat) = 46 by decide, if_false, if_true, k1, takeC_ok, k2, k3, val_num]
/-- more room changes nothing -/
theorem treeP_more : ∀ (n : Nat) (l : List Nat) (t : Tr) (r : List Nat), NoDig r → treeP n l = .inr (t, r) → treeP (n + 1) l = .inr (t, r) := fun n l t r hr h => by
  obtain ⟨e, h1, h2⟩ := treeP_is n l t r h
  rw [e]
  exact treeP_ok t (n + 1) r (by omega) h2 hr
/-- a tree too high is not read -/
theorem treeP_high {t : Tr} {n : Nat} (h : n + 1 < hgt t) (hs : sml t) : ∀ t', treeP n (trW t) ≠ .inr (t', []) := fun t' e => by
  have nd : NoDig [] := fun _ _ z => nomatch z
  obtain ⟨e1, h1, h2⟩ := treeP_is n _ t' [] e
  have k1 := treeP_ok t (hgt t) [] (by omega) hs nd
  have k2 := treeP_ok t' (hgt t) [] (by omega) h2 nd
  rw [List.append_nil] at e1 k1 k2
  rw [e1] at k1
  rw [k1] at k2
  have k3 := Sum.inr.inj k2
  injection k3 with k4 _
  rw [k4] at h
  omega
/-! ### by a stack -/
inductive Wi where
  | lev : Nat → Wi
  | ch : Nat → Wi
def mach : List Wi → List Nat → List Nat → Option (List Nat)
  | [], _, [] => none
  | _ :: _, _, [] => some []
  | due, ds, c :: r => if (!ds.isEmpty && goOn ds c) = true then mach due (ds ++ [c]) r else
    match due with
    | [] => some (c :: r)
    | .lev k :: due => if isDig c = true then mach due [c] r else if c = 40 ∧ 0 < k ∧ k < 12 then mach (.lev 0 :: .ch 32 :: .lev (k + 1) :: .ch 32 :: .lev (k + 1) :: .ch 41 :: due) [] r
      else if c = 46 ∧ k ≠ 0 then mach due [] r else some (c :: r)
    | .ch d :: due => if c = d then mach due [] r else some (c :: r)
theorem mach_nil (ds : List Nat) (c : Nat) (r : List Nat) (h : (!ds.isEmpty && goOn ds c) = false) : mach [] ds (c :: r) = some (c :: r) := by
  show (if (!ds.isEmpty && goOn ds c) = true then mach [] (ds ++ [c]) r else some (c :: r)) = _
  rw [if_neg (by rw [h]; decide)]
theorem mach_lev (k : Nat) (due : List Wi) (ds : List Nat) (c : Nat) (r : List Nat) (h : (!ds.isEmpty && goOn ds c) = false) : mach (.lev k :: due) ds (c :: r) = if isDig c = true then mach due [c] r else if c = 40 ∧ 0 < k ∧ k < 12 then mach (.lev 0 :: .ch 32 :: .lev (k + 1) :: .ch 32 :: .lev (k + 1) :: .ch 41 :: due) [] r
      else if c = 46 ∧ k ≠ 0 then mach due [] r else some (c :: r) := by
  show (if (!ds.isEmpty && goOn ds c) = true then mach (.lev k :: due) (ds ++ [c]) r else _) = _
  rw [if_neg (by rw [h]; decide)]
theorem mach_chr (d : Nat) (due : List Wi) (ds : List Nat) (c : Nat) (r : List Nat) (h : (!ds.isEmpty && goOn ds c) = false) : mach (.ch d :: due) ds (c :: r) = if c = d then mach due [] r else some (c :: r) := by
  show (if (!ds.isEmpty && goOn ds c) = true then mach (.ch d :: due) (ds ++ [c]) r else _) = _
  rw [if_neg (by rw [h]; decide)]
theorem mach_dig (due : List Wi) (ds : List Nat) (c : Nat) (r : List Nat) (h : (!ds.isEmpty && goOn ds c) = true) : mach due ds (c :: r) = mach due (ds ++ [c]) r := by
  cases due with
  | nil =>
    show (if (!ds.isEmpty && goOn ds c) = true then mach [] (ds ++ [c]) r else _) = _
    rw [if_pos h]
  | cons w due =>
    cases w with
    | lev k =>
      show (if (!ds.isEmpty && goOn ds c) = true then mach (.lev k :: due) (ds ++ [c]) r else _) = _
      rw [if_pos h]
    | ch d =>
      show (if (!ds.isEmpty && goOn ds c) = true then mach (.ch d :: due) (ds ++ [c]) r else _) = _
      rw [if_pos h]
theorem stop_is {ds : List Nat} {c : Nat} {r : List Nat} (h : Stop ds (c :: r)) : (!ds.isEmpty && goOn ds c) = false := by
  rcases h with rfl | h
  · rfl
  · rw [h c r rfl, Bool.and_false]
theorem mach_go : ∀ (l ds : List Nat) (due : List Wi), ds ≠ [] → mach due ds l = mach due (numGo ds l).1 (numGo ds l).2
  | [], ds, due, h => rfl
  | c :: r, ds, due, h => by
    rw [numGo_cons]
    cases e : goOn ds c with
    | false => rfl
    | true =>
      have e0 : (!ds.isEmpty && goOn ds c) = true := by
        rw [e]
        cases ds with
        | nil => exact absurd rfl h
        | cons _ _ => rfl
      rw [mach_dig due ds c r e0, mach_go r (ds ++ [c]) due (by simp)]
      rfl
theorem mach_num {l ds : List Nat} {k : Nat} {due : List Wi} (h : Stop ds l) {d r : List Nat} (e : numP l = some (d, r)) : mach (.lev k :: due) ds l = mach due d r := by
  match l, e with
  | c :: l, e =>
    rw [numP_cons] at e
    by_cases hc : isDig c = true
    · rw [if_pos hc] at e
      have e2 := Option.some.inj e
      rw [mach_lev _ _ _ _ _ (stop_is h), if_pos hc]
      rw [mach_go l [c] due (by simp), e2]
    · rw [if_neg hc] at e
      cases e
theorem mach_ch {l ds : List Nat} {c : Nat} {due : List Wi} (h : Stop ds l) : mach (.ch c :: due) ds l = match takeC c l with | .inl e => some e | .inr r => mach due [] r := by
  cases l with
  | nil => rfl
  | cons d r =>
    rw [mach_chr _ _ _ _ _ (stop_is h), takeC_cons]
    by_cases e : d = c
    · simp only [if_pos e]
    · simp only [if_neg e]
theorem mach_nonum {l ds : List Nat} {due : List Wi} (h : Stop ds l) (e : numP l = none) : mach (.lev 0 :: due) ds l = some l := by
  cases l with
  | nil => rfl
  | cons c r =>
    rw [numP_cons] at e
    by_cases hc : isDig c = true
    · rw [if_pos hc] at e
      cases e
    · rw [mach_lev _ _ _ _ _ (stop_is h)]
      simp only [if_neg hc, if_neg (show ¬ (c = 40 ∧ 0 < 0 ∧ 0 < 12) by omega), if_neg (show ¬ (c = 46 ∧ (0 : Nat) ≠ 0) by omega)]
theorem dig_num {c : Nat} {r : List Nat} (h : ¬ isDig c = true) : numP (c :: r) = none := by
  rw [numP_cons]
  rw [if_neg h]
/-- the stack's reading of a tree is the descent's -/
theorem mach_tree : ∀ (n k : Nat) (l ds : List Nat) (due : List Wi), 0 < k → k + n = 12 → Stop ds l →
    (∀ e, treeP n l = .inl e → mach (.lev k :: due) ds l = some e) ∧ ∀ t r, treeP n l = .inr (t, r) → ∃ ds', Stop ds' r ∧ mach (.lev k :: due) ds l = mach due ds' r := by
  intro n
  induction n with
  | zero =>
    intro k l ds due hk hkn hs
    cases l with
    | nil =>
      refine ⟨fun e h => ?_, fun t r h => ?_⟩
      · have h2 : ([] : List Nat) = e := Sum.inl.inj h
        rw [← h2] <;> rfl
      · cases h
    | cons c l =>
      have h0 : mach (.lev k :: due) ds (c :: l) = if isDig c = true then mach due [c] l else if c = 40 ∧ 0 < k ∧ k < 12 then mach (.lev 0 :: .ch 32 :: .lev (k + 1) :: .ch 32 :: .lev (k + 1) :: .ch 41 :: due) [] l
          else if c = 46 ∧ k ≠ 0 then mach due [] l else some (c :: l) := by
        rw [mach_lev _ _ _ _ _ (stop_is hs)]
      unfold treeP
      by_cases c46 : c = 46
      · subst c46
        have h1 : mach (.lev k :: due) ds (46 :: l) = mach due [] l := by
          rw [h0, if_neg (by decide), if_neg (by omega), if_pos ⟨rfl, by omega⟩]
        refine ⟨fun e h => (nomatch (show (Sum.inr (Tr.leaf, l) : Sum (List Nat) (Tr × List Nat)) = .inl e from h)), fun t r h => ?_⟩
        have h2 := Sum.inr.inj (show (Sum.inr (Tr.leaf, l) : Sum (List Nat) (Tr × List Nat)) = .inr (t, r) from h)
        injection h2 with _ h4
        exact ⟨[], .inl rfl, by rw [h1, h4]⟩
      · simp only [if_neg c46]
        cases en : numP (c :: l) with
        | none =>
          have hc : ¬ isDig c = true := fun hc => by
            rw [numP_cons] at en
            rw [if_pos hc] at en
            cases en
          refine ⟨fun e h => ?_, fun t r h => (nomatch h)⟩
          have h2 : c :: l = e := Sum.inl.inj h
          rw [h0, if_neg hc, if_neg (by omega), if_neg (by omega), h2]
        | some p =>
          obtain ⟨d, r1⟩ := p
          refine ⟨fun e h => (nomatch h), fun t r h => ?_⟩
          have h2 := Sum.inr.inj h
          injection h2 with _ h4
          exact ⟨d, by rw [← h4]; exact (numP_is en).2.2.2, by rw [← h4]; exact mach_num hs en⟩
  | succ n ih =>
    intro k l ds due hk hkn hs
    cases l with
    | nil =>
      refine ⟨fun e h => ?_, fun t r h => ?_⟩
      · have h2 : ([] : List Nat) = e := Sum.inl.inj h
        rw [← h2] <;> rfl
      · cases h
    | cons c l =>
      have h0 : mach (.lev k :: due) ds (c :: l) = if isDig c = true then mach due [c] l else if c = 40 ∧ 0 < k ∧ k < 12 then mach (.lev 0 :: .ch 32 :: .lev (k + 1) :: .ch 32 :: .lev (k + 1) :: .ch 41 :: due) [] l
          else if c = 46 ∧ k ≠ 0 then mach due [] l else some (c :: l) := by
        rw [mach_lev _ _ _ _ _ (stop_is hs)]
      unfold treeP
      by_cases c46 : c = 46
      · subst c46
        have h1 : mach (.lev k :: due) ds (46 :: l) = mach due [] l := by
          rw [h0, if_neg (by decide), if_neg (by omega), if_pos ⟨rfl, by omega⟩]
        refine ⟨fun e h => (nomatch (show (Sum.inr (Tr.leaf, l) : Sum (List Nat) (Tr × List Nat)) = .inl e from h)), fun t r h => ?_⟩
        have h2 := Sum.inr.inj (show (Sum.inr (Tr.leaf, l) : Sum (List Nat) (Tr × List Nat)) = .inr (t, r) from h)
        injection h2 with _ h4
        exact ⟨[], .inl rfl, by rw [h1, h4]⟩
      · by_cases c40 : c = 40
        · simp only [if_neg c46, if_pos c40]
          subst c40
          have h1 : mach (.lev k :: due) ds (40 :: l) = mach (.lev 0 :: .ch 32 :: .lev (k + 1) :: .ch 32 :: .lev (k + 1) :: .ch 41 :: due) [] l := by
            rw [h0, if_neg (by decide), if_pos ⟨rfl, by omega, by omega⟩]
          rw [h1]
          have s0 : Stop [] l := .inl rfl
          cases e1 : numP l with
          | none =>
            refine ⟨fun e h => ?_, fun t r h => (nomatch h)⟩
            have h2 : l = e := Sum.inl.inj h
            rw [mach_nonum s0 e1, h2]
          | some p =>
            obtain ⟨d, r1⟩ := p
            simp only
            rw [mach_num s0 e1]
            have s1 := (numP_is e1).2.2.2
            rw [mach_ch s1]
            cases e2 : takeC 32 r1 with
            | inl e' =>
              refine ⟨fun e h => ?_, fun t r h => (nomatch h)⟩
              have h2 : e' = e := Sum.inl.inj h
              rw [← h2]
            | inr r2 =>
              simp only
              have s2 : Stop [] r2 := .inl rfl
              obtain ⟨i1, i2⟩ := ih (k + 1) r2 [] (.ch 32 :: .lev (k + 1) :: .ch 41 :: due) (by omega) (by omega) s2
              cases e3 : treeP n r2 with
              | inl e' =>
                refine ⟨fun e h => ?_, fun t r h => (nomatch h)⟩
                have h2 : e' = e := Sum.inl.inj h
                rw [← h2]
                exact i1 _ e3
              | inr p3 =>
                obtain ⟨a, r3⟩ := p3
                obtain ⟨ds3, s3, q3⟩ := i2 _ _ e3
                simp only
                rw [q3, mach_ch s3]
                cases e4 : takeC 32 r3 with
                | inl e' =>
                  refine ⟨fun e h => ?_, fun t r h => (nomatch h)⟩
                  have h2 : e' = e := Sum.inl.inj h
                  rw [← h2]
                | inr r4 =>
                  simp only
                  obtain ⟨j1, j2⟩ := ih (k + 1) r4 [] (.ch 41 :: due) (by omega) (by omega) (.inl rfl)
                  cases e5 : treeP n r4 with
                  | inl e' =>
                    refine ⟨fun e h => ?_, fun t r h => (nomatch h)⟩
                    have h2 : e' = e := Sum.inl.inj h
                    rw [← h2]
                    exact j1 _ e5
                  | inr p5 =>
                    obtain ⟨b, r5⟩ := p5
                    obtain ⟨ds5, s5, q5⟩ := j2 _ _ e5
                    simp only
                    rw [q5, mach_ch s5]
                    cases e6 : takeC 41 r5 with
                    | inl e' =>
                      refine ⟨fun e h => ?_, fun t r h => (nomatch h)⟩
                      have h2 : e' = e := Sum.inl.inj h
                      rw [← h2]
                    | inr r6 =>
                      refine ⟨fun e h => (nomatch h), fun t r h => ?_⟩
                      have h2 := Sum.inr.inj h
                      injection h2 with _ h4
                      exact ⟨[], .inl rfl, by rw [h4]⟩
        · simp only [if_neg c46, if_neg c40]
          cases en : numP (c :: l) with
          | none =>
            have hc : ¬ isDig c = true := fun hc => by
              rw [numP_cons] at en
              rw [if_pos hc] at en
              cases en
            refine ⟨fun e h => ?_, fun t r h => (nomatch h)⟩
            have h2 : c :: l = e := Sum.inl.inj h
            rw [h0, if_neg hc, if_neg (by omega), if_neg (by omega), h2]
          | some p =>
            obtain ⟨d, r1⟩ := p
            refine ⟨fun e h => (nomatch h), fun t r h => ?_⟩
            have h2 := Sum.inr.inj h
            injection h2 with _ h4
            exact ⟨d, by rw [← h4]; exact (numP_is en).2.2.2, by rw [← h4]; exact mach_num hs en⟩
/-! ### the whole text -/
/-- the tree, or the suffix that the reading stops at -/
def readT (l : List Nat) : Sum (List Nat) Tr := match treeP 11 l with
  | .inl e => .inl e
  | .inr (t, []) => .inr t
  | .inr (_, c :: r) => .inl (c :: r)
theorem mach_read (l : List Nat) : mach [.lev 1] [] l = match readT l with | .inl e => some e | .inr _ => none := by
  obtain ⟨h1, h2⟩ := mach_tree 11 1 l [] [] (by decide) rfl (.inl rfl)
  unfold readT
  cases e : treeP 11 l with
  | inl e' => exact h1 _ e
  | inr p =>
    obtain ⟨t, r⟩ := p
    obtain ⟨ds, s, q⟩ := h2 _ _ e
    rw [q]
    cases r with
    | nil => rfl
    | cons c r =>
      rw [mach_nil _ _ _ (stop_is s)]
theorem readT_is {l : List Nat} {t : Tr} (h : readT l = .inr t) : l = trW t ∧ hgt t ≤ 12 ∧ sml t := by
  unfold readT at h
  cases e : treeP 11 l with
  | inl e' => rw [e] at h; cases h
  | inr p =>
    obtain ⟨t', r⟩ := p
    rw [e] at h
    cases r with
    | nil =>
      have h2 : t' = t := Sum.inr.inj h
      subst h2
      obtain ⟨a, b, c⟩ := treeP_is _ _ _ _ e
      rw [List.append_nil] at a
      exact ⟨a, b, c⟩
    | cons c r => cases h
theorem readT_ok {t : Tr} (h : hgt t ≤ 12) (hs : sml t) : readT (trW t) = .inr t := by
  have k := treeP_ok t 11 [] h hs (fun _ _ z => nomatch z)
  rw [List.append_nil] at k
  unfold readT
  rw [k]
theorem readT_high {t : Tr} (h : 12 < hgt t) (hs : sml t) : ∃ e, readT (trW t) = .inl e := by
  cases e : readT (trW t) with
  | inl e' => exact ⟨e', rfl⟩
  | inr t' =>
    exfalso
    unfold readT at e
    cases e2 : treeP 11 (trW t) with
    | inl e' => rw [e2] at e; cases e
    | inr p =>
      obtain ⟨t2, r⟩ := p
      rw [e2] at e
      cases r with
      | nil => exact treeP_high h hs t2 e2
      | cons c r => cases e
end Q
/-! A94: the fractions' defs -/
namespace Q
open PySem PySem.Spec PyProof.Rows L2
/-! types
--: common_part one=int other=int ret=int
--: is_integer ret=bool
--: is_row ret=bool
--: is_fraction ret=bool thing=tuple
--! is_fraction | thing[0] | type | any
--! is_fraction | thing[1] | type | int
--! is_fraction | common_part(thing[0], thing[1]) | type | int
-/
section
variable {P : Program} {w : World} {K : PySem.W.Frag} {mg : Str → Option Value} {base : Heap}
def sp_is_integer (K : PySem.W.Frag) : Sp := fun vs H Q _ => ∃ (v : V) (d : PyData), vs = [v] ∧ Dx K H v d ∧ Q (.bl (isIntD d)) H
theorem ok_is_integer (T : Txt K mg) : G P w K mg base CX0 1 "is_integer" ["thing"] (sp_is_integer K) := by
  obtain ⟨fd, F⟩ := T.fn_is_integer
  refine ⟨_, fd, T.glo_is_integer, F.kp, F.ok sc_is_integer (fun vs H Q E h => by first | (obtain ⟨rfl, _⟩ := h; rfl) | (obtain ⟨_, rfl, _⟩ := h; rfl) | (obtain ⟨_, _, rfl, _⟩ := h; rfl) | (obtain ⟨_, _, _, rfl, _⟩ := h; rfl) | (obtain ⟨_, _, _, _, rfl, _⟩ := h; rfl) | (obtain ⟨_, _, _, _, _, rfl, _⟩ := h; rfl) | (obtain ⟨_, _, _, _, _, _, rfl, _⟩ := h; rfl) | (obtain ⟨_, _, _, _, _, _, _, rfl, _⟩ := h; rfl) | (obtain ⟨_, _, _, _, _, _, _, _, rfl, _⟩ := h; rfl)) (fun cdv A outer s H vs Q E hr h => ?_), F.bindsN fun _ _ _ _ _ _ us hl => match us, hl with | [_], _ => rfl⟩
  obtain ⟨v, d, rfl, hd, q⟩ := h
  refine ⟨_, PSs.nox (pss_one (ps_ret (pe_and (pe_callB call_isi (by rfl) T.free_isinstance (by decide +kernel) (pa_cons (pv 0) (pa_cons (pe_ty (T := "int") T.free_int (by decide +kernel)) pa_nil))) (pe_one (pe_not (pe_callB call_isi (by rfl) T.free_isinstance (by decide +kernel) (pa_cons (pv 0) (pa_cons (pe_ty (T := "bool") T.free_bool (by decide +kernel)) pa_nil)))))))), ?_⟩
  refine ⟨_, rfl, _, _, _, _, _, rfl, .ty _, tyX_ofX hd, kit_ty (isiI_is d), _, rfl, ?_⟩
  unfold isIntD at q
  cases e : isiI d with
  | true =>
    rw [e] at q
    refine iteT ?_
    exact ⟨_, rfl, _, _, _, _, _, rfl, .ty _, tyX_ofX hd, kit_ty (isiB_is d), _, rfl, q⟩
  | false =>
    rw [e] at q
    exact iteF q
def sp_is_row (K : PySem.W.Frag) : Sp := fun vs H Q _ => ∃ (v : V) (d : PyData), vs = [v] ∧ Dx K H v d ∧ ∀ H', Same H H' → Q (.bl (isRowD d)) H'
theorem ok_is_row (T : Txt K mg) : G P w K mg base CX0 1 "is_row" ["thing"] (sp_is_row K) := by
  obtain ⟨fd, F⟩ := T.fn_is_row
  refine ⟨_, fd, T.glo_is_row, F.kp, F.ok sc_is_row (fun vs H Q E h => by first | (obtain ⟨rfl, _⟩ := h; rfl) | (obtain ⟨_, rfl, _⟩ := h; rfl) | (obtain ⟨_, _, rfl, _⟩ := h; rfl) | (obtain ⟨_, _, _, rfl, _⟩ := h; rfl) | (obtain ⟨_, _, _, _, rfl, _⟩ := h; rfl) | (obtain ⟨_, _, _, _, _, rfl, _⟩ := h; rfl) | (obtain ⟨_, _, _, _, _, _, rfl, _⟩ := h; rfl) | (obtain ⟨_, _, _, _, _, _, _, rfl, _⟩ := h; rfl) | (obtain ⟨_, _, _, _, _, _, _, _, rfl, _⟩ := h; rfl)) (fun cdv A outer s H vs Q E hr h => ?_), F.bindsN fun _ _ _ _ _ _ us hl => match us, hl with | [_], _ => rfl⟩
  obtain ⟨v, d, rfl, hd, q⟩ := h
  refine ⟨_, PSs.nox (pss_one (ps_ret (pe_callB call_isiT (by rfl) T.free_isinstance (by decide +kernel) (pa_cons (pv 0) (pa_cons (pe_tup (pa_cons (pe_ty (T := "list") T.free_list (by decide +kernel)) (pa_cons (pe_ty (T := "tuple") T.free_tuple (by decide +kernel)) pa_nil))) pa_nil))))), ?_⟩
  refine ⟨_, rfl, by show 2 ≤ sizeLine; decide, fun p hp => ?_⟩
  have e : Same H (upd H p (.tup [.ty "list", .ty "tuple"])) := fun b o z => by
    rw [upd_ne (ne_of_none z hp)]
    exact z
  exact rIsiT_ty upd_same (tyX_ofX (Dx.mono e d v hd)) (isiL_is d) (isiT_is d) (q _ e)
def sp_common_part (K : PySem.W.Frag) : Sp := fun vs H Q _ => ∃ (a b : Int), vs = [.int a, .int b] ∧ Q (.int (Int.gcd a b)) H
theorem gcd_turn (a b : Nat) (h : 0 < b) : Nat.gcd b (a % b) = Nat.gcd a b := by
  rw [Nat.gcd_comm b, ← Nat.gcd_rec, Nat.gcd_comm]
theorem ok_common_part (T : Txt K mg) : G P w K mg base CX0 1 "common_part" ["one", "other"] (sp_common_part K) := by
  obtain ⟨fd, F⟩ := T.fn_common_part
  refine ⟨_, fd, T.glo_common_part, F.kp, F.ok sc_common_part (fun vs H Q E h => by first | (obtain ⟨rfl, _⟩ := h; rfl) | (obtain ⟨_, rfl, _⟩ := h; rfl) | (obtain ⟨_, _, rfl, _⟩ := h; rfl) | (obtain ⟨_, _, _, rfl, _⟩ := h; rfl) | (obtain ⟨_, _, _, _, rfl, _⟩ := h; rfl) | (obtain ⟨_, _, _, _, _, rfl, _⟩ := h; rfl) | (obtain ⟨_, _, _, _, _, _, rfl, _⟩ := h; rfl) | (obtain ⟨_, _, _, _, _, _, _, rfl, _⟩ := h; rfl) | (obtain ⟨_, _, _, _, _, _, _, _, rfl, _⟩ := h; rfl)) (fun cdv A outer s H vs Q E hr h => ?_), F.bindsN fun _ _ _ _ _ _ us hl => match us, hl with | [_, _], _ => rfl⟩
  obtain ⟨a, b, rfl, q⟩ := h
  refine ⟨_, PSs.nox (pss_cons (ps_set (i := 0) sc_common_part.nd rfl (Or.inl rfl) (pe_callB call_abs (by rfl) T.free_abs (by decide +kernel) (pa_cons (pv 0) pa_nil)))
    (pss_cons (ps_set (i := 1) sc_common_part.nd rfl (Or.inl rfl) (pe_callB call_abs (by rfl) T.free_abs (by decide +kernel) (pa_cons (pv 1) pa_nil)))
    (pss_cons (ps_while PassesOwn.never (pt_cmpR op_gt (pv 1) pe_int (nomark _)) (pss_one (ps_par (i := 0) (j := 1) (by rfl) sc_common_part.nd rfl rfl (by decide) rfl rfl (pa_cons (pv 1) (pa_cons (pe_op op_mod (pv 0) (pv 1)) pa_nil)) (by rfl))))
    (pss_one (ps_ret (pv 0)))))), ?_⟩
  refine ⟨_, rfl, _, rfl, _, rfl, _, rfl, ?_⟩
  have ab : ∀ i : Int, (if i < 0 then -i else i) = (i.natAbs : Int) := fun i => by split <;> omega
  rw [ab, ab]
  refine ⟨fun m σ H' => H' = H ∧ ∃ x y : Nat, σ = [some (.int x), some (.int y)] ∧ y = m ∧ Nat.gcd x y = Nat.gcd a.natAbs b.natAbs, ⟨_, rfl, _, _, rfl, rfl, rfl⟩, ?_⟩
  rintro m σ H' ⟨rfl, x, y, rfl, hm, hg⟩
  refine ⟨_, rfl, _, _, rfl, rfl, _, rfl, ?_⟩
  by_cases c : (0 : Int) < (y : Int)
  · rw [decide_eq_true c]
    refine iteT ⟨_, fun σ' H' z => z, ?_⟩
    refine ⟨_, rfl, _, rfl, _, rfl, _, _, rfl, rfl, c, _, _, rfl, ?_⟩
    refine ⟨x % y, by rw [← hm]; exact Nat.mod_lt _ (by omega), rfl, y, x % y, ?_, rfl, ?_⟩
    · show _ = _
      rw [Int.natCast_emod]
      rfl
    · rw [gcd_turn _ _ (by omega), hg]
  · rw [decide_eq_false c]
    refine iteF ?_
    have hy : y = 0 := by omega
    subst hy
    refine ⟨_, rfl, ?_⟩
    have e : (x : Int) = (Int.gcd a b : Int) := by
      rw [Nat.gcd_zero_right] at hg
      rw [hg]
      rfl
    rw [e]
    exact q
def sp_is_fraction (K : PySem.W.Frag) : Sp := fun vs H Q _ => ∃ (v : V) (d : PyData), vs = [v] ∧ Dp K H v d ∧ Q (.bl (isFrac d)) H
theorem ok_is_fraction (T : Txt K mg) : G P w K mg base CX0 2 "is_fraction" ["thing"] (sp_is_fraction K) := by
  obtain ⟨fd, F⟩ := T.fn_is_fraction
  have g_common_part := ok_common_part (P := P) (w := w) (base := base) T
  have g_is_integer := ok_is_integer (P := P) (w := w) (base := base) T
  refine ⟨_, fd, T.glo_is_fraction, F.kp, F.ok sc_is_fraction (fun vs H Q E h => by first | (obtain ⟨rfl, _⟩ := h; rfl) | (obtain ⟨_, rfl, _⟩ := h; rfl) | (obtain ⟨_, _, rfl, _⟩ := h; rfl) | (obtain ⟨_, _, _, rfl, _⟩ := h; rfl) | (obtain ⟨_, _, _, _, rfl, _⟩ := h; rfl) | (obtain ⟨_, _, _, _, _, rfl, _⟩ := h; rfl) | (obtain ⟨_, _, _, _, _, _, rfl, _⟩ := h; rfl) | (obtain ⟨_, _, _, _, _, _, _, rfl, _⟩ := h; rfl) | (obtain ⟨_, _, _, _, _, _, _, _, rfl, _⟩ := h; rfl)) (fun cdv A outer s H vs Q E hr h => ?_), F.bindsN fun _ _ _ _ _ _ us hl => match us, hl with | [_], _ => rfl⟩
  obtain ⟨v, d, rfl, hd, q⟩ := h
  refine ⟨_, PSs.nox (pss_cons (ps_if (PW.pt (pw_or (pt_not (pt_val (pe_callB call_isi (by rfl) T.free_isinstance (by decide +kernel) (pa_cons (pv 0) (pa_cons (pe_ty (T := "tuple") T.free_tuple (by decide +kernel)) pa_nil))))) (pw_or1 (pt_cmpR op_ne (pe_callB call_len_seq (by rfl) T.free_len (by decide +kernel) (pa_cons (pv 0) pa_nil)) pe_int (nomark _))))) (pss_one (ps_ret pe_bl)) pss_nil)
    (pss_cons (ps_if (PW.pt (pw_or (pt_not (pt_val (pe_g g_is_integer hr pass0 (pa_cons (pe_ix ix_tup (pv 0) pe_int (fun _ _ => rfl)) pa_nil)))) (pw_or (pt_not (pt_val (pe_g g_is_integer hr pass0 (pa_cons (pe_ix ix_tup (pv 0) pe_int (fun _ _ => rfl)) pa_nil)))) (pw_or1 (pt_cmpR op_lt (pe_ix ix_tup (pv 0) pe_int (fun _ _ => rfl)) pe_int (nomark _)))))) (pss_one (ps_ret pe_bl)) pss_nil)
    (pss_one (ps_ret (pe_cmpR op_eq (pe_g g_common_part hr pass0 (pa_cons (pe_ix ix_tup (pv 0) pe_int (fun _ _ => rfl)) (pa_cons (pe_ix ix_tup (pv 0) pe_int (fun _ _ => rfl)) pa_nil))) pe_int (nomark _)))))), ?_⟩
  refine ⟨_, rfl, _, _, _, _, _, rfl, .ty _, tyX_of hd, kit_ty (isiT_is d), _, rfl, ?_⟩
  cases hd with
  | tup hs ha =>
    rename_i a xs ds
    refine iteF ?_
    refine ⟨_, rfl, _, _, rfl, .inr hs, rfl, _, rfl, ?_⟩
    rw [dint, DpAll.len ha]
    by_cases c : ds.length = 2
    · rw [decide_eq_true (show ((ds.length : Nat) : Int) = 2 by omega)]
      refine iteF ?_
      obtain ⟨x, y, vx, vy, rfl, rfl, hx, hy⟩ := two_of ha c
      · refine ⟨_, rfl, _, _, _, _, rfl, rfl, hs, rfl, vx, x, rfl, dx hx, _, rfl, ?_⟩
        cases e1 : isIntD x with
        | false =>
          refine iteT (iteT ?_)
          rw [isFrac_other (.inl e1)] at q
          exact q
        | true =>
          refine iteF ?_
          refine ⟨_, rfl, _, _, _, _, rfl, rfl, hs, rfl, vy, y, rfl, dx hy, _, rfl, ?_⟩
          cases e2 : isIntD y with
          | false =>
            refine iteT (iteT ?_)
            rw [isFrac_other (.inr e2)] at q
            exact q
          | true =>
            refine iteF ?_
            obtain ⟨i, rfl⟩ := isInt_int e1
            obtain ⟨j, rfl⟩ := isInt_int e2
            cases hx
            cases hy
            refine ⟨_, rfl, _, _, _, _, rfl, rfl, hs, rfl, _, _, rfl, rfl, _, rfl, ?_⟩
            have q' : Q (.bl (decide (1 ≤ j) && decide (Int.gcd i j = 1))) H := q
            by_cases c1 : j < 1
            · rw [decide_eq_true c1]
              rw [decide_eq_false (show ¬ 1 ≤ j by omega)] at q'
              exact iteT q'
            · rw [decide_eq_false c1]
              rw [decide_eq_true (show 1 ≤ j by omega)] at q'
              refine iteF ?_
              refine ⟨_, rfl, _, _, _, _, rfl, rfl, hs, rfl, _, rfl, _, _, _, _, rfl, rfl, hs, rfl, i, j, rfl, rfl, ?_⟩
              have e3 : decide (V.int (Int.gcd i j) = V.int 1) = decide (Int.gcd i j = 1) := by
                rw [dint]
                exact decide_eq_decide.mpr (by omega)
              rw [e3]
              exact q'
    · rw [decide_eq_false (show ¬ ((ds.length : Nat) : Int) = 2 by omega)]
      rw [isFrac_len c] at q
      exact iteT q
  | _ => exact iteT (iteT q)
end
end Q
/-! B94: the texts of numbers -/
namespace Q
open PySem PySem.Spec PyProof.Rows L2
open TL (tl)
/-! types
--: common_part one=int other=int ret=int
--: is_integer ret=bool
--: is_row ret=bool
--: is_fraction ret=bool thing=tuple
--: is_whole_text text=str sign=str ret=bool
--: is_signed_text text=str ret=bool
--: frac_word one=tuple ret=str
--: word_frac text=str parts=list found=tuple ret=any
--: numbers_text numbers=list ret=str
--: read_numbers text=str found=list at=int word=str item=any
--! is_fraction | thing[0] | type | any
--! is_fraction | thing[1] | type | int
--! frac_word | one[0] | type | int
--! frac_word | one[1] | type | int
--! word_frac | parts[0] | type | str
--! word_frac | parts[1] | type | str
--! word_frac | found[0] | type | int
--! word_frac | found[1] | type | int
--x: numbers_text read_numbers tree_text read_tree TreeReader_fail TreeReader_take TreeReader_number TreeReader_tree
-/
section
variable {P : Program} {w : World} {K : PySem.W.Frag} {mg : Str → Option Value} {base : Heap}
/-- BadText(at) -/
theorem ge_BadText (T : Txt K mg) : GE P w K mg base "BadText" "at" := by
  obtain ⟨fd, F⟩ := T.fn_BadText___init__
  obtain ⟨O, iC, tI⟩ := T.oex_BadText
  refine ⟨_, _, fd, ["self", "at"], T.glo_BadText, rfl, O, iC, tI, F.ok sc_BadText___init__ (fun vs H Q E h => by obtain ⟨_, _, rfl, _⟩ := h; rfl) (fun cdv A outer s H vs Q E hr h => ?_), F.bindsN fun _ _ _ _ _ _ us hl => match us, hl with | [_, _], _ => rfl⟩
  obtain ⟨a, y, rfl, ha, q⟩ := h
  refine ⟨_, PSs.nox (pss_one (ps_ost (pv 0) (pv 1))), ?_⟩
  exact ⟨_, rfl, _, rfl, a, _, rfl, O, T.noat_BadText_at, .inl ⟨ha, fun d hd hda => q d hd hda⟩⟩
def sp_is_whole_text (K : PySem.W.Frag) : Sp := fun vs H Q _ => ∃ t : Str, vs = [.str t] ∧ t.length < 1000000 ∧ RetS H Q (.bl (wholeL (tl t)))
theorem ok_is_whole_text (T : Txt K mg) : G P w K mg base CX0 1 "is_whole_text" ["text"] (sp_is_whole_text K) := by
  obtain ⟨fd, F⟩ := T.fn_is_whole_text
  refine ⟨_, fd, T.glo_is_whole_text, F.kp, F.ok sc_is_whole_text (fun vs H Q E h => by first | (obtain ⟨rfl, _⟩ := h; rfl) | (obtain ⟨_, rfl, _⟩ := h; rfl) | (obtain ⟨_, _, rfl, _⟩ := h; rfl) | (obtain ⟨_, _, _, rfl, _⟩ := h; rfl) | (obtain ⟨_, _, _, _, rfl, _⟩ := h; rfl) | (obtain ⟨_, _, _, _, _, rfl, _⟩ := h; rfl) | (obtain ⟨_, _, _, _, _, _, rfl, _⟩ := h; rfl) | (obtain ⟨_, _, _, _, _, _, _, rfl, _⟩ := h; rfl) | (obtain ⟨_, _, _, _, _, _, _, _, rfl, _⟩ := h; rfl)) (fun cdv A outer s H vs Q E hr h => ?_), F.bindsN fun _ _ _ _ _ _ us hl => match us, hl with | [_], _ => rfl⟩
  obtain ⟨t, rfl, hl, q⟩ := h
  refine ⟨_, PSs.nox (pss_cons (ps_if (PW.pt (pw_or (pt_cmpR op_eq (pv 0) pe_str (nomark _)) (pw_or1 (pt_val (pe_callB (cr_any rfl) (by rfl) T.free_any (by decide +kernel) (pa_cons (pe_lc (own := [("sign", 1)]) (g := gName 1) (tt := tYes) rfl sc_is_whole_text.nd (pi_str (pv 0)) (blkOk_by (own := [("sign", 1)]) (N := N_is_whole_text) (sc := defScope s_is_whole_text) (by decide +kernel)) (fun _ _ _ _ _ => (pg_name (i := 1) sc_is_whole_text.nd rfl (Or.inl rfl))) (fun _ _ _ _ _ => pts_nil) (fun _ _ _ _ _ => (pe_cmpR op_notIn_sign (pv 1) (pe_gstr T.str_DIGITS) (by rfl)))) pa_nil)))))) (pss_one (ps_ret pe_bl)) pss_nil)
    (pss_one (ps_ret (pe_or (pe_cmpR op_eq (pv 0) pe_str (nomark _)) (pe_one (pe_cmpR op_ne (pe_ix ix_str (pv 0) pe_int (fun _ _ => rfl)) pe_str (nomark _))))))), ?_⟩
  refine ⟨_, rfl, rfl, _, rfl, ?_⟩
  rw [dstr]
  by_cases c : tl t = []
  · rw [decide_eq_true (show tl t = tl "" from c)]
    have e : wholeL (tl t) = false := by rw [c] <;> rfl
    rw [e] at q
    exact iteT (iteT (q H (Same.refl H)))
  · rw [decide_eq_false (show ¬ tl t = tl "" from c)]
    refine iteF ?_
    refine ⟨_, rfl, t, rfl, fun D hD => lc_it walk_str (PvS H D fun i => .bl (!isDig ((tl t).getD i 0))) (PvS.z hD) (fun _ _ _ _ => True.intro) (fun i x H1 H2 hi p y => ?_) (fun H1 p => ?_)⟩
    · obtain ⟨rfl, c0, hc0, rfl⟩ := y
      refine ⟨rfl, _, rfl, c0, _, rfl, rfl, ?_⟩
      refine PvS.step hD p (Same.refl _) (by have : i < t.length := hi; omega) ?_
      show V.bl (!decide (c0 ∈ ("0123456789" : Str).cps.toList)) = _
      rw [nmem_dig]
      have e : (tl t).getD i 0 = c0 := by
        rw [List.getD_eq_getElem?_getD, show (tl t)[i]? = some c0 by rw [← hc0]; exact Array.getElem?_toList]
        rfl
      rw [e]
    · refine ⟨_, (List.range t.cps.size).map fun i => !isDig ((tl t).getD i 0), rfl, SqL.of (by rw [List.map_map]; exact p.2), _, rfl, ?_⟩
      have e : (((List.range t.cps.size).map fun i => !isDig ((tl t).getD i 0)).any id) = !(tl t).all isDig := by
        have e1 : (List.range t.cps.size).map (fun i => !isDig ((tl t).getD i 0)) = (tl t).map fun c => !isDig c := by
          refine List.ext_getElem (by simp) fun i h1 h2 => ?_
          simp only [List.getElem_map, List.getElem_range]
          rw [List.length_map] at h2
          rw [List.getD_eq_getElem?_getD, List.getElem?_eq_getElem h2]
          rfl
        rw [e1, List.any_map]
        induction tl t with
        | nil => rfl
        | cons a r ih => simp only [List.any_cons, List.all_cons, ih, Function.comp, id]; cases isDig a <;> rfl
      rw [e]
      have w0 : wholeL (tl t) = ((tl t).all isDig && (decide (tl t = [48]) || decide ((tl t).head? ≠ some 48))) := by
        unfold wholeL
        have : (!(tl t).isEmpty) = true := by
          cases h : tl t with
          | nil => exact absurd h c
          | cons _ _ => rfl
        rw [this]
        rfl
      rw [w0] at q
      cases hd : (tl t).all isDig with
      | false =>
        rw [hd] at q
        exact iteT (q _ p.1)
      | true =>
        rw [hd] at q
        refine iteF ?_
        refine ⟨_, rfl, rfl, _, rfl, ?_⟩
        rw [dstr, show tl "0" = [48] by decide +kernel]
        by_cases c2 : tl t = [48]
        · rw [decide_eq_true c2] at q ⊢
          exact iteT (q _ p.1)
        · rw [decide_eq_false c2] at q ⊢
          refine iteF ?_
          obtain ⟨c0, r0, er⟩ := List.exists_cons_of_ne_nil c
          refine ⟨_, rfl, _, _, c0, rfl, rfl, szle (by omega), by show atI (tl t) 0 = some c0; rw [er]; exact atI_nat (xs := c0 :: r0) (j := 0) rfl, rfl, ?_⟩
          rw [dstr]
          have e3 : (!decide (tl (⟨#[c0]⟩ : Str) = tl "0")) = decide ((tl t).head? ≠ some 48) := by
            rw [er, show tl "0" = [48] by decide +kernel, ← decide_not]
            refine decide_eq_decide.mpr ?_
            show ¬ [c0] = [48] ↔ some c0 ≠ some 48
            simp
          rw [e3]
          exact q _ p.1
end
end Q
/-! C94: words that are fractions -/
namespace Q
open PySem PySem.Spec PyProof.Rows L2
open TL (tl)
section
variable {P : Program} {w : World} {K : PySem.W.Frag} {mg : Str → Option Value} {base : Heap}
theorem signedL_minus {l : List Nat} (h : l.take 1 = [45]) : signedL l = (wholeL (l.drop 1) && decide (l ≠ [45, 48])) := by
  match l, h with
  | c :: r, h =>
    have e : c = 45 := by
      have h2 : [c] = [45] := h
      exact (List.cons.inj h2).1
    subst e
    show (wholeL r && decide (r ≠ [48])) = (wholeL r && decide (45 :: r ≠ [45, 48]))
    congr 1
    refine decide_eq_decide.mpr ?_
    simp
theorem signedL_plain {l : List Nat} (h : ¬ l.take 1 = [45]) : signedL l = wholeL l := by
  unfold signedL
  split
  · exact absurd rfl h
  · rfl
def sp_is_signed_text (K : PySem.W.Frag) : Sp := fun vs H Q _ => ∃ t : Str, vs = [.str t] ∧ t.length < 1000000 ∧ RetS H Q (.bl (signedL (tl t)))
theorem ok_is_signed_text (T : Txt K mg) : G P w K mg base CX0 2 "is_signed_text" ["text"] (sp_is_signed_text K) := by
  obtain ⟨fd, F⟩ := T.fn_is_signed_text
  have g_is_whole_text := ok_is_whole_text (P := P) (w := w) (base := base) T
  refine ⟨_, fd, T.glo_is_signed_text, F.kp, F.ok sc_is_signed_text (fun vs H Q E h => by first | (obtain ⟨rfl, _⟩ := h; rfl) | (obtain ⟨_, rfl, _⟩ := h; rfl) | (obtain ⟨_, _, rfl, _⟩ := h; rfl) | (obtain ⟨_, _, _, rfl, _⟩ := h; rfl) | (obtain ⟨_, _, _, _, rfl, _⟩ := h; rfl) | (obtain ⟨_, _, _, _, _, rfl, _⟩ := h; rfl) | (obtain ⟨_, _, _, _, _, _, rfl, _⟩ := h; rfl) | (obtain ⟨_, _, _, _, _, _, _, rfl, _⟩ := h; rfl) | (obtain ⟨_, _, _, _, _, _, _, _, rfl, _⟩ := h; rfl)) (fun cdv A outer s H vs Q E hr h => ?_), F.bindsN fun _ _ _ _ _ _ us hl => match us, hl with | [_], _ => rfl⟩
  obtain ⟨t, rfl, hl, q⟩ := h
  refine ⟨_, PSs.nox (pss_cons (ps_if (pt_cmpR op_eq (pe_slice sl_str (pv 0) po_none (po_some pe_int)) pe_str (nomark _)) (pss_one (ps_ret (pe_and (pe_g g_is_whole_text hr pass0 (pa_cons (pe_slice sl_str (pv 0) (po_some pe_int) po_none) pa_nil)) (pe_one (pe_cmpR op_ne (pv 0) pe_str (nomark _)))))) pss_nil)
    (pss_one (ps_ret (pe_g g_is_whole_text hr pass0 (pa_cons (pv 0) pa_nil))))), ?_⟩
  refine ⟨_, rfl, _, rfl, t, rfl, szle (by omega), rfl, _, rfl, ?_⟩
  rw [dstr, show tl "-" = [45] by decide +kernel, show tl (cutS t none (some 1)) = (tl t).take 1 from tl_to t 1]
  by_cases c : (tl t).take 1 = [45]
  · rw [decide_eq_true c]
    rw [signedL_minus c] at q
    refine iteT ?_
    refine ⟨_, rfl, _, rfl, t, rfl, szle (by omega), _, rfl, Nat.lt_of_le_of_lt (cutS_length _ _ _) hl, fun H1 e1 => ?_⟩
    rw [show tl (cutS t (some 1) none) = (tl t).drop 1 from tl_from t 1]
    refine ⟨_, rfl, ?_⟩
    cases e : wholeL ((tl t).drop 1) with
    | false =>
      rw [e] at q
      exact iteF (q _ e1)
    | true =>
      rw [e] at q
      refine iteT ?_
      refine ⟨_, rfl, rfl, ?_⟩
      rw [dstr, show tl "-0" = [45, 48] by decide +kernel, ← decide_not]
      exact q _ e1
  · rw [decide_eq_false c]
    rw [signedL_plain c] at q
    refine iteF ?_
    exact ⟨_, rfl, _, rfl, hl, q⟩
def sp_frac_word (K : PySem.W.Frag) : Sp := fun vs H Q _ => ∃ (v : V) (q : Int × Int), vs = [v] ∧ Dp K H v (fr q) ∧ SmQ q ∧ Q (.str (fracS q)) H
theorem ok_frac_word (T : Txt K mg) : G P w K mg base CX0 1 "frac_word" ["one"] (sp_frac_word K) := by
  obtain ⟨fd, F⟩ := T.fn_frac_word
  refine ⟨_, fd, T.glo_frac_word, F.kp, F.ok sc_frac_word (fun vs H Q E h => by first | (obtain ⟨rfl, _⟩ := h; rfl) | (obtain ⟨_, rfl, _⟩ := h; rfl) | (obtain ⟨_, _, rfl, _⟩ := h; rfl) | (obtain ⟨_, _, _, rfl, _⟩ := h; rfl) | (obtain ⟨_, _, _, _, rfl, _⟩ := h; rfl) | (obtain ⟨_, _, _, _, _, rfl, _⟩ := h; rfl) | (obtain ⟨_, _, _, _, _, _, rfl, _⟩ := h; rfl) | (obtain ⟨_, _, _, _, _, _, _, rfl, _⟩ := h; rfl) | (obtain ⟨_, _, _, _, _, _, _, _, rfl, _⟩ := h; rfl)) (fun cdv A outer s H vs Q E hr h => ?_), F.bindsN fun _ _ _ _ _ _ us hl => match us, hl with | [_], _ => rfl⟩
  obtain ⟨v, ⟨a, b⟩, rfl, hd, ⟨ha, hb⟩, q⟩ := h
  refine ⟨_, PSs.nox (pss_one (ps_ret (pe_ifExp (pt_cmpR op_eq (pe_ix ix_tup (pv 0) pe_int (fun _ _ => rfl)) pe_int (nomark _)) (pe_callTy call_str_int (by rfl) T.free_str (by decide +kernel) (pa_cons (pe_ix ix_tup (pv 0) pe_int (fun _ _ => rfl)) pa_nil)) (pe_joined (PJ.cons (pe_fmt (pe_ix ix_tup (pv 0) pe_int (fun _ _ => rfl))) (PJ.cons pe_str (PJ.cons (pe_fmt (pe_ix ix_tup (pv 0) pe_int (fun _ _ => rfl))) PJ.nil))))))), ?_⟩
  obtain ⟨p, xs, rfl, hs, hx⟩ := tup_of hd
  obtain ⟨_, _, rfl, h1, h2⟩ := all2 hx
  cases h1
  cases h2
  refine ⟨_, rfl, _, _, _, _, rfl, rfl, hs, rfl, rfl, _, rfl, ?_⟩
  rw [dint]
  unfold fracS at q
  by_cases c : b = 1
  · rw [decide_eq_true c]
    rw [if_pos c] at q
    refine iteT ?_
    exact ⟨_, rfl, _, _, _, _, rfl, rfl, hs, rfl, _, rfl, ha.log, q⟩
  · rw [decide_eq_false c]
    rw [if_neg c] at q
    refine iteF ?_
    have l1 := ha.len
    have l2 := hb.len
    have e : ∀ z : Str, Str.empty ++ z = z := fun z => TL.ext_tl (by rw [TL.tl_append]; rfl)
    refine ⟨_, rfl, _, _, _, _, rfl, rfl, hs, rfl, .inr ⟨_, rfl, ha.log, _, rfl, ?_, ?_⟩⟩
    · rw [e]
      exact szle (Nat.le_trans l1 (by decide))
    · rw [e]
      refine ⟨_, rfl, ?_, ?_⟩
      · rw [TL.len_tl, TL.tl_append, List.length_append, ← TL.len_tl, ← TL.len_tl]
        exact szle (Nat.le_trans (Nat.add_le_add l1 (show ("/" : Str).length ≤ 1 by decide +kernel)) (by decide))
      · refine ⟨_, rfl, _, _, _, _, rfl, rfl, hs, rfl, .inr ⟨_, rfl, hb.log, _, rfl, ?_, q⟩⟩
        rw [TL.len_tl, TL.tl_append, TL.tl_append, List.length_append, List.length_append, ← TL.len_tl, ← TL.len_tl, ← TL.len_tl]
        exact szle (Nat.le_trans (Nat.add_le_add (Nat.add_le_add l1 (show ("/" : Str).length ≤ 1 by decide +kernel)) l2) (by decide))
def sp_word_frac (K : PySem.W.Frag) : Sp := fun vs H Q _ => ∃ (t : Str) (F : Hp), vs = [.str t] ∧ Same F H ∧ t.length < 900000 ∧ Runs (tl t) ∧ RetD K F H Q (optFr (wordFrac (tl t)))
theorem ok_word_frac (T : Txt K mg) : G P w K mg base CX0 3 "word_frac" ["text"] (sp_word_frac K) := by
  obtain ⟨fd, F⟩ := T.fn_word_frac
  have g_common_part := ok_common_part (P := P) (w := w) (base := base) T
  have g_is_signed_text := ok_is_signed_text (P := P) (w := w) (base := base) T
  have g_is_whole_text := ok_is_whole_text (P := P) (w := w) (base := base) T
  refine ⟨_, fd, T.glo_word_frac, F.kp, F.ok sc_word_frac (fun vs H Q E h => by first | (obtain ⟨rfl, _⟩ := h; rfl) | (obtain ⟨_, rfl, _⟩ := h; rfl) | (obtain ⟨_, _, rfl, _⟩ := h; rfl) | (obtain ⟨_, _, _, rfl, _⟩ := h; rfl) | (obtain ⟨_, _, _, _, rfl, _⟩ := h; rfl) | (obtain ⟨_, _, _, _, _, rfl, _⟩ := h; rfl) | (obtain ⟨_, _, _, _, _, _, rfl, _⟩ := h; rfl) | (obtain ⟨_, _, _, _, _, _, _, rfl, _⟩ := h; rfl) | (obtain ⟨_, _, _, _, _, _, _, _, rfl, _⟩ := h; rfl)) (fun cdv A outer s H vs Q E hr h => ?_), F.bindsN fun _ _ _ _ _ _ us hl => match us, hl with | [_], _ => rfl⟩
  obtain ⟨t, F, rfl, k0, hl, hr0, q⟩ := h
  refine ⟨_, PSs.nox (pss_cons (ps_set (i := 1) sc_word_frac.nd rfl (Or.inl rfl) (pe_split (pv 0) pe_str))
    (pss_cons (ps_if (PW.pt (pw_or (pt_cmpR op_gt (pe_callB call_len_seq (by rfl) T.free_len (by decide +kernel) (pa_cons (pv 1) pa_nil)) pe_int (nomark _)) (pw_or1 (pt_not (pt_val (pe_g g_is_signed_text hr pass0 (pa_cons (pe_ix ix_list (pv 1) pe_int (fun _ _ => rfl)) pa_nil))))))) (pss_one (ps_ret pe_non)) pss_nil)
    (pss_cons (ps_if (pt_cmpR op_eq (pe_callB call_len_seq (by rfl) T.free_len (by decide +kernel) (pa_cons (pv 1) pa_nil)) pe_int (nomark _)) (pss_one (ps_ret (pe_tup (pa_cons (pe_callTy call_int_str (by rfl) T.free_int (by decide +kernel) (pa_cons (pe_ix ix_list (pv 1) pe_int (fun _ _ => rfl)) pa_nil)) (pa_cons pe_int pa_nil))))) pss_nil)
    (pss_cons (ps_if (PW.pt (pw_or (pt_not (pt_val (pe_g g_is_whole_text hr pass0 (pa_cons (pe_ix ix_list (pv 1) pe_int (fun _ _ => rfl)) pa_nil)))) (pw_or1 (pt_cmpR op_lt (pe_callTy call_int_str (by rfl) T.free_int (by decide +kernel) (pa_cons (pe_ix ix_list (pv 1) pe_int (fun _ _ => rfl)) pa_nil)) pe_int (nomark _))))) (pss_one (ps_ret pe_non)) pss_nil)
    (pss_cons (ps_set (i := 2) sc_word_frac.nd rfl (Or.inl rfl) (pe_tup (pa_cons (pe_callTy call_int_str (by rfl) T.free_int (by decide +kernel) (pa_cons (pe_ix ix_list (pv 1) pe_int (fun _ _ => rfl)) pa_nil)) (pa_cons (pe_callTy call_int_str (by rfl) T.free_int (by decide +kernel) (pa_cons (pe_ix ix_list (pv 1) pe_int (fun _ _ => rfl)) pa_nil)) pa_nil))))
    (pss_one (ps_ret (pe_ifExp (pt_cmpR op_eq (pe_g g_common_part hr pass0 (pa_cons (pe_ix ix_tup (pv 2) pe_int (fun _ _ => rfl)) (pa_cons (pe_ix ix_tup (pv 2) pe_int (fun _ _ => rfl)) pa_nil))) pe_int (nomark _)) (pv 2) pe_non)))))))), ?_⟩
  refine ⟨_, rfl, ⟨_, rfl⟩, _, _, rfl, rfl, rfl, szle (by omega), fun p hp => ?_⟩
  have hsp : (Txt.split t "/").map tl = splitL 47 (tl t) := TL.split_spl t "/" (by decide +kernel) (TL.kind_ok (by decide +kernel))
  have m1 : Mv P0 F H F (upd H p (.lst ((Txt.split t "/").map V.str))) := (Mv.refl k0).own hp
  generalize hps : Txt.split t "/" = ps at hsp m1 ⊢
  have hL : (upd H p (.lst (ps.map V.str))) p = some (.lst (ps.map V.str)) := upd_same
  generalize upd H p (.lst (ps.map V.str)) = H1 at hL m1 ⊢
  have inf : ∀ a ∈ ps, Runs (tl a) ∧ a.length < 900000 := fun a ha => by
    have h1 : tl a ∈ splitL 47 (tl t) := by
      rw [← hsp]
      exact List.mem_map_of_mem ha
    have h2 := splitL_infix h1
    refine ⟨hr0.sub h2, ?_⟩
    have h3 := h2.length_le
    rw [TL.len_tl] at hl ⊢
    omega
  have hne : ps ≠ [] := fun e => by
    rw [e] at hsp
    exact splitL_ne 47 (tl t) [] hsp.symm
  refine ⟨_, rfl, _, _, rfl, .inl (SqL.of hL), ?_⟩
  rw [List.length_map]
  refine ⟨_, _, rfl, rfl, _, rfl, ?_⟩
  rcases shape3 ps hne with ⟨a, rfl⟩ | ⟨a, b, rfl⟩ | ⟨a, b, c, r, rfl⟩
  · -- one part
    refine iteF ?_
    have ia := inf a (by simp)
    refine ⟨_, rfl, _, _, _, _, rfl, rfl, SqL.of hL, rfl, a, rfl, by omega, fun H2 e2 => ?_⟩
    have m2 := m1.same e2
    have hL2 := e2 _ _ hL
    have ew : wordFrac (tl t) = if signedL (tl a) = true then some (intL (tl a), 1) else none := by
      unfold wordFrac
      rw [← hsp]
      rfl
    rw [ew] at q
    refine ⟨_, rfl, ?_⟩
    cases es : signedL (tl a) with
    | false =>
      rw [es] at q
      refine iteT ?_
      exact q.none m2
    | true =>
      rw [es, if_pos rfl] at q
      refine iteF ?_
      refine ⟨_, rfl, _, _, rfl, .inl (SqL.of hL2), rfl, _, rfl, ?_⟩
      refine iteT ?_
      refine ⟨_, rfl, _, _, _, _, rfl, rfl, SqL.of hL2, rfl, a, _, rfl, int_signed es (ia.1.signed es), ia.1.signed es, ?_⟩
      refine ⟨by show 2 ≤ sizeLine; decide, fun p2 hp2 => ?_⟩
      exact q _ _ _ (m2.nw hp2) (.tup (SqT.of upd_same) (.cons (.int _) (.cons (.int _) .nil)))
  · -- two parts
    refine iteF ?_
    have ia := inf a (by simp)
    have ib := inf b (by simp)
    refine ⟨_, rfl, _, _, _, _, rfl, rfl, SqL.of hL, rfl, a, rfl, by omega, fun H2 e2 => ?_⟩
    have m2 := m1.same e2
    have hL2 := e2 _ _ hL
    have ew : wordFrac (tl t) = if signedL (tl a) = true ∧ wholeL (tl b) = true ∧ 2 ≤ valN (tl b) ∧ Int.gcd (intL (tl a)) (valN (tl b)) = 1 then some (intL (tl a), (valN (tl b) : Int)) else none := by
      unfold wordFrac
      rw [← hsp]
      rfl
    rw [ew] at q
    refine ⟨_, rfl, ?_⟩
    cases es : signedL (tl a) with
    | false =>
      rw [if_neg (by rw [es]; rintro ⟨z, _⟩; cases z)] at q
      refine iteT ?_
      exact q.none m2
    | true =>
      refine iteF ?_
      refine ⟨_, rfl, _, _, rfl, .inl (SqL.of hL2), rfl, _, rfl, ?_⟩
      refine iteF ?_
      refine ⟨_, rfl, _, _, _, _, rfl, rfl, SqL.of hL2, rfl, b, rfl, by omega, fun H3 e3 => ?_⟩
      have m3 := m2.same e3
      have hL3 := e3 _ _ hL2
      refine ⟨_, rfl, ?_⟩
      cases ew2 : wholeL (tl b) with
      | false =>
        rw [if_neg (by rw [ew2]; rintro ⟨_, z, _⟩; cases z)] at q
        refine iteT ?_
        exact q.none m3
      | true =>
        refine iteF ?_
        refine ⟨_, rfl, _, _, _, _, rfl, rfl, SqL.of hL3, rfl, b, _, rfl, int_whole ew2 (ib.1.whole ew2), ib.1.whole ew2, _, _, rfl, rfl, _, rfl, ?_⟩
        by_cases c2 : ((valN (tl b) : Nat) : Int) < 2
        · rw [decide_eq_true c2]
          rw [if_neg (by rintro ⟨_, _, z, _⟩; omega)] at q
          refine iteT ?_
          exact q.none m3
        · rw [decide_eq_false c2]
          refine iteF ?_
          refine ⟨_, rfl, _, _, _, _, rfl, rfl, SqL.of hL3, rfl, a, _, rfl, int_signed es (ia.1.signed es), ia.1.signed es, _, rfl, _, _, _, _, rfl, rfl, SqL.of hL3, rfl, b, _, rfl, int_whole ew2 (ib.1.whole ew2), ib.1.whole ew2, ?_⟩
          refine ⟨by show 2 ≤ sizeLine; decide, fun p2 hp2 => ?_⟩
          have m4 := m3.nw (o := .tup [.int (intL (tl a)), .int (valN (tl b) : Int)]) hp2
          refine ⟨_, rfl, _, _, _, _, rfl, rfl, SqT.of upd_same, rfl, _, rfl, _, _, _, _, rfl, rfl, SqT.of upd_same, rfl, _, _, rfl, rfl, _, rfl, ?_⟩
          rw [dint]
          by_cases c3 : Int.gcd (intL (tl a)) (valN (tl b)) = 1
          · rw [decide_eq_true (by omega)]
            rw [if_pos ⟨es, ew2, by omega, c3⟩] at q
            refine iteT ?_
            exact ⟨_, rfl, q _ _ _ m4 (.tup (SqT.of upd_same) (.cons (.int _) (.cons (.int _) .nil)))⟩
          · rw [decide_eq_false (by omega)]
            rw [if_neg (by rintro ⟨_, _, _, z⟩; exact c3 z)] at q
            refine iteF ?_
            exact q.none m4
  · -- more
    have ew : wordFrac (tl t) = none := by
      unfold wordFrac
      rw [← hsp]
      rfl
    rw [ew] at q
    have e : decide ((2 : Int) < (((a :: b :: c :: r).length : Nat) : Int)) = true := decide_eq_true (by simp only [List.length_cons]; omega)
    rw [e]
    refine iteT (iteT ?_)
    exact q.none m1
end
end Q
/-! D94: rows of numbers, written and read -/
namespace Q
open PySem PySem.Spec PyProof.Rows L2
open TL (tl)
section
variable {P : Program} {w : World} {K : PySem.W.Frag} {mg : Str → Option Value} {base : Heap}
/-- a datum as a fraction (where it is one) -/
def frD : PyData → Int × Int
  | .tuple [.int a, .int b] => (a, b)
  | _ => (0, 1)
theorem fr_frD {d : PyData} (h : isFrac d = true) : fr (frD d) = d := by
  obtain ⟨a, b, rfl, _⟩ := isFrac_is h
  rfl
def numsOK (d : PyData) : Bool := isRowD d && (itemsD d).all isFrac
/-- the text of a row of fractions -/
def numsS (ds : List PyData) : Str := Txt.join " " (ds.map fun d => fracS (frD d))
theorem row_of {K : PySem.W.Frag} {H : Hp} {v : V} {d : PyData} (h : Dp K H v d) (hr : isRowD d = true) :
    ∃ a xs, v = .ref a ∧ DpAll K H xs (itemsD d) ∧ (SqL K H a xs ∨ SqT K H a xs) := by
  cases h with
  | lst s x => exact ⟨_, _, rfl, x, .inl s⟩
  | tup s x => exact ⟨_, _, rfl, x, .inr s⟩
  | _ => cases hr
theorem range_map {α : Type} (n : Nat) (f : Nat → α) (l : List α) (hl : l.length = n) (h : ∀ i (hi : i < l.length), f i = l[i]) : (List.range n).map f = l := by
  refine List.ext_getElem (by simp [hl]) fun i h1 h2 => ?_
  simp only [List.getElem_map, List.getElem_range]
  exact h i h2
def sp_numbers_text (K : PySem.W.Frag) : Sp := fun vs H Q E => ∃ (v : V) (d : PyData), vs = [v] ∧ Dx K H v d ∧ (isRowD d = true → Dp K H v d) ∧ (itemsD d).length ≤ 1000 ∧
  (numsOK d = true → (∀ x ∈ itemsD d, SmQ (frD x)) ∧ RetS H Q (.str (numsS (itemsD d)))) ∧ (numsOK d = false → ∀ H', Same H H' → E (.ref (He.ga K "NoNumbers")) none H')
theorem okk_numbers_text (T : Txt K mg) : GB P w K mg base (L2.CX P w) 3 "numbers_text" "numbers" (sp_numbers_text K) := by
  obtain ⟨fd, F⟩ := T.fn_numbers_text
  have g_frac_word := ok_frac_word (P := P) (w := w) (base := base) T
  have g_is_fraction := ok_is_fraction (P := P) (w := w) (base := base) T
  have g_is_row := ok_is_row (P := P) (w := w) (base := base) T
  refine ⟨_, fd, T.glo_numbers_text, F.kp, F.ok sc_numbers_text (fun vs H Q E h => by first | (obtain ⟨rfl, _⟩ := h; rfl) | (obtain ⟨_, rfl, _⟩ := h; rfl) | (obtain ⟨_, _, rfl, _⟩ := h; rfl) | (obtain ⟨_, _, _, rfl, _⟩ := h; rfl) | (obtain ⟨_, _, _, _, rfl, _⟩ := h; rfl) | (obtain ⟨_, _, _, _, _, rfl, _⟩ := h; rfl) | (obtain ⟨_, _, _, _, _, _, rfl, _⟩ := h; rfl) | (obtain ⟨_, _, _, _, _, _, _, rfl, _⟩ := h; rfl) | (obtain ⟨_, _, _, _, _, _, _, _, rfl, _⟩ := h; rfl)) (fun cdv A outer s H vs Q E hr h => ?_), F.bindsN fun _ _ _ _ _ _ us hl => match us, hl with | [_], _ => rfl, kb1_of F fun _ _ _ _ _ _ _ => rfl⟩
  have tk : Takes (cxOf (L2.CX P w) P w K mg base N_numbers_text "numbers_text" (defScope s_numbers_text) (He.ga K "numbers_text") cdv A outer s H E) (fun cls d _ H => E cls d H) := takes_of rfl rfl rfl rfl
  obtain ⟨v, d, rfl, hd, hdp, hlen, qy, qn⟩ := h
  refine ⟨_, (pss_cons (ps_if (PW.pt (pw_or (pt_not (pt_val (pe_g g_is_row hr pass0 (pa_cons (pv 0) pa_nil)))) (pw_or1 (pt_not (pt_val (pe_callB (cr_all rfl) (by rfl) T.free_all (by decide +kernel) (pa_cons (pe_lc (own := [("item", 1)]) (g := gName 1) (tt := tYes) rfl sc_numbers_text.nd (pi_seq (pv 0)) (blkOk_by (own := [("item", 1)]) (N := N_numbers_text) (sc := defScope s_numbers_text) (by decide +kernel)) (fun _ _ _ _ _ => (pg_name (i := 1) sc_numbers_text.nd rfl (Or.inl rfl))) (fun _ _ _ _ _ => pts_nil) (fun _ _ _ _ _ => (pe_g g_is_fraction hr pass0 (pa_cons (pv 1) pa_nil)))) pa_nil))))))) (pss_one (ps_raise rfl tk (pmk_own0 PySem.F.excBase_ValueError T.exc_NoNumbers.1 T.glo_NoNumbers T.exc_NoNumbers.2.1 (raises_own T.exc_NoNumbers.2.2.1 T.exc_NoNumbers.2.2.2)))) pss_nil)
    (pss_one (ps_ret (pe_join pe_str (pe_lc (own := [("item", 1)]) (g := gName 1) (tt := tYes) rfl sc_numbers_text.nd (pi_seq (pv 0)) (blkOk_by (own := [("item", 1)]) (N := N_numbers_text) (sc := defScope s_numbers_text) (by decide +kernel)) (fun _ _ _ _ _ => (pg_name (i := 1) sc_numbers_text.nd rfl (Or.inl rfl))) (fun _ _ _ _ _ => pts_nil) (fun _ _ _ _ _ => (pe_g g_frac_word hr pass0 (pa_cons (pv 1) pa_nil)))))))), ?_⟩
  refine ⟨_, rfl, v, d, rfl, hd, fun H1 e1 => ?_⟩
  refine ⟨_, rfl, ?_⟩
  cases er : isRowD d with
  | false =>
    refine iteT (iteT ?_)
    exact qn (by unfold numsOK; rw [er]; rfl) _ e1
  | true =>
    refine iteF ?_
    obtain ⟨a, xs, rfl, hx, hs⟩ := row_of (Dp.mono e1 d _ (hdp er)) er
    refine ⟨_, rfl, a, rfl, xs, hs, fun J G w hG D hD => lc_it w (PvS H1 D fun i => .bl (isFrac ((itemsD d).getD i .none))) (PvS.z hD) (fun i H' _ p => hG _ p.1) (fun i x H2 H3 hi p y => ?_) (fun H2 p => ?_)⟩
    · obtain ⟨rfl, hx0⟩ := y
      obtain ⟨dx, hdx, hxx⟩ := DpAll.atV (DpAll.mono p.1 _ _ hx) hx0
      refine ⟨rfl, _, rfl, x, dx, rfl, hxx, PvS.step hD p (Same.refl _) (by have := DpAll.len hx; omega) ?_⟩
      rw [List.getD_eq_getElem?_getD, hdx]
      rfl
    · refine ⟨_, (itemsD d).map isFrac, rfl, SqL.of ?_, _, rfl, ?_⟩
      · rw [p.2, DpAll.len hx, List.map_map]
        congr 2
        refine range_map _ _ _ (by simp) fun i hi => ?_
        rw [List.length_map] at hi
        rw [List.getElem_map, List.getD_eq_getElem?_getD, List.getElem?_eq_getElem hi]
        rfl
      · rw [List.all_map]
        have eall : (itemsD d).all (id ∘ isFrac) = (itemsD d).all isFrac := rfl
        rw [eall]
        cases ea : (itemsD d).all isFrac with
        | false =>
          refine iteT ?_
          exact qn (by unfold numsOK; rw [er, ea]; rfl) _ (e1.trans p.1)
        | true =>
          refine iteF ?_
          obtain ⟨hsm, q⟩ := qy (by unfold numsOK; rw [er, ea]; rfl)
          refine ⟨⟨_, rfl⟩, ?_⟩
          have hs2 : SqL K H2 a xs ∨ SqT K H2 a xs := hs.elim (fun z => .inl (Same.seq p.1 z)) fun z => .inr (Same.sqT p.1 z)
          have hx2 := DpAll.mono p.1 _ _ hx
          refine ⟨_, rfl, a, rfl, xs, hs2, fun J G w hG D2 hD2 => lc_it w (PvS H2 D2 fun i => .str (fracS (frD ((itemsD d).getD i .none)))) (PvS.z hD2) (fun i H' _ p => hG _ p.1) (fun i x H3 H4 hi p3 y => ?_) (fun H3 p3 => ?_)⟩
          · obtain ⟨rfl, hx0⟩ := y
            obtain ⟨dx, hdx, hxx⟩ := DpAll.atV (DpAll.mono p3.1 _ _ hx2) hx0
            have hm : dx ∈ itemsD d := List.mem_of_getElem? hdx
            have hf := fr_frD (List.all_eq_true.mp ea dx hm)
            refine ⟨rfl, _, rfl, x, frD dx, rfl, by rw [hf]; exact hxx, hsm _ hm, PvS.step hD2 p3 (Same.refl _) (by have := DpAll.len hx; omega) ?_⟩
            rw [List.getD_eq_getElem?_getD, hdx]
            rfl
          · refine ⟨_, _, (itemsD d).map (fun d => fracS (frD d)), rfl, rfl, .inl (SqL.of ?_), ?_, q _ ((e1.trans p.1).trans p3.1)⟩
            · rw [p3.2, DpAll.len hx, List.map_map]
              congr 2
              refine range_map _ _ _ (by simp) fun i hi => ?_
              rw [List.length_map] at hi
              rw [List.getElem_map, List.getD_eq_getElem?_getD, List.getElem?_eq_getElem hi]
              rfl
            · have hb : ∀ l : List PyData, (∀ x ∈ l, SmQ (frD x)) → ((l.map fun d => fracS (frD d)).map (·.length)).sum ≤ 123 * l.length := by
                intro l
                induction l with
                | nil => intro _; exact Nat.le_refl _
                | cons z r ih =>
                  intro hz
                  have h1 := ih fun x hx => hz x (List.mem_cons_of_mem _ hx)
                  have h2 := (hz z List.mem_cons_self).len
                  simp only [List.map_cons, List.sum_cons, List.length_cons]
                  simp only [List.map_map] at h1 ⊢
                  omega
              have h1 := hb (itemsD d) hsm
              rw [List.length_map]
              have h2 : (" " : Str).length = 1 := by decide +kernel
              rw [h2]
              omega
theorem ok_numbers_text (T : Txt K mg) : G P w K mg base (L2.CX P w) 3 "numbers_text" ["numbers"] (sp_numbers_text K) := (okk_numbers_text T).g
theorem gk_numbers_text (T : Txt K mg) : GK P w K mg base (L2.CX P w) 3 "numbers_text" "numbers" (sp_numbers_text K) := (okk_numbers_text T).kw
def sp_read_numbers (K : PySem.W.Frag) : Sp := fun vs H Q E => ∃ (v : V) (d : PyData) (F : Hp), vs = [v] ∧ Same F H ∧ Dx K F v d ∧ (isiS d = false → Err1 (He.ga K "BadText") "at" (.int 0) H E) ∧
  (∀ t, d = .str t → t.length < 800000 ∧ Runs (tl t) ∧ (∀ k : Nat, readNums (tl t) = .inl k → Err1 (He.ga K "BadText") "at" (.int k) H E) ∧ ∀ qs, readNums (tl t) = .inr qs → RetD K F H Q (.tuple (qs.map fr)))
theorem okk_read_numbers (T : Txt K mg) : GB P w K mg base (L2.CX P w) 4 "read_numbers" "text" (sp_read_numbers K) := by
  obtain ⟨fd, F⟩ := T.fn_read_numbers
  have g_BadText := ge_BadText (P := P) (w := w) (base := base) T
  have g_word_frac := ok_word_frac (P := P) (w := w) (base := base) T
  refine ⟨_, fd, T.glo_read_numbers, F.kp, F.ok sc_read_numbers (fun vs H Q E h => by first | (obtain ⟨rfl, _⟩ := h; rfl) | (obtain ⟨_, rfl, _⟩ := h; rfl) | (obtain ⟨_, _, rfl, _⟩ := h; rfl) | (obtain ⟨_, _, _, rfl, _⟩ := h; rfl) | (obtain ⟨_, _, _, _, rfl, _⟩ := h; rfl) | (obtain ⟨_, _, _, _, _, rfl, _⟩ := h; rfl) | (obtain ⟨_, _, _, _, _, _, rfl, _⟩ := h; rfl) | (obtain ⟨_, _, _, _, _, _, _, rfl, _⟩ := h; rfl) | (obtain ⟨_, _, _, _, _, _, _, _, rfl, _⟩ := h; rfl)) (fun cdv A outer s H vs Q E hr h => ?_), F.bindsN fun _ _ _ _ _ _ us hl => match us, hl with | [_], _ => rfl, kb1_of F fun _ _ _ _ _ _ _ => rfl⟩
  have tk : Takes (cxOf (L2.CX P w) P w K mg base N_read_numbers "read_numbers" (defScope s_read_numbers) (He.ga K "read_numbers") cdv A outer s H E) (fun cls d _ H => E cls d H) := takes_of rfl rfl rfl rfl
  obtain ⟨v, d, F, rfl, k0, hd, qn, qy⟩ := h
  refine ⟨_, (pss_cons (ps_if (pt_not (pt_val (pe_callB call_isi (by rfl) T.free_isinstance (by decide +kernel) (pa_cons (pv 0) (pa_cons (pe_ty (T := "str") T.free_str (by decide +kernel)) pa_nil))))) (pss_one (ps_raise rfl tk (pmk_f1 g_BadText hr (pa_cons pe_int pa_nil)))) pss_nil)
    (pss_cons (ps_set (i := 1) sc_read_numbers.nd rfl (Or.inl rfl) (pe_lst pa_nil))
    (pss_cons (ps_if (pt_cmpR op_ne (pv 0) pe_str (nomark _)) (pss_one (ps_for (passes_of rfl) rfl (pi_enum (by rfl) T.free_enumerate (pa_cons (pe_split (pv 0) pe_str) pa_nil)) (pg_tup (by rfl) (pgs_cons (pg_name (i := 2) sc_read_numbers.nd rfl (Or.inl rfl)) (pgs_cons (pg_name (i := 3) sc_read_numbers.nd rfl (Or.inl rfl)) pgs_nil))) (pss_cons (ps_set (i := 4) sc_read_numbers.nd rfl (Or.inl rfl) (pe_g g_word_frac hr pass0 (pa_cons (pv 3) pa_nil)))
    (pss_cons (ps_if (pt_cmpR op_isN (pv 4) pe_non (nomark _)) (pss_one (ps_raise rfl tk (pmk_f1 g_BadText hr (pa_cons (pe_op op_add (pv 2) pe_int) pa_nil)))) pss_nil)
    (pss_one (ps_expr (pe_bm PySem.F.plainAttrs_list PySem.F.slot_list_append PySem.F.type_list_append mt_append (pv 1) (pa_cons (pv 4) pa_nil)))))))) pss_nil)
    (pss_one (ps_ret (pe_callTy call_tuple_of (by rfl) T.free_tuple (by decide +kernel) (pa_cons (pv 1) pa_nil))))))), ?_⟩
  refine ⟨_, rfl, _, _, _, _, _, rfl, .ty _, tyX_ofX (Dx.mono k0 d _ hd), kit_ty (isiS_is d), _, rfl, ?_⟩
  cases ed : isiS d with
  | false => exact iteT ⟨_, rfl, qn ed⟩
  | true =>
    refine iteF ?_
    obtain ⟨t, rfl⟩ : ∃ t, d = .str t := by
      cases d with
      | str t => exact ⟨t, rfl⟩
      | _ => cases ed
    cases hd
    obtain ⟨hl, hr0, qb, qo⟩ := qy t rfl
    refine ⟨by show 0 ≤ sizeLine; exact Nat.zero_le _, fun l hl0 => ?_⟩
    have m0 : Mv P0 F H F (upd H l (.lst [])) := (Mv.refl k0).own hl0
    have hFl : F l = none := none_of_same k0 hl0
    refine ⟨_, rfl, rfl, _, rfl, ?_⟩
    rw [dstr, show tl "" = [] by decide +kernel]
    by_cases c : tl t = []
    · rw [decide_eq_true c]
      refine iteF ?_
      refine ⟨_, rfl, _, _, rfl, .inl ⟨SqL.of upd_same, fun p hp => ?_⟩⟩
      refine qo [] (by unfold readNums; rw [if_pos c]) _ _ _ (m0.nw hp) (.tup (SqT.of upd_same) .nil)
    · rw [decide_eq_false c]
      refine iteT ?_
      refine ⟨_, rfl, ⟨_, rfl⟩, _, _, rfl, rfl, rfl, szle (by omega), fun p hp => ?_⟩
      have hsp : (Txt.split t " ").map tl = splitL 32 (tl t) := TL.split_spl t " " (by decide +kernel) (TL.kind_ok (by decide +kernel))
      have m1 := m0.own (o := .lst ((Txt.split t " ").map V.str)) hp
      have hpl : l ≠ p := ne_of_none (upd_same (H := H) (a := l) (o := .lst [])) hp
      generalize hps : Txt.split t " " = ps at hsp m1 ⊢
      have inf : ∀ a ∈ ps, Runs (tl a) ∧ a.length < 900000 := fun a ha => by
        have h1 : tl a ∈ splitL 32 (tl t) := by
          rw [← hsp]
          exact List.mem_map_of_mem ha
        have h2 := splitL_infix h1
        refine ⟨hr0.sub h2, ?_⟩
        have h3 := h2.length_le
        rw [TL.len_tl] at hl ⊢
        omega
      have hlen : ps.length < 900000 := by
        have h1 := splitL_len 32 (tl t) []
        have h2 := congrArg List.length hsp
        unfold splitL at h2
        rw [List.length_map] at h2
        rw [TL.len_tl] at hl
        omega
      have er : readNums (tl t) = readW 0 (ps.map tl) := by
        unfold readNums
        rw [if_neg c, hsp]
      rw [er] at qb qo
      refine ⟨p, _, rfl, SqL.of upd_same, for_it walk_enum (fun i σ H' => ∃ (F' : Hp) (xs : List V) (qs : List (Int × Int)) (x1 x2 x3 : Option V), σ = [some (.str t), some (.ref l), x1, x2, x3] ∧ Mv P0 F H F' H' ∧ F' l = none ∧ H' l = some (.lst xs) ∧
          DpAll K F' xs (qs.map fr) ∧ ((ps.map tl).take i).map wordFrac = qs.map some ∧ H' p = some (.lst (ps.map V.str)) ∧ F' p = none)
        ⟨F, [], [], none, none, none, rfl, m1, hFl, by rw [upd_ne hpl]; exact upd_same, .nil, rfl, upd_same, none_of_same m0.k hp⟩ (fun i σ H' _ ⟨_, _, _, _, _, _, _, _, _, _, _, _, z, _⟩ => SqL.of z) ?_ ?_⟩
      · rintro i x σ H1 H2 hi ⟨F', xs, qs, x1, x2, x3, rfl, m, hF, hL, ha, hq, hP, hFp⟩ ⟨T2, a1, b1, rfl, hT, rfl, hai, hbi⟩
        cases hai
        obtain ⟨u, hu, rfl⟩ : ∃ u, ps[i]? = some u ∧ b1 = V.str u := by
          have hbj : (ps.map V.str)[i]? = some b1 := hbi
          rw [List.getElem?_map] at hbj
          cases e : ps[i]? with
          | none =>
            rw [e] at hbj
            cases hbj
          | some u =>
            rw [e] at hbj
            exact ⟨u, rfl, (Option.some.inj hbj).symm⟩
        have m2 := m.own (o := .tup [.int (i : Nat), .str u]) hT
        have hLT : l ≠ T2 := ne_of_none hL hT
        have hPT : p ≠ T2 := ne_of_none hP hT
        refine ⟨T2, _, rfl, SqT.of upd_same, rfl, _, _, rfl, _, _, rfl, rfl, ?_⟩
        have iu := inf u (List.mem_of_getElem? hu)
        refine ⟨_, rfl, u, F', rfl, m2.k, iu.2, iu.1, fun v3 F3 H3 m3 hv3 => ?_⟩
        have m4 := m2.tr m3
        have hL3 := m3.h l _ (by rw [upd_ne hLT]; exact hL) fun z => z
        have hP3 := m3.h p _ (by rw [upd_ne hPT]; exact hP) fun z => z
        have hF3 := m3.n l _ (by rw [upd_ne hLT]; exact hL) hF
        have hFp3 := m3.n p _ (by rw [upd_ne hPT]; exact hP) hFp
        have hwi : (ps.map tl)[i]? = some (tl u) := by rw [List.getElem?_map, hu] <;> rfl
        refine ⟨_, rfl, rfl, _, rfl, ?_⟩
        cases ew : wordFrac (tl u) with
        | none =>
          rw [ew] at hv3
          cases hv3
          refine iteT ?_
          refine ⟨_, rfl, _, _, rfl, rfl, _, rfl, ?_⟩
          have e1 := (qb (i + 1) (readW_bad hq hwi ew)).mono m4.s0
          exact e1
        | some q =>
          rw [ew] at hv3
          obtain ⟨p3, xs3, rfl, hs3, _⟩ := tup_of hv3
          refine iteF ?_
          refine ⟨_, rfl, .inl ⟨rfl, _, SqL.of hL3⟩, _, rfl, _, _, _, rfl, rfl, hL3, szl ?_, ?_⟩
          · have e1 := DpAll.len ha
            rw [List.length_map] at e1
            have e2 := congrArg List.length hq
            rw [List.length_map, List.length_map, List.length_take, List.length_map] at e2
            omega
          · refine ⟨F3, xs ++ [.ref p3], qs ++ [q], _, _, _, rfl, m4.set (.inl hl0) hF3, hF3, upd_same, ?_, ?_, ?_, hFp3⟩
            · rw [List.map_append]
              exact DpAll.app (DpAll.mono m3.f _ _ ha) (.cons hv3 .nil)
            · rw [take_more hwi, List.map_append, hq, List.map_append]
              show qs.map some ++ [wordFrac (tl u)] = _
              rw [ew] <;> rfl
            · rw [upd_ne hpl.symm]
              exact hP3
      · rintro σ H1 ⟨F', xs, qs, x1, x2, x3, rfl, m, hF, hL, ha, hq, hP, hFp⟩
        refine ⟨_, rfl, _, _, rfl, .inl ⟨SqL.of hL, fun p2 hp2 => ?_⟩⟩
        rw [List.length_map, List.take_of_length_le (by rw [List.length_map]; exact Nat.le_refl _)] at hq
        exact qo qs (readW_ok hq) _ _ _ (m.nw hp2) (.tup (SqT.of upd_same) (DpAll.mono (Mv.nw (Mv.refl m.k) hp2).f _ _ ha))
theorem ok_read_numbers (T : Txt K mg) : G P w K mg base (L2.CX P w) 4 "read_numbers" ["text"] (sp_read_numbers K) := (okk_read_numbers T).g
theorem gk_read_numbers (T : Txt K mg) : GK P w K mg base (L2.CX P w) 4 "read_numbers" "text" (sp_read_numbers K) := (okk_read_numbers T).kw
end
end Q
/-! E94: the law's helpers for numbers -/
namespace Q
open PySem PySem.Spec PyProof.Rows L2
open TL (tl)
section
variable {P : Program} {w : World} {K : PySem.W.Frag} {mg : Str → Option Value} {base : Heap}
def lowQ (a b : Int) : Int × Int := (a / (Int.gcd a b : Int), b / (Int.gcd a b : Int))
def sp__law_low (K : PySem.W.Frag) : Sp := fun vs H Q _ => ∃ (a b : Int) (F : Hp), vs = [.int a, .int b] ∧ Same F H ∧ 0 < b ∧ b ≤ 10 ^ 700 ∧ RetD K F H Q (fr (lowQ a b))
theorem ok__law_low (T : Txt K mg) : G P w K mg base CX0 1 "_law_low" ["_law_top", "_law_bottom"] (sp__law_low K) := by
  obtain ⟨fd, F⟩ := T.fn__law_low
  refine ⟨_, fd, T.glo__law_low, F.kp, F.ok sc__law_low (fun vs H Q E h => by first | (obtain ⟨rfl, _⟩ := h; rfl) | (obtain ⟨_, rfl, _⟩ := h; rfl) | (obtain ⟨_, _, rfl, _⟩ := h; rfl) | (obtain ⟨_, _, _, rfl, _⟩ := h; rfl) | (obtain ⟨_, _, _, _, rfl, _⟩ := h; rfl) | (obtain ⟨_, _, _, _, _, rfl, _⟩ := h; rfl) | (obtain ⟨_, _, _, _, _, _, rfl, _⟩ := h; rfl) | (obtain ⟨_, _, _, _, _, _, _, rfl, _⟩ := h; rfl) | (obtain ⟨_, _, _, _, _, _, _, _, rfl, _⟩ := h; rfl)) (fun cdv A outer s H vs Q E hr h => ?_), F.bindsN fun _ _ _ _ _ _ us hl => match us, hl with | [_, _], _ => rfl⟩
  obtain ⟨a, b, F, rfl, k0, hb, hb2, q⟩ := h
  refine ⟨_, PSs.nox (pss_cons (ps_set (i := 2) sc__law_low.nd rfl (Or.inl rfl) (pe_callB call_abs (by rfl) T.free_abs (by decide +kernel) (pa_cons (pv 0) pa_nil)))
    (pss_cons (ps_set (i := 3) sc__law_low.nd rfl (Or.inl rfl) (pe_callB call_abs (by rfl) T.free_abs (by decide +kernel) (pa_cons (pv 1) pa_nil)))
    (pss_cons (ps_while PassesOwn.never (pt_cmpR op_gt (pv 3) pe_int (nomark _)) (pss_one (ps_par (i := 2) (j := 3) (by rfl) sc__law_low.nd rfl rfl (by decide) rfl rfl (pa_cons (pv 3) (pa_cons (pe_op op_mod (pe_callTy call_int1 (by rfl) T.free_int (by decide +kernel) (pa_cons (pv 2) pa_nil)) (pv 3)) pa_nil)) (by rfl))))
    (pss_cons (ps_if (pt_cmpR op_lt (pv 1) pe_int (nomark _)) (pss_one (ps_set (i := 2) sc__law_low.nd rfl (Or.inl rfl) (pe_un un_neg (pv 2)))) pss_nil)
    (pss_one (ps_ret (pe_tup (pa_cons (pe_op op_fdivW (pv 0) (pv 2)) (pa_cons (pe_op op_fdivW (pv 1) (pv 2)) pa_nil))))))))), ?_⟩
  refine ⟨_, rfl, _, rfl, _, rfl, _, rfl, ?_⟩
  have ab : ∀ i : Int, (if i < 0 then -i else i) = (i.natAbs : Int) := fun i => by split <;> omega
  rw [ab, ab]
  refine ⟨fun m σ H' => H' = H ∧ ∃ x y : Nat, σ = [some (.int a), some (.int b), some (.int x), some (.int y)] ∧ y = m ∧ Nat.gcd x y = Nat.gcd a.natAbs b.natAbs, ⟨_, rfl, _, _, rfl, rfl, rfl⟩, ?_⟩
  rintro m σ H' ⟨rfl, x, y, rfl, hm, hg⟩
  refine ⟨_, rfl, _, _, rfl, rfl, _, rfl, ?_⟩
  by_cases c : (0 : Int) < (y : Int)
  · rw [decide_eq_true c]
    refine iteT ⟨_, fun σ' H' z => z, ?_⟩
    refine ⟨_, rfl, _, rfl, .inl ⟨_, rfl, _, rfl, _, _, rfl, rfl, c, _, _, rfl, ?_⟩⟩
    refine ⟨x % y, by rw [← hm]; exact Nat.mod_lt _ (by omega), rfl, y, x % y, ?_, rfl, ?_⟩
    · show _ = _
      rw [Int.natCast_emod]
      rfl
    · rw [gcd_turn _ _ (by omega), hg]
  · rw [decide_eq_false c]
    refine iteF ?_
    have hy : y = 0 := by omega
    subst hy
    rw [Nat.gcd_zero_right] at hg
    refine ⟨_, rfl, _, _, rfl, rfl, _, rfl, ?_⟩
    rw [decide_eq_false (show ¬ b < 0 by omega)]
    refine iteF ?_
    have ex : (x : Int) = (Int.gcd a b : Int) := by
      rw [hg]
      rfl
    have hx : 0 < Int.gcd a b := Int.gcd_pos_of_ne_zero_right a (by omega)
    have hx2 : (Int.gcd a b : Int) ≤ b := Int.le_of_dvd hb (Int.gcd_dvd_right ..)
    refine ⟨_, rfl, _, rfl, _, _, rfl, rfl, by rw [ex]; exact cdivW (by omega) (Int.le_trans hx2 hb2), _, rfl, _, rfl, _, _, rfl, rfl, by rw [ex]; exact cdivW (by omega) (Int.le_trans hx2 hb2), ?_⟩
    rw [ex]
    refine ⟨by show 2 ≤ sizeLine; decide, fun p hp => ?_⟩
    exact q _ _ _ ((Mv.refl k0).nw hp) (.tup (SqT.of upd_same) (.cons (.int _) (.cons (.int _) .nil)))
def sp__law_is_integer (K : PySem.W.Frag) : Sp := fun vs H Q _ => ∃ (v : V) (d : PyData), vs = [v] ∧ Dp K H v d ∧ Q (.bl (isIntD d)) H
theorem ok__law_is_integer (T : Txt K mg) : G P w K mg base CX0 1 "_law_is_integer" ["_law_thing"] (sp__law_is_integer K) := by
  obtain ⟨fd, F⟩ := T.fn__law_is_integer
  refine ⟨_, fd, T.glo__law_is_integer, F.kp, F.ok sc__law_is_integer (fun vs H Q E h => by first | (obtain ⟨rfl, _⟩ := h; rfl) | (obtain ⟨_, rfl, _⟩ := h; rfl) | (obtain ⟨_, _, rfl, _⟩ := h; rfl) | (obtain ⟨_, _, _, rfl, _⟩ := h; rfl) | (obtain ⟨_, _, _, _, rfl, _⟩ := h; rfl) | (obtain ⟨_, _, _, _, _, rfl, _⟩ := h; rfl) | (obtain ⟨_, _, _, _, _, _, rfl, _⟩ := h; rfl) | (obtain ⟨_, _, _, _, _, _, _, rfl, _⟩ := h; rfl) | (obtain ⟨_, _, _, _, _, _, _, _, rfl, _⟩ := h; rfl)) (fun cdv A outer s H vs Q E hr h => ?_), F.bindsN fun _ _ _ _ _ _ us hl => match us, hl with | [_], _ => rfl⟩
  obtain ⟨v, d, rfl, hd, q⟩ := h
  refine ⟨_, PSs.nox (pss_one (ps_ret (pe_and (pe_callB call_isi (by rfl) T.free_isinstance (by decide +kernel) (pa_cons (pv 0) (pa_cons (pe_ty (T := "int") T.free_int (by decide +kernel)) pa_nil))) (pe_one (pe_not (pe_callB call_isi (by rfl) T.free_isinstance (by decide +kernel) (pa_cons (pv 0) (pa_cons (pe_ty (T := "bool") T.free_bool (by decide +kernel)) pa_nil)))))))), ?_⟩
  refine ⟨_, rfl, _, _, _, _, _, rfl, .ty _, tyX_of hd, kit_ty (isiI_is d), _, rfl, ?_⟩
  unfold isIntD at q
  cases e : isiI d with
  | true =>
    rw [e] at q
    refine iteT ?_
    exact ⟨_, rfl, _, _, _, _, _, rfl, .ty _, tyX_of hd, kit_ty (isiB_is d), _, rfl, q⟩
  | false =>
    rw [e] at q
    exact iteF q
def sp__law_word (K : PySem.W.Frag) : Sp := fun vs H Q _ => ∃ (v : V) (q : Int × Int), vs = [v] ∧ Dp K H v (fr q) ∧ SmQ q ∧ Q (.str (fracS q)) H
theorem ok__law_word (T : Txt K mg) : G P w K mg base CX0 1 "_law_word" ["_law_one"] (sp__law_word K) := by
  obtain ⟨fd, F⟩ := T.fn__law_word
  refine ⟨_, fd, T.glo__law_word, F.kp, F.ok sc__law_word (fun vs H Q E h => by first | (obtain ⟨rfl, _⟩ := h; rfl) | (obtain ⟨_, rfl, _⟩ := h; rfl) | (obtain ⟨_, _, rfl, _⟩ := h; rfl) | (obtain ⟨_, _, _, rfl, _⟩ := h; rfl) | (obtain ⟨_, _, _, _, rfl, _⟩ := h; rfl) | (obtain ⟨_, _, _, _, _, rfl, _⟩ := h; rfl) | (obtain ⟨_, _, _, _, _, _, rfl, _⟩ := h; rfl) | (obtain ⟨_, _, _, _, _, _, _, rfl, _⟩ := h; rfl) | (obtain ⟨_, _, _, _, _, _, _, _, rfl, _⟩ := h; rfl)) (fun cdv A outer s H vs Q E hr h => ?_), F.bindsN fun _ _ _ _ _ _ us hl => match us, hl with | [_], _ => rfl⟩
  obtain ⟨v, ⟨a, b⟩, rfl, hd, ⟨ha, hb⟩, q⟩ := h
  refine ⟨_, PSs.nox (pss_cons (ps_if (pt_cmpR op_eq (pe_ix ix_tup (pv 0) pe_int (fun _ _ => rfl)) pe_int (nomark _)) (pss_one (ps_ret (pe_callTy call_str_int (by rfl) T.free_str (by decide +kernel) (pa_cons (pe_ix ix_tup (pv 0) pe_int (fun _ _ => rfl)) pa_nil)))) pss_nil)
    (pss_one (ps_ret (pe_op op_add_str (pe_op op_add_str (pe_callTy call_str_int (by rfl) T.free_str (by decide +kernel) (pa_cons (pe_ix ix_tup (pv 0) pe_int (fun _ _ => rfl)) pa_nil)) pe_str) (pe_callTy call_str_int (by rfl) T.free_str (by decide +kernel) (pa_cons (pe_ix ix_tup (pv 0) pe_int (fun _ _ => rfl)) pa_nil)))))), ?_⟩
  obtain ⟨p, xs, rfl, hs, hx⟩ := tup_of hd
  obtain ⟨_, _, rfl, h1, h2⟩ := all2 hx
  cases h1
  cases h2
  refine ⟨_, rfl, _, _, _, _, rfl, rfl, hs, rfl, rfl, _, rfl, ?_⟩
  rw [dint]
  unfold fracS at q
  by_cases c : b = 1
  · rw [decide_eq_true c]
    rw [if_pos c] at q
    refine iteT ?_
    exact ⟨_, rfl, _, _, _, _, rfl, rfl, hs, rfl, _, rfl, ha.log, q⟩
  · rw [decide_eq_false c]
    rw [if_neg c] at q
    refine iteF ?_
    have l1 : (Str.ofString (toString a)).length ≤ 61 := ha.len
    have l2 : (Str.ofString (toString b)).length ≤ 61 := hb.len
    have l3 : ("/" : Str).length = 1 := by decide +kernel
    refine ⟨_, rfl, _, _, _, _, rfl, rfl, hs, rfl, _, rfl, ha.log, _, _, rfl, rfl, szle (show (Str.ofString (toString a)).length + ("/" : Str).length ≤ 1000000 by omega), _, rfl, _, _, _, _, rfl, rfl, hs, rfl, _, rfl, hb.log, _, _, rfl, rfl, ?_, q⟩
    have e : (Str.ofString (toString a) ++ ("/" : Str)).length = (Str.ofString (toString a)).length + 1 := by
      rw [TL.len_tl, TL.tl_append, List.length_append, ← TL.len_tl, ← TL.len_tl, l3]
    exact szle (show (Str.ofString (toString a) ++ ("/" : Str)).length + (Str.ofString (toString b)).length ≤ 1000000 by omega)
def optNat : Option Nat → PyData
  | none => .none
  | some n => .int n
def sp__law_whole (K : PySem.W.Frag) : Sp := fun vs H Q _ => ∃ (t : Str), vs = [.str t] ∧ t.length < 900000 ∧ Runs (tl t) ∧ (wholeL (tl t) = false → Q .non H) ∧ (wholeL (tl t) = true → Q (.int (valN (tl t) : Int)) H)
theorem ok__law_whole (T : Txt K mg) : G P w K mg base CX0 1 "_law_whole" ["_law_word_here"] (sp__law_whole K) := by
  obtain ⟨fd, F⟩ := T.fn__law_whole
  refine ⟨_, fd, T.glo__law_whole, F.kp, F.ok sc__law_whole (fun vs H Q E h => by first | (obtain ⟨rfl, _⟩ := h; rfl) | (obtain ⟨_, rfl, _⟩ := h; rfl) | (obtain ⟨_, _, rfl, _⟩ := h; rfl) | (obtain ⟨_, _, _, rfl, _⟩ := h; rfl) | (obtain ⟨_, _, _, _, rfl, _⟩ := h; rfl) | (obtain ⟨_, _, _, _, _, rfl, _⟩ := h; rfl) | (obtain ⟨_, _, _, _, _, _, rfl, _⟩ := h; rfl) | (obtain ⟨_, _, _, _, _, _, _, rfl, _⟩ := h; rfl) | (obtain ⟨_, _, _, _, _, _, _, _, rfl, _⟩ := h; rfl)) (fun cdv A outer s H vs Q E hr h => ?_), F.bindsN fun _ _ _ _ _ _ us hl => match us, hl with | [_], _ => rfl⟩
  obtain ⟨t, rfl, hl, hr0, qn, qy⟩ := h
  refine ⟨_, PSs.nox (pss_cons (ps_if (PW.pt (pw_or (pt_cmpR op_eq (pv 0) pe_str (nomark _)) (pw_or1 (PW.pt (pw_and (pt_cmpR op_gt (pe_callB call_len_str (by rfl) T.free_len (by decide +kernel) (pa_cons (pv 0) pa_nil)) pe_int (nomark _)) (pw_and1 (pt_cmpR op_eq (pe_ix ix_str (pv 0) pe_int (fun _ _ => rfl)) pe_str (nomark _)))))))) (pss_one (ps_ret pe_non)) pss_nil)
    (pss_cons (ps_for PassesOwn.never rfl (pi_str (pv 0)) (pg_name (i := 1) sc__law_whole.nd rfl (Or.inl rfl)) (pss_one (ps_if (pt_cmpR op_notIn_sign (pv 1) pe_str (by rfl)) (pss_one (ps_ret pe_non)) pss_nil)))
    (pss_one (ps_ret (pe_callTy call_int_str (by rfl) T.free_int (by decide +kernel) (pa_cons (pv 0) pa_nil)))))), ?_⟩
  refine ⟨_, rfl, rfl, _, rfl, ?_⟩
  rw [dstr, show tl "" = [] by decide +kernel]
  by_cases c : tl t = []
  · rw [decide_eq_true c]
    refine iteT (iteT (qn ?_))
    rw [c] <;> rfl
  · rw [decide_eq_false c]
    refine iteF ?_
    obtain ⟨c0, r0, er⟩ := List.exists_cons_of_ne_nil c
    have hat : atI (tl t) 0 = some c0 := by rw [er]; exact atI_nat (xs := c0 :: r0) (j := 0) rfl
    refine ⟨_, rfl, _, rfl, szle (by omega), _, _, rfl, rfl, _, rfl, ?_⟩
    have bad : (∃ x, x ∈ tl t ∧ isDig x = false) → wholeL (tl t) = false := by
      rintro ⟨x, hx, hxd⟩
      cases e : wholeL (tl t) with
      | false => rfl
      | true =>
        have := List.all_eq_true.mp (wholeL_dig e) x hx
        rw [hxd] at this
        cases this
    have good : (tl t).all isDig = true → ¬ (1 < (tl t).length ∧ c0 = 48) → wholeL (tl t) = true := fun h1 h2 => by
      unfold wholeL
      rw [h1, er]
      show (true && (true && (decide (c0 :: r0 = [48]) || decide (some c0 ≠ some 48)))) = true
      rw [Bool.true_and, Bool.true_and, Bool.or_eq_true, decide_eq_true_eq, decide_eq_true_eq]
      by_cases h3 : c0 = 48
      · left
        rw [er, List.length_cons] at h2
        cases r0 with
        | nil => rw [h3]
        | cons _ _ => exact absurd ⟨by simp, h3⟩ h2
      · exact .inr fun e => h3 (Option.some.inj e)
    have lead : 1 < (tl t).length ∧ c0 = 48 → wholeL (tl t) = false := fun ⟨h1, h2⟩ => by
      unfold wholeL
      rw [er] at h1 ⊢
      have e1 : decide (c0 :: r0 = [48]) = false := decide_eq_false fun e => by
        injection e with _ e2
        rw [e2] at h1
        exact absurd h1 (by simp)
      have e2 : decide ((c0 :: r0).head? ≠ some 48) = false := decide_eq_false fun e => e (by rw [h2] <;> rfl)
      rw [e1, e2]
      simp
    have walk : ¬ (1 < (tl t).length ∧ c0 = 48) → ∀ (D : Ends), D.rt = Q → (∀ σ', (∃ s1, σ' = [some (V.str t), s1]) → (tl t).all isDig = true → D.nx σ' H) →
        ∃ W : Nat → Nat → L2.St → Hp → Prop, (∃ m, W 0 m [some (V.str t), none] H) ∧ ∀ i m σ H, W i m σ H → ((Its t).stop i H ∧ D.nx σ H) ∨ ((Its t).go i H ∧ ∃ N : L2.St → Hp → Prop, (∀ σ' H', N σ' H' → ∃ m', m' < m ∧ W (i + 1) m' σ' H') ∧ ∀ x H', (Its t).yld i H x H' →
          gName 1 x σ H' fun σ2 H2 => (tIfS (tTest (tOp (fun x y H Q => ∃ (c : Nat) (z : Str), x = .str ⟨#[c]⟩ ∧ y = .str z ∧ Q (.bl (!decide (c ∈ z.cps.toList))) H) (tVar 1) (tC (.str "0123456789")))) (tRet (tC .non)) tNext) { D with nx := N, ct := N, bk := D.nx } σ2 H2) := by
      intro h0 D hD hnx
      refine for_it (g := gName 1) (tb := tIfS (tTest (tOp (fun x y H Q => ∃ (c : Nat) (z : Str), x = .str ⟨#[c]⟩ ∧ y = .str z ∧ Q (.bl (!decide (c ∈ z.cps.toList))) H) (tVar 1) (tC (.str "0123456789")))) (tRet (tC .non)) tNext) walk_str (fun i σ H' => H' = H ∧ (∃ s1, σ = [some (V.str t), s1]) ∧ ((tl t).take i).all isDig = true) ⟨rfl, ⟨_, rfl⟩, by simp⟩ (fun _ _ _ _ _ => True.intro) ?_ ?_
      · rintro i x σ H1 H2 hi ⟨rfl, ⟨s1, rfl⟩, hp⟩ ⟨rfl, c1, hc1, rfl⟩
        refine ⟨_, rfl, c1, _, rfl, rfl, _, rfl, ?_⟩
        rw [nmem_dig]
        have hc2 : (tl t)[i]? = some c1 := by rw [← hc1]; exact Array.getElem?_toList
        cases ed : isDig c1 with
        | false =>
          refine iteT ?_
          show D.rt .non _
          rw [hD]
          exact qn (bad ⟨c1, List.mem_of_getElem? hc2, ed⟩)
        | true =>
          refine iteF ⟨rfl, ⟨_, rfl⟩, ?_⟩
          rw [take_more hc2, List.all_append, hp]
          simp [ed]
      · rintro σ H1 ⟨rfl, hs, hp⟩
        refine hnx σ hs ?_
        have e : t.cps.size = (tl t).length := by rw [← TL.len_tl] <;> rfl
        rw [e, List.take_of_length_le (Nat.le_refl _)] at hp
        exact hp
    have fin : ∀ σ', (∃ s1, σ' = [some (V.str t), s1]) → (tl t).all isDig = true → ¬ (1 < (tl t).length ∧ c0 = 48) → tRet (tCB (fun xs H Q => ∃ a n, xs = [.str a] ∧ PySem.intText? a = some n ∧ a.length ≤ 640 ∧ Q (.int n) H) (tCons (tVar 0) tNil)) { nx := fun _ H' => Q .non H', rt := Q } σ' H := by
      rintro σ' ⟨s1, rfl⟩ h1 h2
      have hw := good h1 h2
      exact ⟨_, rfl, t, _, rfl, int_whole hw (hr0.whole hw), hr0.whole hw, qy hw⟩
    have hlen : t.length = (tl t).length := TL.len_tl t
    by_cases c2 : 1 < (tl t).length
    · rw [decide_eq_true (show (1 : Int) < (t.length : Int) by omega)]
      refine iteT ?_
      refine ⟨_, rfl, _, _, _, rfl, rfl, szle (by omega), hat, rfl, _, rfl, ?_⟩
      rw [dstr, show tl "0" = [48] by decide +kernel, show tl (⟨#[c0]⟩ : Str) = [c0] from rfl]
      by_cases c3 : c0 = 48
      · rw [decide_eq_true (by rw [c3])]
        exact iteT (qn (lead ⟨c2, c3⟩))
      · rw [decide_eq_false (fun e => c3 (List.cons.inj e).1)]
        refine iteF ⟨_, rfl, t, rfl, walk (fun z => c3 z.2) _ rfl fun σ' h1 h2 => fin σ' h1 h2 fun z => c3 z.2⟩
    · rw [decide_eq_false (show ¬ (1 : Int) < (t.length : Int) by omega)]
      refine iteF (iteF ⟨_, rfl, t, rfl, walk (fun z => c2 z.1) _ rfl fun σ' h1 h2 => fin σ' h1 h2 fun z => c2 z.1⟩)
end
end Q
/-! F94: the law's own reading of words -/
namespace Q
open PySem PySem.Spec PyProof.Rows L2
open TL (tl)
section
variable {P : Program} {w : World} {K : PySem.W.Frag} {mg : Str → Option Value} {base : Heap}
theorem lowQ_eq {a b : Int} (hb : 2 ≤ b) : (decide ((lowQ a b).1 = a) && decide ((lowQ a b).2 = b)) = decide (Int.gcd a b = 1) := by
  have hg : 0 < Int.gcd a b := Int.gcd_pos_of_ne_zero_right a (by omega)
  by_cases h : Int.gcd a b = 1
  · rw [decide_eq_true h]
    unfold lowQ
    rw [h]
    simp
  · rw [decide_eq_false h]
    have e : decide ((lowQ a b).2 = b) = false := decide_eq_false fun e => by
      have e2 : b / (Int.gcd a b : Int) = b := e
      have h2 : (2 : Int) ≤ (Int.gcd a b : Int) := by omega
      have h3 : b / (Int.gcd a b : Int) * (Int.gcd a b : Int) = b := Int.ediv_mul_cancel (Int.gcd_dvd_right ..)
      rw [e2] at h3
      have h4 : b * 2 ≤ b * (Int.gcd a b : Int) := Int.mul_le_mul_of_nonneg_left h2 (by omega)
      omega
    rw [e, Bool.and_false]
/-- the sign's part: what is left, the factor -/
theorem word_parts {l : List Nat} : ∃ (r : List Nat) (f : Int), (f = 1 ∨ f = -1) ∧ r <:+: l ∧ ((l.take 1 = [45] ∧ r = l.drop 1 ∧ f = -1) ∨ (¬ l.take 1 = [45] ∧ r = l ∧ f = 1)) ∧
    (signedL l = (wholeL r && !(decide (valN r = 0) && decide (f < 0)))) ∧ (wholeL r = true → intL l = f * (valN r : Int)) := by
  by_cases h : l.take 1 = [45]
  · refine ⟨l.drop 1, -1, .inr rfl, (List.drop_suffix 1 l).isInfix, .inl ⟨h, rfl, rfl⟩, ?_, ?_⟩
    · rw [signedL_minus h]
      cases e : wholeL (l.drop 1) with
      | false => rfl
      | true =>
        rw [Bool.true_and, Bool.true_and]
        have e2 : decide ((-1 : Int) < 0) = true := rfl
        rw [e2, Bool.and_true, ← decide_not]
        refine decide_eq_decide.mpr ⟨fun z1 z2 => z1 ?_, fun z1 z2 => z1 ?_⟩
        · have e3 := valN_zero e z2
          match l, h with
          | c :: r, h =>
            have hc : c = 45 := (List.cons.inj (show [c] = [45] from h)).1
            have hr : r = [48] := e3
            rw [hc, hr]
        · rw [z2] <;> rfl
    · intro _
      match l, h with
      | c :: r, h =>
        have hc : c = 45 := (List.cons.inj (show [c] = [45] from h)).1
        subst hc
        show -(valN r : Int) = -1 * (valN r : Int)
        omega
  · refine ⟨l, 1, .inl rfl, List.infix_rfl, .inr ⟨h, rfl, rfl⟩, ?_, ?_⟩
    · rw [signedL_plain h]
      have e2 : decide ((1 : Int) < 0) = false := rfl
      rw [e2, Bool.and_false]
      cases wholeL l <;> rfl
    · intro _
      unfold intL
      split
      · exact absurd rfl h
      · omega
def sp__law_read_word (K : PySem.W.Frag) : Sp := fun vs H Q _ => ∃ (t : Str) (F : Hp), vs = [.str t] ∧ Same F H ∧ t.length < 900000 ∧ Runs (tl t) ∧ RetD K F H Q (optFr (wordFrac (tl t)))
theorem ok__law_read_word (T : Txt K mg) : G P w K mg base CX0 2 "_law_read_word" ["_law_word_here"] (sp__law_read_word K) := by
  obtain ⟨fd, F⟩ := T.fn__law_read_word
  have g__law_low := ok__law_low (P := P) (w := w) (base := base) T
  have g__law_whole := ok__law_whole (P := P) (w := w) (base := base) T
  refine ⟨_, fd, T.glo__law_read_word, F.kp, F.ok sc__law_read_word (fun vs H Q E h => by first | (obtain ⟨rfl, _⟩ := h; rfl) | (obtain ⟨_, rfl, _⟩ := h; rfl) | (obtain ⟨_, _, rfl, _⟩ := h; rfl) | (obtain ⟨_, _, _, rfl, _⟩ := h; rfl) | (obtain ⟨_, _, _, _, rfl, _⟩ := h; rfl) | (obtain ⟨_, _, _, _, _, rfl, _⟩ := h; rfl) | (obtain ⟨_, _, _, _, _, _, rfl, _⟩ := h; rfl) | (obtain ⟨_, _, _, _, _, _, _, rfl, _⟩ := h; rfl) | (obtain ⟨_, _, _, _, _, _, _, _, rfl, _⟩ := h; rfl)) (fun cdv A outer s H vs Q E hr h => ?_), F.bindsN fun _ _ _ _ _ _ us hl => match us, hl with | [_], _ => rfl⟩
  obtain ⟨t, F, rfl, k0, hl, hr0, q⟩ := h
  refine ⟨_, PSs.nox (pss_cons (ps_set (i := 1) sc__law_read_word.nd rfl (Or.inl rfl) (pe_split (pv 0) pe_str))
    (pss_cons (ps_set (i := 2) sc__law_read_word.nd rfl (Or.inl rfl) (pe_ix ix_list (pv 1) pe_int (fun _ _ => rfl)))
    (pss_cons (ps_set (i := 3) sc__law_read_word.nd rfl (Or.inl rfl) pe_int)
    (Evl.pss_cut (ps_if (pt_cmpR op_eq (pe_slice sl_str (pv 2) po_none (po_some pe_int)) pe_str (nomark _)) (pss_cons (ps_set (i := 2) sc__law_read_word.nd rfl (Or.inl rfl) (pe_slice sl_str (pv 2) (po_some pe_int) po_none))
    (pss_one (ps_set (i := 3) sc__law_read_word.nd rfl (Or.inl rfl) (pe_un un_neg pe_int)))) pss_nil)
    (pss_cons (ps_set (i := 4) sc__law_read_word.nd rfl (Or.inl rfl) (pe_g g__law_whole hr pass0 (pa_cons (pv 2) pa_nil)))
    (Evl.pss_cut (ps_if (PW.pt (pw_or (pt_cmpR op_gt (pe_callB call_len_seq (by rfl) T.free_len (by decide +kernel) (pa_cons (pv 1) pa_nil)) pe_int (nomark _)) (pw_or (pt_cmpR op_isN (pv 4) pe_non (nomark _)) (pw_or1 (PW.pt (pw_and (pt_cmpR op_eq (pv 4) pe_int (nomark _)) (pw_and1 (pt_cmpR op_lt (pv 3) pe_int (nomark _))))))))) (pss_one (ps_ret pe_non)) pss_nil)
    (pss_cons (ps_if (pt_cmpR op_eq (pe_callB call_len_seq (by rfl) T.free_len (by decide +kernel) (pa_cons (pv 1) pa_nil)) pe_int (nomark _)) (pss_one (ps_ret (pe_tup (pa_cons (pe_op op_mul (pv 3) (pv 4)) (pa_cons pe_int pa_nil))))) pss_nil)
    (pss_cons (ps_set (i := 5) sc__law_read_word.nd rfl (Or.inl rfl) (pe_g g__law_whole hr pass0 (pa_cons (pe_ix ix_list (pv 1) pe_int (fun _ _ => rfl)) pa_nil)))
    (pss_cons (ps_if (PW.pt (pw_or (pt_cmpR op_isN (pv 5) pe_non (nomark _)) (pw_or (pt_cmpR op_lt (pv 5) pe_int (nomark _)) (pw_or1 (pt_cmpR (op_neD hr.units) (pe_g g__law_low hr pass0 (pa_cons (pv 4) (pa_cons (pv 5) pa_nil))) (pe_tup (pa_cons (pv 4) (pa_cons (pv 5) pa_nil))) (nomark _)))))) (pss_one (ps_ret pe_non)) pss_nil)
    (pss_one (ps_ret (pe_tup (pa_cons (pe_op op_mul (pv 3) (pv 4)) (pa_cons (pv 5) pa_nil)))))))))))))), ?_⟩
  refine ⟨_, rfl, ⟨_, rfl⟩, _, _, rfl, rfl, rfl, szle (by omega), fun p hp => ?_⟩
  have hsp : (Txt.split t "/").map tl = splitL 47 (tl t) := TL.split_spl t "/" (by decide +kernel) (TL.kind_ok (by decide +kernel))
  have m1 : Mv P0 F H F (upd H p (.lst ((Txt.split t "/").map V.str))) := (Mv.refl k0).own hp
  generalize hps : Txt.split t "/" = ps at hsp m1 ⊢
  have hL : (upd H p (.lst (ps.map V.str))) p = some (.lst (ps.map V.str)) := upd_same
  generalize upd H p (.lst (ps.map V.str)) = H1 at hL m1 ⊢
  have inf : ∀ a ∈ ps, Runs (tl a) ∧ a.length < 900000 := fun a ha => by
    have h1 : tl a ∈ splitL 47 (tl t) := by
      rw [← hsp]
      exact List.mem_map_of_mem ha
    have h2 := splitL_infix h1
    refine ⟨hr0.sub h2, ?_⟩
    have h3 := h2.length_le
    rw [TL.len_tl] at hl ⊢
    omega
  have hne : ps ≠ [] := fun e => by
    rw [e] at hsp
    exact splitL_ne 47 (tl t) [] hsp.symm
  obtain ⟨a, ps2, rfl⟩ := List.exists_cons_of_ne_nil hne
  have ia := inf a (by simp)
  obtain ⟨r, f, hf, hri, hrf, hsg, hint⟩ := word_parts (l := tl a)
  refine ⟨_, rfl, _, _, _, _, rfl, rfl, SqL.of hL, atI_nat (xs := (a :: ps2).map V.str) (j := 0) rfl, ?_⟩
  refine ⟨fun σ' H' => H' = H1 ∧ ∃ u : Str, tl u = r ∧ σ' = [some (.str t), some (.ref p), some (.str u), some (.int f), none, none], ?_, ?_⟩
  · refine ⟨_, rfl, _, rfl, a, rfl, szle (by omega), rfl, _, rfl, ?_⟩
    rw [dstr, show tl "-" = [45] by decide +kernel, show tl (cutS a none (some 1)) = (tl a).take 1 from tl_to a 1]
    rcases hrf with ⟨h1, h2, h3⟩ | ⟨h1, h2, h3⟩
    · rw [decide_eq_true h1]
      refine iteT ⟨_, rfl, _, rfl, a, rfl, szle (by omega), _, rfl, rfl, _, (tl_from a 1).trans h2.symm, ?_⟩
      rw [h3]
      rfl
    · rw [decide_eq_false h1]
      exact iteF ⟨rfl, a, h2.symm, by rw [h3]; rfl⟩
  · rintro σ' H' ⟨rfl, u, hu, rfl⟩
    have hul : u.length < 900000 := by
      have e1 := hri.length_le
      have e2 := ia.2
      rw [TL.len_tl] at e2 ⊢
      rw [hu]
      omega
    have hur : Runs (tl u) := by
      rw [hu]
      exact ia.1.sub hri
    -- behind the law's own _law_whole: first
    have hf2 : -(2 : Int) ^ 64 < f ∧ f < 2 ^ 64 := by
      rcases hf with h | h <;> rw [h] <;> decide
    have bad : signedL (tl a) = false ∨ 2 ≤ ps2.length → wordFrac (tl t) = none := fun z => by
      unfold wordFrac
      rw [← hsp]
      match ps2, z with
      | [], .inl z =>
        show (if signedL (tl a) = true then _ else none) = none
        rw [z]
        rfl
      | [b], .inl z =>
        show (if signedL (tl a) = true ∧ _ then _ else none) = none
        rw [z, if_neg (by rintro ⟨z, _⟩; cases z)]
      | _ :: _ :: _, _ => rfl
      | [], .inr z => exact absurd z (by simp)
      | [b], .inr z => exact absurd z (by simp)
    refine ⟨_, rfl, u, rfl, hul, hur, fun hw => ?_, fun hw => ?_⟩
    · -- no number
      rw [hu] at hw
      rw [hw] at hsg
      rw [bad (.inl hsg)] at q
      refine ⟨fun _ _ => False, ?_, fun _ _ z => z.elim⟩
      refine ⟨_, rfl, _, _, rfl, .inl (SqL.of hL), _, _, rfl, rfl, _, rfl, ?_⟩
      refine ite2 (fun _ => iteT (q.none m1)) fun _ => ?_
      exact ⟨_, rfl, rfl, _, rfl, iteT (iteT (q.none m1))⟩
    · rw [hu] at hw
      rw [hw, Bool.true_and] at hsg
      have hint := hint hw
      rw [hu]
      have zero : decide ((valN r : Int) = 0) = decide (valN r = 0) := decide_eq_decide.mpr (by omega)
      refine ⟨fun σ2 H2 => H2 = H' ∧ σ2 = [some (.str t), some (.ref p), some (.str u), some (.int f), some (.int (valN r : Int)), none] ∧ signedL (tl a) = true ∧ ps2.length < 2, ?_, ?_⟩
      · refine ⟨_, rfl, _, _, rfl, .inl (SqL.of hL), _, _, rfl, rfl, _, rfl, ?_⟩
        by_cases c2 : 2 ≤ ps2.length
        · rw [decide_eq_true (show (2 : Int) < ((((a :: ps2).map V.str).length : Nat) : Int) by simp only [List.length_map, List.length_cons]; omega)]
          rw [bad (.inr c2)] at q
          exact iteT (iteT (q.none m1))
        · rw [decide_eq_false (show ¬ (2 : Int) < ((((a :: ps2).map V.str).length : Nat) : Int) by simp only [List.length_map, List.length_cons]; omega)]
          refine iteF ?_
          refine ⟨_, rfl, rfl, _, rfl, iteF ?_⟩
          refine ⟨_, rfl, rfl, _, rfl, ?_⟩
          rw [dint, zero]
          by_cases z : valN r = 0
          · rw [decide_eq_true z]
            refine iteT ⟨_, rfl, _, _, rfl, rfl, _, rfl, ?_⟩
            by_cases z2 : f < 0
            · rw [decide_eq_true z2]
              rw [decide_eq_true z, decide_eq_true z2] at hsg
              rw [bad (.inl hsg)] at q
              exact iteT (q.none m1)
            · rw [decide_eq_false z2]
              rw [decide_eq_true z, decide_eq_false z2] at hsg
              exact iteF ⟨rfl, rfl, hsg, by omega⟩
          · rw [decide_eq_false z]
            rw [decide_eq_false z] at hsg
            exact iteF (iteF ⟨rfl, rfl, hsg, by omega⟩)
      · rintro σ2 H2 ⟨rfl, rfl, es, c2⟩
        rcases ps2 with _ | ⟨b, _ | ⟨c, ps3⟩⟩
        · have ew : wordFrac (tl t) = if signedL (tl a) = true then some (intL (tl a), 1) else none := by
            unfold wordFrac
            rw [← hsp]
            rfl
          rw [ew, if_pos es, hint] at q
          refine ⟨_, rfl, _, _, rfl, .inl (SqL.of hL), rfl, _, rfl, iteT ?_⟩
          refine ⟨_, rfl, _, rfl, _, _, rfl, rfl, .inl hf2, by show 2 ≤ sizeLine; decide, fun p2 hp2 => ?_⟩
          exact q _ _ _ (m1.nw hp2) (.tup (SqT.of upd_same) (.cons (.int _) (.cons (.int _) .nil)))
        · have ib := inf b (by simp)
          have ew : wordFrac (tl t) = if signedL (tl a) = true ∧ wholeL (tl b) = true ∧ 2 ≤ valN (tl b) ∧ Int.gcd (intL (tl a)) (valN (tl b)) = 1 then some (intL (tl a), (valN (tl b) : Int)) else none := by
            unfold wordFrac
            rw [← hsp]
            rfl
          rw [ew] at q
          have hgcd : Int.gcd (intL (tl a)) (valN (tl b)) = Int.gcd (valN r : Int) (valN (tl b)) := by
            rw [hint]
            rcases hf with h | h
            · rw [h, Int.one_mul]
            · rw [h, show (-1 : Int) * (valN r : Int) = -(valN r : Int) by omega, Int.neg_gcd]
          refine ⟨_, rfl, _, _, rfl, .inl (SqL.of hL), rfl, _, rfl, iteF ?_⟩
          refine ⟨_, rfl, _, _, _, _, rfl, rfl, SqL.of hL, rfl, b, rfl, ib.2, ib.1, fun hb => ?_, fun hb => ?_⟩
          · rw [if_neg (by rw [hb]; rintro ⟨_, z, _⟩; cases z)] at q
            exact ⟨_, rfl, rfl, _, rfl, iteT (iteT (q.none m1))⟩
          · refine ⟨_, rfl, rfl, _, rfl, iteF ?_⟩
            refine ⟨_, rfl, _, _, rfl, rfl, _, rfl, ?_⟩
            by_cases z : ((valN (tl b) : Nat) : Int) < 2
            · rw [decide_eq_true z]
              rw [if_neg (by rintro ⟨_, _, z2, _⟩; omega)] at q
              exact iteT (iteT (q.none m1))
            · rw [decide_eq_false z]
              refine iteF ?_
              refine ⟨_, rfl, _, rfl, _, _, F, rfl, m1.k, by omega, valN_700 hb (ib.1.whole hb), fun v3 F3 H3 m3 hv3 => ?_⟩
              refine ⟨_, rfl, _, rfl, by show 2 ≤ sizeLine; decide, fun p4 hp4 => ?_⟩
              have m4 := (m1.tr m3).nw (o := .tup [.int (valN r : Int), .int (valN (tl b) : Int)]) hp4
              have e4 : Same H3 (upd H3 p4 (.tup [.int (valN r : Int), .int (valN (tl b) : Int)])) := same_new hp4
              refine ⟨_, _, Dp.mono (m3.k.trans e4) _ _ hv3, .tup (SqT.of upd_same) (.cons (.int _) (.cons (.int _) .nil)), rfl, rfl, _, rfl, ?_⟩
              have e5 : PyData.eqv (fr (lowQ (valN r : Int) (valN (tl b) : Int))) (.tuple [.int (valN r : Int), .int (valN (tl b) : Int)]) = decide (Int.gcd (valN r : Int) (valN (tl b) : Int) = 1) := by
                have e6 := eqv_fr (lowQ (valN r : Int) (valN (tl b) : Int)).1 (lowQ (valN r : Int) (valN (tl b) : Int)).2 (valN r : Int) (valN (tl b) : Int)
                rw [lowQ_eq (by omega)] at e6
                exact e6
              rw [e5]
              by_cases z3 : Int.gcd (valN r : Int) (valN (tl b) : Int) = 1
              · rw [decide_eq_true z3]
                rw [if_pos ⟨es, hb, by omega, by rw [hgcd]; exact z3⟩, hint] at q
                refine iteF ?_
                refine ⟨_, rfl, _, rfl, _, _, rfl, rfl, .inl hf2, _, rfl, by show 2 ≤ sizeLine; decide, fun p2 hp2 => ?_⟩
                exact q _ _ _ (m4.nw hp2) (.tup (SqT.of upd_same) (.cons (.int _) (.cons (.int _) .nil)))
              · rw [decide_eq_false z3]
                rw [if_neg (by rintro ⟨_, _, _, z4⟩; rw [hgcd] at z4; exact z3 z4)] at q
                exact iteT (q.none m4)
        · exact absurd c2 (by simp)
end
end Q
/-! G94: the stream of draws -/
namespace Q
open PySem PySem.Spec PyProof.Rows L2
open TL (tl)
section
variable {P : Program} {w : World} {K : PySem.W.Frag} {mg : Str → Option Value} {base : Heap}
def sp__law_mixed (K : PySem.W.Frag) : Sp := fun vs H Q _ => ∃ c k : Int, vs = [.int c, .int k] ∧ ∀ n : Int, 0 ≤ n → Q (.int n) H
theorem ok__law_mixed (T : Txt K mg) : G P w K mg base CX0 1 "_law_mixed" ["_law_cell", "_law_k"] (sp__law_mixed K) := by
  obtain ⟨fd, F⟩ := T.fn__law_mixed
  refine ⟨_, fd, T.glo__law_mixed, F.kp, F.ok sc__law_mixed (fun vs H Q E h => by first | (obtain ⟨rfl, _⟩ := h; rfl) | (obtain ⟨_, rfl, _⟩ := h; rfl) | (obtain ⟨_, _, rfl, _⟩ := h; rfl) | (obtain ⟨_, _, _, rfl, _⟩ := h; rfl) | (obtain ⟨_, _, _, _, rfl, _⟩ := h; rfl) | (obtain ⟨_, _, _, _, _, rfl, _⟩ := h; rfl) | (obtain ⟨_, _, _, _, _, _, rfl, _⟩ := h; rfl) | (obtain ⟨_, _, _, _, _, _, _, rfl, _⟩ := h; rfl) | (obtain ⟨_, _, _, _, _, _, _, _, rfl, _⟩ := h; rfl)) (fun cdv A outer s H vs Q E hr h => ?_), F.bindsN fun _ _ _ _ _ _ us hl => match us, hl with | [_, _], _ => rfl⟩
  obtain ⟨c, k, rfl, q⟩ := h
  refine ⟨_, PSs.nox (pss_cons (ps_set (i := 2) sc__law_mixed.nd rfl (Or.inl rfl) (pe_op op_mod (pe_callTy call_int1 (by rfl) T.free_int (by decide +kernel) (pa_cons (pe_op op_mul (pe_op op_add (pe_op op_add (pe_op op_mod (pe_callTy call_int1 (by rfl) T.free_int (by decide +kernel) (pa_cons (pv 0) pa_nil)) pe_int) (pe_op op_mul pe_int (pv 1))) pe_int) pe_int) pa_nil)) pe_int))
    (pss_cons (ps_set (i := 2) sc__law_mixed.nd rfl (Or.inl rfl) (pe_op op_mod (pe_callTy call_int1 (by rfl) T.free_int (by decide +kernel) (pa_cons (pe_op op_mul (pv 2) (pe_op op_add (pe_op op_fdivW (pv 2) pe_int) pe_int)) pa_nil)) pe_int))
    (pss_one (ps_ret (pe_op op_mod (pe_callTy call_int1 (by rfl) T.free_int (by decide +kernel) (pa_cons (pe_op op_mul (pv 2) (pe_op op_add (pe_op op_fdivW (pv 2) pe_int) pe_int)) pa_nil)) pe_int))))), ?_⟩
  refine ⟨_, rfl, .inl ⟨_, rfl, _, _, rfl, rfl, (show (0 : Int) < 2147483647 by decide), _, rfl, _, _, rfl, rfl, .inl ⟨by decide, by decide⟩, _, _, rfl, rfl, _, _, rfl, rfl, _, _, rfl, rfl, .inr ⟨by decide, by decide⟩, .inl ⟨_, rfl, _, _, rfl, rfl, (show (0 : Int) < 2147483647 by decide), ?_⟩⟩⟩
  generalize hn : ((c % 2147483647 + 7919 * k + 1) * 48271) % 2147483647 = n
  have h0 : 0 ≤ n ∧ n < 2147483647 := by
    rw [← hn]
    exact ⟨Int.emod_nonneg _ (by decide), Int.emod_lt_of_pos _ (by decide)⟩
  refine ⟨_, rfl, _, rfl, _, _, rfl, rfl, ⟨by decide, by decide +kernel⟩, _, _, rfl, rfl, _, _, rfl, rfl, .inl ⟨by omega, by omega⟩, .inl ⟨_, rfl, _, _, rfl, rfl, (show (0 : Int) < 2147483647 by decide), ?_⟩⟩
  generalize hm : (n * (n / 1009 + 69621)) % 2147483647 = m
  have h1 : 0 ≤ m ∧ m < 2147483647 := by
    rw [← hm]
    exact ⟨Int.emod_nonneg _ (by decide), Int.emod_lt_of_pos _ (by decide)⟩
  refine ⟨_, rfl, _, rfl, _, _, rfl, rfl, ⟨by decide, by decide +kernel⟩, _, _, rfl, rfl, _, _, rfl, rfl, .inl ⟨by omega, by omega⟩, .inl ⟨_, rfl, _, _, rfl, rfl, (show (0 : Int) < 2147483399 by decide), ?_⟩⟩
  exact q _ (Int.emod_nonneg _ (by decide))
def sp__law_great (K : PySem.W.Frag) : Sp := fun vs H Q _ => ∃ (p : Addr) (ns : List Int) (pl : Int), vs = [.ref p, .int pl] ∧ SqL K H p (ns.map V.int) ∧ 0 ≤ pl ∧ ∀ n : Int, 0 ≤ n → Q (.int n) H
theorem atI_ints {ns : List Int} {i : Int} (h0 : 0 ≤ i) (h1 : i < (ns.length : Int)) : ∃ z, atI (ns.map V.int) i = some (V.int z) := by
  obtain ⟨n, rfl⟩ := Int.eq_ofNat_of_zero_le h0
  have h2 : n < ns.length := by omega
  exact ⟨ns[n], by rw [atI_nat (xs := ns.map V.int) (j := n) (v := V.int ns[n]) (by rw [List.getElem?_map, List.getElem?_eq_getElem h2]; rfl)]⟩
theorem ok__law_great (T : Txt K mg) : G P w K mg base CX0 1 "_law_great" ["_law_cells", "_law_place"] (sp__law_great K) := by
  obtain ⟨fd, F⟩ := T.fn__law_great
  refine ⟨_, fd, T.glo__law_great, F.kp, F.ok sc__law_great (fun vs H Q E h => by first | (obtain ⟨rfl, _⟩ := h; rfl) | (obtain ⟨_, rfl, _⟩ := h; rfl) | (obtain ⟨_, _, rfl, _⟩ := h; rfl) | (obtain ⟨_, _, _, rfl, _⟩ := h; rfl) | (obtain ⟨_, _, _, _, rfl, _⟩ := h; rfl) | (obtain ⟨_, _, _, _, _, rfl, _⟩ := h; rfl) | (obtain ⟨_, _, _, _, _, _, rfl, _⟩ := h; rfl) | (obtain ⟨_, _, _, _, _, _, _, rfl, _⟩ := h; rfl) | (obtain ⟨_, _, _, _, _, _, _, _, rfl, _⟩ := h; rfl)) (fun cdv A outer s H vs Q E hr h => ?_), F.bindsN fun _ _ _ _ _ _ us hl => match us, hl with | [_, _], _ => rfl⟩
  obtain ⟨p, ns, pl, rfl, hs, h0, q⟩ := h
  refine ⟨_, PSs.nox (pss_cons (ps_if (PW.pt (pw_and (pt_cmpR op_lt (pv 1) (pe_callB call_len_seq (by rfl) T.free_len (by decide +kernel) (pa_cons (pv 0) pa_nil)) (nomark _)) (pw_and1 (pt_cmpR op_ge (pe_callB call_abs (by rfl) T.free_abs (by decide +kernel) (pa_cons (pe_ix ix_list (pv 0) (pv 1) (fun _ _ => rfl)) pa_nil)) (pe_op op_pow pe_int pe_int) (nomark _))))) (pss_one (ps_ret (pe_callB call_abs (by rfl) T.free_abs (by decide +kernel) (pa_cons (pe_ix ix_list (pv 0) (pv 1) (fun _ _ => rfl)) pa_nil)))) pss_nil)
    (pss_one (ps_ret pe_int))), ?_⟩
  have ab : ∀ i : Int, (if i < 0 then -i else i) = (i.natAbs : Int) := fun i => by split <;> omega
  refine ⟨_, rfl, _, rfl, _, _, rfl, .inl hs, _, _, rfl, rfl, _, rfl, ?_⟩
  rw [List.length_map]
  by_cases c : pl < (ns.length : Int)
  · rw [decide_eq_true c]
    obtain ⟨z, hz⟩ := atI_ints h0 c
    refine iteT ⟨_, rfl, _, rfl, _, _, _, _, rfl, rfl, hs, hz, _, rfl, _, _, rfl, rfl, ⟨by decide, by decide, by decide⟩, _, _, rfl, rfl, _, rfl, ?_⟩
    refine ite2 (fun _ => ?_) fun _ => ?_
    · refine ⟨_, rfl, _, rfl, _, _, _, _, rfl, rfl, hs, hz, _, rfl, ?_⟩
      rw [ab]
      exact q _ (by omega)
    · exact q 0 (by decide)
  · rw [decide_eq_false c]
    exact iteF (iteF (q 0 (by decide)))
/-- the stream's object -/
def StO (F H : Hp) (p : Addr) : Prop := ∃ (c : Addr) (ns : List Int) (pl g k : Int), H p = some (.lst [.ref c, .int pl, .int g, .int k]) ∧ F c = some (.lst (ns.map V.int)) ∧ 0 < ns.length ∧ 0 ≤ pl ∧ 0 ≤ g ∧ c ≠ p
abbrev PP (p : Addr) : Addr → Prop := fun x => x = p
/-- a stream at p that is no part of what is known for good -/
structure Sti (p : Addr) (F H : Hp) : Prop where
  k : Same F H
  f : F p = none
  o : StO F H p
theorem StO.is {F H : Hp} {p : Addr} (h : StO F H p) : ∃ o, H p = some o := by
  obtain ⟨_, _, _, _, _, h, _⟩ := h
  exact ⟨_, h⟩
theorem Sti.step {p : Addr} {F H F' H' : Hp} (a : Sti p F H) (m : Mv (PP p) F H F' H') (o : StO F' H' p) : Sti p F' H' := by
  obtain ⟨_, h⟩ := a.o.is
  exact ⟨m.k, m.n p _ h a.f, o⟩
theorem Mv.trp {p : Addr} {F H F1 H1 F2 H2 : Hp} (a : Mv (PP p) F H F1 H1) (b : Mv (PP p) F1 H1 F2 H2) (o : StO F H p) (o1 : StO F1 H1 p) : Mv (PP p) F H F2 H2 := a.trans b fun x e => by
  obtain ⟨_, h⟩ := o.is
  obtain ⟨_, h1⟩ := o1.is
  rw [e]
  exact ⟨_, _, h, h1⟩
/-- a step that left the stream alone -/
theorem Sti.stay {p : Addr} {F H F' H' : Hp} (a : Sti p F H) (m : Mv P0 F H F' H') : Sti p F' H' := by
  obtain ⟨c, ns, pl, g, k, h1, h2, h3⟩ := a.o
  exact ⟨m.k, m.n p _ h1 a.f, c, ns, pl, g, k, m.h _ _ h1 fun z => z, m.f _ _ h2, h3⟩
theorem Mv.up {p : Addr} {F H F1 H1 : Hp} (a : Mv P0 F H F1 H1) : Mv (PP p) F H F1 H1 := a.weak fun _ z => z.elim
def sp__law_take (K : PySem.W.Frag) : Sp := fun vs H Q _ => ∃ (p : Addr) (many : Int) (F : Hp), vs = [.ref p, .int many] ∧ Sti p F H ∧ 0 < many ∧ many ≤ 10 ^ 700 ∧ ∀ d H', 0 ≤ d → d < many → Mv (PP p) F H F H' → StO F H' p → Q (.int d) H'
theorem Mv.at {p : Addr} {F H H' : Hp} (k : Same F H) (f : F p = none) (h : ∀ b, b ≠ p → H' b = H b) : Mv (PP p) F H F H' where
  f := Same.refl F
  k := fun b o e => by rw [h b (ne_of_none e f)]; exact k b o e
  h := fun b o e n => by rw [h b n]; exact e
  n := fun _ _ _ n => n
theorem ok__law_take (T : Txt K mg) : G P w K mg base CX0 2 "_law_take" ["_law_stream_here", "_law_many"] (sp__law_take K) := by
  obtain ⟨fd, F⟩ := T.fn__law_take
  have g__law_great := ok__law_great (P := P) (w := w) (base := base) T
  have g__law_mixed := ok__law_mixed (P := P) (w := w) (base := base) T
  refine ⟨_, fd, T.glo__law_take, F.kp, F.ok sc__law_take (fun vs H Q E h => by first | (obtain ⟨rfl, _⟩ := h; rfl) | (obtain ⟨_, rfl, _⟩ := h; rfl) | (obtain ⟨_, _, rfl, _⟩ := h; rfl) | (obtain ⟨_, _, _, rfl, _⟩ := h; rfl) | (obtain ⟨_, _, _, _, rfl, _⟩ := h; rfl) | (obtain ⟨_, _, _, _, _, rfl, _⟩ := h; rfl) | (obtain ⟨_, _, _, _, _, _, rfl, _⟩ := h; rfl) | (obtain ⟨_, _, _, _, _, _, _, rfl, _⟩ := h; rfl) | (obtain ⟨_, _, _, _, _, _, _, _, rfl, _⟩ := h; rfl)) (fun cdv A outer s H vs Q E hr h => ?_), F.bindsN fun _ _ _ _ _ _ us hl => match us, hl with | [_, _], _ => rfl⟩
  obtain ⟨p, many, F, rfl, st, h0, h1, q⟩ := h
  obtain ⟨c, ns, pl, g, k, hp, hcF, hn, hpl, hg, hcp⟩ := st.o
  have hc := st.k _ _ hcF
  refine ⟨_, PSs.nox (pss_cons (ps_set (i := 2) sc__law_take.nd rfl (Or.inl rfl) (pe_ix ix_list (pv 0) pe_int (fun _ _ => rfl)))
    (pss_cons (ps_set (i := 3) sc__law_take.nd rfl (Or.inl rfl) (pe_ix ix_list (pv 0) pe_int (fun _ _ => rfl)))
    (pss_cons (ps_asg (pe_op op_add (pe_ix ix_list (pv 0) pe_int (fun _ _ => rfl)) pe_int) (pg_sub (pv 0) pe_int set_list))
    (Evl.pss_cut (ps_if (pt_cmpR op_gt (pe_ix ix_list (pv 0) pe_int (fun _ _ => rfl)) pe_int (nomark _)) (pss_cons (ps_set (i := 4) sc__law_take.nd rfl (Or.inl rfl) (pe_op op_mod (pe_callTy call_int1 (by rfl) T.free_int (by decide +kernel) (pa_cons (pe_ix ix_list (pv 0) pe_int (fun _ _ => rfl)) pa_nil)) (pv 1)))
    (pss_cons (ps_asg (pe_op op_fdivW (pe_ix ix_list (pv 0) pe_int (fun _ _ => rfl)) (pv 1)) (pg_sub (pv 0) pe_int set_list))
    (pss_one (ps_if (pt_cmpR op_gt (pe_ix ix_list (pv 0) pe_int (fun _ _ => rfl)) pe_int (nomark _)) (pss_one (ps_ret (pv 4))) pss_nil)))) (pss_one (ps_set (i := 4) sc__law_take.nd rfl (Or.inl rfl) (pe_op op_mod (pe_g g__law_mixed hr pass0 (pa_cons (pe_ix ix_list (pv 2) (pe_op op_mod (pe_callTy call_int1 (by rfl) T.free_int (by decide +kernel) (pa_cons (pv 3) pa_nil)) (pe_callB call_len_seq (by rfl) T.free_len (by decide +kernel) (pa_cons (pv 2) pa_nil))) (fun _ _ => rfl)) (pa_cons (pe_ix ix_list (pv 0) pe_int (fun _ _ => rfl)) pa_nil))) (pv 1)))))
    (pss_cons (ps_asg (pe_op op_add (pv 3) pe_int) (pg_sub (pv 0) pe_int set_list))
    (pss_cons (ps_asg (pe_g g__law_great hr pass0 (pa_cons (pv 2) (pa_cons (pe_op op_add (pv 3) pe_int) pa_nil))) (pg_sub (pv 0) pe_int set_list))
    (pss_one (ps_ret (pv 4))))))))), ?_⟩
  refine ⟨_, rfl, _, _, _, _, rfl, rfl, SqL.of hp, rfl, ?_⟩
  refine ⟨_, rfl, _, _, _, _, rfl, rfl, SqL.of hp, rfl, ?_⟩
  refine ⟨_, rfl, _, _, _, _, rfl, rfl, SqL.of hp, rfl, _, _, rfl, rfl, _, rfl, _, _, _, 3, rfl, rfl, hp, rfl, ?_⟩
  have e1 : upd H p (.lst ([V.ref c, .int pl, .int g, .int k].set 3 (.int (k + 1)))) = upd H p (.lst [V.ref c, .int pl, .int g, .int (k + 1)]) := rfl
  rw [e1]
  have m1 : Mv (PP p) F H F (upd H p (.lst [V.ref c, .int pl, .int g, .int (k + 1)])) := Mv.at st.k st.f fun b h => upd_ne h
  have hc1 : upd H p (.lst [V.ref c, .int pl, .int g, .int (k + 1)]) c = some (.lst (ns.map V.int)) := by rw [upd_ne hcp]; exact hc
  have hp1 : upd H p (.lst [V.ref c, .int pl, .int g, .int (k + 1)]) p = some (.lst [V.ref c, .int pl, .int g, .int (k + 1)]) := upd_same
  generalize upd H p (.lst [V.ref c, .int pl, .int g, .int (k + 1)]) = H1 at m1 hc1 hp1 ⊢
  refine ⟨fun σ' H' => ∃ d g' : Int, 0 ≤ d ∧ d < many ∧ σ' = [some (.ref p), some (.int many), some (.ref c), some (.int pl), some (.int d)] ∧ Mv (PP p) F H F H' ∧ H' c = some (.lst (ns.map V.int)) ∧ H' p = some (.lst [V.ref c, .int pl, .int g', .int (k + 1)]), ?_, ?_⟩
  · refine ⟨_, rfl, _, _, _, _, rfl, rfl, SqL.of hp1, rfl, _, _, rfl, rfl, _, rfl, ?_⟩
    by_cases cg : 0 < g
    · rw [decide_eq_true cg]
      refine iteT ⟨_, rfl, _, _, _, _, rfl, rfl, SqL.of hp1, rfl, .inl ⟨_, rfl, _, rfl, _, _, rfl, rfl, h0, ?_⟩⟩
      have hd : 0 ≤ g % many ∧ g % many < many := ⟨Int.emod_nonneg _ (by omega), Int.emod_lt_of_pos _ h0⟩
      refine ⟨_, rfl, _, _, _, _, rfl, rfl, SqL.of hp1, rfl, _, rfl, _, _, rfl, rfl, cdivW h0 h1, _, rfl, _, _, _, 2, rfl, rfl, hp1, rfl, ?_⟩
      have e2 : upd H1 p (.lst ([V.ref c, .int pl, .int g, .int (k + 1)].set 2 (.int (g / many)))) = upd H1 p (.lst [V.ref c, .int pl, .int (g / many), .int (k + 1)]) := rfl
      rw [e2]
      have m2 : Mv (PP p) F H F (upd H1 p (.lst [V.ref c, .int pl, .int (g / many), .int (k + 1)])) := m1.set (.inr rfl) st.f
      have hc2 : upd H1 p (.lst [V.ref c, .int pl, .int (g / many), .int (k + 1)]) c = some (.lst (ns.map V.int)) := by rw [upd_ne hcp]; exact hc1
      have hp2 : upd H1 p (.lst [V.ref c, .int pl, .int (g / many), .int (k + 1)]) p = some (.lst [V.ref c, .int pl, .int (g / many), .int (k + 1)]) := upd_same
      generalize upd H1 p (.lst [V.ref c, .int pl, .int (g / many), .int (k + 1)]) = H2 at m2 hc2 hp2 ⊢
      refine ⟨_, rfl, _, _, _, _, rfl, rfl, SqL.of hp2, rfl, _, _, rfl, rfl, _, rfl, ?_⟩
      refine ite2 (fun z => ⟨_, rfl, ?_⟩) fun _ => ⟨_, _, hd.1, hd.2, rfl, m2, hc2, hp2⟩
      exact q _ _ hd.1 hd.2 m2 ⟨c, ns, pl, _, _, hp2, hcF, hn, hpl, Int.ediv_nonneg hg (by omega), hcp⟩
    · rw [decide_eq_false cg]
      have hl : (0 : Int) < (ns.length : Int) := by omega
      obtain ⟨z, hz⟩ := atI_ints (ns := ns) (Int.emod_nonneg pl (show (ns.length : Int) ≠ 0 by omega)) (Int.emod_lt_of_pos pl hl)
      refine iteF ⟨_, rfl, _, rfl, .inl ⟨_, rfl, _, rfl, _, _, rfl, .inl (SqL.of hc1), _, _, rfl, rfl, by rw [List.length_map]; exact hl, _, _, _, _, rfl, rfl, SqL.of hc1, by rw [List.length_map]; exact hz, ?_⟩⟩
      refine ⟨_, rfl, _, _, _, _, rfl, rfl, SqL.of hp1, rfl, _, _, rfl, fun n hn0 => ⟨_, rfl, _, _, rfl, rfl, h0, ?_⟩⟩
      exact ⟨_, g, Int.emod_nonneg _ (by omega), Int.emod_lt_of_pos _ h0, rfl, m1, hc1, hp1⟩
  · rintro σ' H' ⟨d, g', hd0, hd1, rfl, m2, hc2, hp2⟩
    refine ⟨_, rfl, _, _, rfl, rfl, _, rfl, _, _, _, 1, rfl, rfl, hp2, rfl, ?_⟩
    have e2 : upd H' p (.lst ([V.ref c, .int pl, .int g', .int (k + 1)].set 1 (.int (pl + 1)))) = upd H' p (.lst [V.ref c, .int (pl + 1), .int g', .int (k + 1)]) := rfl
    rw [e2]
    have m3 : Mv (PP p) F H F (upd H' p (.lst [V.ref c, .int (pl + 1), .int g', .int (k + 1)])) := m2.set (.inr rfl) st.f
    have hc3 : upd H' p (.lst [V.ref c, .int (pl + 1), .int g', .int (k + 1)]) c = some (.lst (ns.map V.int)) := by rw [upd_ne hcp]; exact hc2
    have hp3 : upd H' p (.lst [V.ref c, .int (pl + 1), .int g', .int (k + 1)]) p = some (.lst [V.ref c, .int (pl + 1), .int g', .int (k + 1)]) := upd_same
    generalize upd H' p (.lst [V.ref c, .int (pl + 1), .int g', .int (k + 1)]) = H3 at m3 hc3 hp3 ⊢
    refine ⟨_, rfl, _, rfl, _, _, rfl, rfl, c, ns, pl + 1, rfl, SqL.of hc3, by omega, fun n hn0 => ?_⟩
    refine ⟨_, rfl, _, _, _, 2, rfl, rfl, hp3, rfl, ?_⟩
    refine ⟨_, rfl, q d _ hd0 hd1 (m3.set (.inr rfl) st.f) ⟨c, ns, pl + 1, n, k + 1, upd_same, hcF, hn, by omega, hn0, hcp⟩⟩
def sp__law_stream (K : PySem.W.Frag) : Sp := fun vs H Q _ => ∃ (a : Addr) (ns : List Int) (F : Hp), vs = [.ref a] ∧ Same F H ∧ SqL K H a (ns.map V.int) ∧ ∀ p F' H', Mv P0 F H F' H' → H p = none → Sti p F' H' → Q (.ref p) H'
theorem ok__law_stream (T : Txt K mg) : G P w K mg base CX0 2 "_law_stream" ["_law_script"] (sp__law_stream K) := by
  obtain ⟨fd, F⟩ := T.fn__law_stream
  have g__law_great := ok__law_great (P := P) (w := w) (base := base) T
  refine ⟨_, fd, T.glo__law_stream, F.kp, F.ok sc__law_stream (fun vs H Q E h => by first | (obtain ⟨rfl, _⟩ := h; rfl) | (obtain ⟨_, rfl, _⟩ := h; rfl) | (obtain ⟨_, _, rfl, _⟩ := h; rfl) | (obtain ⟨_, _, _, rfl, _⟩ := h; rfl) | (obtain ⟨_, _, _, _, rfl, _⟩ := h; rfl) | (obtain ⟨_, _, _, _, _, rfl, _⟩ := h; rfl) | (obtain ⟨_, _, _, _, _, _, rfl, _⟩ := h; rfl) | (obtain ⟨_, _, _, _, _, _, _, rfl, _⟩ := h; rfl) | (obtain ⟨_, _, _, _, _, _, _, _, rfl, _⟩ := h; rfl)) (fun cdv A outer s H vs Q E hr h => ?_), F.bindsN fun _ _ _ _ _ _ us hl => match us, hl with | [_], _ => rfl⟩
  obtain ⟨a, ns, F, rfl, k0, ha, q⟩ := h
  refine ⟨_, PSs.nox (pss_cons (ps_set (i := 1) sc__law_stream.nd rfl (Or.inl rfl) (pe_callTy call_list_of (by rfl) T.free_list (by decide +kernel) (pa_cons (pv 0) pa_nil)))
    (Evl.pss_cut (ps_if (pt_cmpR op_eq (pe_callB call_len_seq (by rfl) T.free_len (by decide +kernel) (pa_cons (pv 1) pa_nil)) pe_int (nomark _)) (pss_one (ps_set (i := 1) sc__law_stream.nd rfl (Or.inl rfl) (pe_lst (pa_cons pe_int pa_nil)))) pss_nil)
    (pss_one (ps_ret (pe_lst (pa_cons (pv 1) (pa_cons pe_int (pa_cons (pe_g g__law_great hr pass0 (pa_cons (pv 1) (pa_cons pe_int pa_nil))) (pa_cons pe_int pa_nil))))))))), ?_⟩
  refine ⟨_, rfl, a, _, rfl, .inl ha, fun l hl => ?_⟩
  have m1 : Mv P0 F H F (upd H l (.lst (ns.map V.int))) := (Mv.refl k0).own hl
  have hl1 : upd H l (.lst (ns.map V.int)) l = some (.lst (ns.map V.int)) := upd_same
  generalize upd H l (.lst (ns.map V.int)) = H1 at m1 hl1 ⊢
  refine ⟨fun σ' H' => ∃ (c : Addr) (ns : List Int), σ' = [some (.ref a), some (.ref c)] ∧ Mv P0 F H F H' ∧ H' c = some (.lst (ns.map V.int)) ∧ 0 < ns.length ∧ H c = none, ?_, ?_⟩
  · refine ⟨_, rfl, _, _, rfl, .inl (SqL.of hl1), rfl, _, rfl, ?_⟩
    rw [dint, List.length_map]
    by_cases z : ((ns.length : Nat) : Int) = 0
    · rw [decide_eq_true z]
      refine iteT ⟨by show 1 ≤ sizeLine; decide, fun c hc => ?_⟩
      exact ⟨c, [0], rfl, m1.own hc, upd_same, by decide, none_of_same m1.s0 hc⟩
    · rw [decide_eq_false z]
      exact iteF ⟨l, ns, rfl, m1, hl1, by omega, hl⟩
  · rintro σ' H' ⟨c, ns, rfl, m2, hc, hn, hF⟩
    refine ⟨_, rfl, _, rfl, c, ns, 0, rfl, SqL.of hc, by decide, fun n hn0 => ⟨by show 4 ≤ sizeLine; decide, fun p hp => ?_⟩⟩
    have hcp : c ≠ p := ne_of_none hc hp
    have hpH : H p = none := none_of_same m2.s0 hp
    have m3 := (m2.keep hF (none_of_same k0 hF) hc).own (o := .lst [.ref c, .int 0, .int n, .int 0]) hp
    exact q p _ _ m3 hpH ⟨m3.k, none_of_same (m2.keep hF (none_of_same k0 hF) hc).k hp, c, ns, 0, n, 0, upd_same, upd_same, hn, by decide, hn0, hcp⟩
end
end Q
/-! H94: draws from the stream -/
namespace Q
open PySem PySem.Spec PyProof.Rows L2
open TL (tl)
section
variable {P : Program} {w : World} {K : PySem.W.Frag} {mg : Str → Option Value} {base : Heap}
theorem atI_mem {xs : List V} {i : Int} (h0 : 0 ≤ i) (h1 : i < (xs.length : Int)) : ∃ v, v ∈ xs ∧ atI xs i = some v := by
  obtain ⟨n, rfl⟩ := Int.eq_ofNat_of_zero_le h0
  have h2 : n < xs.length := by omega
  exact ⟨xs[n], List.getElem_mem h2, atI_nat (xs := xs) (j := n) (v := xs[n]) (List.getElem?_eq_getElem h2)⟩
theorem Mv.lay {p l : Addr} {o : HO} {F H : Hp} (st : Sti p F H) (h : H l = none) : Mv (PP p) F H F (upd H l o) ∧ Sti p F (upd H l o) := by
  have m : Mv P0 F H F (upd H l o) := (Mv.refl st.k).own h
  exact ⟨m.up, st.stay m⟩
def sp__law_size_drawn (K : PySem.W.Frag) : Sp := fun vs H Q _ => ∃ (p : Addr) (F : Hp), vs = [.ref p] ∧ Sti p F H ∧ ∀ d H', 0 ≤ d → d < 10 ^ 38 → Mv (PP p) F H F H' → StO F H' p → Q (.int d) H'
theorem ok__law_size_drawn (T : Txt K mg) : G P w K mg base CX0 3 "_law_size_drawn" ["_law_stream_here"] (sp__law_size_drawn K) := by
  obtain ⟨fd, F⟩ := T.fn__law_size_drawn
  have g__law_take := ok__law_take (P := P) (w := w) (base := base) T
  refine ⟨_, fd, T.glo__law_size_drawn, F.kp, F.ok sc__law_size_drawn (fun vs H Q E h => by first | (obtain ⟨rfl, _⟩ := h; rfl) | (obtain ⟨_, rfl, _⟩ := h; rfl) | (obtain ⟨_, _, rfl, _⟩ := h; rfl) | (obtain ⟨_, _, _, rfl, _⟩ := h; rfl) | (obtain ⟨_, _, _, _, rfl, _⟩ := h; rfl) | (obtain ⟨_, _, _, _, _, rfl, _⟩ := h; rfl) | (obtain ⟨_, _, _, _, _, _, rfl, _⟩ := h; rfl) | (obtain ⟨_, _, _, _, _, _, _, rfl, _⟩ := h; rfl) | (obtain ⟨_, _, _, _, _, _, _, _, rfl, _⟩ := h; rfl)) (fun cdv A outer s H vs Q E hr h => ?_), F.bindsN fun _ _ _ _ _ _ us hl => match us, hl with | [_], _ => rfl⟩
  obtain ⟨p, F, rfl, st, q⟩ := h
  refine ⟨_, PSs.nox (pss_one (ps_ret (pe_g g__law_take hr pass0 (pa_cons (pv 0) (pa_cons (pe_ix ix_list (pe_lst (pa_cons pe_int (pa_cons pe_int (pa_cons pe_int (pa_cons (pe_op op_pow pe_int pe_int) pa_nil))))) (pe_g g__law_take hr pass0 (pa_cons (pv 0) (pa_cons pe_int pa_nil))) (fun _ _ => rfl)) pa_nil))))), ?_⟩
  refine ⟨_, rfl, _, _, rfl, rfl, ⟨by decide, by decide, by decide⟩, by show 4 ≤ sizeLine; decide, fun l hl => ?_⟩
  obtain ⟨m1, st1⟩ := Mv.lay (o := .lst [.int 10, .int 10, .int 1000, .int ((10 : Int) ^ (38 : Int).toNat)]) st hl
  have hl1 : upd H l (.lst [V.int 10, .int 10, .int 1000, .int ((10 : Int) ^ (38 : Int).toNat)]) l = some (.lst [V.int 10, .int 10, .int 1000, .int ((10 : Int) ^ (38 : Int).toNat)]) := upd_same
  have hlp : l ≠ p := fun e => by
    obtain ⟨o, z⟩ := st.o.is
    rw [← e, hl] at z
    cases z
  refine ⟨_, rfl, p, 4, F, rfl, st1, by decide, by decide +kernel, fun d H2 h0 h1 m2 o2 => ?_⟩
  obtain ⟨v, hv, ha⟩ := atI_mem (xs := [V.int 10, .int 10, .int 1000, .int ((10 : Int) ^ (38 : Int).toNat)]) h0 h1
  have hl2 := m2.h _ _ hl1 hlp
  have st2 := st1.step m2 o2
  have m12 := m1.trp m2 st.o st1.o
  refine ⟨_, _, _, _, rfl, rfl, SqL.of hl2, ha, ?_⟩
  have hb : ∃ n : Int, v = .int n ∧ 0 < n ∧ n ≤ 10 ^ 38 := by
    simp only [List.mem_cons, List.not_mem_nil, or_false] at hv
    rcases hv with rfl | rfl | rfl | rfl
    · exact ⟨_, rfl, by decide, by decide +kernel⟩
    · exact ⟨_, rfl, by decide, by decide +kernel⟩
    · exact ⟨_, rfl, by decide, by decide +kernel⟩
    · exact ⟨_, rfl, by decide +kernel, by decide +kernel⟩
  obtain ⟨n, rfl, hn0, hn1⟩ := hb
  exact ⟨p, n, F, rfl, st2, hn0, Int.le_trans hn1 (by decide +kernel), fun d H3 h0 h1 m3 o3 => q d H3 h0 (Int.lt_of_lt_of_le h1 hn1) (m12.trp m3 st.o st2.o) o3⟩
theorem cut_len (t : Str) (a b : Option Int) : (cutS t a b).length ≤ t.length := cutS_length _ _ _
def sp__law_changed (K : PySem.W.Frag) : Sp := fun vs H Q _ => ∃ (p : Addr) (t m : Str) (F : Hp), vs = [.ref p, .str t, .str m] ∧ Sti p F H ∧ t.length < 200000 ∧ 0 < m.length ∧ m.length < 1000 ∧ ∀ (t' : Str) H', t'.length ≤ 3 * t.length + 1 → Mv (PP p) F H F H' → StO F H' p → Q (.str t') H'
theorem ok__law_changed (T : Txt K mg) : G P w K mg base CX0 3 "_law_changed" ["_law_stream_here", "_law_text", "_law_most"] (sp__law_changed K) := by
  obtain ⟨fd, F⟩ := T.fn__law_changed
  have g__law_take := ok__law_take (P := P) (w := w) (base := base) T
  refine ⟨_, fd, T.glo__law_changed, F.kp, F.ok sc__law_changed (fun vs H Q E h => by first | (obtain ⟨rfl, _⟩ := h; rfl) | (obtain ⟨_, rfl, _⟩ := h; rfl) | (obtain ⟨_, _, rfl, _⟩ := h; rfl) | (obtain ⟨_, _, _, rfl, _⟩ := h; rfl) | (obtain ⟨_, _, _, _, rfl, _⟩ := h; rfl) | (obtain ⟨_, _, _, _, _, rfl, _⟩ := h; rfl) | (obtain ⟨_, _, _, _, _, _, rfl, _⟩ := h; rfl) | (obtain ⟨_, _, _, _, _, _, _, rfl, _⟩ := h; rfl) | (obtain ⟨_, _, _, _, _, _, _, _, rfl, _⟩ := h; rfl)) (fun cdv A outer s H vs Q E hr h => ?_), F.bindsN fun _ _ _ _ _ _ us hl => match us, hl with | [_, _, _], _ => rfl⟩
  obtain ⟨p, t, m, F, rfl, st, ht, hm0, hm1, q⟩ := h
  refine ⟨_, PSs.nox (pss_cons (ps_set (i := 3) sc__law_changed.nd rfl (Or.inl rfl) (pe_g g__law_take hr pass0 (pa_cons (pv 0) (pa_cons pe_int pa_nil))))
    (pss_cons (ps_set (i := 4) sc__law_changed.nd rfl (Or.inl rfl) (pe_g g__law_take hr pass0 (pa_cons (pv 0) (pa_cons (pe_op op_add (pe_callB call_len_str (by rfl) T.free_len (by decide +kernel) (pa_cons (pv 1) pa_nil)) pe_int) pa_nil))))
    (pss_cons (ps_set (i := 5) sc__law_changed.nd rfl (Or.inl rfl) (pe_ix ix_str (pv 2) (pe_g g__law_take hr pass0 (pa_cons (pv 0) (pa_cons (pe_callB call_len_str (by rfl) T.free_len (by decide +kernel) (pa_cons (pv 2) pa_nil)) pa_nil))) (fun _ _ => rfl)))
    (pss_cons (ps_if (pt_cmpR op_eq (pv 3) pe_int (nomark _)) (pss_one (ps_ret (pe_op op_add_str (pe_slice sl_str (pv 1) po_none (po_some (pv 4))) (pe_slice sl_str (pv 1) (po_some (pe_op op_add (pv 4) pe_int)) po_none)))) pss_nil)
    (pss_cons (ps_if (pt_cmpR op_eq (pv 3) pe_int (nomark _)) (pss_one (ps_ret (pe_op op_add_str (pe_op op_add_str (pe_slice sl_str (pv 1) po_none (po_some (pv 4))) (pv 5)) (pe_slice sl_str (pv 1) (po_some (pe_op op_add (pv 4) pe_int)) po_none)))) pss_nil)
    (pss_cons (ps_if (pt_cmpR op_eq (pv 3) pe_int (nomark _)) (pss_one (ps_ret (pe_op op_add_str (pe_op op_add_str (pe_slice sl_str (pv 1) po_none (po_some (pv 4))) (pe_slice sl_str (pv 1) (po_some (pv 4)) (po_some (pe_op op_add (pv 4) pe_int)))) (pe_slice sl_str (pv 1) (po_some (pv 4)) po_none)))) pss_nil)
    (pss_cons (ps_if (pt_cmpR op_eq (pv 3) pe_int (nomark _)) (pss_one (ps_ret (pe_slice sl_str (pv 1) po_none (po_some (pv 4))))) pss_nil)
    (pss_one (ps_ret (pe_op op_add_str (pe_op op_add_str (pe_slice sl_str (pv 1) po_none (po_some (pv 4))) (pv 5)) (pe_slice sl_str (pv 1) (po_some (pv 4)) po_none))))))))))), ?_⟩
  refine ⟨_, rfl, p, 6, F, rfl, st, by decide, by decide +kernel, fun k H1 k0 k1 m1 o1 => ?_⟩
  have st1 := st.step m1 o1
  refine ⟨_, rfl, _, rfl, t, rfl, szle (by omega), _, _, rfl, rfl, p, _, F, rfl, st1, by omega, Int.le_trans (show (t.length : Int) + 1 ≤ 1000000 by omega) (by decide +kernel), fun at0 H2 a0 a1 m2 o2 => ?_⟩
  have st2 := st1.step m2 o2
  have m12 := m1.trp m2 st.o st1.o
  refine ⟨_, rfl, _, rfl, _, rfl, m, rfl, szle (by omega), p, _, F, rfl, st2, by omega, Int.le_trans (show (m.length : Int) ≤ 1000 by omega) (by decide +kernel), fun si H3 s0 s1 m3 o3 => ?_⟩
  have m13 := m12.trp m3 st.o st2.o
  obtain ⟨c, hc⟩ : ∃ c, atI (tl m) si = some c := by
    obtain ⟨n, rfl⟩ := Int.eq_ofNat_of_zero_le s0
    have h2 : n < (tl m).length := by
      have := TL.len_tl m
      omega
    exact ⟨(tl m)[n], atI_nat (xs := tl m) (j := n) (v := (tl m)[n]) (List.getElem?_eq_getElem h2)⟩
  refine ⟨_, _, c, rfl, rfl, szle (by omega), hc, ?_⟩
  have fin : ∀ t' : Str, t'.length ≤ 3 * t.length + 1 → Q (.str t') H3 := fun t' h => q t' H3 h m13 o3
  have ap : ∀ x y : Str, (x ++ y).length = x.length + y.length := fun x y => by
    rw [TL.len_tl, TL.tl_append, List.length_append, ← TL.len_tl, ← TL.len_tl]
  have lc : (⟨#[c]⟩ : Str).length = 1 := rfl
  have cl := cut_len t
  refine ⟨_, rfl, rfl, _, rfl, ite2 (fun _ => ?_) fun _ => ?_⟩
  · refine ⟨_, rfl, _, rfl, _, rfl, t, rfl, szle (by omega), _, rfl, _, rfl, _, _, rfl, rfl, _, rfl, t, rfl, szle (by omega), _, _, rfl, rfl, ?_, fin _ ?_⟩
    · exact szle (Nat.le_trans (Nat.add_le_add (cl _ _) (cl _ _)) (by omega))
    · rw [ap]
      exact Nat.le_trans (Nat.add_le_add (cl _ _) (cl _ _)) (by omega)
  refine ⟨_, rfl, rfl, _, rfl, ite2 (fun _ => ?_) fun _ => ?_⟩
  · refine ⟨_, rfl, _, rfl, _, rfl, t, rfl, szle (by omega), _, rfl, _, _, rfl, rfl, ?_, _, rfl, _, rfl, _, _, rfl, rfl, _, rfl, t, rfl, szle (by omega), _, _, rfl, rfl, ?_, fin _ ?_⟩
    · exact szle (Nat.le_trans (Nat.add_le_add (cl _ _) (Nat.le_of_eq lc)) (by omega))
    · rw [ap]
      exact szle (Nat.le_trans (Nat.add_le_add (Nat.add_le_add (cl _ _) (Nat.le_of_eq lc)) (cl _ _)) (by omega))
    · rw [ap, ap]
      exact Nat.le_trans (Nat.add_le_add (Nat.add_le_add (cl _ _) (Nat.le_of_eq lc)) (cl _ _)) (by omega)
  refine ⟨_, rfl, rfl, _, rfl, ite2 (fun _ => ?_) fun _ => ?_⟩
  · refine ⟨_, rfl, _, rfl, _, rfl, t, rfl, szle (by omega), _, rfl, _, rfl, _, rfl, _, rfl, _, _, rfl, rfl, _, rfl, t, rfl, szle (by omega), _, _, rfl, rfl, ?_, _, rfl, _, rfl, _, rfl, t, rfl, szle (by omega), _, _, rfl, rfl, ?_, fin _ ?_⟩
    · exact szle (Nat.le_trans (Nat.add_le_add (cl _ _) (cl _ _)) (by omega))
    · rw [ap]
      exact szle (Nat.le_trans (Nat.add_le_add (Nat.add_le_add (cl _ _) (cl _ _)) (cl _ _)) (by omega))
    · rw [ap, ap]
      exact Nat.le_trans (Nat.add_le_add (Nat.add_le_add (cl _ _) (cl _ _)) (cl _ _)) (by omega)
  refine ⟨_, rfl, rfl, _, rfl, ite2 (fun _ => ?_) fun _ => ?_⟩
  · refine ⟨_, rfl, _, rfl, _, rfl, t, rfl, szle (by omega), fin _ ?_⟩
    exact Nat.le_trans (cl _ _) (by omega)
  · refine ⟨_, rfl, _, rfl, _, rfl, t, rfl, szle (by omega), _, rfl, _, _, rfl, rfl, ?_, _, rfl, _, rfl, _, rfl, t, rfl, szle (by omega), _, _, rfl, rfl, ?_, fin _ ?_⟩
    · exact szle (Nat.le_trans (Nat.add_le_add (cl _ _) (Nat.le_of_eq lc)) (by omega))
    · rw [ap]
      exact szle (Nat.le_trans (Nat.add_le_add (Nat.add_le_add (cl _ _) (Nat.le_of_eq lc)) (cl _ _)) (by omega))
    · rw [ap, ap]
      exact Nat.le_trans (Nat.add_le_add (Nat.add_le_add (cl _ _) (Nat.le_of_eq lc)) (cl _ _)) (by omega)
end
end Q
/-! I94: long runs; alike -/
namespace Q
open PySem PySem.Spec PyProof.Rows L2
open TL (tl)
section
variable {P : Program} {w : World} {K : PySem.W.Frag} {mg : Str → Option Value} {base : Heap}
def sp__law_is_long (K : PySem.W.Frag) : Sp := fun vs H Q _ => ∃ t : Str, vs = [.str t] ∧ ∀ b : Bool, (b = false → Runs (tl t)) → Q (.bl b) H
/-- the state of the walk over the signs -/
structure LongI (l : List Nat) (r : Int) : Prop where
  hi : r ≤ 40
  lo : 0 ≤ r
  all : ∀ b : List Nat, b <:+: l → b.all isDig = true → b.length ≤ 40
  suf : ∀ b : List Nat, b <:+ l → b.all isDig = true → (b.length : Int) ≤ r
theorem LongI.nil : LongI [] 0 := ⟨by decide, by decide, fun b h _ => by rw [List.eq_nil_of_infix_nil h]; exact Nat.zero_le _, fun b h _ => by rw [List.eq_nil_of_suffix_nil h]; decide⟩
theorem LongI.dig {l : List Nat} {r : Int} {c : Nat} (h : LongI l r) (hr : r + 1 ≤ 40) : LongI (l ++ [c]) (r + 1) := by
  have s : ∀ b : List Nat, b <:+ l ++ [c] → b.all isDig = true → (b.length : Int) ≤ r + 1 := fun b hb hd => by
    rcases List.suffix_concat_iff.mp hb with rfl | ⟨t, rfl, ht⟩
    · have := h.lo
      show (0 : Int) ≤ _
      omega
    · rw [List.all_append, Bool.and_eq_true] at hd
      have := h.suf t ht hd.1
      rw [List.length_append]
      simp only [List.length_cons, List.length_nil]
      omega
  refine ⟨hr, by have := h.lo; omega, fun b hb hd => ?_, s⟩
  rcases List.infix_concat_iff.mp hb with hb | hb
  · have := s b hb hd
    omega
  · exact h.all b hb hd
theorem LongI.non {l : List Nat} {r : Int} {c : Nat} (h : LongI l r) (hc : isDig c = false) : LongI (l ++ [c]) 0 := by
  have s : ∀ b : List Nat, b <:+ l ++ [c] → b.all isDig = true → (b.length : Int) ≤ 0 := fun b hb hd => by
    rcases List.suffix_concat_iff.mp hb with rfl | ⟨t, rfl, ht⟩
    · exact Int.le_refl _
    · rw [List.all_append, Bool.and_eq_true] at hd
      have h2 := hd.2
      rw [List.all_cons, hc] at h2
      cases h2
  refine ⟨by decide, by decide, fun b hb hd => ?_, s⟩
  rcases List.infix_concat_iff.mp hb with hb | hb
  · have := s b hb hd
    omega
  · exact h.all b hb hd
theorem ok__law_is_long (T : Txt K mg) : G P w K mg base CX0 1 "_law_is_long" ["_law_text"] (sp__law_is_long K) := by
  obtain ⟨fd, F⟩ := T.fn__law_is_long
  refine ⟨_, fd, T.glo__law_is_long, F.kp, F.ok sc__law_is_long (fun vs H Q E h => by first | (obtain ⟨rfl, _⟩ := h; rfl) | (obtain ⟨_, rfl, _⟩ := h; rfl) | (obtain ⟨_, _, rfl, _⟩ := h; rfl) | (obtain ⟨_, _, _, rfl, _⟩ := h; rfl) | (obtain ⟨_, _, _, _, rfl, _⟩ := h; rfl) | (obtain ⟨_, _, _, _, _, rfl, _⟩ := h; rfl) | (obtain ⟨_, _, _, _, _, _, rfl, _⟩ := h; rfl) | (obtain ⟨_, _, _, _, _, _, _, rfl, _⟩ := h; rfl) | (obtain ⟨_, _, _, _, _, _, _, _, rfl, _⟩ := h; rfl)) (fun cdv A outer s H vs Q E hr h => ?_), F.bindsN fun _ _ _ _ _ _ us hl => match us, hl with | [_], _ => rfl⟩
  obtain ⟨t, rfl, q⟩ := h
  refine ⟨_, PSs.nox (pss_cons (ps_set (i := 1) sc__law_is_long.nd rfl (Or.inl rfl) pe_int)
    (pss_cons (ps_for PassesOwn.never rfl (pi_str (pv 0)) (pg_name (i := 2) sc__law_is_long.nd rfl (Or.inl rfl)) (pss_cons (ps_set (i := 1) sc__law_is_long.nd rfl (Or.inl rfl) (pe_op op_add (pv 1) pe_int))
    (pss_cons (ps_if (pt_cmpR op_notIn_sign (pv 2) pe_str (by rfl)) (pss_one (ps_set (i := 1) sc__law_is_long.nd rfl (Or.inl rfl) pe_int)) pss_nil)
    (pss_one (ps_if (pt_cmpR op_gt (pv 1) pe_int (nomark _)) (pss_one (ps_ret pe_bl)) pss_nil)))))
    (pss_one (ps_ret pe_bl)))), ?_⟩
  refine ⟨_, rfl, t, rfl, ?_⟩
  refine for_it walk_str (fun i σ H' => H' = H ∧ ∃ (r : Int) (s1 : Option V), σ = [some (V.str t), some (.int r), s1] ∧ LongI ((tl t).take i) r) ⟨rfl, 0, none, rfl, by rw [List.take_zero]; exact .nil⟩ (fun _ _ _ _ _ => True.intro) ?_ ?_
  · rintro i x σ H1 H2 hi ⟨rfl, r, s1, rfl, hI⟩ ⟨rfl, c1, hc1, rfl⟩
    have hc2 : (tl t)[i]? = some c1 := by rw [← hc1]; exact Array.getElem?_toList
    have ht := take_more hc2
    refine ⟨_, rfl, _, _, rfl, rfl, ?_⟩
    refine ⟨_, rfl, c1, _, rfl, rfl, _, rfl, ?_⟩
    rw [nmem_dig]
    cases ed : isDig c1 with
    | false =>
      refine iteT ⟨_, rfl, _, _, rfl, rfl, _, rfl, iteF ⟨rfl, 0, _, rfl, ?_⟩⟩
      rw [ht]
      exact hI.non ed
    | true =>
      refine iteF ⟨_, rfl, _, _, rfl, rfl, _, rfl, ?_⟩
      by_cases c : (40 : Int) < r + 1
      · rw [decide_eq_true c]
        exact iteT (q true fun z => by cases z)
      · rw [decide_eq_false c]
        refine iteF ⟨rfl, r + 1, _, rfl, ?_⟩
        rw [ht]
        exact hI.dig (by omega)
  · rintro σ H1 ⟨rfl, r, s1, rfl, hI⟩
    have e : t.cps.size = (tl t).length := by rw [← TL.len_tl] <;> rfl
    rw [e, List.take_of_length_le (Nat.le_refl _)] at hI
    exact q false fun _ b hb hd => Nat.le_trans (hI.all b hb hd) (by decide)
/-! ### alike -/
mutual
def dep : PyData → Nat
  | .list ds => deps ds + 1
  | .tuple ds => deps ds + 1
  | _ => 0
def deps : List PyData → Nat
  | [] => 0
  | d :: ds => max (dep d) (deps ds)
end
theorem dep_mem : ∀ {ds : List PyData} {d : PyData}, d ∈ ds → dep d ≤ deps ds
  | e :: ds, d, h => by
    rw [deps]
    rcases List.mem_cons.mp h with rfl | h
    · exact Nat.le_max_left ..
    · exact Nat.le_trans (dep_mem h) (Nat.le_max_right ..)
mutual
def wid : PyData → Nat
  | .list ds => max ds.length (wids ds)
  | .tuple ds => max ds.length (wids ds)
  | _ => 0
def wids : List PyData → Nat
  | [] => 0
  | d :: ds => max (wid d) (wids ds)
end
theorem wid_mem : ∀ {ds : List PyData} {d : PyData}, d ∈ ds → wid d ≤ wids ds
  | e :: ds, d, h => by
    rw [wids]
    rcases List.mem_cons.mp h with rfl | h
    · exact Nat.le_max_left ..
    · exact Nat.le_trans (wid_mem h) (Nat.le_max_right ..)
theorem wid_items {d : PyData} (h : isRowD d = true) : (itemsD d).length ≤ wid d ∧ wids (itemsD d) ≤ wid d ∧ deps (itemsD d) < dep d := by
  cases d with
  | list ds =>
    show ds.length ≤ wid (.list ds) ∧ wids ds ≤ wid (.list ds) ∧ deps ds < dep (.list ds)
    rw [wid, dep]
    omega
  | tuple ds =>
    show ds.length ≤ wid (.tuple ds) ∧ wids ds ≤ wid (.tuple ds) ∧ deps ds < dep (.tuple ds)
    rw [wid, dep]
    omega
  | _ => cases h
theorem leaf_of {K : PySem.W.Frag} {H : Hp} {v u : V} {d : PyData} (hv : Dp K H v d) (hu : Dp K H u d) (h : isRowD d = false) : u = v ∧ scal v v = true := by
  cases hv with
  | non => cases hu; exact ⟨rfl, rfl⟩
  | bl b => cases hu; exact ⟨rfl, rfl⟩
  | int b => cases hu; exact ⟨rfl, rfl⟩
  | str b => cases hu; exact ⟨rfl, rfl⟩
  | lst _ _ => cases h
  | tup _ _ => cases h
theorem kit2 {K : PySem.W.Frag} {t A B : String} {a b : Bool} (ha : kitB t A = some a) (hb : kitB t B = some b) : PySem.W.kitAny K (.type t) [.type A, .type B] = some (a || b) := by
  refine kitAny_cons (kit_ty ha) (fun e => kitAny_cons (kit_ty hb) (fun e2 => ?_) fun e2 => ?_) (fun e => ?_)
  · rw [e, e2]
    exact kitAny_nil
  · rw [e, e2] <;> rfl
  · rw [e] <;> rfl
def sp__law_alike (K : PySem.W.Frag) (n : Nat) : Sp := fun vs H Q _ => ∃ (v u : V) (d : PyData), vs = [v, u] ∧ Dp K H v d ∧ Dp K H u d ∧ wid d < 900000 ∧ dep d < n ∧ RetS H Q (.bl true)
theorem no__law_alike {vs : List V} {H : Hp} {Q : VK} {E : XK} (h : sp__law_alike K 0 vs H Q E) : False := by
  obtain ⟨_, _, _, _, _, _, _, z, _⟩ := h
  omega
theorem ok0__law_alike (T : Txt K mg) : G P w K mg base CX0 (0 + 1) "_law_alike" ["_law_told", "_law_due"] (sp__law_alike K 0) := by
  obtain ⟨fd, F⟩ := T.fn__law_alike
  refine ⟨_, fd, T.glo__law_alike, F.kp, F.ok sc__law_alike (fun vs H Q E h => by first | (obtain ⟨rfl, _⟩ := h; rfl) | (obtain ⟨_, rfl, _⟩ := h; rfl) | (obtain ⟨_, _, rfl, _⟩ := h; rfl) | (obtain ⟨_, _, _, rfl, _⟩ := h; rfl) | (obtain ⟨_, _, _, _, rfl, _⟩ := h; rfl) | (obtain ⟨_, _, _, _, _, rfl, _⟩ := h; rfl) | (obtain ⟨_, _, _, _, _, _, rfl, _⟩ := h; rfl) | (obtain ⟨_, _, _, _, _, _, _, rfl, _⟩ := h; rfl) | (obtain ⟨_, _, _, _, _, _, _, _, rfl, _⟩ := h; rfl)) (fun cdv A outer s H vs Q E hr h => ?_), F.bindsN fun _ _ _ _ _ _ us hl => match us, hl with | [_, _], _ => rfl⟩
  exact (no__law_alike h).elim
theorem okS__law_alike (T : Txt K mg) (n : Nat) (g__law_alike : G P w K mg base CX0 (n + 1) "_law_alike" ["_law_told", "_law_due"] (sp__law_alike K n)) : G P w K mg base CX0 (n + 1 + 1) "_law_alike" ["_law_told", "_law_due"] (sp__law_alike K (n + 1)) := by
  obtain ⟨fd, F⟩ := T.fn__law_alike
  refine ⟨_, fd, T.glo__law_alike, F.kp, F.ok sc__law_alike (fun vs H Q E h => by first | (obtain ⟨rfl, _⟩ := h; rfl) | (obtain ⟨_, rfl, _⟩ := h; rfl) | (obtain ⟨_, _, rfl, _⟩ := h; rfl) | (obtain ⟨_, _, _, rfl, _⟩ := h; rfl) | (obtain ⟨_, _, _, _, rfl, _⟩ := h; rfl) | (obtain ⟨_, _, _, _, _, rfl, _⟩ := h; rfl) | (obtain ⟨_, _, _, _, _, _, rfl, _⟩ := h; rfl) | (obtain ⟨_, _, _, _, _, _, _, rfl, _⟩ := h; rfl) | (obtain ⟨_, _, _, _, _, _, _, _, rfl, _⟩ := h; rfl)) (fun cdv A outer s H vs Q E hr h => ?_), F.bindsN fun _ _ _ _ _ _ us hl => match us, hl with | [_, _], _ => rfl⟩
  obtain ⟨v, u, d, rfl, hv, hu, hsh, hd, q⟩ := h
  refine ⟨_, PSs.nox (pss_cons (ps_if (pt_val (pe_callB call_isiT (by rfl) T.free_isinstance (by decide +kernel) (pa_cons (pv 1) (pa_cons (pe_tup (pa_cons (pe_ty (T := "list") T.free_list (by decide +kernel)) (pa_cons (pe_ty (T := "tuple") T.free_tuple (by decide +kernel)) pa_nil))) pa_nil)))) (pss_cons (ps_if (PW.pt (pw_or (pt_not (pt_val (pe_callB call_isiT (by rfl) T.free_isinstance (by decide +kernel) (pa_cons (pv 0) (pa_cons (pe_tup (pa_cons (pe_ty (T := "list") T.free_list (by decide +kernel)) (pa_cons (pe_ty (T := "tuple") T.free_tuple (by decide +kernel)) pa_nil))) pa_nil))))) (pw_or1 (pt_cmpR op_ne (pe_callB call_isi (by rfl) T.free_isinstance (by decide +kernel) (pa_cons (pv 0) (pa_cons (pe_ty (T := "list") T.free_list (by decide +kernel)) pa_nil))) (pe_callB call_isi (by rfl) T.free_isinstance (by decide +kernel) (pa_cons (pv 1) (pa_cons (pe_ty (T := "list") T.free_list (by decide +kernel)) pa_nil))) (nomark _))))) (pss_one (ps_ret pe_bl)) pss_nil)
    (pss_one (ps_ret (pe_and (pe_cmpR op_eq (pe_callB call_len_seq (by rfl) T.free_len (by decide +kernel) (pa_cons (pv 0) pa_nil)) (pe_callB call_len_seq (by rfl) T.free_len (by decide +kernel) (pa_cons (pv 1) pa_nil)) (nomark _)) (pe_one (pe_callB (cr_all rfl) (by rfl) T.free_all (by decide +kernel) (pa_cons (pe_lc (own := [("_law_k", 2)]) (g := gName 2) (tt := tYes) rfl sc__law_alike.nd (pi_range1 (by rfl) T.free_range (pa_cons (pe_callB call_len_seq (by rfl) T.free_len (by decide +kernel) (pa_cons (pv 1) pa_nil)) pa_nil)) (blkOk_by (own := [("_law_k", 2)]) (N := N__law_alike) (sc := defScope s__law_alike) (by decide +kernel)) (fun _ _ _ _ _ => (pg_name (i := 2) sc__law_alike.nd rfl (Or.inl rfl))) (fun _ _ _ _ _ => pts_nil) (fun _ _ _ _ _ => (pe_g g__law_alike hr pass0 (pa_cons (pe_ix (ix_rowK (K := K) rfl) (pv 0) (pv 2) (fun _ _ => rfl)) (pa_cons (pe_ix (ix_rowK (K := K) rfl) (pv 1) (pv 2) (fun _ _ => rfl)) pa_nil))))) pa_nil))))))) pss_nil)
    (pss_one (ps_ret (pe_and (pe_cmpR op_eq (pe_callB call_isi (by rfl) T.free_isinstance (by decide +kernel) (pa_cons (pv 0) (pa_cons (pe_ty (T := "bool") T.free_bool (by decide +kernel)) pa_nil))) (pe_callB call_isi (by rfl) T.free_isinstance (by decide +kernel) (pa_cons (pv 1) (pa_cons (pe_ty (T := "bool") T.free_bool (by decide +kernel)) pa_nil))) (nomark _)) (pe_one (pe_cmpR op_eq (pv 0) (pv 1) (nomark _))))))), ?_⟩
  refine ⟨_, rfl, by show 2 ≤ sizeLine; decide, fun p hp => ?_⟩
  have e1 : Same H (upd H p (.tup [.ty "list", .ty "tuple"])) := same_new hp
  refine ⟨_, p, _, _, _, _, rfl, upd_same, .cons (.ty _) (.cons (.ty _) .nil), tyX_of (Dp.mono e1 d _ hu), kit2 (isiL_is d) (isiT_is d), _, rfl, ?_⟩
  cases er : (isiL d || isiT d) with
  | false =>
    refine iteF ?_
    obtain ⟨rfl, hs⟩ := leaf_of hv hu er
    refine ⟨_, rfl, _, _, _, _, _, rfl, .ty _, tyX_of (Dp.mono e1 d _ hu), kit_ty (isiB_is d), _, rfl, _, _, _, _, _, rfl, .ty _, tyX_of (Dp.mono e1 d _ hu), kit_ty (isiB_is d), rfl, _, rfl, ?_⟩
    rw [decide_eq_true (show V.bl (isiB d) = V.bl (isiB d) from rfl)]
    refine iteT ⟨_, rfl, _, rfl, hs, ?_⟩
    rw [decide_eq_true rfl]
    exact q _ e1
  | true =>
    refine iteT ?_
    refine ⟨_, rfl, by show 2 ≤ sizeLine; decide, fun p2 hp2 => ?_⟩
    have e2 : Same H (upd (upd H p (.tup [.ty "list", .ty "tuple"])) p2 (.tup [.ty "list", .ty "tuple"])) := e1.trans (same_new hp2)
    refine ⟨_, p2, _, _, _, _, rfl, upd_same, .cons (.ty _) (.cons (.ty _) .nil), tyX_of (Dp.mono e2 d _ hv), kit2 (isiL_is d) (isiT_is d), _, rfl, ?_⟩
    rw [er]
    refine iteF ?_
    generalize upd (upd H p (.tup [.ty "list", .ty "tuple"])) p2 (.tup [.ty "list", .ty "tuple"]) = H2 at e2 ⊢
    refine ⟨_, rfl, _, _, _, _, _, rfl, .ty _, tyX_of (Dp.mono e2 d _ hv), kit_ty (isiL_is d), _, rfl, _, _, _, _, _, rfl, .ty _, tyX_of (Dp.mono e2 d _ hu), kit_ty (isiL_is d), rfl, _, rfl, ?_⟩
    rw [decide_eq_true (show V.bl (isiL d) = V.bl (isiL d) from rfl)]
    refine iteF ?_
    obtain ⟨a, xs, rfl, hx, hs⟩ := row_of (Dp.mono e2 d _ hv) er
    obtain ⟨b, ys, rfl, hy, ht⟩ := row_of (Dp.mono e2 d _ hu) er
    obtain ⟨w1, w2, w3⟩ := wid_items er
    have lx := DpAll.len hx
    have ly := DpAll.len hy
    refine ⟨_, rfl, a, xs, rfl, hs, _, rfl, b, ys, rfl, ht, rfl, _, rfl, ?_⟩
    rw [decide_eq_true (by rw [lx, ly])]
    refine iteT ?_
    refine ⟨_, rfl, b, ys, rfl, ht, _, rfl, by omega, by omega, ?_⟩
    intro D hD
    refine lc_it walk_range (PvS H2 D fun i => .bl true) (PvS.z hD) (fun _ _ _ _ => True.intro) (fun i x H3 H4 hi p3 y => ?_) (fun H3 p3 => ?_)
    · obtain ⟨rfl, rfl⟩ := y
      have hi2 : i < (itemsD d).length := by
        have : ((ys.length : Nat) : Int).toNat = ys.length := Int.toNat_natCast _
        omega
      have hdi : (itemsD d)[i]? = some (itemsD d)[i] := List.getElem?_eq_getElem hi2
      obtain ⟨vi, hvi, hvd⟩ := DpAll.at hx hdi
      obtain ⟨ui, hui, hud⟩ := DpAll.at hy hdi
      have hm := List.mem_of_getElem? hdi
      have h1 := wid_mem hm
      have h2 := dep_mem hm
      have ai : atI xs (0 + (i : Int)) = some vi := by
        rw [Int.zero_add]
        exact atI_nat hvi
      have bi : atI ys (0 + (i : Int)) = some ui := by
        rw [Int.zero_add]
        exact atI_nat hui
      exact ⟨rfl, _, rfl, _, rfl, a, xs, _, vi, rfl, rfl, hs.elim (fun z => .inl (Same.seq p3.1 z)) (fun z => .inr (Same.sqT p3.1 z)), ai, _, rfl, _, rfl, b, ys, _, ui, rfl, rfl, ht.elim (fun z => .inl (Same.seq p3.1 z)) (fun z => .inr (Same.sqT p3.1 z)), bi,
        _, _, _, rfl, Dp.mono p3.1 _ _ hvd, Dp.mono p3.1 _ _ hud, by omega, by omega, fun H5 e5 => PvS.step hD p3 e5 (by omega) rfl⟩
    · refine ⟨_, List.replicate ys.length true, rfl, SqL.of ?_, ?_⟩
      · rw [p3.2]
        congr 1
        rw [List.map_replicate]
        have e : ((ys.length : Nat) : Int).toNat = ys.length := Int.toNat_natCast _
        rw [e]
        rw [List.map_const', List.length_range]
      · rw [show (List.replicate ys.length true).all id = true by simp]
        exact q _ (e2.trans p3.1)
theorem ok__law_alike (T : Txt K mg) : ∀ n : Nat, G P w K mg base CX0 (n + 1) "_law_alike" ["_law_told", "_law_due"] (sp__law_alike K n)
  | 0 => ok0__law_alike T
  | n + 1 => (show n + 1 + 1 = n + 1 + 1 by omega) ▸ okS__law_alike T n (ok__law_alike T n)
end
end Q
/-! J94: the numbers due, the numbers read, refusals -/
namespace Q
open PySem PySem.Spec PyProof.Rows L2
open TL (tl)
section
variable {P : Program} {w : World} {K : PySem.W.Frag} {mg : Str → Option Value} {base : Heap}
def badD (k : Int) : PyData := .tuple [.str "BadText", .int k]
def toldD (d : PyData) : PyData := .tuple [.str "told", d]
def dueN : Sum Nat (List (Int × Int)) → PyData
  | .inl k => badD k
  | .inr qs => toldD (.tuple (qs.map fr))
theorem optFr_none (o : Option (Int × Int)) : PyData.eqv (optFr o) .none = o.isNone := by
  cases o <;> rfl
theorem canLay_optFr : ∀ l : List (Option (Int × Int)), PyData.canLayAll0 (l.map optFr) = true
  | [] => rfl
  | none :: r => by
    show (true && PyData.canLayAll0 (r.map optFr)) = true
    rw [canLay_optFr r]
    rfl
  | some q :: r => by
    show (true && PyData.canLayAll0 (r.map optFr)) = true
    rw [canLay_optFr r]
    rfl
theorem depth_optFr : ∀ l : List (Option (Int × Int)), PyData.depthAll (l.map optFr) ≤ 2
  | [] => by decide
  | none :: r => by
    have h := depth_optFr r
    show max (PyData.depth .none) (PyData.depthAll (r.map optFr)) ≤ 2
    have h2 : PyData.depth .none ≤ 2 := by decide
    omega
  | some q :: r => by
    have h := depth_optFr r
    show max (PyData.depth (fr q)) (PyData.depthAll (r.map optFr)) ≤ 2
    have h2 : PyData.depth (fr q) ≤ 2 := by
      show max (PyData.depth (.int q.1)) (max (PyData.depth (.int q.2)) (PyData.depthAll [])) + 1 ≤ 2
      exact (show max 0 (max 0 0) + 1 ≤ 2 by decide)
    omega
theorem shaped_optFr (l : List (Option (Int × Int))) : SeqAt.shaped (.list (l.map optFr)) = true := by
  unfold SeqAt.shaped
  rw [show PyData.canLay0 (.list (l.map optFr)) = PyData.canLayAll0 (l.map optFr) from rfl, canLay_optFr]
  have h := depth_optFr l
  have h2 : PyData.depth (.list (l.map optFr)) ≤ 64 := by
    show PyData.depthAll (l.map optFr) + 1 ≤ 64
    omega
  rw [decide_eq_true h2]
  rfl
theorem optL {α : Type} : ∀ l : List (Option α), (∃ qs : List α, l = qs.map some) ∨ ∃ (j : Nat) (qs : List α), l.take j = qs.map some ∧ l[j]? = some none
  | [] => .inl ⟨[], rfl⟩
  | none :: r => .inr ⟨0, [], rfl, rfl⟩
  | some q :: r => by
    rcases optL r with ⟨qs, e⟩ | ⟨j, qs, e1, e2⟩
    · exact .inl ⟨q :: qs, by rw [e] <;> rfl⟩
    · exact .inr ⟨j + 1, q :: qs, by rw [List.take_succ_cons, e1] <;> rfl, e2⟩
theorem any_none (l : List (Option (Int × Int))) : ((l.map optFr).any fun z => PyData.eqv z .none) = l.any (·.isNone) := by
  rw [List.any_map]
  congr 1
  funext o
  exact optFr_none o
/-- a tuple of two, just laid -/
theorem two_new {K : PySem.W.Frag} {F H F1 H1 : Hp} {p : Addr} {v u : V} {d e : PyData} (m : Mv P0 F H F1 H1) (hp : H1 p = none) (hv : Dp K F1 v d) (hu : Dp K F1 u e) :
    Mv P0 F H (upd F1 p (.tup [v, u])) (upd H1 p (.tup [v, u])) ∧ Dp K (upd F1 p (.tup [v, u])) (.ref p) (.tuple [d, e]) :=
  have hF := (Mv.nw (o := .tup [v, u]) (Mv.refl m.k) hp).f
  ⟨m.nw hp, .tup (SqT.of upd_same) (.cons (Dp.mono hF _ _ hv) (.cons (Dp.mono hF _ _ hu) .nil))⟩
def sp__law_numbers_due (K : PySem.W.Frag) : Sp := fun vs H Q _ => ∃ (t : Str) (F : Hp), vs = [.str t] ∧ Same F H ∧ t.length < 800000 ∧ Runs (tl t) ∧ RetD K F H Q (dueN (readNums (tl t)))
theorem ok__law_numbers_due (T : Txt K mg) : G P w K mg base CX0 3 "_law_numbers_due" ["_law_text"] (sp__law_numbers_due K) := by
  obtain ⟨fd, F⟩ := T.fn__law_numbers_due
  have g__law_read_word := ok__law_read_word (P := P) (w := w) (base := base) T
  refine ⟨_, fd, T.glo__law_numbers_due, F.kp, F.ok sc__law_numbers_due (fun vs H Q E h => by first | (obtain ⟨rfl, _⟩ := h; rfl) | (obtain ⟨_, rfl, _⟩ := h; rfl) | (obtain ⟨_, _, rfl, _⟩ := h; rfl) | (obtain ⟨_, _, _, rfl, _⟩ := h; rfl) | (obtain ⟨_, _, _, _, rfl, _⟩ := h; rfl) | (obtain ⟨_, _, _, _, _, rfl, _⟩ := h; rfl) | (obtain ⟨_, _, _, _, _, _, rfl, _⟩ := h; rfl) | (obtain ⟨_, _, _, _, _, _, _, rfl, _⟩ := h; rfl) | (obtain ⟨_, _, _, _, _, _, _, _, rfl, _⟩ := h; rfl)) (fun cdv A outer s H vs Q E hr h => ?_), F.bindsN fun _ _ _ _ _ _ us hl => match us, hl with | [_], _ => rfl⟩
  obtain ⟨t, F, rfl, k0, hl, hr0, q⟩ := h
  refine ⟨_, PSs.nox (pss_cons (ps_if (pt_cmpR op_eq (pv 0) pe_str (nomark _)) (pss_one (ps_ret (pe_tup (pa_cons pe_str (pa_cons (pe_tup pa_nil) pa_nil))))) pss_nil)
    (pss_cons (ps_set (i := 1) sc__law_numbers_due.nd rfl (Or.inl rfl) (pe_split (pv 0) pe_str))
    (pss_cons (ps_setLc (i := 2) (own := [("_law_word_here", 3)]) (g := gName 3) (tt := tYes) rfl sc__law_numbers_due.nd rfl rfl (sw_true rfl rfl rfl (by decide +kernel)) (pi_list (pv 1)) (blkOk_by (own := [("_law_word_here", 3)]) (N := N__law_numbers_due) (sc := defScope s__law_numbers_due) (by decide +kernel)) (fun _ _ _ _ _ => (pg_name (i := 3) sc__law_numbers_due.nd rfl (Or.inl rfl))) (fun _ _ _ _ _ => pts_nil) (fun _ _ _ _ _ => (pe_g g__law_read_word hr pass0 (pa_cons (pv 3) pa_nil))))
    (pss_cons (ps_if (pt_cmpR (op_inD (Room.units65 hr)) pe_non (pv 2) (by rfl)) (pss_one (ps_ret (pe_tup (pa_cons pe_str (pa_cons (pe_op op_add pe_int (pe_bm PySem.F.plainAttrs_list PySem.F.slot_list_index PySem.F.type_list_index (mt_indexD (Room.units65 hr)) (pv 2) (pa_cons pe_non pa_nil))) pa_nil))))) pss_nil)
    (pss_one (ps_ret (pe_tup (pa_cons pe_str (pa_cons (pe_callTy call_tuple_of (by rfl) T.free_tuple (by decide +kernel) (pa_cons (pv 2) pa_nil)) pa_nil))))))))), ?_⟩
  refine ⟨_, rfl, rfl, _, rfl, ?_⟩
  rw [dstr, show tl "" = [] by decide +kernel]
  by_cases c : tl t = []
  · rw [decide_eq_true c]
    refine iteT ?_
    refine ⟨by show 0 ≤ sizeLine; exact Nat.zero_le _, fun p hp => ⟨by show 2 ≤ sizeLine; decide, fun p2 hp2 => ?_⟩⟩
    rw [show readNums (tl t) = .inr [] by unfold readNums; rw [if_pos c]] at q
    have m1 : Mv P0 F H (upd F p (.tup [])) (upd H p (.tup [])) := (Mv.refl k0).nw hp
    obtain ⟨m2, hd⟩ := two_new (K := K) (v := .str "told") (u := .ref p) m1 hp2 (.str _) (.tup (SqT.of upd_same) .nil)
    exact q _ _ _ m2 hd
  · rw [decide_eq_false c]
    refine iteF ?_
    refine ⟨_, rfl, ⟨_, rfl⟩, _, _, rfl, rfl, rfl, szle (by omega), fun p hp => ?_⟩
    have hsp : (Txt.split t " ").map tl = splitL 32 (tl t) := TL.split_spl t " " (by decide +kernel) (TL.kind_ok (by decide +kernel))
    have m0 : Mv P0 F H F (upd H p (.lst ((Txt.split t " ").map V.str))) := (Mv.refl k0).own hp
    generalize hps : Txt.split t " " = ps at hsp m0 ⊢
    have hL : (upd H p (.lst (ps.map V.str))) p = some (.lst (ps.map V.str)) := upd_same
    generalize upd H p (.lst (ps.map V.str)) = H1 at hL m0 ⊢
    have inf : ∀ a ∈ ps, Runs (tl a) ∧ a.length < 900000 := fun a ha => by
      have h1 : tl a ∈ splitL 32 (tl t) := by
        rw [← hsp]
        exact List.mem_map_of_mem ha
      have h2 := splitL_infix h1
      refine ⟨hr0.sub h2, ?_⟩
      have h3 := h2.length_le
      rw [TL.len_tl] at hl ⊢
      omega
    have hlen : ps.length < 900000 := by
      have h1 := splitL_len 32 (tl t) []
      have h2 := congrArg List.length hsp
      unfold splitL at h2
      rw [List.length_map] at h2
      rw [TL.len_tl] at hl
      omega
    have er : readNums (tl t) = readW 0 (ps.map tl) := by
      unfold readNums
      rw [if_neg c, hsp]
    rw [er] at q
    refine ⟨_, rfl, p, rfl, ⟨_, SqL.of hL⟩, fun D hD => lc_it walk_list (PvD K F H1 D fun i => (ps.take i).map fun u => optFr (wordFrac (tl u))) (PvD.z (Mv.refl m0.k) hD rfl) (fun i H' _ ⟨_, _, z, _⟩ => SqL.of (z.h _ _ hL fun z => z)) (fun i x H3 H4 hi pv y => ?_) (fun H3 pv => ?_)⟩
    · obtain ⟨rfl, hx0⟩ := y
      obtain ⟨u, hu, rfl⟩ : ∃ u, ps[i]? = some u ∧ x = V.str u := by
        rw [List.getElem?_map] at hx0
        cases e : ps[i]? with
        | none =>
          rw [e] at hx0
          cases hx0
        | some u =>
          rw [e] at hx0
          exact ⟨u, rfl, (Option.some.inj hx0).symm⟩
      obtain ⟨F', vs, m, hF', hl', ha⟩ := pv
      have iu := inf u (List.mem_of_getElem? hu)
      refine ⟨rfl, _, rfl, u, F', rfl, m.k, iu.2, iu.1, fun v3 F3 H5 m3 hv3 => ?_⟩
      refine PvD.step hD m hF' hl' ha m3 hv3 ?_ ?_
      · rw [List.length_map, List.length_take]
        omega
      · rw [take_more hu, List.map_append] <;> rfl
    · obtain ⟨F', vs, m, hF', hl', ha⟩ := pv
      have ha : DpAll K F' vs (ps.map fun u => optFr (wordFrac (tl u))) := by
        have z := ha
        rw [List.length_map] at z
        have z2 : (ps.take ps.length) = ps := List.take_of_length_le (Nat.le_refl _)
        rw [← z2]
        exact z
      have m1 := m0.tr m
      have e0 : (ps.map fun u => optFr (wordFrac (tl u))) = ((ps.map tl).map wordFrac).map optFr := by
        rw [List.map_map, List.map_map]
        rfl
      rw [e0] at ha
      generalize hws : (ps.map tl) = ws at ha e0 q
      have hd : Dp K H3 (.ref D) (.list ((ws.map wordFrac).map optFr)) := .lst (SqL.of hl') (DpAll.mono m.k _ _ ha)
      refine ⟨_, rfl, _, _, .non, hd, rfl, shaped_optFr _, _, rfl, ?_⟩
      rw [any_none]
      rcases optL (ws.map wordFrac) with ⟨qs, eq⟩ | ⟨j, qs, eq1, eq2⟩
      · rw [show (ws.map wordFrac).any (·.isNone) = false by rw [eq]; simp]
        refine iteF ⟨_, rfl, _, _, rfl, .inl ⟨SqL.of hl', fun p2 hp2 => ?_⟩⟩
        refine ⟨by show 2 ≤ sizeLine; decide, fun p3 hp3 => ?_⟩
        rw [readW_ok eq] at q
        have e3 : (ws.map wordFrac).map optFr = qs.map fr := by
          rw [eq, List.map_map]
          rfl
        rw [e3] at ha
        have m2 := m1.nw (o := .tup vs) hp2
        obtain ⟨m3, hd3⟩ := two_new (K := K) (v := .str "told") (u := .ref p2) m2 hp3 (.str _) (.tup (ds := qs.map fr) (SqT.of upd_same) (DpAll.mono (Mv.nw (Mv.refl m1.k) hp2).f _ _ ha))
        exact q _ _ _ m3 hd3
      · have hj : j < (ws.map wordFrac).length := (List.getElem?_eq_some_iff.mp eq2).1
        rw [show (ws.map wordFrac).any (·.isNone) = true by exact List.any_eq_true.mpr ⟨none, List.mem_of_getElem? eq2, rfl⟩]
        obtain ⟨wj, hwj, ewj⟩ : ∃ wj, ws[j]? = some wj ∧ wordFrac wj = none := by
          rw [List.getElem?_map] at eq2
          cases e : ws[j]? with
          | none =>
            rw [e] at eq2
            cases eq2
          | some u =>
            rw [e] at eq2
            exact ⟨u, rfl, Option.some.inj eq2⟩
        rw [readW_bad (by rw [← List.map_take] at eq1; exact eq1) hwj ewj] at q
        refine iteT ⟨_, rfl, .inl ⟨rfl, _, SqL.of hl'⟩, D, _, _, _, j, .none, rfl, rfl, hd, .non, shaped_optFr _, rfl, ?_, rfl, ?_, ?_⟩
        · rw [List.getElem?_map, eq2]
          rfl
        · intro m z' hm hz
          rw [List.getElem?_map] at hz
          have h1 : (ws.map wordFrac)[m]? = ((ws.map wordFrac).take j)[m]? := by rw [List.getElem?_take, if_pos hm]
          rw [h1, eq1, List.getElem?_map] at hz
          cases e : qs[m]? with
          | none =>
            rw [e] at hz
            cases hz
          | some u =>
            rw [e] at hz
            have e5 : fr u = z' := Option.some.inj hz
            rw [← e5]
            rfl
        · refine ⟨_, _, rfl, rfl, by show 2 ≤ sizeLine; decide, fun p3 hp3 => ?_⟩
          have e5 : (1 : Int) + ((j : Nat) : Int) = ((j + 1 : Nat) : Int) := by omega
          obtain ⟨m3, hd3⟩ := two_new (K := K) (v := .str "BadText") (u := .int (1 + (j : Int))) (e := .int ((j + 1 : Nat) : Int)) m1 hp3 (.str _) (by rw [e5]; exact .int _)
          exact q _ _ _ m3 hd3
def TB__law_numbers_read (K : PySem.W.Frag) : WX → TS := fun W => tAsg (tTup (tCons (tC (.str "told")) (tCons (fun σ H Q => tCallK1 (sp_read_numbers K) (WE W σ) (tCons (tVar 0) tNil) σ H Q) tNil))) (gName 1)
def TS__law_numbers_read (K : PySem.W.Frag) : Addr → Value → Option Addr → TS := fun a cls d => tAsg (tTup (tCons (tC (.str "BadText")) (tCons (tXf a cls d (He.ga K "BadText") "at" (tVar 2)) tNil))) (gName 1)
def sp__law_numbers_read (K : PySem.W.Frag) : Sp := fun vs H Q _ => ∃ (v : V) (d : PyData) (F : Hp), vs = [v] ∧ Same F H ∧ Dx K F v d ∧ (isiS d = false → RetD K F H Q (badD 0)) ∧
  (∀ t, d = .str t → t.length < 800000 ∧ Runs (tl t) ∧ RetD K F H Q (dueN (readNums (tl t))))
theorem ok__law_numbers_read (T : Txt K mg) : G P w K mg base CX0 5 "_law_numbers_read" ["_law_text"] (sp__law_numbers_read K) := by
  obtain ⟨fd, F⟩ := T.fn__law_numbers_read
  have g_read_numbers := ok_read_numbers (P := P) (w := w) (base := base) T
  have gk_read_numbers := gk_read_numbers (P := P) (w := w) (base := base) T
  refine ⟨_, fd, T.glo__law_numbers_read, F.kp, F.ok sc__law_numbers_read (fun vs H Q E h => by first | (obtain ⟨rfl, _⟩ := h; rfl) | (obtain ⟨_, rfl, _⟩ := h; rfl) | (obtain ⟨_, _, rfl, _⟩ := h; rfl) | (obtain ⟨_, _, _, rfl, _⟩ := h; rfl) | (obtain ⟨_, _, _, _, rfl, _⟩ := h; rfl) | (obtain ⟨_, _, _, _, _, rfl, _⟩ := h; rfl) | (obtain ⟨_, _, _, _, _, _, rfl, _⟩ := h; rfl) | (obtain ⟨_, _, _, _, _, _, _, rfl, _⟩ := h; rfl) | (obtain ⟨_, _, _, _, _, _, _, _, rfl, _⟩ := h; rfl)) (fun cdv A outer s H vs Q E hr h => ?_), F.bindsN fun _ _ _ _ _ _ us hl => match us, hl with | [_], _ => rfl⟩
  obtain ⟨v, d, F, rfl, k0, hd, qn, qy⟩ := h
  refine ⟨_, PSs.nox (pss_cons (ps_set (i := 1) sc__law_numbers_read.nd rfl (Or.inl rfl) pe_non)
    (pss_cons (ps_try_as (i := 2) (tb := TB__law_numbers_read K) (ts := TS__law_numbers_read K) (Wout := fun _ _ _ _ => False) rfl rfl sc__law_numbers_read.nd rfl rfl ⟨rfl, by decide, Or.inl T.glo_BadText⟩ takes0
      (fun W pn xe tk _ => (pss_one (ps_set (i := 1) sc__law_numbers_read.nd rfl (Or.inl rfl) (pe_tup (pa_cons pe_str (pa_cons (pe_gkS gk_read_numbers hr (fun σ => passAt tk σ) (pk_cons (pv 0) pk_nil)) pa_nil))))))
      (fun a oe cls d pn hz hf => (pss_one (ps_set (i := 1) sc__law_numbers_read.nd rfl (Or.inl rfl) (pe_tup (pa_cons pe_str (pa_cons (pe_xf (XfC.of T.excC_BadText) T.noat_BadText_at hz hf (pv 2)) pa_nil)))))))
    (pss_one (ps_ret (pv 1))))), ?_⟩
  have catch' : ∀ (k : Int) (D : Ends), (RetD K F H Q (badD k)) → (∀ σ' H', (∃ (u : V) (F' : Hp), σ' = [some v, some u, none] ∧ Mv P0 F H F' H' ∧ Dp K F' u (badD k)) → D.nx σ' H') →
      Err1 (He.ga K "BadText") "at" (.int k) H (WE (wAs K (.ref (He.ga K "BadText")) 2 (TS__law_numbers_read K) (fun _ _ _ _ => False) D) [some v, some .non, none]) := by
    intro k D q hD dd H' e hdd hxd
    refine ⟨true, T.exm_BadText_BadText, fun _ a ha => ?_, fun q => nomatch q⟩
    refine ⟨_, rfl, rfl, rfl, dd, _, _, rfl, hxd, rfl, by show 2 ≤ sizeLine; decide, fun p hp => ?_⟩
    obtain ⟨m, h⟩ := two_new (K := K) (v := .str "BadText") (u := .int k) ((Mv.refl k0).same e) hp (.str _) (.int _)
    exact hD _ _ ⟨_, _, rfl, m, h⟩
  have after : ∀ (d' : PyData), RetD K F H Q d' → ∀ σ' H', (∃ (u : V) (F' : Hp), σ' = [some v, some u, none] ∧ Mv P0 F H F' H' ∧ Dp K F' u d') → tRet (tVar 1) { nx := fun x H' => Q V.non H', rt := Q } σ' H' := by
    rintro d' q σ' H' ⟨u, F', rfl, m, h⟩
    exact ⟨_, rfl, q _ _ _ m h⟩
  refine ⟨_, rfl, v, d, F, rfl, k0, hd, fun e => catch' 0 _ (qn e) (after _ (qn e)), fun t et => ?_⟩
  obtain ⟨h1, h2, q⟩ := qy t et
  refine ⟨h1, h2, fun k ek => ?_, fun qs ek => fun v1 F1 H1 m1 hv1 => ?_⟩
  · rw [ek] at q
    exact catch' k _ q (after _ q)
  · rw [ek] at q
    refine ⟨by show 2 ≤ sizeLine; decide, fun p hp => ?_⟩
    obtain ⟨m, h⟩ := two_new (K := K) (v := .str "told") (u := v1) m1 hp (.str _) hv1
    exact after _ q _ _ ⟨_, _, rfl, m, h⟩
def TB__law_no_numbers (K : PySem.W.Frag) : WX → TS := fun W => tDrop (tCallS (sp_numbers_text K) (WE W) (tCons (tVar 0) tNil))
/-- isinstance(e, A) and not isinstance(e, B), e of class C -/
def TSno (K : PySem.W.Frag) (C A B : Addr) : Addr → Value → Option Addr → TS := fun a cls d => tAsg (tAndV (tCB (fun xs H Q => cls = .ref C ∧ d = none ∧ rIsE K C a xs H Q) (tCons (tVar 2) (tCons (tC (.ref A)) tNil))) (tNotV (tCB (fun xs H Q => cls = .ref C ∧ d = none ∧ rIsE K C a xs H Q) (tCons (tVar 2) (tCons (tC (.ref B)) tNil))))) (gName 1)
def TS__law_no_numbers (K : PySem.W.Frag) := TSno K (He.ga K "NoNumbers") (He.ga K "FoldError") (He.ga K "NoTree")
def sp__law_no_numbers (K : PySem.W.Frag) : Sp := fun vs H Q _ => ∃ (v : V) (d : PyData), vs = [v] ∧ Dx K H v d ∧ (isRowD d = true → Dp K H v d) ∧ (itemsD d).length ≤ 1000 ∧ numsOK d = false ∧ RetS H Q (.bl true)
theorem ok__law_no_numbers (T : Txt K mg) : G P w K mg base CX0 4 "_law_no_numbers" ["_law_thing"] (sp__law_no_numbers K) := by
  obtain ⟨fd, F⟩ := T.fn__law_no_numbers
  have g_numbers_text := ok_numbers_text (P := P) (w := w) (base := base) T
  have gk_numbers_text := gk_numbers_text (P := P) (w := w) (base := base) T
  refine ⟨_, fd, T.glo__law_no_numbers, F.kp, F.ok sc__law_no_numbers (fun vs H Q E h => by first | (obtain ⟨rfl, _⟩ := h; rfl) | (obtain ⟨_, rfl, _⟩ := h; rfl) | (obtain ⟨_, _, rfl, _⟩ := h; rfl) | (obtain ⟨_, _, _, rfl, _⟩ := h; rfl) | (obtain ⟨_, _, _, _, rfl, _⟩ := h; rfl) | (obtain ⟨_, _, _, _, _, rfl, _⟩ := h; rfl) | (obtain ⟨_, _, _, _, _, _, rfl, _⟩ := h; rfl) | (obtain ⟨_, _, _, _, _, _, _, rfl, _⟩ := h; rfl) | (obtain ⟨_, _, _, _, _, _, _, _, rfl, _⟩ := h; rfl)) (fun cdv A outer s H vs Q E hr h => ?_), F.bindsN fun _ _ _ _ _ _ us hl => match us, hl with | [_], _ => rfl⟩
  obtain ⟨v, d, rfl, hd, hdp, hl, hn, q⟩ := h
  refine ⟨_, PSs.nox (pss_cons (ps_set (i := 1) sc__law_no_numbers.nd rfl (Or.inl rfl) pe_bl)
    (pss_cons (ps_try_as (i := 2) (tb := TB__law_no_numbers K) (ts := TS__law_no_numbers K) (Wout := fun _ _ _ _ => False) rfl rfl sc__law_no_numbers.nd rfl rfl ⟨rfl, by decide, Or.inl T.glo_NoNumbers⟩ takes0
      (fun W pn xe tk _ => (pss_one (ps_expr (pe_gS g_numbers_text hr (fun σ => passAt tk σ) (pa_cons (pv 0) pa_nil)))))
      (fun a oe cls d pn hz hf => (pss_one (ps_set (i := 1) sc__law_no_numbers.nd rfl (Or.inl rfl) (pe_and (pe_callB (call_isE2 T.excC_NoNumbers hz hf) (by rfl) T.free_isinstance (by decide +kernel) (pa_cons (pv 2) (pa_cons (pe_gref T.glo_FoldError) pa_nil))) (pe_one (pe_not (pe_callB (call_isE2 T.excC_NoNumbers hz hf) (by rfl) T.free_isinstance (by decide +kernel) (pa_cons (pv 2) (pa_cons (pe_gref T.glo_NoTree) pa_nil))))))))))
    (pss_one (ps_ret (pv 1))))), ?_⟩
  refine ⟨_, rfl, v, d, rfl, hd, hdp, hl, fun e => ?_, fun _ H1 e1 => ?_⟩
  · rw [hn] at e
    cases e
  · refine ⟨true, T.exm_NoNumbers_NoNumbers, fun _ a ha => ?_, fun q => nomatch q⟩
    refine ⟨_, rfl, rfl, rfl, _, _, _, rfl, fun u hu => hu, T.kit_NoNumbers_FoldError, _, rfl, ?_⟩
    refine iteT ⟨_, rfl, rfl, rfl, _, _, _, rfl, fun u hu => hu, T.kit_NoNumbers_NoTree, _, rfl, ?_⟩
    exact ⟨_, rfl, q _ e1⟩
end
end Q
/-! K94: numbers judged -/
namespace Q
open PySem PySem.Spec PyProof.Rows L2
open TL (tl)
section
variable {P : Program} {w : World} {K : PySem.W.Frag} {mg : Str → Option Value} {base : Heap}
/-! ### sizes -/
theorem wid_fr (q : Int × Int) : wid (fr q) = 2 := by simp [fr, wid, wids]
theorem dep_fr (q : Int × Int) : dep (fr q) = 1 := by simp [fr, dep, deps]
theorem wids_fr : ∀ qs : List (Int × Int), wids (qs.map fr) ≤ 2
  | [] => by rw [List.map_nil, wids]; decide
  | q :: r => by
    rw [List.map_cons, wids, wid_fr]
    have := wids_fr r
    omega
theorem deps_fr : ∀ qs : List (Int × Int), deps (qs.map fr) ≤ 1
  | [] => by rw [List.map_nil, deps]; decide
  | q :: r => by
    rw [List.map_cons, deps, dep_fr]
    have := deps_fr r
    omega
theorem wid_told (qs : List (Int × Int)) (n : Nat) (h : qs.length ≤ n) : wid (toldD (.tuple (qs.map fr))) ≤ n + 2 := by
  have := wids_fr qs
  simp [toldD, wid, wids]
  omega
theorem dep_told (qs : List (Int × Int)) : dep (toldD (.tuple (qs.map fr))) ≤ 3 := by
  have := deps_fr qs
  simp [toldD, dep, deps]
  omega
theorem wid_bad (k : Int) : wid (badD k) ≤ 2 := by simp [badD, wid, wids]
theorem dep_bad (k : Int) : dep (badD k) ≤ 3 := by simp [badD, dep, deps]
theorem readW_len : ∀ (ws : List (List Nat)) (k : Nat) (qs : List (Int × Int)), readW k ws = .inr qs → qs.length = ws.length
  | [], k, qs, h => by
    have e : (Sum.inr [] : Sum Nat (List (Int × Int))) = .inr qs := h
    injection e with e
    rw [← e] <;> rfl
  | w :: ws, k, qs, h => by
    rw [readW_cons] at h
    cases e : wordFrac w with
    | none =>
      rw [e] at h
      cases h
    | some q =>
      rw [e] at h
      cases e2 : readW (k + 1) ws with
      | inl n =>
        rw [e2] at h
        cases h
      | inr r =>
        rw [e2] at h
        have e3 : q :: r = qs := Sum.inr.inj h
        rw [← e3, List.length_cons, List.length_cons, readW_len ws (k + 1) r e2]
theorem wid_due (l : List Nat) : wid (dueN (readNums l)) ≤ l.length + 3 := by
  cases e : readNums l with
  | inl k =>
    have := wid_bad k
    show wid (badD k) ≤ _
    omega
  | inr qs =>
    refine wid_told qs (l.length + 1) ?_
    unfold readNums at e
    by_cases c : l = []
    · rw [if_pos c] at e
      have e3 : [] = qs := Sum.inr.inj e
      rw [← e3]
      exact Nat.zero_le _
    · rw [if_neg c] at e
      rw [readW_len _ _ _ e]
      exact splitL_len 32 l []
theorem dep_due (l : List Nat) : dep (dueN (readNums l)) < 20 := by
  cases e : readNums l with
  | inl k =>
    have := dep_bad k
    show dep (badD k) < _
    omega
  | inr qs =>
    have := dep_told qs
    show dep (toldD (.tuple (qs.map fr))) < 20
    omega
/-! ### what is drawn -/
theorem low_ok {a b : Int} (ha : a.natAbs < 10 ^ 38) (hb : 0 < b) (hb2 : b ≤ 10 ^ 38) : FrOk (lowQ a b) := by
  have hg : 0 < Int.gcd a b := Int.gcd_pos_of_ne_zero_right a (by omega)
  have hgb : (Int.gcd a b : Int) ≤ b := Int.le_of_dvd hb (Int.gcd_dvd_right ..)
  have h2 : 1 ≤ b / (Int.gcd a b : Int) := by
    have := Int.le_ediv_of_mul_le (a := 1) (b := b) (c := (Int.gcd a b : Int)) (by omega) (by omega)
    exact this
  have e38 : (10 : Int) ^ 38 = ((10 ^ 38 : Nat) : Int) := by rw [Int.natCast_pow] <;> rfl
  refine ⟨h2, ?_, ?_, ?_⟩
  · show Int.gcd (a / (Int.gcd a b : Int)) (b / (Int.gcd a b : Int)) = 1
    exact Int.gcd_ediv_gcd_ediv_gcd hg
  · show (a / (Int.gcd a b : Int)).natAbs < 10 ^ 60
    have h3 : (a / (Int.gcd a b : Int)).natAbs ≤ a.natAbs := Int.natAbs_ediv_le_natAbs ..
    exact Nat.lt_of_le_of_lt h3 (Nat.lt_trans ha (by decide))
  · show (b / (Int.gcd a b : Int)).natAbs < 10 ^ 60
    have h3 : (b / (Int.gcd a b : Int)).natAbs ≤ b.natAbs := Int.natAbs_ediv_le_natAbs ..
    refine Nat.lt_of_le_of_lt h3 (Nat.lt_of_le_of_lt (m := 10 ^ 38) ?_ (by decide))
    rw [e38] at hb2
    generalize (10 : Nat) ^ 38 = m at hb2 ⊢
    omega
theorem numsOK_list {qs : List (Int × Int)} (h : ∀ q ∈ qs, FrOk q) : (qs.map fr).all isFrac = true := List.all_eq_true.mpr fun x hx => by
  obtain ⟨q, hq, rfl⟩ := List.mem_map.mp hx
  exact isFrac_fr (h q hq).pos (h q hq).low
theorem numsS_fr (qs : List (Int × Int)) : numsS (qs.map fr) = Txt.join " " (qs.map fracS) := by
  unfold numsS
  rw [List.map_map]
  rfl
/-- the numbers, and the stream -/
structure Nst (K : PySem.W.Frag) (p : Addr) (F H F' H' : Hp) (L : Addr) (qs : List (Int × Int)) : Prop where
  st : Sti p F H
  m : Mv (PP p) F H F' H'
  o : StO F' H' p
  l : Dp K F' (.ref L) (.list (qs.map fr))
  ok : ∀ q ∈ qs, FrOk q
  len : qs.length ≤ 240
theorem Nst.s {p : Addr} {F H F' H' : Hp} {L : Addr} {qs : List (Int × Int)} (n : Nst K p F H F' H' L qs) : Sti p F' H' := n.st.step n.m n.o
theorem Nst.up {p : Addr} {F H F' H' F2 H2 : Hp} {L : Addr} {qs : List (Int × Int)} (n : Nst K p F H F' H' L qs) (m : Mv (PP p) F' H' F2 H2) (o : StO F2 H2 p) : Nst K p F H F2 H2 L qs :=
  ⟨n.st, n.m.trp m n.st.o n.o, o, Dp.mono m.f _ _ n.l, n.ok, n.len⟩
theorem Nst.pure {p : Addr} {F H F' H' F2 H2 : Hp} {L : Addr} {qs : List (Int × Int)} (n : Nst K p F H F' H' L qs) (m : Mv P0 F' H' F2 H2) : Nst K p F H F2 H2 L qs :=
  n.up m.up (n.s.stay m).o
theorem Nst.same {p : Addr} {F H F' H' H2 : Hp} {L : Addr} {qs : List (Int × Int)} (n : Nst K p F H F' H' L qs) (e : Same H' H2) : Nst K p F H F' H2 L qs := n.pure ((Mv.refl n.s.k).same e)
theorem Nst.row {p : Addr} {F H F' H' : Hp} {L : Addr} {qs : List (Int × Int)} (n : Nst K p F H F' H' L qs) : ∃ xs, SqL K H' L xs ∧ DpAll K H' xs (qs.map fr) ∧ SqL K F' L xs ∧ DpAll K F' xs (qs.map fr) ∧ xs.length = qs.length := by
  obtain ⟨p2, xs, e, s, a⟩ := lst_of n.l
  cases e
  exact ⟨xs, Same.seq n.m.k s, DpAll.mono n.m.k _ _ a, s, a, by rw [DpAll.len a, List.length_map]⟩
def sp__law_numbers_judged (K : PySem.W.Frag) : Sp := fun vs H Q _ => ∃ (p : Addr) (F : Hp), vs = [.ref p] ∧ Sti p F H ∧ ∀ F' H', Mv (PP p) F H F' H' → StO F' H' p → Q (.bl true) H'
theorem ok__law_numbers_judged (T : Txt K mg) : G P w K mg base CX0 22 "_law_numbers_judged" ["_law_stream_here"] (sp__law_numbers_judged K) := by
  obtain ⟨fd, F⟩ := T.fn__law_numbers_judged
  have g__law_alike := ok__law_alike (P := P) (w := w) (base := base) T 20
  have g__law_changed := ok__law_changed (P := P) (w := w) (base := base) T
  have g__law_is_long := ok__law_is_long (P := P) (w := w) (base := base) T
  have g__law_low := ok__law_low (P := P) (w := w) (base := base) T
  have g__law_no_numbers := ok__law_no_numbers (P := P) (w := w) (base := base) T
  have g__law_numbers_due := ok__law_numbers_due (P := P) (w := w) (base := base) T
  have g__law_numbers_read := ok__law_numbers_read (P := P) (w := w) (base := base) T
  have g__law_size_drawn := ok__law_size_drawn (P := P) (w := w) (base := base) T
  have g__law_take := ok__law_take (P := P) (w := w) (base := base) T
  have g__law_word := ok__law_word (P := P) (w := w) (base := base) T
  have g_numbers_text := ok_numbers_text (P := P) (w := w) (base := base) T
  have gk_numbers_text := gk_numbers_text (P := P) (w := w) (base := base) T
  refine ⟨_, fd, T.glo__law_numbers_judged, F.kp, F.ok sc__law_numbers_judged (fun vs H Q E h => by first | (obtain ⟨rfl, _⟩ := h; rfl) | (obtain ⟨_, rfl, _⟩ := h; rfl) | (obtain ⟨_, _, rfl, _⟩ := h; rfl) | (obtain ⟨_, _, _, rfl, _⟩ := h; rfl) | (obtain ⟨_, _, _, _, rfl, _⟩ := h; rfl) | (obtain ⟨_, _, _, _, _, rfl, _⟩ := h; rfl) | (obtain ⟨_, _, _, _, _, _, rfl, _⟩ := h; rfl) | (obtain ⟨_, _, _, _, _, _, _, rfl, _⟩ := h; rfl) | (obtain ⟨_, _, _, _, _, _, _, _, rfl, _⟩ := h; rfl)) (fun cdv A outer s H vs Q E hr h => ?_), F.bindsN fun _ _ _ _ _ _ us hl => match us, hl with | [_], _ => rfl⟩
  obtain ⟨p, F, rfl, st, q⟩ := h
  refine ⟨_, PSs.nox (pss_cons (ps_set (i := 1) sc__law_numbers_judged.nd rfl (Or.inl rfl) (pe_lst pa_nil))
    (Evl.pss_cut (ps_for PassesOwn.never rfl (pi_range1 (by rfl) T.free_range (pa_cons (pe_op op_fdivW (pe_op op_mul (pe_op op_mul (pe_g g__law_take hr pass0 (pa_cons (pv 0) (pa_cons pe_int pa_nil))) (pe_g g__law_take hr pass0 (pa_cons (pv 0) (pa_cons pe_int pa_nil)))) pe_int) pe_int) pa_nil)) (pg_name (i := 2) sc__law_numbers_judged.nd rfl (Or.inl rfl)) (pss_cons (ps_set (i := 3) sc__law_numbers_judged.nd rfl (Or.inl rfl) (pe_g g__law_take hr pass0 (pa_cons (pv 0) (pa_cons pe_int pa_nil))))
    (pss_cons (ps_set (i := 4) sc__law_numbers_judged.nd rfl (Or.inl rfl) (pe_g g__law_size_drawn hr pass0 (pa_cons (pv 0) pa_nil)))
    (pss_one (ps_expr (pe_bm PySem.F.plainAttrs_list PySem.F.slot_list_append PySem.F.type_list_append mt_append (pv 1) (pa_cons (pe_g g__law_low hr pass0 (pa_cons (pe_op op_mul (pv 4) (pe_op op_sub pe_int (pe_op op_mul pe_int (pv 3)))) (pa_cons (pe_op op_add pe_int (pe_g g__law_size_drawn hr pass0 (pa_cons (pv 0) pa_nil))) pa_nil))) pa_nil)))))))
    (Evl.pss_cut (ps_if (pt_cmpR op_eq (pe_g g__law_take hr pass0 (pa_cons (pv 0) (pa_cons pe_int pa_nil))) pe_int (nomark _)) (pss_one (ps_set (i := 1) sc__law_numbers_judged.nd rfl (Or.inl rfl) (pe_op op_rep (pv 1) pe_int))) pss_nil)
    (Evl.pss_cut (ps_set (i := 5) sc__law_numbers_judged.nd rfl (Or.inl rfl) (pe_join pe_str (pe_lc (own := [("_law_item", 6)]) (g := gName 6) (tt := tYes) rfl sc__law_numbers_judged.nd (pi_list (pv 1)) (blkOk_by (own := [("_law_item", 6)]) (N := N__law_numbers_judged) (sc := defScope s__law_numbers_judged) (by decide +kernel)) (fun _ _ _ _ _ => (pg_name (i := 6) sc__law_numbers_judged.nd rfl (Or.inl rfl))) (fun _ _ _ _ _ => pts_nil) (fun _ _ _ _ _ => (pe_g g__law_word hr pass0 (pa_cons (pv 6) pa_nil))))))
    (Evl.pss_cut (ps_if (PW.pt (pw_or (pt_not (pt_val (pe_g g__law_alike hr pass0 (pa_cons (pe_gk gk_numbers_text hr passF (pk_cons (pe_callTy call_list_of (by rfl) T.free_list (by decide +kernel) (pa_cons (pv 1) pa_nil)) pk_nil)) (pa_cons (pv 5) pa_nil))))) (pw_or1 (pt_not (pt_val (pe_g g__law_alike hr pass0 (pa_cons (pe_g g_numbers_text hr passF (pa_cons (pe_callTy call_tuple_of (by rfl) T.free_tuple (by decide +kernel) (pa_cons (pv 1) pa_nil)) pa_nil)) (pa_cons (pv 5) pa_nil)))))))) (pss_one (ps_ret pe_bl)) pss_nil)
    (Evl.pss_cut (ps_if (pt_not (pt_val (pe_g g__law_alike hr pass0 (pa_cons (pe_g g__law_numbers_read hr pass0 (pa_cons (pv 5) pa_nil)) (pa_cons (pe_tup (pa_cons pe_str (pa_cons (pe_callTy call_tuple_of (by rfl) T.free_tuple (by decide +kernel) (pa_cons (pv 1) pa_nil)) pa_nil))) pa_nil))))) (pss_one (ps_ret pe_bl)) pss_nil)
    (Evl.pss_cut (ps_for PassesOwn.never rfl (pi_tup (pe_tup (pa_cons pe_str (pa_cons pe_str pa_nil)))) (pg_name (i := 7) sc__law_numbers_judged.nd rfl (Or.inl rfl)) (pss_cons (ps_set (i := 8) sc__law_numbers_judged.nd rfl (Or.inl rfl) (pe_g g__law_changed hr pass0 (pa_cons (pv 0) (pa_cons (pv 5) (pa_cons (pv 7) pa_nil)))))
    (pss_one (ps_if (PW.pt (pw_and (pt_not (pt_val (pe_g g__law_is_long hr pass0 (pa_cons (pv 8) pa_nil)))) (pw_and1 (pt_not (pt_val (pe_g g__law_alike hr pass0 (pa_cons (pe_g g__law_numbers_read hr pass0 (pa_cons (pv 8) pa_nil)) (pa_cons (pe_g g__law_numbers_due hr pass0 (pa_cons (pv 8) pa_nil)) pa_nil)))))))) (pss_one (ps_ret pe_bl)) pss_nil))))
    (pss_cons (ps_set (i := 9) sc__law_numbers_judged.nd rfl (Or.inl rfl) (pe_g g__law_take hr pass0 (pa_cons (pv 0) (pa_cons (pe_op op_add (pe_callB call_len_seq (by rfl) T.free_len (by decide +kernel) (pa_cons (pv 1) pa_nil)) pe_int) pa_nil))))
    (pss_cons (ps_set (i := 10) sc__law_numbers_judged.nd rfl (Or.inl rfl) (pe_g g__law_take hr pass0 (pa_cons (pv 0) (pa_cons pe_int pa_nil))))
    (Evl.pss_cut (ps_set (i := 11) sc__law_numbers_judged.nd rfl (Or.inl rfl) (pe_ix ix_list (pe_lst (pa_cons pe_non (pa_cons pe_int (pa_cons (pe_tup (pa_cons pe_int (pa_cons pe_int pa_nil))) (pa_cons (pe_tup (pa_cons pe_int (pa_cons pe_int pa_nil))) (pa_cons (pe_tup (pa_cons pe_int (pa_cons (pe_un un_neg pe_int) pa_nil))) (pa_cons (pe_lst (pa_cons pe_int (pa_cons pe_int pa_nil))) (pa_cons (pe_tup (pa_cons pe_bl (pa_cons pe_int pa_nil))) (pa_cons pe_str (pa_cons (pe_tup pa_nil) pa_nil)))))))))) (pv 10) (fun _ _ => rfl)))
    (Evl.pss_cut (ps_if (pt_not (pt_val (pe_g g__law_no_numbers hr pass0 (pa_cons (pe_op op_cat (pe_op op_cat (pe_slice sl_list (pv 1) po_none (po_some (pv 9))) (pe_lst (pa_cons (pv 11) pa_nil))) (pe_slice sl_list (pv 1) (po_some (pv 9)) po_none)) pa_nil)))) (pss_one (ps_ret pe_bl)) pss_nil)
    (pss_one (ps_ret (pe_g g__law_no_numbers hr pass0 (pa_cons (pe_ix ix_list (pe_lst (pa_cons pe_non (pa_cons pe_int (pa_cons pe_str (pa_cons pe_dnewK (pa_cons (pe_disp1T (u1 hr) (pe_tup (pa_cons pe_int (pa_cons pe_int pa_nil))) pe_int) (pa_cons pe_bl (pa_cons pe_str (pa_cons (pe_un un_neg pe_int) (pa_cons pe_int pa_nil)))))))))) (pv 10) (fun _ _ => rfl)) pa_nil))))))))))))))), ?_⟩
  refine ⟨by show 0 ≤ sizeLine; exact Nat.zero_le _, fun L hL0 => ?_⟩
  have mL : Mv P0 F H F (upd H L (.lst [])) := (Mv.refl st.k).own hL0
  have hLF : F L = none := none_of_same st.k hL0
  have hL1 : upd H L (.lst []) L = some (.lst []) := upd_same
  have stL := st.stay mL
  have mLu : Mv (PP p) F H F (upd H L (.lst [])) := mL.up
  have hLp : L ≠ p := fun e => by
    obtain ⟨o, z⟩ := st.o.is
    rw [← e, hL0] at z
    cases z
  generalize upd H L (.lst []) = H1 at hL1 mL mLu stL ⊢
  refine ⟨fun σ' H' => ∃ (F' : Hp) (vs : List V) (qs : List (Int × Int)) (x2 x3 x4 : Option V), σ' = [some (.ref p), some (.ref L), x2, x3, x4, none, none, none, none, none, none, none] ∧ Mv (PP p) F H F' H' ∧ StO F' H' p ∧ F' L = none ∧ H' L = some (.lst vs) ∧ DpAll K F' vs (qs.map fr) ∧ (∀ q ∈ qs, FrOk q) ∧ qs.length ≤ 20, ?_, ?_⟩
  · -- the numbers are drawn
    refine ⟨_, rfl, p, 4, F, rfl, stL, by decide, by decide +kernel, fun d1 H2 a0 a1 m2 o2 => ?_⟩
    have st2 := stL.step m2 o2
    have m02 := mLu.trp m2 st.o stL.o
    have hL2 := m2.h _ _ hL1 hLp
    refine ⟨_, rfl, p, 8, F, rfl, st2, by decide, by decide +kernel, fun d2 H3 b0 b1 m3 o3 => ?_⟩
    have st3 := st2.step m3 o3
    have m03 := m02.trp m3 st.o st2.o
    have hL3 := m3.h _ _ hL2 hLp
    have h21 : d1 * d2 ≤ 21 := Int.le_trans (Int.mul_le_mul (show d1 ≤ 3 by omega) (show d2 ≤ 7 by omega) b0 (by decide)) (by decide)
    have h0 : 0 ≤ d1 * d2 := Int.mul_nonneg a0 b0
    refine ⟨_, _, rfl, rfl, .inl ⟨by omega, by omega⟩, _, _, rfl, rfl, .inr ⟨by decide, by decide⟩, _, _, rfl, rfl, ⟨by decide, by decide +kernel⟩, _, rfl, ?_, ?_, ?_⟩
    · show -2 ^ 62 ≤ d1 * d2 * 20 / 21
      omega
    · show d1 * d2 * 20 / 21 < 2 ^ 62
      omega
    have hr20 : (d1 * d2 * 20 / 21).toNat ≤ 20 := by omega
    refine for_it walk_range (fun i σ' H' => ∃ (F' : Hp) (vs : List V) (qs : List (Int × Int)) (x2 x3 x4 : Option V), σ' = [some (.ref p), some (.ref L), x2, x3, x4, none, none, none, none, none, none, none] ∧ Mv (PP p) F H F' H' ∧ StO F' H' p ∧ F' L = none ∧ H' L = some (.lst vs) ∧ DpAll K F' vs (qs.map fr) ∧ (∀ q ∈ qs, FrOk q) ∧ qs.length = i)
      ⟨F, [], [], none, none, none, rfl, m03, o3, hLF, hL3, .nil, (fun _ h => nomatch h), rfl⟩ (fun _ _ _ _ _ => True.intro) ?_ ?_
    · rintro i x σ H4 H5 hi ⟨F', vs, qs, x2, x3, x4, rfl, m, o, hF, hL, ha, hq, hn⟩ ⟨rfl, rfl⟩
      have sta := st.step m o
      refine ⟨_, rfl, p, 2, F', rfl, sta, by decide, by decide +kernel, fun e1 H6 c0 c1 m6 o6 => ?_⟩
      have stb := sta.step m6 o6
      have hL6 := m6.h _ _ hL hLp
      refine ⟨_, rfl, p, F', rfl, stb, fun e2 H7 c2 c3 m7 o7 => ?_⟩
      have stc := stb.step m7 o7
      have hL7 := m7.h _ _ hL6 hLp
      have m47 := (m6.trp m7 o o6)
      refine ⟨_, rfl, .inl ⟨rfl, _, SqL.of hL7⟩, _, rfl, _, rfl, _, _, rfl, rfl, .inl ⟨by decide, by decide⟩, _, _, rfl, rfl, _, _, rfl, rfl, .inr ⟨?_, ?_⟩, ?_⟩
      · show -2 ^ 64 < 1 - 2 * e1
        omega
      · show 1 - 2 * e1 < 2 ^ 64
        omega
      refine ⟨_, rfl, p, F', rfl, stc, fun e3 H8 c4 c5 m8 o8 => ?_⟩
      have std := stc.step m8 o8
      have hL8 := m8.h _ _ hL7 hLp
      have m48 := m47.trp m8 o o7
      refine ⟨_, _, rfl, rfl, _, _, F', rfl, std.k, ?_, ?_, fun v F9 H9 m9 hv => ?_⟩
      · show 0 < 1 + e3
        omega
      · show 1 + e3 ≤ 10 ^ 700
        exact Int.le_trans (show 1 + e3 ≤ 10 ^ 38 by omega) (by decide +kernel)
      have hL9 := m9.h _ _ hL8 fun z => z
      have hF9 := m9.n _ _ hL8 hF
      have hlen := DpAll.len ha
      rw [List.length_map] at hlen
      refine ⟨_, _, _, rfl, rfl, hL9, szl (by omega), ?_⟩
      have hok : FrOk (lowQ (e2 * (1 - 2 * e1)) (1 + e3)) := by
        refine low_ok ?_ (by omega) (by omega)
        have e38 : (10 : Int) ^ 38 = ((10 ^ 38 : Nat) : Int) := by rw [Int.natCast_pow] <;> rfl
        rw [e38] at c3
        have h1 : e1 = 0 ∨ e1 = 1 := by omega
        generalize (10 : Nat) ^ 38 = z at c3 ⊢
        rcases h1 with h | h
        · subst h
          have : e2 * (1 - 2 * 0) = e2 := by omega
          rw [this]
          omega
        · subst h
          have : e2 * (1 - 2 * 1) = -e2 := by omega
          rw [this]
          omega
      have mm := (m.trp (m48.trp m9.up o o8) st.o o)
      refine ⟨F9, vs ++ [v], qs ++ [lowQ (e2 * (1 - 2 * e1)) (1 + e3)], _, _, _, rfl, mm.set (.inl hL0) hF9, ?_, hF9, upd_same, ?_, ?_, ?_⟩
      · obtain ⟨c, ns, pl, g, k, z1, z2⟩ := (std.stay m9).o
        refine ⟨c, ns, pl, g, k, ?_, z2⟩
        rw [upd_ne hLp.symm]
        exact z1
      · rw [List.map_append]
        exact DpAll.app (DpAll.mono m9.f _ _ ha) (.cons hv .nil)
      · intro q hq2
        rcases List.mem_append.mp hq2 with h | h
        · exact hq q h
        · rw [List.mem_singleton.mp h]
          exact hok
      · rw [List.length_append, hn]
        rfl
    · rintro σ H4 ⟨F', vs, qs, x2, x3, x4, rfl, m, o, hF, hL, ha, hq, hn⟩
      exact ⟨F', vs, qs, x2, x3, x4, rfl, m, o, hF, hL, ha, hq, by omega⟩
  · rintro σ' H2 ⟨F2, vs, qs, x2, x3, x4, rfl, m, o, hF, hL, ha, hq, hn⟩
    have st2 := st.step m o
    -- perhaps twelve times as many
    refine ⟨fun σ' H' => ∃ (F' : Hp) (L : Addr) (qs : List (Int × Int)) (x2 x3 x4 : Option V), σ' = [some (.ref p), some (.ref L), x2, x3, x4, none, none, none, none, none, none, none] ∧ Nst K p F H F' H' L qs, ?_, ?_⟩
    · refine ⟨_, rfl, p, 40, F2, rfl, st2, by decide, by decide +kernel, fun d H3 d0 d1 m3 o3 => ⟨rfl, _, rfl, ?_⟩⟩
      have mm := m.trp m3 st.o o
      have hL3 := m3.h _ _ hL hLp
      have hlen := DpAll.len ha
      rw [List.length_map] at hlen
      refine ite2 (fun _ => ?_) fun _ => ?_
      · refine ⟨_, rfl, L, 12, vs, rfl, rfl, hL3, by decide, by decide, ?_, fun p2 hp2 => ?_⟩
        · show vs.length * 12 ≤ sizeLine
          exact szle (by omega)
        · have hp0 : H3 p2 = none := hp2
          have hF3 : F2 p2 = none := none_of_same mm.k hp0
          have e : DpAll K F2 (List.replicate (12 : Int).toNat vs).flatten (((List.replicate 12 qs).flatten).map fr) := by
            rw [List.map_flatten, List.map_replicate]
            show DpAll K F2 (List.replicate 12 vs).flatten (List.replicate 12 (qs.map fr)).flatten
            generalize 12 = n
            induction n with
            | zero => exact .nil
            | succ n ih =>
              rw [List.replicate_succ, List.replicate_succ, List.flatten_cons, List.flatten_cons]
              exact DpAll.app ha ih
          have m4 : Mv P0 F2 H3 (upd F2 p2 (.lst (List.replicate (12 : Int).toNat vs).flatten)) (upd H3 p2 (.lst (List.replicate (12 : Int).toNat vs).flatten)) := (Mv.refl mm.k).nw hp0
          have o4 := ((st.step mm o3).stay m4).o
          refine ⟨_, p2, (List.replicate 12 qs).flatten, x2, x3, x4, rfl, st, mm.trp m4.up st.o o3, o4, .lst (SqL.of upd_same) (DpAll.mono m4.f _ _ e), ?_, ?_⟩
          · intro q hq2
            obtain ⟨l, hl, hql⟩ := List.mem_flatten.mp hq2
            rw [(List.mem_replicate.mp hl).2] at hql
            exact hq q hql
          · rw [List.length_flatten, List.map_replicate, List.sum_replicate_nat]
            omega
      · have mk := mm.keep hL0 hF hL3
        have hFk : Same F2 (upd F2 L (.lst vs)) := fun b o e => by
          rw [upd_ne (ne_of_none e hF)]
          exact e
        obtain ⟨c, ns, pl, g, k, z1, z2, z3⟩ := o3
        exact ⟨_, L, qs, x2, x3, x4, rfl, st, mk, ⟨c, ns, pl, g, k, z1, hFk _ _ z2, z3⟩, .lst (SqL.of upd_same) (DpAll.mono hFk _ _ ha), hq, by omega⟩
    clear ha hL m o hF hn hq st2 hL1 mL mLu stL hLF hL0 hLp
    rintro σ' H3 ⟨F3, L, qs, x2, x3, x4, rfl, n3⟩
    -- the text
    refine ⟨fun σ' H' => ∃ (F' : Hp) (x6 : Option V), σ' = [some (.ref p), some (.ref L), x2, x3, x4, some (.str (Txt.join " " (qs.map fracS))), x6, none, none, none, none, none] ∧ Nst K p F H F' H' L qs, ?_, ?_⟩
    · obtain ⟨xs, hs, hx, _, _, hxl⟩ := n3.row
      refine ⟨⟨_, rfl⟩, _, rfl, L, rfl, ⟨xs, hs⟩, fun D hD => lc_it walk_list (PvS H3 D fun i => .str (fracS (qs.getD i (0, 1)))) (PvS.z hD) (fun i H' _ pv => Same.seq pv.1 hs) (fun i x H4 H5 hi pv y => ?_) (fun H4 pv => ?_)⟩
      · obtain ⟨rfl, hx0⟩ := y
        have hi2 : i < qs.length := by omega
        obtain ⟨dx, hdx, hxx⟩ := DpAll.atV (DpAll.mono pv.1 _ _ hx) hx0
        rw [List.getElem?_map, List.getElem?_eq_getElem hi2] at hdx
        have e1 : fr qs[i] = dx := Option.some.inj hdx
        subst e1
        refine ⟨rfl, _, rfl, x, qs[i], rfl, hxx, (n3.ok _ (List.getElem_mem hi2)).sm, PvS.step hD pv (Same.refl _) (by have := n3.len; omega) ?_⟩
        rw [List.getD_eq_getElem?_getD, List.getElem?_eq_getElem hi2]
        rfl
      · refine ⟨_, _, qs.map fracS, rfl, rfl, .inl (SqL.of ?_), ?_, F3, _, rfl, n3.same pv.1⟩
        · rw [pv.2, hxl, List.map_map]
          congr 2
          refine range_map _ _ _ (by simp) fun i hi => ?_
          rw [List.length_map] at hi
          rw [List.getElem_map, List.getD_eq_getElem?_getD, List.getElem?_eq_getElem hi]
          rfl
        · have hb : ∀ l : List (Int × Int), (∀ x ∈ l, FrOk x) → ((l.map fracS).map (·.length)).sum ≤ 123 * l.length := by
            intro l
            induction l with
            | nil => intro _; exact Nat.le_refl _
            | cons z r ih =>
              intro hz
              have h1 := ih fun x hx => hz x (List.mem_cons_of_mem _ hx)
              have h2 := (hz z List.mem_cons_self).sm.len
              simp only [List.map_cons, List.sum_cons, List.length_cons]
              simp only [List.map_map] at h1 ⊢
              omega
          have h1 := hb qs n3.ok
          rw [List.length_map, show (" " : Str).length = 1 by decide +kernel]
          have := n3.len
          omega
    have tlen := text_len n3.ok
    have trun := words_runs n3.ok
    have tback := read_back n3.ok
    have hqs := n3.len
    have hall := numsOK_list n3.ok
    have hsm : ∀ x ∈ qs.map fr, SmQ (frD x) := fun x hx => by
      obtain ⟨q, hq, rfl⟩ := List.mem_map.mp hx
      exact (n3.ok q hq).sm
    have hnum := numsS_fr qs
    clear n3
    rintro σ' H4 ⟨F4, x6, rfl, n4⟩
    generalize Txt.join " " (qs.map fracS) = text at tlen trun tback hnum n4 ⊢
    -- written
    refine ⟨fun σ' H' => ∃ (F' : Hp), σ' = [some (.ref p), some (.ref L), x2, x3, x4, some (.str text), x6, none, none, none, none, none] ∧ Nst K p F H F' H' L qs, ?_, ?_⟩
    · obtain ⟨xs, hs, hx, _, _, hxl⟩ := n4.row
      refine ⟨_, rfl, L, xs, rfl, .inl hs, fun l hl => ?_⟩
      have e4 : Same H4 (upd H4 l (.lst xs)) := same_new hl
      have d4 : Dp K (upd H4 l (.lst xs)) (.ref l) (.list (qs.map fr)) := .lst (SqL.of upd_same) (DpAll.mono e4 _ _ hx)
      refine ⟨_, _, rfl, dx d4, fun _ => d4, by show (qs.map fr).length ≤ 1000; rw [List.length_map]; omega, fun _ => ⟨hsm, fun H5 e5 => ?_⟩, fun z => ?_⟩
      · refine ⟨_, rfl, _, _, .str text, rfl, by rw [show numsS (itemsD (.list (qs.map fr))) = text from hnum]; exact .str _, .str _, by rw [wid] <;> first | decide | (intro _ h; cases h), by rw [dep] <;> first | decide | (intro _ h; cases h), fun H6 e6 => ⟨_, rfl, iteF ?_⟩⟩
        have n6 := n4.same ((e4.trans e5).trans e6)
        obtain ⟨xs, hs, hx, _, _, hxl⟩ := n6.row
        refine ⟨_, rfl, L, xs, rfl, .inl ⟨hs, fun l2 hl2 => ?_⟩⟩
        have e7 : Same H6 (upd H6 l2 (.tup xs)) := same_new hl2
        have d7 : Dp K (upd H6 l2 (.tup xs)) (.ref l2) (.tuple (qs.map fr)) := .tup (SqT.of upd_same) (DpAll.mono e7 _ _ hx)
        refine ⟨_, _, rfl, dx d7, fun _ => d7, by show (qs.map fr).length ≤ 1000; rw [List.length_map]; omega, fun _ => ⟨hsm, fun H8 e8 => ?_⟩, fun z => ?_⟩
        · refine ⟨_, rfl, _, _, .str text, rfl, by rw [show numsS (itemsD (.tuple (qs.map fr))) = text from hnum]; exact .str _, .str _, by rw [wid] <;> first | decide | (intro _ h; cases h), by rw [dep] <;> first | decide | (intro _ h; cases h), fun H9 e9 => ⟨_, rfl, iteF ?_⟩⟩
          exact ⟨F4, rfl, n6.same ((e7.trans e8).trans e9)⟩
        · rw [show numsOK (.tuple (qs.map fr)) = true from hall] at z
          cases z
      · rw [show numsOK (.list (qs.map fr)) = true from hall] at z
        cases z
    clear n4
    rintro σ' H4 ⟨F4, rfl, n4⟩
    -- read
    refine ⟨fun σ' H' => ∃ (F' : Hp), σ' = [some (.ref p), some (.ref L), x2, x3, x4, some (.str text), x6, none, none, none, none, none] ∧ Nst K p F H F' H' L qs, ?_, ?_⟩
    · refine ⟨_, rfl, _, .str text, F4, rfl, n4.s.k, .str _, (fun z => nomatch z), fun t et => ?_⟩
      cases et
      refine ⟨by omega, trun, fun v1 F5 H5 m5 hv1 => ?_⟩
      rw [tback] at hv1
      have n5 := n4.pure m5
      obtain ⟨xs, _, _, hs, hx, hxl⟩ := n5.row
      refine ⟨_, rfl, L, xs, rfl, .inl ⟨Same.seq n5.m.k hs, fun l2 hl2 => ⟨by show 2 ≤ sizeLine; decide, fun p3 hp3 => ?_⟩⟩⟩
      have m6 : Mv P0 F5 H5 (upd F5 l2 (.tup xs)) (upd H5 l2 (.tup xs)) := (Mv.refl n5.m.k).nw hl2
      obtain ⟨m7, h7⟩ := two_new (K := K) (v := .str "told") (u := .ref l2) m6 hp3 (.str _) (.tup (ds := qs.map fr) (SqT.of upd_same) (DpAll.mono m6.f _ _ hx))
      refine ⟨_, _, _, rfl, Dp.mono (m7.f.trans m7.k) _ _ hv1, Dp.mono m7.k _ _ h7, Nat.lt_of_le_of_lt (wid_told qs 240 hqs) (by decide), Nat.lt_of_le_of_lt (dep_told qs) (by decide), fun H8 e8 => ⟨_, rfl, iteF ?_⟩⟩
      exact ⟨_, rfl, (n5.pure m7).same e8⟩
    clear n4
    rintro σ' H4 ⟨F4, rfl, n4⟩
    -- changed
    refine ⟨fun σ' H' => ∃ (F' : Hp) (x7 x8 : Option V), σ' = [some (.ref p), some (.ref L), x2, x3, x4, some (.str text), x6, x7, x8, none, none, none] ∧ Nst K p F H F' H' L qs, ?_, ?_⟩
    · refine ⟨by show 2 ≤ sizeLine; decide, fun U hU => ⟨U, rfl, ⟨_, SqT.of upd_same⟩, ?_⟩⟩
      have mU := (Mv.refl n4.s.k).nw (o := .tup [.str "0123456789/- ", .str "1 /.+_~ab\n"]) hU
      have n5 := n4.pure mU
      have hUF : upd F4 U (.tup [V.str "0123456789/- ", .str "1 /.+_~ab\n"]) U = some (.tup [.str "0123456789/- ", .str "1 /.+_~ab\n"]) := upd_same
      generalize upd F4 U (.tup [V.str "0123456789/- ", .str "1 /.+_~ab\n"]) = F5 at hUF n5
      generalize upd H4 U (.tup [V.str "0123456789/- ", .str "1 /.+_~ab\n"]) = H5 at n5 ⊢
      refine for_it (n := 2) (walk_tup (xs := [.str "0123456789/- ", .str "1 /.+_~ab\n"])) (fun i σ H' => ∃ (F' : Hp) (x7 x8 : Option V), σ = [some (.ref p), some (.ref L), x2, x3, x4, some (.str text), x6, x7, x8, none, none, none] ∧ Nst K p F H F' H' L qs ∧ F' U = some (.tup [.str "0123456789/- ", .str "1 /.+_~ab\n"]))
        ⟨F5, none, none, rfl, n5, hUF⟩ (fun i σ H' _ ⟨F', _, _, _, n, hu⟩ => SqT.of (n.m.k _ _ hu)) ?_ ?_
      · rintro i x σ H6 H7 hi ⟨F6, x7, x8, rfl, n6, hu⟩ ⟨rfl, hx⟩
        obtain ⟨most, rfl, hm0, hm1⟩ : ∃ most : Str, x = .str most ∧ 0 < most.length ∧ most.length < 1000 := by
          rcases i with _ | _ | i
          · exact ⟨_, (Option.some.inj hx).symm, by decide +kernel, by decide +kernel⟩
          · exact ⟨_, (Option.some.inj hx).symm, by decide +kernel, by decide +kernel⟩
          · omega
        refine ⟨_, rfl, _, rfl, _, rfl, p, text, most, F6, rfl, n6.s, by omega, hm0, hm1, fun t' H8 hl8 m8 o8 => ?_⟩
        have n8 := n6.up m8 o8
        have hu8 := m8.f _ _ hu
        refine ⟨_, rfl, t', rfl, fun b hb => ⟨_, rfl, ?_⟩⟩
        cases b with
        | true => exact iteF ⟨F6, _, _, rfl, n8, hu8⟩
        | false =>
          refine iteT ?_
          have hruns := hb rfl
          refine ⟨_, rfl, _, .str t', F6, rfl, n8.s.k, .str _, (fun z => nomatch z), fun t et => ?_⟩
          cases et
          refine ⟨by omega, hruns, fun v1 F9 H9 m9 hv1 => ?_⟩
          have n9 := n8.pure m9
          refine ⟨_, rfl, t', F9, rfl, n9.s.k, by omega, hruns, fun v2 Fa Ha ma hv2 => ?_⟩
          have na := n9.pure ma
          refine ⟨_, _, _, rfl, Dp.mono (ma.f.trans ma.k) _ _ hv1, Dp.mono ma.k _ _ hv2, Nat.lt_of_le_of_lt (wid_due _) (by rw [← TL.len_tl]; omega), dep_due _, fun Hb eb => ⟨_, rfl, iteF ?_⟩⟩
          exact ⟨Fa, _, _, rfl, na.same eb, ma.f _ _ (m9.f _ _ hu8)⟩
      · rintro σ H6 ⟨F6, x7, x8, rfl, n6, _⟩
        exact ⟨F6, x7, x8, rfl, n6⟩
    clear n4
    rintro σ' H4 ⟨F4, x7, x8, rfl, n4⟩
    -- refused
    obtain ⟨xs, hs, _, _, _, hxl⟩ := n4.row
    refine ⟨_, rfl, _, rfl, L, xs, rfl, .inl hs, _, _, rfl, rfl, p, _, F4, rfl, n4.s, ?_, ?_, fun at0 H5 a0 a1 m5 o5 => ?_⟩
    · show 0 < (xs.length : Int) + 1
      omega
    · show (xs.length : Int) + 1 ≤ 10 ^ 700
      exact Int.le_trans (show (xs.length : Int) + 1 ≤ 1000000 by omega) (by decide +kernel)
    have n5 := n4.up m5 o5
    refine ⟨_, rfl, p, 9, F4, rfl, n5.s, by decide, by decide +kernel, fun k H6 k0 k1 m6 o6 => ?_⟩
    have n6 := n5.up m6 o6
    clear n5 n4 hs
    refine ⟨fun σ' H' => ∃ (F' : Hp) (v : V) (bd : PyData), σ' = [some (.ref p), some (.ref L), x2, x3, x4, some (.str text), x6, x7, x8, some (.int at0), some (.int k), some v] ∧ Nst K p F H F' H' L qs ∧ Dp K F' v bd ∧ isFrac bd = false, ?_, ?_⟩
    · -- the bad one
      have m0 : Mv P0 F4 H6 F4 H6 := Mv.refl n6.s.k
      refine ⟨by show 2 ≤ sizeLine; decide, fun b1 h1 => ?_⟩
      obtain ⟨m1, w1⟩ := two_new (K := K) (v := .int 2) (u := .int 2) m0 h1 (.int _) (.int _)
      generalize upd F4 b1 (.tup [V.int 2, .int 2]) = G1 at m1 w1
      generalize upd H6 b1 (.tup [V.int 2, .int 2]) = I1 at m1 ⊢
      refine ⟨by show 2 ≤ sizeLine; decide, fun b2 h2 => ?_⟩
      obtain ⟨m2, w2⟩ := two_new (K := K) (v := .int 1) (u := .int 0) m1 h2 (.int _) (.int _)
      have g2 := (Mv.nw (o := .tup [V.int 1, .int 0]) (Mv.refl m1.k) h2).f
      generalize upd G1 b2 (.tup [V.int 1, .int 0]) = G2 at m2 w2 g2
      generalize upd I1 b2 (.tup [V.int 1, .int 0]) = I2 at m2 ⊢
      refine ⟨_, rfl, by show 2 ≤ sizeLine; decide, fun b3 h3 => ?_⟩
      obtain ⟨m3, w3⟩ := two_new (K := K) (v := .int 1) (u := .int (-1)) m2 h3 (.int _) (.int _)
      have g3 := (Mv.nw (o := .tup [V.int 1, .int (-1)]) (Mv.refl m2.k) h3).f
      generalize upd G2 b3 (.tup [V.int 1, .int (-1)]) = G3 at m3 w3 g3
      generalize upd I2 b3 (.tup [V.int 1, .int (-1)]) = I3 at m3 ⊢
      refine ⟨by show 2 ≤ sizeLine; decide, fun b4 h4 => ?_⟩
      have m4 := m3.nw (o := .lst [.int 1, .int 2]) h4
      have g4 := (Mv.nw (o := .lst [V.int 1, .int 2]) (Mv.refl m3.k) h4).f
      have w4 : Dp K (upd G3 b4 (.lst [.int 1, .int 2])) (.ref b4) (.list [.int 1, .int 2]) := .lst (SqL.of upd_same) (.cons (.int _) (.cons (.int _) .nil))
      generalize upd G3 b4 (.lst [V.int 1, .int 2]) = G4 at m4 w4 g4
      generalize upd I3 b4 (.lst [V.int 1, .int 2]) = I4 at m4 ⊢
      refine ⟨by show 2 ≤ sizeLine; decide, fun b5 h5 => ?_⟩
      obtain ⟨m5, w5⟩ := two_new (K := K) (v := .bl true) (u := .int 1) m4 h5 (.bl _) (.int _)
      have g5 := (Mv.nw (o := .tup [V.bl true, .int 1]) (Mv.refl m4.k) h5).f
      generalize upd G4 b5 (.tup [V.bl true, .int 1]) = G5 at m5 w5 g5
      generalize upd I4 b5 (.tup [V.bl true, .int 1]) = I5 at m5 ⊢
      refine ⟨by show 0 ≤ sizeLine; exact Nat.zero_le _, fun b6 h6 => ?_⟩
      have m6 := m5.nw (o := .tup []) h6
      have g6 := (Mv.nw (o := .tup []) (Mv.refl m5.k) h6).f
      have w6 : Dp K (upd G5 b6 (.tup [])) (.ref b6) (.tuple []) := .tup (SqT.of upd_same) .nil
      generalize upd G5 b6 (.tup []) = G6 at m6 w6 g6
      generalize upd I5 b6 (.tup []) = I6 at m6 ⊢
      have c5 := g5.trans g6
      have c4 := g4.trans c5
      have c3 := g3.trans c4
      have c2 := g2.trans c3
      refine ⟨by show 9 ≤ sizeLine; decide, fun b7 h7 => ?_⟩
      obtain ⟨v, hv, hat⟩ := atI_mem (xs := [V.non, .int 5, .ref b1, .ref b2, .ref b3, .ref b4, .ref b5, .str "1", .ref b6]) k0 k1
      refine ⟨_, rfl, b7, _, _, v, rfl, rfl, SqL.of upd_same, hat, ?_⟩
      have m7 := m6.own (o := .lst [V.non, .int 5, .ref b1, .ref b2, .ref b3, .ref b4, .ref b5, .str "1", .ref b6]) h7
      have hall : ∃ bd, Dp K G6 v bd ∧ isFrac bd = false := by
        simp only [List.mem_cons, List.not_mem_nil, or_false] at hv
        rcases hv with rfl | rfl | rfl | rfl | rfl | rfl | rfl | rfl | rfl
        · exact ⟨_, .non, rfl⟩
        · exact ⟨_, .int _, rfl⟩
        · exact ⟨_, Dp.mono c2 _ _ w1, by decide⟩
        · exact ⟨_, Dp.mono c3 _ _ w2, by decide⟩
        · exact ⟨_, Dp.mono c4 _ _ w3, by decide⟩
        · exact ⟨_, Dp.mono c5 _ _ w4, rfl⟩
        · exact ⟨_, Dp.mono g6 _ _ w5, rfl⟩
        · exact ⟨_, .str _, rfl⟩
        · exact ⟨_, w6, rfl⟩
      obtain ⟨bd, hd, hf⟩ := hall
      exact ⟨G6, v, bd, rfl, n6.pure m7, hd, hf⟩
    · rintro σ' H7 ⟨F7, v, bd, rfl, n7, hv, hbd⟩
      obtain ⟨ys, hs, _, hsF, hx, hyl⟩ := n7.row
      have m0 : Mv P0 F7 H7 F7 H7 := Mv.refl n7.s.k
      refine ⟨fun σ' H' => ∃ (F' : Hp), σ' = [some (.ref p), some (.ref L), x2, x3, x4, some (.str text), x6, x7, x8, some (.int at0), some (.int k), some v] ∧ Nst K p F H F' H' L qs, ?_, ?_⟩
      · refine ⟨_, rfl, _, rfl, _, rfl, L, ys, rfl, hs, fun c1 h1 => ?_⟩
        have m1 := m0.own (o := .lst (cutV ys none (some at0))) h1
        have e1 : upd H7 c1 (.lst (cutV ys none (some at0))) c1 = some (.lst (cutV ys none (some at0))) := upd_same
        generalize upd H7 c1 (.lst (cutV ys none (some at0))) = I1 at m1 e1 ⊢
        refine ⟨_, rfl, by show 1 ≤ sizeLine; decide, fun c2 h2 => ?_⟩
        have m2 := m1.own (o := .lst [v]) h2
        have e2 : upd I1 c2 (.lst [v]) c2 = some (.lst [v]) := upd_same
        have e12 : upd I1 c2 (.lst [v]) c1 = some (.lst (cutV ys none (some at0))) := (same_new h2) _ _ e1
        generalize upd I1 c2 (.lst [v]) = I2 at m2 e2 e12 ⊢
        have cut_le : ∀ (zs : List V) (a b : Option Int), (cutV zs a b).length ≤ zs.length := fun zs a b => by
          show ((zs.drop _).take _).length ≤ _
          rw [List.length_take, List.length_drop]
          omega
        have l1 := cut_le ys none (some at0)
        have l2 := cut_le ys (some at0) none
        refine ⟨c1, c2, _, _, rfl, rfl, e12, e2, ?_, fun c3 h3 => ?_⟩
        · show (cutV ys none (some at0)).length + 1 ≤ sizeLine
          exact szle (by omega)
        have m3 := m2.own (o := .lst (cutV ys none (some at0) ++ [v])) h3
        have e3 : upd I2 c3 (.lst (cutV ys none (some at0) ++ [v])) c3 = some (.lst (cutV ys none (some at0) ++ [v])) := upd_same
        generalize upd I2 c3 (.lst (cutV ys none (some at0) ++ [v])) = I3 at m3 e3 ⊢
        refine ⟨_, rfl, _, rfl, _, rfl, L, ys, rfl, Same.seq m3.k hsF, fun c4 h4 => ?_⟩
        have m4 := m3.own (o := .lst (cutV ys (some at0) none)) h4
        have e4 : upd I3 c4 (.lst (cutV ys (some at0) none)) c4 = some (.lst (cutV ys (some at0) none)) := upd_same
        have e34 : upd I3 c4 (.lst (cutV ys (some at0) none)) c3 = some (.lst (cutV ys none (some at0) ++ [v])) := (same_new h4) _ _ e3
        generalize upd I3 c4 (.lst (cutV ys (some at0) none)) = I4 at m4 e4 e34 ⊢
        refine ⟨c3, c4, _, _, rfl, rfl, e34, e4, ?_, fun c5 h5 => ?_⟩
        · rw [List.length_append]
          exact szle (show (cutV ys none (some at0)).length + 1 + (cutV ys (some at0) none).length ≤ 1000000 by omega)
        have m5 := m4.nw (o := .lst (cutV ys none (some at0) ++ [v] ++ cutV ys (some at0) none)) h5
        have n8 := n7.pure m5
        have hcut : ∀ a b, ∃ ds, DpAll K F7 (cutV ys a b) ds := fun a b => ⟨_, DpAll.take _ (DpAll.drop _ hx)⟩
        obtain ⟨d1, hd1⟩ := hcut none (some at0)
        obtain ⟨d2, hd2⟩ := hcut (some at0) none
        have hd : Dp K (upd F7 c5 (.lst (cutV ys none (some at0) ++ [v] ++ cutV ys (some at0) none))) (.ref c5) (.list (d1 ++ [bd] ++ d2)) :=
          .lst (SqL.of upd_same) (DpAll.mono (Mv.nw (Mv.refl m4.k) h5).f _ _ (DpAll.app (DpAll.app hd1 (.cons hv .nil)) hd2))
        have q1 := DpAll.len hd1
        have q2 := DpAll.len hd2
        have hdH := Dp.mono m5.k _ _ hd
        refine ⟨_, _, rfl, dx hdH, fun _ => hdH, ?_, ?_, fun H9 e9 => ⟨_, rfl, iteF ?_⟩⟩
        · show (d1 ++ [bd] ++ d2).length ≤ 1000
          rw [List.length_append, List.length_append, List.length_singleton]
          omega
        · show ((d1 ++ [bd] ++ d2).all isFrac) = false
          rw [List.all_append, List.all_append, List.all_cons, hbd]
          simp
        exact ⟨_, rfl, n8.same e9⟩
      clear hx hs hsF m0 n7
      rintro σ' H9 ⟨F9, rfl, n9⟩
      -- no row at all
      have m0 : Mv P0 F9 H9 F9 H9 := Mv.refl n9.s.k
      intro b1 h1
      have m1 := m0.nw (o := .dK []) h1
      have w1 : upd F9 b1 (.dK []) b1 = some (.dK []) := upd_same
      generalize upd F9 b1 (.dK []) = G1 at m1 w1
      generalize upd H9 b1 (.dK []) = I1 at m1 ⊢
      intro b2 h2
      have m2 := m1.own (o := .dT []) h2
      have w2 : upd I1 b2 (.dT []) b2 = some (.dT []) := upd_same
      have f2 : G1 b2 = none := none_of_same m1.k h2
      have z2 : H9 b2 = none := none_of_same m1.s0 h2
      generalize upd I1 b2 (.dT []) = I2 at m2 w2 ⊢
      refine ⟨by show 2 ≤ sizeLine; decide, fun b3 h3 => ?_⟩
      have m3 := m2.own (o := .tup [.int 1, .int 2]) h3
      have w3 : upd I2 b3 (.tup [.int 1, .int 2]) b3 = some (.tup ([Sum.inl 1, Sum.inl 2].map kV)) := upd_same
      have w23 := (same_new (o := .tup [.int 1, .int 2]) h3) _ _ w2
      generalize upd I2 b3 (.tup [.int 1, .int 2]) = I3 at m3 w3 w23 ⊢
      refine ⟨_, _, rfl, [.inl 1, .inl 2], b3, rfl, w3, w23, ?_⟩
      have m4 := (m3.set (o := .dT [([.inl 1, .inl 2], .int 1)]) (.inl z2) f2).keep z2 f2 upd_same
      have w4 : upd G1 b2 (.dT [([.inl 1, .inl 2], .int 1)]) b2 = some (.dT [([.inl 1, .inl 2], .int 1)]) := upd_same
      have w14 : upd G1 b2 (.dT [([.inl 1, .inl 2], .int 1)]) b1 = some (.dK []) := by rw [upd_ne (ne_of_none w1 f2)]; exact w1
      generalize upd G1 b2 (.dT [([.inl 1, .inl 2], .int 1)]) = G4 at m4 w4 w14
      generalize upd I3 b2 (.dT [([.inl 1, .inl 2], .int 1)]) = I4 at m4 ⊢
      refine ⟨_, rfl, by show 9 ≤ sizeLine; decide, fun b5 h5 => ?_⟩
      have m5 := m4.own (o := .lst [V.non, .int 5, .str "1/2", .ref b1, .ref b2, .bl true, .str "", .int (-1), .int 0]) h5
      obtain ⟨v9, hv9, hat⟩ := atI_mem (xs := [V.non, .int 5, .str "1/2", .ref b1, .ref b2, .bl true, .str "", .int (-1), .int 0]) k0 k1
      refine ⟨_, rfl, b5, _, _, v9, rfl, rfl, SqL.of upd_same, hat, ?_⟩
      have hall : ∃ bd, Dx K G4 v9 bd ∧ isRowD bd = false ∧ itemsD bd = [] := by
        simp only [List.mem_cons, List.not_mem_nil, or_false] at hv9
        rcases hv9 with rfl | rfl | rfl | rfl | rfl | rfl | rfl | rfl | rfl
        · exact ⟨_, .non, rfl, rfl⟩
        · exact ⟨_, .int _, rfl, rfl⟩
        · exact ⟨_, .str _, rfl, rfl⟩
        · exact ⟨_, .dK w14, rfl, rfl⟩
        · exact ⟨_, .dT w4, rfl, rfl⟩
        · exact ⟨_, .bl _, rfl, rfl⟩
        · exact ⟨_, .str _, rfl, rfl⟩
        · exact ⟨_, .int _, rfl, rfl⟩
        · exact ⟨_, .int _, rfl, rfl⟩
      obtain ⟨bd, hd, hf, hi⟩ := hall
      refine ⟨_, bd, rfl, Dx.mono m5.k _ _ hd, (fun z => by rw [hf] at z; cases z), by rw [hi]; exact Nat.zero_le _, by unfold numsOK; rw [hf]; rfl, fun H' e' => ?_⟩
      have nn := (n9.pure m5).same e'
      exact q _ _ nn.m nn.o
end
end Q
/-! S94: the reader of trees -/
namespace Q
open PySem PySem.Spec PyProof.Rows L2
open TL (tl)
section
variable {P : Program} {w : World} {K : PySem.W.Frag} {mg : Str → Option Value} {base : Heap}
/-- the reader's object -/
def RdO (K : PySem.W.Frag) (H : Hp) (a : Addr) (t : Str) (i : Nat) : Prop := ∃ dx, H a = some (.ins (He.ga K "TreeReader") dx [("text", .str t), ("at", .int (i : Int))])
def sp_TreeReader___init__ (K : PySem.W.Frag) : Sp := fun vs H Q _ => ∃ (a dx : Addr) (t : Str), vs = [.ref a, .str t] ∧ H a = some (.ins (He.ga K "TreeReader") dx []) ∧ ∀ H', (∀ b, b ≠ a → H' b = H b) → RdO K H' a t 0 → Q .non H'
theorem ok_TreeReader___init__ (T : Txt K mg) : GI P w K mg base CX0 1 "TreeReader" (He.ga K "TreeReader") ["self", "text"] (sp_TreeReader___init__ K) := by
  obtain ⟨fd, F⟩ := T.fn_TreeReader___init__
  refine ⟨_, fd, T.glo_TreeReader, T.mk_TreeReader, F.ok sc_TreeReader___init__ (fun vs H Q E h => by first | (obtain ⟨rfl, _⟩ := h; rfl) | (obtain ⟨_, rfl, _⟩ := h; rfl) | (obtain ⟨_, _, rfl, _⟩ := h; rfl) | (obtain ⟨_, _, _, rfl, _⟩ := h; rfl) | (obtain ⟨_, _, _, _, rfl, _⟩ := h; rfl) | (obtain ⟨_, _, _, _, _, rfl, _⟩ := h; rfl) | (obtain ⟨_, _, _, _, _, _, rfl, _⟩ := h; rfl) | (obtain ⟨_, _, _, _, _, _, _, rfl, _⟩ := h; rfl) | (obtain ⟨_, _, _, _, _, _, _, _, rfl, _⟩ := h; rfl)) (fun cdv A outer s H vs Q E hr h => ?_), F.bindsN fun _ _ _ _ _ _ us hl => match us, hl with | [_, _], _ => rfl⟩
  obtain ⟨a, dx, t, rfl, ha, q⟩ := h
  refine ⟨_, PSs.nox (pss_cons (ps_fld (pv 0) (pv 1) rfl)
    (pss_one (ps_fld (pv 0) pe_int rfl))), ?_⟩
  refine ⟨_, rfl, _, rfl, a, _, dx, _, rfl, ha, T.cls_TreeReader, T.noat_TreeReader_text, (by show 0 < 1000; decide), ?_⟩
  refine ⟨_, rfl, a, _, dx, _, rfl, upd_same, T.cls_TreeReader, T.noat_TreeReader_at, (by show 1 < 1000; decide), ?_⟩
  refine q _ (fun b hb => by rw [upd_ne hb, upd_ne hb]) ⟨dx, ?_⟩
  rw [upd_same]
  rfl
def sp_TreeReader_fail (K : PySem.W.Frag) : Sp := fun vs H Q E => ∃ (a : Addr) (t : Str) (i : Nat), vs = [.ref a] ∧ RdO K H a t i ∧ Err1 (He.ga K "BadText") "at" (.int ((i + 1 : Nat) : Int)) H E
theorem ok_TreeReader_fail (T : Txt K mg) : GM P w K mg base (L2.CX P w) 3 (He.ga K "TreeReader") "fail" ["self"] (sp_TreeReader_fail K) := by
  obtain ⟨fd, F⟩ := T.fn_TreeReader_fail
  have g_BadText := ge_BadText (P := P) (w := w) (base := base) T
  refine ⟨_, fd, T.meth_TreeReader_fail, F.ok sc_TreeReader_fail (fun vs H Q E h => by first | (obtain ⟨rfl, _⟩ := h; rfl) | (obtain ⟨_, rfl, _⟩ := h; rfl) | (obtain ⟨_, _, rfl, _⟩ := h; rfl) | (obtain ⟨_, _, _, rfl, _⟩ := h; rfl) | (obtain ⟨_, _, _, _, rfl, _⟩ := h; rfl) | (obtain ⟨_, _, _, _, _, rfl, _⟩ := h; rfl) | (obtain ⟨_, _, _, _, _, _, rfl, _⟩ := h; rfl) | (obtain ⟨_, _, _, _, _, _, _, rfl, _⟩ := h; rfl) | (obtain ⟨_, _, _, _, _, _, _, _, rfl, _⟩ := h; rfl)) (fun cdv A outer s H vs Q E hr h => ?_), F.bindsN fun _ _ _ _ _ _ us hl => match us, hl with | [_], _ => rfl⟩
  have tk : Takes (cxOf (L2.CX P w) P w K mg base N_TreeReader_fail "TreeReader.fail" (defScope s_TreeReader_fail) (He.ma K (He.ga K "TreeReader") "fail") cdv A outer s H E) (fun cls d _ H => E cls d H) := takes_of rfl rfl rfl rfl
  obtain ⟨a, t, i, rfl, ha, q⟩ := h
  refine ⟨_, (pss_one (ps_raise rfl tk (pmk_f1 g_BadText hr (pa_cons (pe_op op_add (pe_fld (pv 0) rfl) pe_int) pa_nil)))), ?_⟩
  obtain ⟨dx, ha⟩ := ha
  refine ⟨_, rfl, a, _, dx, _, _, rfl, ha, T.cls_TreeReader, T.noat_TreeReader_at, rfl, _, _, rfl, rfl, _, rfl, ?_⟩
  have e : (fun i j : Int => V.int (i + j)) (i : Int) 1 = V.int ((i + 1 : Nat) : Int) := by
    show V.int ((i : Int) + 1) = _
    rw [show ((i + 1 : Nat) : Int) = (i : Int) + 1 by omega]
  rw [e]
  exact q
def sp_TreeReader_sign (K : PySem.W.Frag) : Sp := fun vs H Q _ => ∃ (a : Addr) (t : Str) (i : Nat), vs = [.ref a] ∧ RdO K H a t i ∧ t.length < 900000 ∧ ∀ s : Str, tl s = ((tl t).drop i).take 1 → Q (.str s) H
theorem ok_TreeReader_sign (T : Txt K mg) : GM P w K mg base CX0 1 (He.ga K "TreeReader") "sign" ["self"] (sp_TreeReader_sign K) := by
  obtain ⟨fd, F⟩ := T.fn_TreeReader_sign
  refine ⟨_, fd, T.meth_TreeReader_sign, F.ok sc_TreeReader_sign (fun vs H Q E h => by first | (obtain ⟨rfl, _⟩ := h; rfl) | (obtain ⟨_, rfl, _⟩ := h; rfl) | (obtain ⟨_, _, rfl, _⟩ := h; rfl) | (obtain ⟨_, _, _, rfl, _⟩ := h; rfl) | (obtain ⟨_, _, _, _, rfl, _⟩ := h; rfl) | (obtain ⟨_, _, _, _, _, rfl, _⟩ := h; rfl) | (obtain ⟨_, _, _, _, _, _, rfl, _⟩ := h; rfl) | (obtain ⟨_, _, _, _, _, _, _, rfl, _⟩ := h; rfl) | (obtain ⟨_, _, _, _, _, _, _, _, rfl, _⟩ := h; rfl)) (fun cdv A outer s H vs Q E hr h => ?_), F.bindsN fun _ _ _ _ _ _ us hl => match us, hl with | [_], _ => rfl⟩
  obtain ⟨a, t, i, rfl, ha, hl, q⟩ := h
  refine ⟨_, PSs.nox (pss_one (ps_ret (pe_slice sl_str (pe_fld (pv 0) rfl) (po_some (pe_fld (pv 0) rfl)) (po_some (pe_op op_add (pe_fld (pv 0) rfl) pe_int))))), ?_⟩
  obtain ⟨dx, ha⟩ := ha
  refine ⟨_, rfl, a, _, dx, _, _, rfl, ha, T.cls_TreeReader, T.noat_TreeReader_text, rfl, ?_⟩
  refine ⟨_, rfl, a, _, dx, _, _, rfl, ha, T.cls_TreeReader, T.noat_TreeReader_at, rfl, _, rfl, ?_⟩
  refine ⟨_, rfl, a, _, dx, _, _, rfl, ha, T.cls_TreeReader, T.noat_TreeReader_at, rfl, _, _, rfl, rfl, _, rfl, t, rfl, szle (by omega), q _ ?_⟩
  show tl (cutS t (some (i : Int)) (some ((i : Int) + 1))) = _
  rw [show ((i : Int) + 1) = ((i + 1 : Nat) : Int) by omega, tl_mid, show i + 1 - i = 1 by omega]
/-- the reader at i, nothing known for good lies in it -/
structure RdI (K : PySem.W.Frag) (F H : Hp) (a : Addr) (t : Str) (i : Nat) : Prop where
  k : Same F H
  f : F a = none
  o : RdO K H a t i
theorem RdI.step {F H F' H' : Hp} {a : Addr} {t : Str} {i j : Nat} (r : RdI K F H a t i) (m : Mv (PP a) F H F' H') (o : RdO K H' a t j) : RdI K F' H' a t j := by
  obtain ⟨dx, ha⟩ := r.o
  exact ⟨m.k, m.n a _ ha r.f, o⟩
theorem Mv.rd {F H F1 H1 F2 H2 : Hp} {a : Addr} {t : Str} {i j : Nat} (m : Mv (PP a) F H F1 H1) (n : Mv (PP a) F1 H1 F2 H2) (r : RdO K H a t i) (r1 : RdO K H1 a t j) : Mv (PP a) F H F2 H2 := m.trans n fun x e => by
  obtain ⟨dx, h⟩ := r
  obtain ⟨dx1, h1⟩ := r1
  rw [e]
  exact ⟨_, _, h, h1⟩
/-- the reader moves on -/
theorem RdI.go {F H : Hp} {a dx : Addr} {t : Str} {i j : Nat} (r : RdI K F H a t i) : Mv (PP a) F H F (upd H a (.ins (He.ga K "TreeReader") dx [("text", .str t), ("at", .int (j : Int))])) ∧ RdO K (upd H a (.ins (He.ga K "TreeReader") dx [("text", .str t), ("at", .int (j : Int))])) a t j :=
  ⟨Mv.at r.k r.f fun b h => upd_ne h, dx, upd_same⟩
theorem takeC_no {c : Nat} {l : List Nat} (h : l.take 1 ≠ [c]) : takeC c l = .inl l := by
  cases l with
  | nil => rfl
  | cons d r =>
    rw [takeC_cons, if_neg]
    intro e
    rw [e] at h
    exact h rfl
theorem takeC_yes {c : Nat} {l : List Nat} (h : l.take 1 = [c]) : takeC c l = .inr (l.drop 1) := by
  cases l with
  | nil => cases h
  | cons d r =>
    have e : d = c := (List.cons.inj (show [d] = [c] from h)).1
    rw [takeC_cons, if_pos e]
    rfl
def sp_TreeReader_take (K : PySem.W.Frag) : Sp := fun vs H Q E => ∃ (a : Addr) (s t : Str) (c i : Nat) (F : Hp), vs = [.ref a, .str s] ∧ tl s = [c] ∧ RdI K F H a t i ∧ t.length < 900000 ∧
  (∀ e, takeC c ((tl t).drop i) = .inl e → Err1 (He.ga K "BadText") "at" (.int ((i + 1 : Nat) : Int)) H E) ∧ ∀ r, takeC c ((tl t).drop i) = .inr r → ∀ H', Mv (PP a) F H F H' → RdO K H' a t (i + 1) → Q .non H'
theorem ok_TreeReader_take (T : Txt K mg) : GM P w K mg base (L2.CX P w) 4 (He.ga K "TreeReader") "take" ["self", "sign"] (sp_TreeReader_take K) := by
  obtain ⟨fd, F⟩ := T.fn_TreeReader_take
  have g_TreeReader_fail := ok_TreeReader_fail (P := P) (w := w) (base := base) T
  have g_TreeReader_sign := ok_TreeReader_sign (P := P) (w := w) (base := base) T
  refine ⟨_, fd, T.meth_TreeReader_take, F.ok sc_TreeReader_take (fun vs H Q E h => by first | (obtain ⟨rfl, _⟩ := h; rfl) | (obtain ⟨_, rfl, _⟩ := h; rfl) | (obtain ⟨_, _, rfl, _⟩ := h; rfl) | (obtain ⟨_, _, _, rfl, _⟩ := h; rfl) | (obtain ⟨_, _, _, _, rfl, _⟩ := h; rfl) | (obtain ⟨_, _, _, _, _, rfl, _⟩ := h; rfl) | (obtain ⟨_, _, _, _, _, _, rfl, _⟩ := h; rfl) | (obtain ⟨_, _, _, _, _, _, _, rfl, _⟩ := h; rfl) | (obtain ⟨_, _, _, _, _, _, _, _, rfl, _⟩ := h; rfl)) (fun cdv A outer s H vs Q E hr h => ?_), F.bindsN fun _ _ _ _ _ _ us hl => match us, hl with | [_, _], _ => rfl⟩
  have tk : Takes (cxOf (L2.CX P w) P w K mg base N_TreeReader_take "TreeReader.take" (defScope s_TreeReader_take) (He.ma K (He.ga K "TreeReader") "take") cdv A outer s H E) (fun cls d _ H => E cls d H) := takes_of rfl rfl rfl rfl
  obtain ⟨a, s, t, c, i, F, rfl, hs, rd, hl, qe, qo⟩ := h
  refine ⟨_, (pss_cons (ps_if (pt_cmpR op_ne (pe_gm0 g_TreeReader_sign (pv 0) T.cls_TreeReader hr pass0) (pv 1) (nomark _)) (pss_one (ps_expr (pe_gm0 g_TreeReader_fail (pv 0) T.cls_TreeReader hr (passX (σ0 := []) tk fun _ _ _ _ h => h)))) pss_nil)
    (pss_one (ps_fldaug (pv 0) pe_int in_add))), ?_⟩
  obtain ⟨dx, ha⟩ := rd.o
  refine ⟨_, rfl, a, dx, _, rfl, ha, rfl, a, t, i, rfl, rd.o, hl, fun s1 hs1 => ?_⟩
  refine ⟨_, rfl, rfl, _, rfl, ?_⟩
  rw [dstr, hs1, hs]
  by_cases c1 : ((tl t).drop i).take 1 = [c]
  · rw [decide_eq_true c1]
    refine iteF ⟨_, rfl, a, _, dx, _, _, rfl, ha, T.cls_TreeReader, T.noat_TreeReader_at, rfl, ?_⟩
    refine ⟨_, _, rfl, rfl, dx, _, ha, by show 2 < 1000; decide, ?_⟩
    obtain ⟨m, o⟩ := rd.go (dx := dx) (j := i + 1)
    exact qo _ (takeC_yes c1) _ m o
  · rw [decide_eq_false c1]
    exact iteT ⟨_, rfl, a, dx, _, rfl, ha, rfl, a, t, i, rfl, rd.o, qe _ (takeC_no c1)⟩
def sp_TreeReader_number (K : PySem.W.Frag) : Sp := fun vs H Q E => ∃ (a : Addr) (t : Str) (i : Nat) (F : Hp), vs = [.ref a] ∧ RdI K F H a t i ∧ t.length < 900000 ∧ 
  (numP ((tl t).drop i) = none → Err1 (He.ga K "BadText") "at" (.int ((i + 1 : Nat) : Int)) H E) ∧ ∀ ds r, numP ((tl t).drop i) = some (ds, r) → ∀ H', Mv (PP a) F H F H' → RdO K H' a t (i + ds.length) → Q (.int (valN ds : Int)) H'
theorem ok_TreeReader_number (T : Txt K mg) : GM P w K mg base (L2.CX P w) 4 (He.ga K "TreeReader") "number" ["self"] (sp_TreeReader_number K) := by
  obtain ⟨fd, F⟩ := T.fn_TreeReader_number
  have g_TreeReader_fail := ok_TreeReader_fail (P := P) (w := w) (base := base) T
  have g_TreeReader_sign := ok_TreeReader_sign (P := P) (w := w) (base := base) T
  refine ⟨_, fd, T.meth_TreeReader_number, F.ok sc_TreeReader_number (fun vs H Q E h => by first | (obtain ⟨rfl, _⟩ := h; rfl) | (obtain ⟨_, rfl, _⟩ := h; rfl) | (obtain ⟨_, _, rfl, _⟩ := h; rfl) | (obtain ⟨_, _, _, rfl, _⟩ := h; rfl) | (obtain ⟨_, _, _, _, rfl, _⟩ := h; rfl) | (obtain ⟨_, _, _, _, _, rfl, _⟩ := h; rfl) | (obtain ⟨_, _, _, _, _, _, rfl, _⟩ := h; rfl) | (obtain ⟨_, _, _, _, _, _, _, rfl, _⟩ := h; rfl) | (obtain ⟨_, _, _, _, _, _, _, _, rfl, _⟩ := h; rfl)) (fun cdv A outer s H vs Q E hr h => ?_), F.bindsN fun _ _ _ _ _ _ us hl => match us, hl with | [_], _ => rfl⟩
  have tk : Takes (cxOf (L2.CX P w) P w K mg base N_TreeReader_number "TreeReader.number" (defScope s_TreeReader_number) (He.ma K (He.ga K "TreeReader") "number") cdv A outer s H E) (fun cls d _ H => E cls d H) := takes_of rfl rfl rfl rfl
  obtain ⟨a, t, i, F, rfl, rd, hl, qe, qo⟩ := h
  refine ⟨_, (pss_cons (ps_set (i := 1) sc_TreeReader_number.nd rfl (Or.inl rfl) (pe_fld (pv 0) rfl))
    (pss_cons (ps_if (PW.pt (pw_or (pt_cmpR op_eq (pe_gm0 g_TreeReader_sign (pv 0) T.cls_TreeReader hr pass0) pe_str (nomark _)) (pw_or1 (pt_cmpR op_notIn_sign (pe_gm0 g_TreeReader_sign (pv 0) T.cls_TreeReader hr pass0) (pe_gstr T.str_DIGITS) (by rfl))))) (pss_one (ps_expr (pe_gm0 g_TreeReader_fail (pv 0) T.cls_TreeReader hr (passX (σ0 := []) tk fun _ _ _ _ h => h)))) pss_nil)
    (pss_cons (ps_fldaug (pv 0) pe_int in_add)
    (Evl.pss_cut (ps_while (passes_of rfl) (PW.pt (pw_and (pt_cmpR op_ne (pe_gm0 g_TreeReader_sign (pv 0) T.cls_TreeReader hr pass0) pe_str (nomark _)) (pw_and (pt_cmpR op_in_sign (pe_gm0 g_TreeReader_sign (pv 0) T.cls_TreeReader hr pass0) (pe_gstr T.str_DIGITS) (by rfl)) (pw_and (pt_cmpR op_ne (pe_ix ix_str (pe_fld (pv 0) rfl) (pv 1) (fun _ _ => rfl)) pe_str (nomark _)) (pw_and1 (pt_cmpR op_lt (pe_op op_sub (pe_fld (pv 0) rfl) (pv 1)) (pe_gint T.int_MOST_DIGITS) (nomark _))))))) (pss_one (ps_fldaug (pv 0) pe_int in_add)))
    (pss_one (ps_ret (pe_callTy call_int_str (by rfl) T.free_int (by decide +kernel) (pa_cons (pe_slice sl_str (pe_fld (pv 0) rfl) (po_some (pv 1)) (po_some (pe_fld (pv 0) rfl))) pa_nil)))))))), ?_⟩
  obtain ⟨dx, ha⟩ := rd.o
  refine ⟨_, rfl, a, _, dx, _, _, rfl, ha, T.cls_TreeReader, T.noat_TreeReader_at, rfl, ?_⟩
  refine ⟨_, rfl, a, dx, _, rfl, ha, rfl, a, t, i, rfl, rd.o, hl, fun s1 hs1 => ⟨rfl, _, rfl, ?_⟩⟩
  rw [dstr, hs1, show tl "" = [] by decide +kernel]
  generalize hL : (tl t).drop i = l at hs1 qe qo ⊢
  rcases l with _ | ⟨c, r⟩
  · rw [decide_eq_true (show ([] : List Nat).take 1 = [] from rfl)]
    exact iteT (iteT ⟨_, rfl, a, dx, _, rfl, ha, rfl, a, t, i, rfl, rd.o, qe rfl⟩)
  · rw [decide_eq_false (show ¬ (c :: r).take 1 = [] from fun z => nomatch z)]
    refine iteF ⟨_, rfl, a, dx, _, rfl, ha, rfl, a, t, i, rfl, rd.o, hl, fun s2 hs2 => ?_⟩
    rw [hL] at hs2
    obtain rfl : s2 = ⟨#[c]⟩ := TL.ext_tl hs2
    refine ⟨c, _, rfl, rfl, _, rfl, ?_⟩
    rw [nmem_dig]
    cases hc : isDig c with
    | false => exact iteT ⟨_, rfl, a, dx, _, rfl, ha, rfl, a, t, i, rfl, rd.o, qe (dig_num (by rw [hc]; decide))⟩
    | true =>
      refine iteF ⟨_, rfl, a, _, dx, _, _, rfl, ha, T.cls_TreeReader, T.noat_TreeReader_at, rfl, _, _, rfl, rfl, dx, _, ha, by show 2 < 1000; decide, ?_⟩
      obtain ⟨m1, o1⟩ := rd.go (dx := dx) (j := i + 1)
      have hat : atI (tl t) (i : Int) = some c := atI_nat (xs := tl t) (j := i) (by
        have h1 : ((tl t).drop i)[0]? = some c := by rw [hL] <;> rfl
        rw [List.getElem?_drop, Nat.add_zero] at h1
        exact h1)
      have hlen : (tl t).length = t.length := (TL.len_tl t).symm
      refine ⟨fun σ' H' => ∃ (ds rest : List Nat), σ' = [some (.ref a), some (.int (i : Int))] ∧ Mv (PP a) F H F H' ∧ RdO K H' a t (i + ds.length) ∧ c :: r = ds ++ rest ∧ numP (c :: r) = some (ds, rest), ?_, ?_⟩
      · refine ⟨fun m σ' H' => ∃ (ds rest : List Nat), σ' = [some (.ref a), some (.int (i : Int))] ∧ Mv (PP a) F H F H' ∧ RdO K H' a t (i + ds.length) ∧ c :: r = ds ++ rest ∧ numGo ds rest = numGo [c] r ∧ ds.head? = some c ∧ rest.length = m, ⟨_, [c], r, rfl, m1, o1, rfl, rfl, rfl, rfl⟩, ?_⟩
        rintro m σ' H' ⟨ds, rest, rfl, mm, o, e1, e2, e3, e4⟩
        have hrest : (tl t).drop (i + ds.length) = rest := by
          rw [← List.drop_drop, hL, e1, List.drop_left]
        have fin : numGo ds rest = (ds, rest) → numP (c :: r) = some (ds, rest) := fun z => by
          rw [numP_cons, if_pos hc, ← e2, z]
        obtain ⟨dy, hy⟩ := o
        refine ⟨_, rfl, a, dy, _, rfl, hy, rfl, a, t, _, rfl, ⟨dy, hy⟩, hl, fun s3 hs3 => ⟨rfl, _, rfl, ?_⟩⟩
        rw [hrest] at hs3
        rw [dstr, hs3, show tl "" = [] by decide +kernel]
        rcases rest with _ | ⟨c', rest⟩
        · rw [decide_eq_true (show ([] : List Nat).take 1 = [] from rfl)]
          exact iteF (iteF ⟨ds, [], rfl, mm, ⟨dy, hy⟩, e1, fin rfl⟩)
        · rw [decide_eq_false (show ¬ (c' :: rest).take 1 = [] from fun z => nomatch z)]
          refine iteT ⟨_, rfl, a, dy, _, rfl, hy, rfl, a, t, _, rfl, ⟨dy, hy⟩, hl, fun s4 hs4 => ?_⟩
          rw [hrest] at hs4
          obtain rfl : s4 = ⟨#[c']⟩ := TL.ext_tl hs4
          refine ⟨c', _, rfl, rfl, _, rfl, ?_⟩
          rw [mem_dig]
          have stop : goOn ds c' = false → numP (c :: r) = some (ds, c' :: rest) := fun z => fin (by rw [numGo_cons, if_neg (by rw [z]; decide)])
          cases hc' : isDig c' with
          | false => exact iteF (iteF ⟨ds, _, rfl, mm, ⟨dy, hy⟩, e1, stop (by unfold goOn; rw [hc']; rfl)⟩)
          | true =>
            refine iteT ⟨_, rfl, a, _, dy, _, _, rfl, hy, T.cls_TreeReader, T.noat_TreeReader_text, rfl, _, rfl, t, i, c, rfl, rfl, szle (by omega), hat, rfl, _, rfl, ?_⟩
            rw [dstr, show tl "0" = [48] by decide +kernel, show tl (⟨#[c]⟩ : Str) = [c] from rfl]
            by_cases c48 : c = 48
            · rw [decide_eq_true (by rw [c48])]
              exact iteF (iteF ⟨ds, _, rfl, mm, ⟨dy, hy⟩, e1, stop (by unfold goOn; rw [e3, c48]; simp)⟩)
            · rw [decide_eq_false (fun e => c48 (List.cons.inj e).1)]
              refine iteT ⟨_, rfl, a, _, dy, _, _, rfl, hy, T.cls_TreeReader, T.noat_TreeReader_at, rfl, _, rfl, _, _, rfl, rfl, _, _, rfl, rfl, _, rfl, ?_⟩
              by_cases c40 : ds.length < 40
              · rw [decide_eq_true (show ((i + ds.length : Nat) : Int) - (i : Int) < 40 by omega)]
                refine iteT ⟨_, fun σ' H' z => z, _, rfl, a, _, dy, _, _, rfl, hy, T.cls_TreeReader, T.noat_TreeReader_at, rfl, _, _, rfl, rfl, dy, _, hy, by show 2 < 1000; decide, ?_⟩
                have rd2 : RdI K F H' a t (i + ds.length) := rd.step mm ⟨dy, hy⟩
                obtain ⟨m2, o2⟩ := rd2.go (dx := dy) (j := i + ds.length + 1)
                refine ⟨rest.length, by rw [← e4]; exact Nat.lt_succ_self _, ds ++ [c'], rest, rfl, mm.rd m2 rd.o rd2.o, ?_, ?_, ?_, ?_, rfl⟩
                · rw [List.length_append]
                  exact o2
                · rw [e1, List.append_assoc] <;> rfl
                · rw [← e2, numGo_cons, if_pos]
                  unfold goOn
                  rw [hc', e3, decide_eq_true (show some c ≠ some 48 from fun e => c48 (Option.some.inj e)), decide_eq_true c40]
                  rfl
                · cases ds with
                  | nil => cases e3
                  | cons _ _ => exact e3
              · rw [decide_eq_false (show ¬ ((i + ds.length : Nat) : Int) - (i : Int) < 40 by omega)]
                exact iteF ⟨ds, _, rfl, mm, ⟨dy, hy⟩, e1, stop (by unfold goOn; rw [decide_eq_false c40]; simp)⟩
      · rintro σ' H' ⟨ds, rest, rfl, mm, o, e1, e2⟩
        obtain ⟨_, hw, h40, _⟩ := numP_is e2
        obtain ⟨dy, hy⟩ := o
        have hcut : tl (cutS t (some (i : Int)) (some ((i + ds.length : Nat) : Int))) = ds := by
          rw [tl_mid, hL, e1, show i + ds.length - i = ds.length by omega, List.take_left]
        have hcl : (cutS t (some (i : Int)) (some ((i + ds.length : Nat) : Int))).length ≤ 640 := by
          rw [TL.len_tl, hcut]
          omega
        have hint := int_whole (a := cutS t (some (i : Int)) (some ((i + ds.length : Nat) : Int))) (by rw [hcut]; exact hw) hcl
        rw [hcut] at hint
        exact ⟨_, rfl, a, _, dy, _, _, rfl, hy, T.cls_TreeReader, T.noat_TreeReader_text, rfl, _, rfl, _, rfl, _, rfl, a, _, dy, _, _, rfl, hy, T.cls_TreeReader, T.noat_TreeReader_at, rfl, _, rfl, t, rfl, szle (by omega), _, _, rfl, hint, hcl, qo ds rest e2 _ mm ⟨dy, hy⟩⟩
end
end Q
/-! U94: the reader of trees, by descent -/
namespace Q
open PySem PySem.Spec PyProof.Rows L2
open TL (tl)
section
variable {P : Program} {w : World} {K : PySem.W.Frag} {mg : Str → Option Value} {base : Heap}
theorem treeP_dot (n : Nat) (r : List Nat) : treeP n (46 :: r) = .inr (.leaf, r) := by cases n <;> rfl
theorem treeP_nil (n : Nat) : treeP n [] = .inl [] := by cases n <;> rfl
theorem treeP_zero (r : List Nat) : treeP 0 (40 :: r) = .inl (40 :: r) := rfl
theorem treeP_none {n c : Nat} {r : List Nat} (h1 : c ≠ 46) (h2 : c ≠ 40) (h : numP (c :: r) = none) : treeP n (c :: r) = .inl (c :: r) := by
  cases n with
  | zero =>
    unfold treeP
    simp only [if_neg h1, h]
  | succ n =>
    unfold treeP
    simp only [if_neg h1, if_neg h2, h]
theorem treeP_some {n c : Nat} {r ds r1 : List Nat} (h1 : c ≠ 46) (h2 : c ≠ 40) (h : numP (c :: r) = some (ds, r1)) : treeP n (c :: r) = .inr (.motion (valN ds), r1) := by
  cases n with
  | zero =>
    unfold treeP
    simp only [if_neg h1, h]
  | succ n =>
    unfold treeP
    simp only [if_neg h1, if_neg h2, h]
theorem treeP_succ (n : Nat) (r : List Nat) : treeP (n + 1) (40 :: r) = match numP r with
        | none => .inl r
        | some (ds, r1) => match takeC 32 r1 with
          | .inl e => .inl e
          | .inr r2 => match treeP n r2 with
            | .inl e => .inl e
            | .inr (a, r3) => match takeC 32 r3 with
              | .inl e => .inl e
              | .inr r4 => match treeP n r4 with
                | .inl e => .inl e
                | .inr (b, r5) => match takeC 41 r5 with
                  | .inl e => .inl e
                  | .inr r6 => .inr (.split (valN ds) a b, r6) := rfl
/-- l is what is left at j -/
def At (t : Str) (j : Nat) (l : List Nat) : Prop := (tl t).drop j = l ∧ j ≤ (tl t).length
theorem At.pos {t : Str} {j : Nat} {l : List Nat} (h : At t j l) : j = (tl t).length - l.length := by
  obtain ⟨h1, h2⟩ := h
  have h3 := congrArg List.length h1
  rw [List.length_drop] at h3
  omega
theorem At.app {t : Str} {j : Nat} {d l : List Nat} (h : At t j (d ++ l)) : At t (j + d.length) l := by
  obtain ⟨h1, h2⟩ := h
  have h3 := congrArg List.length h1
  rw [List.length_drop, List.length_append] at h3
  exact ⟨by rw [← List.drop_drop, h1, List.drop_left], by omega⟩
theorem At.cons {t : Str} {j c : Nat} {l : List Nat} (h : At t j (c :: l)) : At t (j + 1) l := At.app (d := [c]) h
theorem takeC_inl {c : Nat} {l e : List Nat} (h : takeC c l = .inl e) : e = l := by
  cases l with
  | nil => exact (Sum.inl.inj h).symm
  | cons d r =>
    rw [takeC_cons] at h
    by_cases q : d = c
    · rw [if_pos q] at h
      cases h
    · rw [if_neg q] at h
      exact (Sum.inl.inj h).symm
/-- the error, whatever has become of the reader -/
def ErrA (K : PySem.W.Frag) (a : Addr) (F H : Hp) (E : XK) (k : Nat) : Prop := ∀ F1 H1, Mv (PP a) F H F1 H1 → Err1 (He.ga K "BadText") "at" (.int (k : Int)) H1 E
def sp_TreeReader_tree (K : PySem.W.Frag) (m : Nat) : Sp := fun vs H Q E => ∃ (a : Addr) (t : Str) (i n : Nat) (dp : Int) (F : Hp), vs = [.ref a, .int dp] ∧ m = n + 1 ∧ dp + (n : Int) = 12 ∧ RdI K F H a t i ∧ t.length < 900000 ∧ i ≤ (tl t).length ∧
  (∀ e, treeP n ((tl t).drop i) = .inl e → ErrA K a F H E ((tl t).length - e.length + 1)) ∧
  ∀ tr r, treeP n ((tl t).drop i) = .inr (tr, r) → ∀ v F' H' j, Mv (PP a) F H F' H' → RdO K H' a t j → At t j r → Dp K F' v (trD tr) → Q v H'
theorem no_TreeReader_tree {vs : List V} {H : Hp} {Q : VK} {E : XK} (h : sp_TreeReader_tree K 0 vs H Q E) : False := by
  obtain ⟨_, _, _, _, _, _, _, z, _⟩ := h
  omega
theorem ok0_TreeReader_tree (T : Txt K mg) : GM P w K mg base (L2.CX P w) (0 + 5) (He.ga K "TreeReader") "tree" ["self", "deep"] (sp_TreeReader_tree K 0) := by
  obtain ⟨fd, F⟩ := T.fn_TreeReader_tree
  refine ⟨_, fd, T.meth_TreeReader_tree, F.ok sc_TreeReader_tree (fun vs H Q E h => by first | (obtain ⟨rfl, _⟩ := h; rfl) | (obtain ⟨_, rfl, _⟩ := h; rfl) | (obtain ⟨_, _, rfl, _⟩ := h; rfl) | (obtain ⟨_, _, _, rfl, _⟩ := h; rfl) | (obtain ⟨_, _, _, _, rfl, _⟩ := h; rfl) | (obtain ⟨_, _, _, _, _, rfl, _⟩ := h; rfl) | (obtain ⟨_, _, _, _, _, _, rfl, _⟩ := h; rfl) | (obtain ⟨_, _, _, _, _, _, _, rfl, _⟩ := h; rfl) | (obtain ⟨_, _, _, _, _, _, _, _, rfl, _⟩ := h; rfl)) (fun cdv A outer s H vs Q E hr h => ?_), F.bindsN fun _ _ _ _ _ _ us hl => match us, hl with | [_, _], _ => rfl⟩
  exact (no_TreeReader_tree h).elim
theorem okS_TreeReader_tree (T : Txt K mg) (n : Nat) (g_TreeReader_tree : GM P w K mg base (L2.CX P w) (n + 5) (He.ga K "TreeReader") "tree" ["self", "deep"] (sp_TreeReader_tree K n)) : GM P w K mg base (L2.CX P w) (n + 5 + 1) (He.ga K "TreeReader") "tree" ["self", "deep"] (sp_TreeReader_tree K (n + 1)) := by
  obtain ⟨fd, F⟩ := T.fn_TreeReader_tree
  have g_TreeReader_fail := ok_TreeReader_fail (P := P) (w := w) (base := base) T
  have g_TreeReader_number := ok_TreeReader_number (P := P) (w := w) (base := base) T
  have g_TreeReader_sign := ok_TreeReader_sign (P := P) (w := w) (base := base) T
  have g_TreeReader_take := ok_TreeReader_take (P := P) (w := w) (base := base) T
  refine ⟨_, fd, T.meth_TreeReader_tree, F.ok sc_TreeReader_tree (fun vs H Q E h => by first | (obtain ⟨rfl, _⟩ := h; rfl) | (obtain ⟨_, rfl, _⟩ := h; rfl) | (obtain ⟨_, _, rfl, _⟩ := h; rfl) | (obtain ⟨_, _, _, rfl, _⟩ := h; rfl) | (obtain ⟨_, _, _, _, rfl, _⟩ := h; rfl) | (obtain ⟨_, _, _, _, _, rfl, _⟩ := h; rfl) | (obtain ⟨_, _, _, _, _, _, rfl, _⟩ := h; rfl) | (obtain ⟨_, _, _, _, _, _, _, rfl, _⟩ := h; rfl) | (obtain ⟨_, _, _, _, _, _, _, _, rfl, _⟩ := h; rfl)) (fun cdv A outer s H vs Q E hr h => ?_), F.bindsN fun _ _ _ _ _ _ us hl => match us, hl with | [_, _], _ => rfl⟩
  have tk : Takes (cxOf (L2.CX P w) P w K mg base N_TreeReader_tree "TreeReader.tree" (defScope s_TreeReader_tree) (He.ma K (He.ga K "TreeReader") "tree") cdv A outer s H E) (fun cls d _ H => E cls d H) := takes_of rfl rfl rfl rfl
  obtain ⟨a, t, i, n', dp, F, rfl, en, hdp, rd, hl, hi, qe, qo⟩ := h
  obtain rfl : n = n' := by omega
  refine ⟨_, (pss_cons (ps_if (pt_cmpR op_eq (pe_gm0 g_TreeReader_sign (pv 0) T.cls_TreeReader hr pass0) pe_str (nomark _)) (pss_cons (ps_fldaug (pv 0) pe_int in_add)
    (pss_one (ps_ret (pe_gref T.glo_LEAF)))) pss_nil)
    (pss_cons (ps_if (pt_cmpR op_ne (pe_gm0 g_TreeReader_sign (pv 0) T.cls_TreeReader hr pass0) pe_str (nomark _)) (pss_one (ps_ret (pe_tup (pa_cons pe_str (pa_cons (pe_gm0 g_TreeReader_number (pv 0) T.cls_TreeReader hr (passX (σ0 := []) tk fun _ _ _ _ h => h)) pa_nil))))) pss_nil)
    (pss_cons (ps_if (pt_cmpR op_eq (pv 1) (pe_gint T.int_MOST_DEEP) (nomark _)) (pss_one (ps_expr (pe_gm0 g_TreeReader_fail (pv 0) T.cls_TreeReader hr (passX (σ0 := []) tk fun _ _ _ _ h => h)))) pss_nil)
    (pss_cons (ps_fldaug (pv 0) pe_int in_add)
    (pss_cons (ps_set (i := 2) sc_TreeReader_tree.nd rfl (Or.inl rfl) (pe_gm0 g_TreeReader_number (pv 0) T.cls_TreeReader hr (passX (σ0 := []) tk fun _ _ _ _ h => h)))
    (pss_cons (ps_expr (pe_gm g_TreeReader_take (pv 0) T.cls_TreeReader hr (passX (σ0 := []) tk fun _ _ _ _ h => h) (pa_cons pe_str pa_nil)))
    (pss_cons (ps_set (i := 3) sc_TreeReader_tree.nd rfl (Or.inl rfl) (pe_gm g_TreeReader_tree (pv 0) T.cls_TreeReader hr (passX (σ0 := []) tk fun _ _ _ _ h => h) (pa_cons (pe_op op_add (pv 1) pe_int) pa_nil)))
    (pss_cons (ps_expr (pe_gm g_TreeReader_take (pv 0) T.cls_TreeReader hr (passX (σ0 := []) tk fun _ _ _ _ h => h) (pa_cons pe_str pa_nil)))
    (pss_cons (ps_set (i := 4) sc_TreeReader_tree.nd rfl (Or.inl rfl) (pe_gm g_TreeReader_tree (pv 0) T.cls_TreeReader hr (passX (σ0 := []) tk fun _ _ _ _ h => h) (pa_cons (pe_op op_add (pv 1) pe_int) pa_nil)))
    (pss_cons (ps_expr (pe_gm g_TreeReader_take (pv 0) T.cls_TreeReader hr (passX (σ0 := []) tk fun _ _ _ _ h => h) (pa_cons pe_str pa_nil)))
    (pss_one (ps_ret (pe_tup (pa_cons pe_str (pa_cons (pv 2) (pa_cons (pv 3) (pa_cons (pv 4) pa_nil))))))))))))))))), ?_⟩
  have hat : At t i ((tl t).drop i) := ⟨rfl, hi⟩
  obtain ⟨dx, ha⟩ := rd.o
  have m0 : Mv (PP a) F H F H := Mv.refl rd.k
  refine ⟨_, rfl, a, dx, _, rfl, ha, rfl, a, t, i, rfl, rd.o, hl, fun s1 hs1 => ⟨rfl, _, rfl, ?_⟩⟩
  rw [dstr, hs1, show tl "." = [46] by decide +kernel]
  generalize hL : (tl t).drop i = l at hs1 qe qo hat ⊢
  by_cases c1 : l.take 1 = [46]
  · rw [decide_eq_true c1]
    obtain ⟨r, rfl⟩ : ∃ r, l = 46 :: r := by
      cases l with
      | nil => cases c1
      | cons c r => exact ⟨r, by rw [(List.cons.inj (show [c] = [46] from c1)).1]⟩
    refine iteT ⟨_, rfl, a, _, dx, _, _, rfl, ha, T.cls_TreeReader, T.noat_TreeReader_at, rfl, _, _, rfl, rfl, dx, _, ha, by show 2 < 1000; decide, ?_⟩
    obtain ⟨m, o⟩ := rd.go (dx := dx) (j := i + 1)
    exact qo _ _ (treeP_dot n r) _ _ _ _ m o hat.cons (.tup (T.tup_LEAF F) (.cons (.str _) .nil))
  · rw [decide_eq_false c1]
    refine iteF ⟨_, rfl, a, dx, _, rfl, ha, rfl, a, t, i, rfl, rd.o, hl, fun s2 hs2 => ⟨rfl, _, rfl, ?_⟩⟩
    rw [hL] at hs2
    rw [dstr, hs2, show tl "(" = [40] by decide +kernel]
    by_cases c2 : l.take 1 = [40]
    · rw [decide_eq_true c2]
      obtain ⟨r, rfl⟩ : ∃ r, l = 40 :: r := by
        cases l with
        | nil => cases c2
        | cons c r => exact ⟨r, by rw [(List.cons.inj (show [c] = [40] from c2)).1]⟩
      refine iteF ⟨_, rfl, rfl, _, rfl, ?_⟩
      rw [dint]
      obtain ⟨n2, rfl⟩ | rfl : (∃ n2, n = n2 + 1) ∨ n = 0 := by
        cases n with
        | zero => exact .inr rfl
        | succ n2 => exact .inl ⟨n2, rfl⟩
      · rw [decide_eq_false (show ¬ dp = 12 by omega)]
        refine iteF ⟨_, rfl, a, _, dx, _, _, rfl, ha, T.cls_TreeReader, T.noat_TreeReader_at, rfl, _, _, rfl, rfl, dx, _, ha, by show 2 < 1000; decide, ?_⟩
        rw [treeP_succ] at qe qo
        obtain ⟨m1, o1⟩ := rd.go (dx := dx) (j := i + 1)
        have hat1 := hat.cons
        have rd1 := rd.step m1 o1
        obtain ⟨dx1, h1⟩ := o1
        refine ⟨_, rfl, a, dx1, _, rfl, h1, rfl, a, t, i + 1, F, rfl, rd1, hl, fun z => ?_, fun ds r1 z H2 m2 o2 => ?_⟩
        · rw [hat1.1] at z
          rw [z] at qe
          have := qe _ rfl _ _ m1
          rw [← hat1.pos] at this
          exact this
        rw [hat1.1] at z
        simp only [z] at qe qo
        have hat2 : At t (i + 1 + ds.length) r1 := by
          rw [(numP_is z).1] at hat1
          exact hat1.app
        have rd2 := rd1.step m2 o2
        have m02 := m1.rd m2 rd.o rd1.o
        obtain ⟨dx2, h2⟩ := o2
        refine ⟨_, rfl, a, dx2, _, rfl, h2, rfl, a, _, t, 32, _, F, rfl, (show tl " " = [32] by decide +kernel), rd2, hl, fun e z => ?_, fun r2 z H3 m3 o3 => ?_⟩
        · rw [hat2.1] at z
          simp only [z] at qe
          have := qe _ rfl _ _ m02
          rw [takeC_inl z, ← hat2.pos] at this
          exact this
        rw [hat2.1] at z
        simp only [z] at qe qo
        have hat3 : At t (i + 1 + ds.length + 1) r2 := by
          rw [takeC_is z] at hat2
          exact hat2.cons
        have rd3 := rd2.step m3 o3
        have m03 := m02.rd m3 rd.o rd2.o
        obtain ⟨dx3, h3⟩ := o3
        refine ⟨_, rfl, a, dx3, _, rfl, h3, rfl, _, rfl, _, _, rfl, rfl, a, t, _, n2, _, F, rfl, rfl, ?_, rd3, hl, hat3.2, fun e z => fun F4 H4 m4 => ?_, fun ta r3 z v1 F4 H4 j4 m4 o4 hat4 hv1 => ?_⟩
        · show dp + 1 + (n2 : Int) = 12
          omega
        · rw [hat3.1] at z
          simp only [z] at qe
          exact qe _ rfl _ _ (m03.rd m4 rd.o rd3.o)
        rw [hat3.1] at z
        simp only [z] at qe qo
        have rd4 := rd3.step m4 o4
        have m04 := m03.rd m4 rd.o rd3.o
        obtain ⟨dx4, h4⟩ := o4
        refine ⟨_, rfl, a, dx4, _, rfl, h4, rfl, a, _, t, 32, _, F4, rfl, (show tl " " = [32] by decide +kernel), rd4, hl, fun e z => ?_, fun r4 z H5 m5 o5 => ?_⟩
        · rw [hat4.1] at z
          simp only [z] at qe
          have := qe _ rfl _ _ m04
          rw [takeC_inl z, ← hat4.pos] at this
          exact this
        rw [hat4.1] at z
        simp only [z] at qe qo
        have hat5 : At t (j4 + 1) r4 := by
          rw [takeC_is z] at hat4
          exact hat4.cons
        have rd5 := rd4.step m5 o5
        have m05 := m04.rd m5 rd.o rd4.o
        obtain ⟨dx5, h5⟩ := o5
        refine ⟨_, rfl, a, dx5, _, rfl, h5, rfl, _, rfl, _, _, rfl, rfl, a, t, _, n2, _, F4, rfl, rfl, ?_, rd5, hl, hat5.2, fun e z => fun F6 H6 m6 => ?_, fun tb r5 z v2 F6 H6 j6 m6 o6 hat6 hv2 => ?_⟩
        · show dp + 1 + (n2 : Int) = 12
          omega
        · rw [hat5.1] at z
          simp only [z] at qe
          exact qe _ rfl _ _ (m05.rd m6 rd.o rd5.o)
        rw [hat5.1] at z
        simp only [z] at qe qo
        have rd6 := rd5.step m6 o6
        have m06 := m05.rd m6 rd.o rd5.o
        obtain ⟨dx6, h6⟩ := o6
        refine ⟨_, rfl, a, dx6, _, rfl, h6, rfl, a, _, t, 41, _, F6, rfl, (show tl ")" = [41] by decide +kernel), rd6, hl, fun e z => ?_, fun r6 z H7 m7 o7 => ?_⟩
        · rw [hat6.1] at z
          simp only [z] at qe
          have := qe _ rfl _ _ m06
          rw [takeC_inl z, ← hat6.pos] at this
          exact this
        rw [hat6.1] at z
        simp only [z] at qo
        have hat7 : At t (j6 + 1) r6 := by
          rw [takeC_is z] at hat6
          exact hat6.cons
        have rd7 := rd6.step m7 o7
        have m07 := m06.rd m7 rd.o rd6.o
        refine ⟨_, rfl, _, rfl, _, rfl, by show 4 ≤ sizeLine; decide, fun p hp => ?_⟩
        have m8 : Mv P0 F6 H7 (upd F6 p (.tup [.str "split", .int (valN ds : Int), v1, v2])) (upd H7 p (.tup [.str "split", .int (valN ds : Int), v1, v2])) := (Mv.refl m7.k).nw hp
        obtain ⟨dx7, h7⟩ := o7
        have o8 : RdO K (upd H7 p (.tup [.str "split", .int (valN ds : Int), v1, v2])) a t (j6 + 1) := ⟨dx7, m8.h _ _ h7 fun z => z⟩
        exact qo _ _ rfl _ _ _ _ (m07.rd m8.up rd.o ⟨dx7, h7⟩) o8 hat7 (.tup (SqT.of upd_same) (.cons (.str _) (.cons (.int _) (.cons (Dp.mono (m6.f.trans m8.f) _ _ hv1) (.cons (Dp.mono m8.f _ _ hv2) .nil)))))
      · rw [decide_eq_true (show dp = 12 by omega)]
        refine iteT ⟨_, rfl, a, dx, _, rfl, ha, rfl, a, t, i, rfl, rd.o, ?_⟩
        have := qe _ (treeP_zero r) _ _ m0
        rw [← hat.pos] at this
        exact this
    · rw [decide_eq_false c2]
      refine iteT ⟨_, rfl, a, dx, _, rfl, ha, rfl, a, t, i, F, rfl, rd, hl, fun z => ?_, fun ds r1 z H' m o => ?_⟩
      · rw [hL] at z
        have e1 : treeP n l = .inl l := by
          cases l with
          | nil => exact treeP_nil n
          | cons c r => exact treeP_none (fun e => c1 (by rw [e] <;> rfl)) (fun e => c2 (by rw [e] <;> rfl)) z
        have := qe _ e1 _ _ m0
        rw [← hat.pos] at this
        exact this
      · rw [hL] at z
        refine ⟨by show 2 ≤ sizeLine; decide, fun p hp => ?_⟩
        have e1 : treeP n l = .inr (.motion (valN ds), r1) := by
          cases l with
          | nil => cases z
          | cons c r => exact treeP_some (fun e => c1 (by rw [e] <;> rfl)) (fun e => c2 (by rw [e] <;> rfl)) z
        have hat2 : At t (i + ds.length) r1 := by
          rw [(numP_is z).1] at hat
          exact hat.app
        have m2 : Mv P0 F H' (upd F p (.tup [.str "motion", .int (valN ds : Int)])) (upd H' p (.tup [.str "motion", .int (valN ds : Int)])) := (Mv.refl m.k).nw hp
        obtain ⟨dy, hy⟩ := o
        have o2 : RdO K (upd H' p (.tup [.str "motion", .int (valN ds : Int)])) a t (i + ds.length) := ⟨dy, m2.h _ _ hy fun z => z⟩
        exact qo _ _ e1 _ _ _ _ (m.rd m2.up rd.o ⟨dy, hy⟩) o2 hat2 (.tup (SqT.of upd_same) (.cons (.str _) (.cons (.int _) .nil)))
theorem ok_TreeReader_tree (T : Txt K mg) : ∀ n : Nat, GM P w K mg base (L2.CX P w) (n + 5) (He.ga K "TreeReader") "tree" ["self", "deep"] (sp_TreeReader_tree K n)
  | 0 => ok0_TreeReader_tree T
  | n + 1 => (show n + 5 + 1 = n + 1 + 5 by omega) ▸ okS_TreeReader_tree T n (ok_TreeReader_tree T n)
end
end Q
/-! V94: trees read -/
namespace Q
open PySem PySem.Spec PyProof.Rows L2
open TL (tl)
section
variable {P : Program} {w : World} {K : PySem.W.Frag} {mg : Str → Option Value} {base : Heap}
/-- a helper's own object is forgotten -/
theorem Mv.drop {F H H1 F' H2 : Hp} {a : Addr} (hs : Same H H1) (ha : H a = none) (m : Mv (PP a) F H1 F' H2) : Mv P0 F H F' H2 where
  f := m.f
  k := m.k
  h := fun b o e _ => m.h b o (hs b o e) (ne_of_none e ha)
  n := fun b o e n => m.n b o (hs b o e) n
def sp_read_tree (K : PySem.W.Frag) : Sp := fun vs H Q E => ∃ (v : V) (d : PyData) (F : Hp), vs = [v] ∧ Same F H ∧ Dx K F v d ∧ (isiS d = false → Err1 (He.ga K "BadText") "at" (.int 0) H E) ∧
  (∀ t, d = .str t → t.length < 800000 ∧ (∀ e, readT (tl t) = .inl e → Err1 (He.ga K "BadText") "at" (.int (((tl t).length - e.length + 1 : Nat) : Int)) H E) ∧ ∀ tr, readT (tl t) = .inr tr → RetD K F H Q (trD tr))
theorem okk_read_tree (T : Txt K mg) : GB P w K mg base (L2.CX P w) 19 "read_tree" "text" (sp_read_tree K) := by
  obtain ⟨fd, F⟩ := T.fn_read_tree
  have g_BadText := ge_BadText (P := P) (w := w) (base := base) T
  have g_TreeReader___init__ := ok_TreeReader___init__ (P := P) (w := w) (base := base) T
  have g_TreeReader_fail := ok_TreeReader_fail (P := P) (w := w) (base := base) T
  have g_TreeReader_tree := ok_TreeReader_tree (P := P) (w := w) (base := base) T 12
  refine ⟨_, fd, T.glo_read_tree, F.kp, F.ok sc_read_tree (fun vs H Q E h => by first | (obtain ⟨rfl, _⟩ := h; rfl) | (obtain ⟨_, rfl, _⟩ := h; rfl) | (obtain ⟨_, _, rfl, _⟩ := h; rfl) | (obtain ⟨_, _, _, rfl, _⟩ := h; rfl) | (obtain ⟨_, _, _, _, rfl, _⟩ := h; rfl) | (obtain ⟨_, _, _, _, _, rfl, _⟩ := h; rfl) | (obtain ⟨_, _, _, _, _, _, rfl, _⟩ := h; rfl) | (obtain ⟨_, _, _, _, _, _, _, rfl, _⟩ := h; rfl) | (obtain ⟨_, _, _, _, _, _, _, _, rfl, _⟩ := h; rfl)) (fun cdv A outer s H vs Q E hr h => ?_), F.bindsN fun _ _ _ _ _ _ us hl => match us, hl with | [_], _ => rfl, kb1_of F fun _ _ _ _ _ _ _ => rfl⟩
  have tk : Takes (cxOf (L2.CX P w) P w K mg base N_read_tree "read_tree" (defScope s_read_tree) (He.ga K "read_tree") cdv A outer s H E) (fun cls d _ H => E cls d H) := takes_of rfl rfl rfl rfl
  obtain ⟨v, d, F, rfl, k0, hd, qn, qy⟩ := h
  refine ⟨_, (pss_cons (ps_if (pt_not (pt_val (pe_callB call_isi (by rfl) T.free_isinstance (by decide +kernel) (pa_cons (pv 0) (pa_cons (pe_ty (T := "str") T.free_str (by decide +kernel)) pa_nil))))) (pss_one (ps_raise rfl tk (pmk_f1 g_BadText hr (pa_cons pe_int pa_nil)))) pss_nil)
    (pss_cons (ps_set (i := 1) sc_read_tree.nd rfl (Or.inl rfl) (pe_gmake g_TreeReader___init__ hr pass0 (pa_cons (pv 0) pa_nil)))
    (pss_cons (ps_set (i := 2) sc_read_tree.nd rfl (Or.inl rfl) (pe_gm g_TreeReader_tree (pv 1) T.cls_TreeReader hr (passX (σ0 := []) tk fun _ _ _ _ h => h) (pa_cons pe_int pa_nil)))
    (pss_cons (ps_if (pt_cmpR op_lt (pe_fld (pv 1) rfl) (pe_callB call_len_str (by rfl) T.free_len (by decide +kernel) (pa_cons (pv 0) pa_nil)) (nomark _)) (pss_one (ps_expr (pe_gm0 g_TreeReader_fail (pv 1) T.cls_TreeReader hr (passX (σ0 := []) tk fun _ _ _ _ h => h)))) pss_nil)
    (pss_one (ps_ret (pv 2))))))), ?_⟩
  refine ⟨_, rfl, _, _, _, _, _, rfl, .ty _, tyX_ofX (Dx.mono k0 d _ hd), kit_ty (isiS_is d), _, rfl, ?_⟩
  cases ed : isiS d with
  | false => exact iteT ⟨_, rfl, qn ed⟩
  | true =>
    refine iteF ?_
    obtain ⟨t, rfl⟩ : ∃ t, d = .str t := by
      cases d with
      | str t => exact ⟨t, rfl⟩
      | _ => cases ed
    cases hd
    obtain ⟨hl, qb, qo⟩ := qy t rfl
    refine ⟨_, rfl, fun a dx ha hdx hne => ⟨a, dx, t, rfl, upd_same, fun H1 hb o1 => ⟨rfl, ?_⟩⟩⟩
    have s1 : Same H H1 := fun b o e => by
      rw [hb b (ne_of_none e ha), upd_ne (ne_of_none e ha), upd_ne (ne_of_none e hdx)]
      exact e
    have rd1 : RdI K F H1 a t 0 := ⟨k0.trans s1, none_of_same k0 ha, o1⟩
    obtain ⟨dx1, h1⟩ := o1
    have hlen := TL.len_tl t
    refine ⟨_, rfl, a, dx1, _, rfl, h1, rfl, a, t, 0, 11, 1, F, rfl, rfl, rfl, rd1, by omega, Nat.zero_le _, fun e z F2 H2 m2 => ?_, fun tr r z v2 F2 H2 j m2 o2 hat hv2 => ?_⟩
    · rw [List.drop_zero] at z
      exact (qb e (by unfold readT; rw [z])).mono (Mv.drop s1 ha m2).s0
    · rw [List.drop_zero] at z
      have rd2 := rd1.step m2 o2
      obtain ⟨dx2, h2⟩ := o2
      refine ⟨_, rfl, a, _, dx2, _, _, rfl, h2, T.cls_TreeReader, T.noat_TreeReader_at, rfl, _, rfl, t, rfl, szle (by omega), _, _, rfl, rfl, _, rfl, ?_⟩
      have hp := hat.pos
      cases r with
      | nil =>
        rw [decide_eq_false (show ¬ (j : Int) < (t.length : Int) by rw [List.length_nil] at hp; omega)]
        exact iteF ⟨_, rfl, qo tr (by unfold readT; rw [z]) _ _ _ (Mv.drop s1 ha m2) hv2⟩
      | cons c r =>
        have h3 := hat.2
        have h4 := congrArg List.length hat.1
        rw [List.length_drop] at h4
        rw [decide_eq_true (show (j : Int) < (t.length : Int) by rw [List.length_cons] at h4; omega)]
        refine iteT ⟨_, rfl, a, dx2, _, rfl, h2, rfl, a, t, j, rfl, ⟨dx2, h2⟩, ?_⟩
        have := (qb (c :: r) (by unfold readT; rw [z])).mono (Mv.drop s1 ha m2).s0
        rw [← hp] at this
        exact this
theorem ok_read_tree (T : Txt K mg) : G P w K mg base (L2.CX P w) 19 "read_tree" ["text"] (sp_read_tree K) := (okk_read_tree T).g
theorem gk_read_tree (T : Txt K mg) : GK P w K mg base (L2.CX P w) 19 "read_tree" "text" (sp_read_tree K) := (okk_read_tree T).kw
def TB__law_tree_read (K : PySem.W.Frag) : WX → TS := fun W => tAsg (tTup (tCons (tC (.str "told")) (tCons (tCallS (sp_read_tree K) (WE W) (tCons (tVar 0) tNil)) tNil))) (gName 1)
def TS__law_tree_read (K : PySem.W.Frag) : Addr → Value → Option Addr → TS := fun a cls d => tAsg (tTup (tCons (tC (.str "BadText")) (tCons (tXf a cls d (He.ga K "BadText") "at" (tVar 2)) tNil))) (gName 1)
/-- what is due of a text -/
def dueT (l : List Nat) : PyData := match readT l with
  | .inl e => badD ((l.length - e.length + 1 : Nat) : Int)
  | .inr t => toldD (trD t)
def sp__law_tree_read (K : PySem.W.Frag) : Sp := fun vs H Q _ => ∃ (v : V) (d : PyData) (F : Hp), vs = [v] ∧ Same F H ∧ Dx K F v d ∧ (isiS d = false → RetD K F H Q (badD 0)) ∧
  (∀ t, d = .str t → t.length < 800000 ∧ RetD K F H Q (dueT (tl t)))
theorem ok__law_tree_read (T : Txt K mg) : G P w K mg base CX0 20 "_law_tree_read" ["_law_text"] (sp__law_tree_read K) := by
  obtain ⟨fd, F⟩ := T.fn__law_tree_read
  have g_read_tree := ok_read_tree (P := P) (w := w) (base := base) T
  have gk_read_tree := gk_read_tree (P := P) (w := w) (base := base) T
  refine ⟨_, fd, T.glo__law_tree_read, F.kp, F.ok sc__law_tree_read (fun vs H Q E h => by first | (obtain ⟨rfl, _⟩ := h; rfl) | (obtain ⟨_, rfl, _⟩ := h; rfl) | (obtain ⟨_, _, rfl, _⟩ := h; rfl) | (obtain ⟨_, _, _, rfl, _⟩ := h; rfl) | (obtain ⟨_, _, _, _, rfl, _⟩ := h; rfl) | (obtain ⟨_, _, _, _, _, rfl, _⟩ := h; rfl) | (obtain ⟨_, _, _, _, _, _, rfl, _⟩ := h; rfl) | (obtain ⟨_, _, _, _, _, _, _, rfl, _⟩ := h; rfl) | (obtain ⟨_, _, _, _, _, _, _, _, rfl, _⟩ := h; rfl)) (fun cdv A outer s H vs Q E hr h => ?_), F.bindsN fun _ _ _ _ _ _ us hl => match us, hl with | [_], _ => rfl⟩
  obtain ⟨v, d, F, rfl, k0, hd, qn, qy⟩ := h
  refine ⟨_, PSs.nox (pss_cons (ps_set (i := 1) sc__law_tree_read.nd rfl (Or.inl rfl) pe_non)
    (pss_cons (ps_try_as (i := 2) (tb := TB__law_tree_read K) (ts := TS__law_tree_read K) (Wout := fun _ _ _ _ => False) rfl rfl sc__law_tree_read.nd rfl rfl ⟨rfl, by decide, Or.inl T.glo_BadText⟩ takes0
      (fun W pn xe tk _ => (pss_one (ps_set (i := 1) sc__law_tree_read.nd rfl (Or.inl rfl) (pe_tup (pa_cons pe_str (pa_cons (pe_gS g_read_tree hr (fun σ => passAt tk σ) (pa_cons (pv 0) pa_nil)) pa_nil))))))
      (fun a oe cls d pn hz hf => (pss_one (ps_set (i := 1) sc__law_tree_read.nd rfl (Or.inl rfl) (pe_tup (pa_cons pe_str (pa_cons (pe_xf (XfC.of T.excC_BadText) T.noat_BadText_at hz hf (pv 2)) pa_nil)))))))
    (pss_one (ps_ret (pv 1))))), ?_⟩
  have catch' : ∀ (k : Int) (D : Ends), (RetD K F H Q (badD k)) → (∀ σ' H', (∃ (u : V) (F' : Hp), σ' = [some v, some u, none] ∧ Mv P0 F H F' H' ∧ Dp K F' u (badD k)) → D.nx σ' H') →
      Err1 (He.ga K "BadText") "at" (.int k) H (WE (wAs K (.ref (He.ga K "BadText")) 2 (TS__law_tree_read K) (fun _ _ _ _ => False) D) [some v, some .non, none]) := by
    intro k D q hD dd H' e hdd hxd
    refine ⟨true, T.exm_BadText_BadText, fun _ a ha => ?_, fun q => nomatch q⟩
    refine ⟨_, rfl, rfl, rfl, dd, _, _, rfl, hxd, rfl, by show 2 ≤ sizeLine; decide, fun p hp => ?_⟩
    obtain ⟨m, h⟩ := two_new (K := K) (v := .str "BadText") (u := .int k) ((Mv.refl k0).same e) hp (.str _) (.int _)
    exact hD _ _ ⟨_, _, rfl, m, h⟩
  have after : ∀ (d' : PyData), RetD K F H Q d' → ∀ σ' H', (∃ (u : V) (F' : Hp), σ' = [some v, some u, none] ∧ Mv P0 F H F' H' ∧ Dp K F' u d') → tRet (tVar 1) { nx := fun x H' => Q V.non H', rt := Q } σ' H' := by
    rintro d' q σ' H' ⟨u, F', rfl, m, h⟩
    exact ⟨_, rfl, q _ _ _ m h⟩
  refine ⟨_, rfl, v, d, F, rfl, k0, hd, fun e => catch' 0 _ (qn e) (after _ (qn e)), fun t et => ?_⟩
  obtain ⟨h1, q⟩ := qy t et
  refine ⟨h1, fun e ek => ?_, fun tr ek => fun v1 F1 H1 m1 hv1 => ?_⟩
  · rw [show dueT (tl t) = badD (((tl t).length - e.length + 1 : Nat) : Int) by unfold dueT; rw [ek]] at q
    exact catch' _ _ q (after _ q)
  · rw [show dueT (tl t) = toldD (trD tr) by unfold dueT; rw [ek]] at q
    refine ⟨by show 2 ≤ sizeLine; decide, fun p hp => ?_⟩
    obtain ⟨m, h⟩ := two_new (K := K) (v := .str "told") (u := v1) m1 hp (.str _) hv1
    exact after _ q _ _ ⟨_, _, rfl, m, h⟩
end
end Q
/-! W94: trees judged and written -/
namespace Q
open PySem PySem.Spec PyProof.Rows L2
open TL (tl)
section
variable {P : Program} {w : World} {K : PySem.W.Frag} {mg : Str → Option Value} {base : Heap}
def plainB : Nat → PyData → Bool
  | 0, _ => false
  | n + 1, .tuple (.str s :: r) => if V.str s = V.str "leaf" then r.isEmpty else if V.str s = V.str "motion" then (match r with | [.int i] => decide (0 ≤ i) | _ => false)
    else if V.str s = V.str "split" then (match r with | [.int i, a, b] => decide (0 ≤ i) && (plainB n a && plainB n b) | _ => false) else false
  | _ + 1, _ => false
theorem plainB_cons (n : Nat) (s : Str) (r : List PyData) : plainB (n + 1) (.tuple (.str s :: r)) = if V.str s = V.str "leaf" then r.isEmpty else if V.str s = V.str "motion" then (match r with | [.int i] => decide (0 ≤ i) | _ => false)
    else if V.str s = V.str "split" then (match r with | [.int i, a, b] => decide (0 ≤ i) && (plainB n a && plainB n b) | _ => false) else false := rfl
theorem consX {K : PySem.W.Frag} {H : Hp} {xs : List V} {d : PyData} {ds : List PyData} (h : DxAll K H xs (d :: ds)) : ∃ x r, xs = x :: r ∧ Dx K H x d ∧ DxAll K H r ds := by
  cases h with
  | cons h r => exact ⟨_, _, rfl, h, r⟩
theorem nilX {K : PySem.W.Frag} {H : Hp} {xs : List V} (h : DxAll K H xs []) : xs = [] := by
  cases h
  rfl
theorem tupD {d : PyData} (h : isiT d = true) : ∃ ds, d = .tuple ds := by
  cases d with
  | tuple ds => exact ⟨ds, rfl⟩
  | _ => cases h
theorem strD {d : PyData} (h : isiS d = true) : ∃ s, d = .str s := by
  cases d with
  | str s => exact ⟨s, rfl⟩
  | _ => cases h
theorem plainB_noT {n : Nat} {d : PyData} (h : isiT d = false) : plainB n d = false := by
  cases n with
  | zero => rfl
  | succ n =>
    cases d with
    | tuple ds => cases h
    | _ => rfl
theorem plainB_noS {n : Nat} {d : PyData} {r : List PyData} (h : isiS d = false) : plainB n (.tuple (d :: r)) = false := by
  cases n with
  | zero => rfl
  | succ n =>
    cases d with
    | str ds => cases h
    | _ => rfl
theorem plainB_nil (n : Nat) : plainB n (.tuple []) = false := by cases n <;> rfl
/-- behind the leaf: no whole number from 0 on -/
theorem plainB_noI {n : Nat} {s : Str} {r : List PyData} (hl : V.str s ≠ V.str "leaf") (h : ∀ i r', r = .int i :: r' → i < 0) : plainB n (.tuple (.str s :: r)) = false := by
  cases n with
  | zero => rfl
  | succ n =>
    rw [plainB_cons, if_neg hl]
    have h1 : ∀ i, 0 ≤ i → ∀ r', r ≠ PyData.int i :: r' := fun i hi r' e => by
      have := h i r' e
      omega
    by_cases c1 : V.str s = V.str "motion"
    · rw [if_pos c1]
      split
      · rename_i i
        exact decide_eq_false fun z => h1 i z _ rfl
      · rfl
    · rw [if_neg c1]
      by_cases c2 : V.str s = V.str "split"
      · rw [if_pos c2]
        split
        · rename_i i a b
          rw [decide_eq_false fun z => h1 i z _ rfl]
          rfl
        · rfl
      · rw [if_neg c2]
theorem plainB_other {n : Nat} {s : Str} {r : List PyData} (hl : V.str s ≠ V.str "leaf") (hm : V.str s ≠ V.str "motion") (hs : V.str s ≠ V.str "split") : plainB n (.tuple (.str s :: r)) = false := by
  cases n with
  | zero => rfl
  | succ n => rw [plainB_cons, if_neg hl, if_neg hm, if_neg hs]
def sp_is_plain_tree (K : PySem.W.Frag) (m : Nat) : Sp := fun vs H Q _ => ∃ (v : V) (d : PyData) (n : Nat) (dp : Int), vs = [v, .int dp] ∧ m = n + 1 ∧ dp + (n : Int) = 13 ∧ Dx K H v d ∧ RetS H Q (.bl (plainB n d))
theorem no_is_plain_tree {vs : List V} {H : Hp} {Q : VK} {E : XK} (h : sp_is_plain_tree K 0 vs H Q E) : False := by
  obtain ⟨_, _, _, _, _, z, _⟩ := h
  omega
theorem ok0_is_plain_tree (T : Txt K mg) : G P w K mg base CX0 (0 + 2) "is_plain_tree" ["thing", "deep"] (sp_is_plain_tree K 0) := by
  obtain ⟨fd, F⟩ := T.fn_is_plain_tree
  refine ⟨_, fd, T.glo_is_plain_tree, F.kp, F.ok sc_is_plain_tree (fun vs H Q E h => by first | (obtain ⟨rfl, _⟩ := h; rfl) | (obtain ⟨_, rfl, _⟩ := h; rfl) | (obtain ⟨_, _, rfl, _⟩ := h; rfl) | (obtain ⟨_, _, _, rfl, _⟩ := h; rfl) | (obtain ⟨_, _, _, _, rfl, _⟩ := h; rfl) | (obtain ⟨_, _, _, _, _, rfl, _⟩ := h; rfl) | (obtain ⟨_, _, _, _, _, _, rfl, _⟩ := h; rfl) | (obtain ⟨_, _, _, _, _, _, _, rfl, _⟩ := h; rfl) | (obtain ⟨_, _, _, _, _, _, _, _, rfl, _⟩ := h; rfl)) (fun cdv A outer s H vs Q E hr h => ?_), F.bindsN fun _ _ _ _ _ _ us hl => match us, hl with | [_, _], _ => rfl⟩
  exact (no_is_plain_tree h).elim
theorem okS_is_plain_tree (T : Txt K mg) (n : Nat) (g_is_plain_tree : G P w K mg base CX0 (n + 2) "is_plain_tree" ["thing", "deep"] (sp_is_plain_tree K n)) : G P w K mg base CX0 (n + 2 + 1) "is_plain_tree" ["thing", "deep"] (sp_is_plain_tree K (n + 1)) := by
  obtain ⟨fd, F⟩ := T.fn_is_plain_tree
  have g_is_integer := ok_is_integer (P := P) (w := w) (base := base) T
  refine ⟨_, fd, T.glo_is_plain_tree, F.kp, F.ok sc_is_plain_tree (fun vs H Q E h => by first | (obtain ⟨rfl, _⟩ := h; rfl) | (obtain ⟨_, rfl, _⟩ := h; rfl) | (obtain ⟨_, _, rfl, _⟩ := h; rfl) | (obtain ⟨_, _, _, rfl, _⟩ := h; rfl) | (obtain ⟨_, _, _, _, rfl, _⟩ := h; rfl) | (obtain ⟨_, _, _, _, _, rfl, _⟩ := h; rfl) | (obtain ⟨_, _, _, _, _, _, rfl, _⟩ := h; rfl) | (obtain ⟨_, _, _, _, _, _, _, rfl, _⟩ := h; rfl) | (obtain ⟨_, _, _, _, _, _, _, _, rfl, _⟩ := h; rfl)) (fun cdv A outer s H vs Q E hr h => ?_), F.bindsN fun _ _ _ _ _ _ us hl => match us, hl with | [_, _], _ => rfl⟩
  obtain ⟨v, d, n', dp, rfl, en, hdp, hd, q⟩ := h
  obtain rfl : n = n' := by omega
  refine ⟨_, PSs.nox (pss_cons (ps_if (PW.pt (pw_or (pt_not (pt_val (pe_callB call_isi (by rfl) T.free_isinstance (by decide +kernel) (pa_cons (pv 0) (pa_cons (pe_ty (T := "tuple") T.free_tuple (by decide +kernel)) pa_nil))))) (pw_or (pt_cmpR op_eq (pe_callB call_len_seq (by rfl) T.free_len (by decide +kernel) (pa_cons (pv 0) pa_nil)) pe_int (nomark _)) (pw_or (pt_cmpR op_gt (pv 1) (pe_gint T.int_MOST_DEEP) (nomark _)) (pw_or1 (pt_not (pt_val (pe_callB call_isi (by rfl) T.free_isinstance (by decide +kernel) (pa_cons (pe_ix ix_tup (pv 0) pe_int (fun _ _ => rfl)) (pa_cons (pe_ty (T := "str") T.free_str (by decide +kernel)) pa_nil)))))))))) (pss_one (ps_ret pe_bl)) pss_nil)
    (pss_cons (ps_if (pt_cmpR op_eq (pe_ix ix_tup (pv 0) pe_int (fun _ _ => rfl)) pe_str (nomark _)) (pss_one (ps_ret (pe_cmpR op_eq (pe_callB call_len_seq (by rfl) T.free_len (by decide +kernel) (pa_cons (pv 0) pa_nil)) pe_int (nomark _)))) pss_nil)
    (Evl.pss_cut (ps_if (PW.pt (pw_or (PW.pt (pw_and (pt_cmpR op_ne (pe_ix ix_tup (pv 0) pe_int (fun _ _ => rfl)) pe_str (nomark _)) (pw_and1 (pt_cmpR op_ne (pe_ix ix_tup (pv 0) pe_int (fun _ _ => rfl)) pe_str (nomark _))))) (pw_or (pt_cmpR op_lt (pe_callB call_len_seq (by rfl) T.free_len (by decide +kernel) (pa_cons (pv 0) pa_nil)) pe_int (nomark _)) (pw_or (pt_not (pt_val (pe_g g_is_integer hr pass0 (pa_cons (pe_ix ix_tup (pv 0) pe_int (fun _ _ => rfl)) pa_nil)))) (pw_or1 (pt_cmpR op_lt (pe_ix ix_tup (pv 0) pe_int (fun _ _ => rfl)) pe_int (nomark _))))))) (pss_one (ps_ret pe_bl)) pss_nil)
    (pss_cons (ps_if (pt_cmpR op_eq (pe_ix ix_tup (pv 0) pe_int (fun _ _ => rfl)) pe_str (nomark _)) (pss_one (ps_ret (pe_cmpR op_eq (pe_callB call_len_seq (by rfl) T.free_len (by decide +kernel) (pa_cons (pv 0) pa_nil)) pe_int (nomark _)))) pss_nil)
    (pss_one (ps_ret (pe_and (pe_cmpR op_eq (pe_callB call_len_seq (by rfl) T.free_len (by decide +kernel) (pa_cons (pv 0) pa_nil)) pe_int (nomark _)) (pe_and (pe_g g_is_plain_tree hr pass0 (pa_cons (pe_ix ix_tup (pv 0) pe_int (fun _ _ => rfl)) (pa_cons (pe_op op_add (pv 1) pe_int) pa_nil))) (pe_one (pe_g g_is_plain_tree hr pass0 (pa_cons (pe_ix ix_tup (pv 0) pe_int (fun _ _ => rfl)) (pa_cons (pe_op op_add (pv 1) pe_int) pa_nil)))))))))))), ?_⟩
  refine ⟨_, rfl, _, _, _, _, _, rfl, .ty _, tyX_ofX hd, kit_ty (isiT_is d), _, rfl, ?_⟩
  cases et : isiT d with
  | false =>
    rw [plainB_noT et] at q
    exact iteT (iteT (q _ (Same.refl _)))
  | true =>
    refine iteF ?_
    obtain ⟨ds, rfl⟩ := tupD et
    obtain ⟨p, xs, rfl, hs, hx⟩ := tup_ofX hd
    have hlx := DxAll.len hx
    refine ⟨_, rfl, _, _, rfl, .inr hs, rfl, _, rfl, ?_⟩
    rw [dint, hlx]
    rcases ds with _ | ⟨d0, dr⟩
    · rw [plainB_nil] at q
      rw [decide_eq_true (show ((([] : List PyData).length : Nat) : Int) = 0 from rfl)]
      exact iteT (iteT (q _ (Same.refl _)))
    · rw [decide_eq_false (show ¬ ((((d0 :: dr) : List PyData).length : Nat) : Int) = 0 by rw [List.length_cons]; omega)]
      refine iteF ⟨_, rfl, _, _, rfl, rfl, _, rfl, ?_⟩
      obtain ⟨x0, xr, rfl, h0, hxr⟩ := consX hx
      have at0 : atI (x0 :: xr) 0 = some x0 := atI_nat (xs := x0 :: xr) (j := 0) rfl
      by_cases c12 : (12 : Int) < dp
      · rw [decide_eq_true c12]
        obtain rfl : n = 0 := by omega
        exact iteT (iteT (q _ (Same.refl _)))
      rw [decide_eq_false c12]
      obtain ⟨m, rfl⟩ : ∃ m, n = m + 1 := ⟨n - 1, by omega⟩
      refine iteF ⟨_, rfl, _, _, _, _, rfl, rfl, hs, at0, _, _, _, _, _, rfl, .ty _, tyX_ofX h0, kit_ty (isiS_is d0), _, rfl, ?_⟩
      cases e0 : isiS d0 with
      | false =>
        rw [plainB_noS e0] at q
        exact iteT (q _ (Same.refl _))
      | true =>
        refine iteF ?_
        obtain ⟨s0, rfl⟩ := strD e0
        obtain rfl := str_ofX h0
        refine ⟨_, rfl, _, _, _, _, rfl, rfl, hs, at0, rfl, _, rfl, ?_⟩
        by_cases c1 : V.str s0 = V.str "leaf"
        · rw [decide_eq_true c1]
          rw [plainB_cons, if_pos c1] at q
          refine iteT ⟨_, rfl, _, _, rfl, .inr hs, rfl, ?_⟩
          rw [dint, hlx]
          have e : decide ((((PyData.str s0 :: dr).length : Nat) : Int) = 1) = dr.isEmpty := by
            cases dr with
            | nil => rfl
            | cons _ _ => exact decide_eq_false (by rw [List.length_cons, List.length_cons]; omega)
          rw [e]
          exact q _ (Same.refl _)
        rw [decide_eq_false c1]
        have hr0 : RetS H Q (.bl false) → Q (.bl false) H := fun z => z _ (Same.refl _)
        refine iteF ⟨fun σ' H' => H' = H ∧ σ' = [some (.ref p), some (.int dp)] ∧ (V.str s0 = V.str "motion" ∨ (V.str s0 ≠ V.str "motion" ∧ V.str s0 = V.str "split")) ∧ ∃ i r', dr = .int i :: r' ∧ 0 ≤ i, ?_, ?_⟩
        · refine ⟨_, rfl, _, _, _, _, rfl, rfl, hs, at0, rfl, _, rfl, ?_⟩
          have rest : (V.str s0 = V.str "motion" ∨ (V.str s0 ≠ V.str "motion" ∧ V.str s0 = V.str "split")) → (∀ i r', dr = .int i :: r' → i < 0) → Q (.bl false) H := fun _ z => by
            rw [plainB_noI c1 z] at q
            exact hr0 q
          have more : (V.str s0 = V.str "motion" ∨ (V.str s0 ≠ V.str "motion" ∧ V.str s0 = V.str "split")) → dr = [] ∨ ∃ d1 r1 x1 xr1, dr = d1 :: r1 ∧ xr = x1 :: xr1 ∧ Dx K H x1 d1 ∧ atI (V.str s0 :: xr) 1 = some x1 := fun _ => by
            rcases dr with _ | ⟨d1, r1⟩
            · exact .inl rfl
            · obtain ⟨x1, xr1, rfl, h1, _⟩ := consX hxr
              exact .inr ⟨d1, r1, x1, xr1, rfl, rfl, h1, atI_nat (xs := V.str s0 :: x1 :: xr1) (j := 1) rfl⟩
          by_cases z1 : V.str s0 = V.str "motion"
          · rw [decide_eq_true z1]
            refine iteF (iteF ?_)
            refine ⟨_, rfl, _, _, rfl, .inr hs, _, _, rfl, rfl, _, rfl, ?_⟩
            rw [hlx]
            rcases more (.inl z1) with rfl | ⟨d1, r1, x1, xr1, rfl, rfl, h1, at1⟩
            · exact iteT (iteT (rest (.inl z1) fun _ _ z => nomatch z))
            rw [decide_eq_false (show ¬ (((PyData.str s0 :: d1 :: r1).length : Nat) : Int) < 2 by rw [List.length_cons, List.length_cons]; omega)]
            refine iteF ⟨_, rfl, _, _, _, _, rfl, rfl, hs, at1, x1, d1, rfl, h1, _, rfl, ?_⟩
            cases ei : isIntD d1 with
            | false => exact iteT (iteT (rest (.inl z1) fun i r' z => by rw [(List.cons.inj z).1] at ei; cases ei))
            | true =>
              obtain ⟨i, rfl⟩ := isInt_int ei
              obtain rfl := int_ofX h1
              refine iteF ⟨_, rfl, _, _, _, _, rfl, rfl, hs, at1, _, _, rfl, rfl, _, rfl, ?_⟩
              by_cases ci : i < 0
              · rw [decide_eq_true ci]
                exact iteT (rest (.inl z1) fun i' r' z => by
                  have := (List.cons.inj z).1
                  injection this with this
                  omega)
              · rw [decide_eq_false ci]
                exact iteF ⟨rfl, rfl, .inl z1, i, r1, rfl, by omega⟩
          · rw [decide_eq_false z1]
            refine iteT ⟨_, rfl, _, _, _, _, rfl, rfl, hs, at0, rfl, _, rfl, ?_⟩
            by_cases z2 : V.str s0 = V.str "split"
            · rw [decide_eq_true z2]
              refine iteF ?_
              refine ⟨_, rfl, _, _, rfl, .inr hs, _, _, rfl, rfl, _, rfl, ?_⟩
              rw [hlx]
              rcases more (.inr ⟨z1, z2⟩) with rfl | ⟨d1, r1, x1, xr1, rfl, rfl, h1, at1⟩
              · exact iteT (iteT (rest (.inr ⟨z1, z2⟩) fun _ _ z => nomatch z))
              rw [decide_eq_false (show ¬ (((PyData.str s0 :: d1 :: r1).length : Nat) : Int) < 2 by rw [List.length_cons, List.length_cons]; omega)]
              refine iteF ⟨_, rfl, _, _, _, _, rfl, rfl, hs, at1, x1, d1, rfl, h1, _, rfl, ?_⟩
              cases ei : isIntD d1 with
              | false => exact iteT (iteT (rest (.inr ⟨z1, z2⟩) fun i r' z => by rw [(List.cons.inj z).1] at ei; cases ei))
              | true =>
                obtain ⟨i, rfl⟩ := isInt_int ei
                obtain rfl := int_ofX h1
                refine iteF ⟨_, rfl, _, _, _, _, rfl, rfl, hs, at1, _, _, rfl, rfl, _, rfl, ?_⟩
                by_cases ci : i < 0
                · rw [decide_eq_true ci]
                  exact iteT (rest (.inr ⟨z1, z2⟩) fun i' r' z => by
                    have := (List.cons.inj z).1
                    injection this with this
                    omega)
                · rw [decide_eq_false ci]
                  exact iteF ⟨rfl, rfl, .inr ⟨z1, z2⟩, i, r1, rfl, by omega⟩
            · rw [decide_eq_false z2]
              rw [plainB_other c1 z1 z2] at q
              exact iteT (iteT (hr0 q))
        · rintro σ' H' ⟨rfl, rfl, zw, i, r', rfl, hi⟩
          rw [plainB_cons, if_neg c1] at q
          refine ⟨_, rfl, _, _, _, _, rfl, rfl, hs, at0, rfl, _, rfl, ?_⟩
          rcases zw with z1 | ⟨z1, z2⟩
          · rw [decide_eq_true z1]
            rw [if_pos z1] at q
            refine iteT ⟨_, rfl, _, _, rfl, .inr hs, rfl, ?_⟩
            rw [dint, hlx]
            have e : (match (PyData.int i :: r') with | [.int i] => decide (0 ≤ i) | _ => false) = decide ((((PyData.str s0 :: .int i :: r').length : Nat) : Int) = 2) := by
              cases r' with
              | nil => exact (decide_eq_true hi).trans (decide_eq_true rfl).symm
              | cons _ _ => exact (decide_eq_false (by rw [List.length_cons, List.length_cons, List.length_cons]; omega)).symm
            rw [e] at q
            exact q _ (Same.refl _)
          · rw [decide_eq_false z1]
            rw [if_neg z1, if_pos z2] at q
            refine iteF ⟨_, rfl, _, _, rfl, .inr hs, rfl, _, rfl, ?_⟩
            rw [dint, hlx]
            by_cases c4 : (((PyData.str s0 :: .int i :: r').length : Nat) : Int) = 4
            · rw [decide_eq_true c4]
              obtain ⟨da, db, rfl⟩ : ∃ da db, r' = [da, db] := by
                rw [List.length_cons, List.length_cons] at c4
                match r', c4 with
                | [da, db], _ => exact ⟨da, db, rfl⟩
                | [], c4 => exact absurd c4 (by decide)
                | [_], c4 => exact absurd c4 (by rw [List.length_singleton]; decide)
                | _ :: _ :: _ :: _, c4 => rw [List.length_cons, List.length_cons, List.length_cons] at c4; omega
              obtain ⟨x1, xr1, rfl, _, hr1⟩ := consX hxr
              obtain ⟨xa, xb, rfl, ha, hb⟩ := all2X hr1
              have q : RetS H' Q (.bl (plainB m da && plainB m db)) := by
                have q2 : RetS H' Q (.bl (decide (0 ≤ i) && (plainB m da && plainB m db))) := q
                rw [decide_eq_true hi, Bool.true_and] at q2
                exact q2
              refine iteT ⟨_, rfl, _, _, _, _, rfl, rfl, hs, atI_nat (xs := [V.str s0, x1, xa, xb]) (j := 2) rfl, _, rfl, _, _, rfl, rfl, xa, da, m, _, rfl, rfl, ?_, ha, fun H1 e1 => ?_⟩
              · show dp + 1 + (m : Int) = 13
                omega
              refine ⟨_, rfl, ?_⟩
              cases ea : plainB m da with
              | false =>
                rw [ea] at q
                exact iteF (q _ e1)
              | true =>
                rw [ea] at q
                refine iteT ⟨_, rfl, _, _, _, _, rfl, rfl, Same.sqT e1 hs, atI_nat (xs := [V.str s0, x1, xa, xb]) (j := 3) rfl, _, rfl, _, _, rfl, rfl, xb, db, m, _, rfl, rfl, ?_, Dx.mono e1 _ _ hb, fun H2 e2 => ?_⟩
                · show dp + 1 + (m : Int) = 13
                  omega
                · exact q _ (e1.trans e2)
            · rw [decide_eq_false c4]
              have e : (match (PyData.int i :: r') with | [.int i, a, b] => decide (0 ≤ i) && (plainB m a && plainB m b) | _ => false) = false := by
                rw [List.length_cons, List.length_cons] at c4
                match r', c4 with
                | [da, db], c4 => exact absurd rfl c4
                | [], _ => rfl
                | [_], _ => rfl
                | _ :: _ :: _ :: _, _ => rfl
              rw [e] at q
              exact iteF (hr0 q)
theorem ok_is_plain_tree (T : Txt K mg) : ∀ n : Nat, G P w K mg base CX0 (n + 2) "is_plain_tree" ["thing", "deep"] (sp_is_plain_tree K n)
  | 0 => ok0_is_plain_tree T
  | n + 1 => (show n + 2 + 1 = n + 1 + 2 by omega) ▸ okS_is_plain_tree T n (ok_is_plain_tree T n)
def sp_tree_word (K : PySem.W.Frag) (m : Nat) : Sp := fun vs H Q _ => ∃ (v : V) (tr : Tr), vs = [v] ∧ hgt tr ≤ m ∧ sml tr ∧ (trW tr).length < 900000 ∧ Dp K H v (trD tr) ∧ ∀ s : Str, tl s = trW tr → Q (.str s) H
theorem hgt_pos (t : Tr) : 1 ≤ hgt t := by cases t <;> simp [hgt]
theorem no_tree_word {vs : List V} {H : Hp} {Q : VK} {E : XK} (h : sp_tree_word K 0 vs H Q E) : False := by
  obtain ⟨_, t, _, z, _⟩ := h
  have := hgt_pos t
  omega
theorem ok0_tree_word (T : Txt K mg) : G P w K mg base CX0 (0 + 1) "tree_word" ["tree"] (sp_tree_word K 0) := by
  obtain ⟨fd, F⟩ := T.fn_tree_word
  refine ⟨_, fd, T.glo_tree_word, F.kp, F.ok sc_tree_word (fun vs H Q E h => by first | (obtain ⟨rfl, _⟩ := h; rfl) | (obtain ⟨_, rfl, _⟩ := h; rfl) | (obtain ⟨_, _, rfl, _⟩ := h; rfl) | (obtain ⟨_, _, _, rfl, _⟩ := h; rfl) | (obtain ⟨_, _, _, _, rfl, _⟩ := h; rfl) | (obtain ⟨_, _, _, _, _, rfl, _⟩ := h; rfl) | (obtain ⟨_, _, _, _, _, _, rfl, _⟩ := h; rfl) | (obtain ⟨_, _, _, _, _, _, _, rfl, _⟩ := h; rfl) | (obtain ⟨_, _, _, _, _, _, _, _, rfl, _⟩ := h; rfl)) (fun cdv A outer s H vs Q E hr h => ?_), F.bindsN fun _ _ _ _ _ _ us hl => match us, hl with | [_], _ => rfl⟩
  exact (no_tree_word h).elim
theorem okS_tree_word (T : Txt K mg) (n : Nat) (g_tree_word : G P w K mg base CX0 (n + 1) "tree_word" ["tree"] (sp_tree_word K n)) : G P w K mg base CX0 (n + 1 + 1) "tree_word" ["tree"] (sp_tree_word K (n + 1)) := by
  obtain ⟨fd, F⟩ := T.fn_tree_word
  refine ⟨_, fd, T.glo_tree_word, F.kp, F.ok sc_tree_word (fun vs H Q E h => by first | (obtain ⟨rfl, _⟩ := h; rfl) | (obtain ⟨_, rfl, _⟩ := h; rfl) | (obtain ⟨_, _, rfl, _⟩ := h; rfl) | (obtain ⟨_, _, _, rfl, _⟩ := h; rfl) | (obtain ⟨_, _, _, _, rfl, _⟩ := h; rfl) | (obtain ⟨_, _, _, _, _, rfl, _⟩ := h; rfl) | (obtain ⟨_, _, _, _, _, _, rfl, _⟩ := h; rfl) | (obtain ⟨_, _, _, _, _, _, _, rfl, _⟩ := h; rfl) | (obtain ⟨_, _, _, _, _, _, _, _, rfl, _⟩ := h; rfl)) (fun cdv A outer s H vs Q E hr h => ?_), F.bindsN fun _ _ _ _ _ _ us hl => match us, hl with | [_], _ => rfl⟩
  obtain ⟨v, tr, rfl, hh, hs, hl, hd, q⟩ := h
  refine ⟨_, PSs.nox (pss_cons (ps_if (pt_cmpR op_eq (pe_ix ix_tup (pv 0) pe_int (fun _ _ => rfl)) pe_str (nomark _)) (pss_one (ps_ret pe_str)) pss_nil)
    (pss_cons (ps_if (pt_cmpR op_eq (pe_ix ix_tup (pv 0) pe_int (fun _ _ => rfl)) pe_str (nomark _)) (pss_one (ps_ret (pe_callTy call_str_int (by rfl) T.free_str (by decide +kernel) (pa_cons (pe_ix ix_tup (pv 0) pe_int (fun _ _ => rfl)) pa_nil)))) pss_nil)
    (pss_one (ps_ret (pe_joined (PJ.cons pe_str (PJ.cons (pe_fmt (pe_ix ix_tup (pv 0) pe_int (fun _ _ => rfl))) (PJ.cons pe_str (PJ.cons (pe_fmt (pe_g g_tree_word hr pass0 (pa_cons (pe_ix ix_tup (pv 0) pe_int (fun _ _ => rfl)) pa_nil))) (PJ.cons pe_str (PJ.cons (pe_fmt (pe_g g_tree_word hr pass0 (pa_cons (pe_ix ix_tup (pv 0) pe_int (fun _ _ => rfl)) pa_nil))) (PJ.cons pe_str PJ.nil)))))))))))), ?_⟩
  have ap : ∀ x y : Str, (x ++ y).length = x.length + y.length := fun x y => by
    rw [TL.len_tl, TL.tl_append, List.length_append, ← TL.len_tl, ← TL.len_tl]
  have leaf_motion : decide (V.str "motion" = V.str "leaf") = false := by decide +kernel
  have leaf_split : decide (V.str "split" = V.str "leaf") = false := by decide +kernel
  have motion_split : decide (V.str "split" = V.str "motion") = false := by decide +kernel
  cases tr with
  | leaf =>
    obtain ⟨p, xs, rfl, hsq, hx⟩ := tup_of hd
    obtain ⟨x0, rfl, h0⟩ := all1 hx
    obtain rfl := str_of h0
    refine ⟨_, rfl, _, _, _, _, rfl, rfl, hsq, rfl, rfl, _, rfl, ?_⟩
    rw [decide_eq_true rfl]
    exact iteT (q _ (by decide +kernel))
  | motion n =>
    obtain ⟨p, xs, rfl, hsq, hx⟩ := tup_of hd
    obtain ⟨x0, x1, rfl, h0, h1⟩ := all2 hx
    obtain rfl := str_of h0
    obtain rfl := int_of h1
    refine ⟨_, rfl, _, _, _, _, rfl, rfl, hsq, rfl, rfl, _, rfl, ?_⟩
    rw [leaf_motion]
    refine iteF ⟨_, rfl, _, _, _, _, rfl, rfl, hsq, rfl, rfl, _, rfl, ?_⟩
    rw [decide_eq_true rfl]
    exact iteT ⟨_, rfl, _, _, _, _, rfl, rfl, hsq, rfl, _, rfl, (show Sm (n : Int) from Nat.lt_trans hs (by decide)).log, q _ (TL.tl_num n)⟩
  | split n ta tb =>
    obtain ⟨hn, hsa, hsb⟩ := hs
    obtain ⟨p, xs, rfl, hsq, hx⟩ := tup_of hd
    obtain ⟨x0, x1, xa, xb, rfl, h0, h1, ha, hb⟩ := all4 hx
    obtain rfl := str_of h0
    obtain rfl := int_of h1
    refine ⟨_, rfl, _, _, _, _, rfl, rfl, hsq, rfl, rfl, _, rfl, ?_⟩
    rw [leaf_split]
    refine iteF ⟨_, rfl, _, _, _, _, rfl, rfl, hsq, rfl, rfl, _, rfl, ?_⟩
    rw [motion_split]
    refine iteF ?_
    have hsm : Sm (n : Int) := Nat.lt_trans hn (by decide)
    have hln := congrArg List.length (TL.tl_num n)
    rw [← TL.len_tl] at hln
    have hW : (trW (.split n ta tb)).length = 1 + ((TL.numL n).length + (1 + ((trW ta).length + (1 + ((trW tb).length + 1))))) := by
      show (40 :: (TL.numL n ++ 32 :: (trW ta ++ 32 :: (trW tb ++ [41])))).length = _
      simp only [List.length_cons, List.length_append, List.length_nil]
      omega
    rw [hW] at hl
    have hga : hgt ta ≤ _ := Nat.le_trans (Nat.le_max_left (hgt ta) (hgt tb)) (Nat.le_of_succ_le_succ hh)
    have hgb : hgt tb ≤ _ := Nat.le_trans (Nat.le_max_right (hgt ta) (hgt tb)) (Nat.le_of_succ_le_succ hh)
    have l0 : Str.empty.length = 0 := rfl
    have l1 : ("(" : Str).length = 1 := by decide +kernel
    have l2 : (" " : Str).length = 1 := by decide +kernel
    have l3 : (")" : Str).length = 1 := by decide +kernel
    refine ⟨_, rfl, szle (by simp only [ap, l0, l1]; omega), _, rfl, _, _, _, _, rfl, rfl, hsq, rfl, .inr ⟨_, rfl, hsm.log, _, rfl, szle (by simp only [ap, l0, l1, hln]; omega), _, rfl, szle (by simp only [ap, l0, l1, l2, hln]; omega), ?_⟩⟩
    refine ⟨_, rfl, _, _, _, _, rfl, rfl, hsq, rfl, xa, ta, rfl, hga, hsa, by omega, ha, fun sa esa => .inl ⟨sa, rfl, ?_⟩⟩
    have lsa : sa.length = (trW ta).length := by rw [TL.len_tl, esa]
    refine ⟨szle (by omega), _, rfl, szle (by simp only [ap, l0, l1, l2, hln, lsa]; omega), _, rfl, szle (by simp only [ap, l0, l1, l2, hln, lsa]; omega), ?_⟩
    refine ⟨_, rfl, _, _, _, _, rfl, rfl, hsq, rfl, xb, tb, rfl, hgb, hsb, by omega, hb, fun sb esb => .inl ⟨sb, rfl, ?_⟩⟩
    have lsb : sb.length = (trW tb).length := by rw [TL.len_tl, esb]
    refine ⟨szle (by omega), _, rfl, szle (by simp only [ap, l0, l1, l2, hln, lsa, lsb]; omega), _, rfl, szle (by simp only [ap, l0, l1, l2, l3, hln, lsa, lsb]; omega), q _ ?_⟩
    show _ = 40 :: (TL.numL n ++ 32 :: (trW ta ++ 32 :: (trW tb ++ [41])))
    simp only [TL.tl_append]
    rw [esa, esb, TL.tl_num, show tl "(" = [40] by decide +kernel, show tl " " = [32] by decide +kernel, show tl ")" = [41] by decide +kernel, show tl Str.empty = [] from rfl]
    simp
theorem ok_tree_word (T : Txt K mg) : ∀ n : Nat, G P w K mg base CX0 (n + 1) "tree_word" ["tree"] (sp_tree_word K n)
  | 0 => ok0_tree_word T
  | n + 1 => (show n + 1 + 1 = n + 1 + 1 by omega) ▸ okS_tree_word T n (ok_tree_word T n)
def sp__law_tree_word (K : PySem.W.Frag) (m : Nat) : Sp := fun vs H Q _ => ∃ (v : V) (tr : Tr), vs = [v] ∧ hgt tr ≤ m ∧ sml tr ∧ (trW tr).length < 900000 ∧ Dp K H v (trD tr) ∧ ∀ s : Str, tl s = trW tr → Q (.str s) H
theorem no__law_tree_word {vs : List V} {H : Hp} {Q : VK} {E : XK} (h : sp__law_tree_word K 0 vs H Q E) : False := by
  obtain ⟨_, t, _, z, _⟩ := h
  have := hgt_pos t
  omega
theorem ok0__law_tree_word (T : Txt K mg) : G P w K mg base CX0 (0 + 1) "_law_tree_word" ["_law_tree"] (sp__law_tree_word K 0) := by
  obtain ⟨fd, F⟩ := T.fn__law_tree_word
  refine ⟨_, fd, T.glo__law_tree_word, F.kp, F.ok sc__law_tree_word (fun vs H Q E h => by first | (obtain ⟨rfl, _⟩ := h; rfl) | (obtain ⟨_, rfl, _⟩ := h; rfl) | (obtain ⟨_, _, rfl, _⟩ := h; rfl) | (obtain ⟨_, _, _, rfl, _⟩ := h; rfl) | (obtain ⟨_, _, _, _, rfl, _⟩ := h; rfl) | (obtain ⟨_, _, _, _, _, rfl, _⟩ := h; rfl) | (obtain ⟨_, _, _, _, _, _, rfl, _⟩ := h; rfl) | (obtain ⟨_, _, _, _, _, _, _, rfl, _⟩ := h; rfl) | (obtain ⟨_, _, _, _, _, _, _, _, rfl, _⟩ := h; rfl)) (fun cdv A outer s H vs Q E hr h => ?_), F.bindsN fun _ _ _ _ _ _ us hl => match us, hl with | [_], _ => rfl⟩
  exact (no__law_tree_word h).elim
theorem okS__law_tree_word (T : Txt K mg) (n : Nat) (g__law_tree_word : G P w K mg base CX0 (n + 1) "_law_tree_word" ["_law_tree"] (sp__law_tree_word K n)) : G P w K mg base CX0 (n + 1 + 1) "_law_tree_word" ["_law_tree"] (sp__law_tree_word K (n + 1)) := by
  obtain ⟨fd, F⟩ := T.fn__law_tree_word
  refine ⟨_, fd, T.glo__law_tree_word, F.kp, F.ok sc__law_tree_word (fun vs H Q E h => by first | (obtain ⟨rfl, _⟩ := h; rfl) | (obtain ⟨_, rfl, _⟩ := h; rfl) | (obtain ⟨_, _, rfl, _⟩ := h; rfl) | (obtain ⟨_, _, _, rfl, _⟩ := h; rfl) | (obtain ⟨_, _, _, _, rfl, _⟩ := h; rfl) | (obtain ⟨_, _, _, _, _, rfl, _⟩ := h; rfl) | (obtain ⟨_, _, _, _, _, _, rfl, _⟩ := h; rfl) | (obtain ⟨_, _, _, _, _, _, _, rfl, _⟩ := h; rfl) | (obtain ⟨_, _, _, _, _, _, _, _, rfl, _⟩ := h; rfl)) (fun cdv A outer s H vs Q E hr h => ?_), F.bindsN fun _ _ _ _ _ _ us hl => match us, hl with | [_], _ => rfl⟩
  obtain ⟨v, tr, rfl, hh, hs, hl, hd, q⟩ := h
  refine ⟨_, PSs.nox (pss_cons (ps_if (pt_cmpR op_eq (pe_ix ix_tup (pv 0) pe_int (fun _ _ => rfl)) pe_str (nomark _)) (pss_one (ps_ret pe_str)) pss_nil)
    (pss_cons (ps_if (pt_cmpR op_eq (pe_ix ix_tup (pv 0) pe_int (fun _ _ => rfl)) pe_str (nomark _)) (pss_one (ps_ret (pe_callTy call_str_int (by rfl) T.free_str (by decide +kernel) (pa_cons (pe_ix ix_tup (pv 0) pe_int (fun _ _ => rfl)) pa_nil)))) pss_nil)
    (pss_one (ps_ret (pe_op op_add_str (pe_op op_add_str (pe_op op_add_str (pe_op op_add_str (pe_op op_add_str (pe_op op_add_str pe_str (pe_callTy call_str_int (by rfl) T.free_str (by decide +kernel) (pa_cons (pe_ix ix_tup (pv 0) pe_int (fun _ _ => rfl)) pa_nil))) pe_str) (pe_g g__law_tree_word hr pass0 (pa_cons (pe_ix ix_tup (pv 0) pe_int (fun _ _ => rfl)) pa_nil))) pe_str) (pe_g g__law_tree_word hr pass0 (pa_cons (pe_ix ix_tup (pv 0) pe_int (fun _ _ => rfl)) pa_nil))) pe_str))))), ?_⟩
  have ap : ∀ x y : Str, (x ++ y).length = x.length + y.length := fun x y => by
    rw [TL.len_tl, TL.tl_append, List.length_append, ← TL.len_tl, ← TL.len_tl]
  have leaf_motion : decide (V.str "motion" = V.str "leaf") = false := by decide +kernel
  have leaf_split : decide (V.str "split" = V.str "leaf") = false := by decide +kernel
  have motion_split : decide (V.str "split" = V.str "motion") = false := by decide +kernel
  cases tr with
  | leaf =>
    obtain ⟨p, xs, rfl, hsq, hx⟩ := tup_of hd
    obtain ⟨x0, rfl, h0⟩ := all1 hx
    obtain rfl := str_of h0
    refine ⟨_, rfl, _, _, _, _, rfl, rfl, hsq, rfl, rfl, _, rfl, ?_⟩
    rw [decide_eq_true rfl]
    exact iteT (q _ (by decide +kernel))
  | motion n =>
    obtain ⟨p, xs, rfl, hsq, hx⟩ := tup_of hd
    obtain ⟨x0, x1, rfl, h0, h1⟩ := all2 hx
    obtain rfl := str_of h0
    obtain rfl := int_of h1
    refine ⟨_, rfl, _, _, _, _, rfl, rfl, hsq, rfl, rfl, _, rfl, ?_⟩
    rw [leaf_motion]
    refine iteF ⟨_, rfl, _, _, _, _, rfl, rfl, hsq, rfl, rfl, _, rfl, ?_⟩
    rw [decide_eq_true rfl]
    exact iteT ⟨_, rfl, _, _, _, _, rfl, rfl, hsq, rfl, _, rfl, (show Sm (n : Int) from Nat.lt_trans hs (by decide)).log, q _ (TL.tl_num n)⟩
  | split n ta tb =>
    obtain ⟨hn, hsa, hsb⟩ := hs
    obtain ⟨p, xs, rfl, hsq, hx⟩ := tup_of hd
    obtain ⟨x0, x1, xa, xb, rfl, h0, h1, ha, hb⟩ := all4 hx
    obtain rfl := str_of h0
    obtain rfl := int_of h1
    refine ⟨_, rfl, _, _, _, _, rfl, rfl, hsq, rfl, rfl, _, rfl, ?_⟩
    rw [leaf_split]
    refine iteF ⟨_, rfl, _, _, _, _, rfl, rfl, hsq, rfl, rfl, _, rfl, ?_⟩
    rw [motion_split]
    refine iteF ?_
    have hsm : Sm (n : Int) := Nat.lt_trans hn (by decide)
    have hln := congrArg List.length (TL.tl_num n)
    rw [← TL.len_tl] at hln
    have hW : (trW (.split n ta tb)).length = 1 + ((TL.numL n).length + (1 + ((trW ta).length + (1 + ((trW tb).length + 1))))) := by
      show (40 :: (TL.numL n ++ 32 :: (trW ta ++ 32 :: (trW tb ++ [41])))).length = _
      simp only [List.length_cons, List.length_append, List.length_nil]
      omega
    rw [hW] at hl
    have hga : hgt ta ≤ _ := Nat.le_trans (Nat.le_max_left (hgt ta) (hgt tb)) (Nat.le_of_succ_le_succ hh)
    have hgb : hgt tb ≤ _ := Nat.le_trans (Nat.le_max_right (hgt ta) (hgt tb)) (Nat.le_of_succ_le_succ hh)
    have l1 : ("(" : Str).length = 1 := by decide +kernel
    have l2 : (" " : Str).length = 1 := by decide +kernel
    have l3 : (")" : Str).length = 1 := by decide +kernel
    refine ⟨_, rfl, _, _, _, _, rfl, rfl, hsq, rfl, _, rfl, hsm.log, _, _, rfl, rfl, szle (by rw [l1, hln]; omega), _, _, rfl, rfl, szle (by rw [ap, l1, l2, hln]; omega), ?_⟩
    refine ⟨_, rfl, _, _, _, _, rfl, rfl, hsq, rfl, xa, ta, rfl, hga, hsa, by omega, ha, fun sa esa => ?_⟩
    have lsa : sa.length = (trW ta).length := by rw [TL.len_tl, esa]
    refine ⟨_, _, rfl, rfl, szle (by rw [ap, ap, l1, l2, hln, lsa]; omega), _, _, rfl, rfl, szle (by rw [ap, ap, ap, l1, l2, hln, lsa]; omega), ?_⟩
    refine ⟨_, rfl, _, _, _, _, rfl, rfl, hsq, rfl, xb, tb, rfl, hgb, hsb, by omega, hb, fun sb esb => ?_⟩
    have lsb : sb.length = (trW tb).length := by rw [TL.len_tl, esb]
    refine ⟨_, _, rfl, rfl, szle (by rw [ap, ap, ap, ap, l1, l2, hln, lsa, lsb]; omega), _, _, rfl, rfl, szle (by rw [ap, ap, ap, ap, ap, l1, l2, l3, hln, lsa, lsb]; omega), q _ ?_⟩
    show _ = 40 :: (TL.numL n ++ 32 :: (trW ta ++ 32 :: (trW tb ++ [41])))
    simp only [TL.tl_append]
    rw [esa, esb, TL.tl_num, show tl "(" = [40] by decide +kernel, show tl " " = [32] by decide +kernel, show tl ")" = [41] by decide +kernel]
    simp
theorem ok__law_tree_word (T : Txt K mg) : ∀ n : Nat, G P w K mg base CX0 (n + 1) "_law_tree_word" ["_law_tree"] (sp__law_tree_word K n)
  | 0 => ok0__law_tree_word T
  | n + 1 => (show n + 1 + 1 = n + 1 + 1 by omega) ▸ okS__law_tree_word T n (ok__law_tree_word T n)
/-! ### a tree is a plain tree -/
theorem plainB_tr : ∀ (t : Tr) (n : Nat), hgt t ≤ n → plainB n (trD t) = true
  | t, 0, h => by
    have := hgt_pos t
    omega
  | .leaf, n + 1, _ => by
    show plainB (n + 1) (.tuple (.str "leaf" :: [])) = true
    rw [plainB_cons, if_pos rfl]
    rfl
  | .motion m, n + 1, _ => by
    show plainB (n + 1) (.tuple (.str "motion" :: [.int (m : Int)])) = true
    rw [plainB_cons, if_neg (by decide +kernel), if_pos rfl]
    exact decide_eq_true (by omega)
  | .split m a b, n + 1, h => by
    have h2 : max (hgt a) (hgt b) + 1 ≤ n + 1 := h
    show plainB (n + 1) (.tuple (.str "split" :: [.int (m : Int), trD a, trD b])) = true
    rw [plainB_cons, if_neg (by decide +kernel), if_neg (by decide +kernel), if_pos rfl]
    show (decide ((0 : Int) ≤ m) && (plainB n (trD a) && plainB n (trD b))) = true
    rw [plainB_tr a n (by omega), plainB_tr b n (by omega), decide_eq_true (show (0 : Int) ≤ m by omega)]
    rfl
def sp_tree_text (K : PySem.W.Frag) : Sp := fun vs H Q E => ∃ (v : V) (d : PyData), vs = [v] ∧ Dx K H v d ∧
  (plainB 12 d = true → ∃ tr, d = trD tr ∧ Dp K H v (trD tr) ∧ hgt tr ≤ 12 ∧ sml tr ∧ (trW tr).length < 900000 ∧ ∀ s : Str, tl s = trW tr → RetS H Q (.str s)) ∧ (plainB 12 d = false → ∀ H', Same H H' → E (.ref (He.ga K "NoTree")) none H')
theorem okk_tree_text (T : Txt K mg) : GB P w K mg base (L2.CX P w) 17 "tree_text" "tree" (sp_tree_text K) := by
  obtain ⟨fd, F⟩ := T.fn_tree_text
  have g_is_plain_tree := ok_is_plain_tree (P := P) (w := w) (base := base) T 13
  have g_tree_word := ok_tree_word (P := P) (w := w) (base := base) T 12
  refine ⟨_, fd, T.glo_tree_text, F.kp, F.ok sc_tree_text (fun vs H Q E h => by first | (obtain ⟨rfl, _⟩ := h; rfl) | (obtain ⟨_, rfl, _⟩ := h; rfl) | (obtain ⟨_, _, rfl, _⟩ := h; rfl) | (obtain ⟨_, _, _, rfl, _⟩ := h; rfl) | (obtain ⟨_, _, _, _, rfl, _⟩ := h; rfl) | (obtain ⟨_, _, _, _, _, rfl, _⟩ := h; rfl) | (obtain ⟨_, _, _, _, _, _, rfl, _⟩ := h; rfl) | (obtain ⟨_, _, _, _, _, _, _, rfl, _⟩ := h; rfl) | (obtain ⟨_, _, _, _, _, _, _, _, rfl, _⟩ := h; rfl)) (fun cdv A outer s H vs Q E hr h => ?_), F.bindsN fun _ _ _ _ _ _ us hl => match us, hl with | [_], _ => rfl, kb1_of F fun _ _ _ _ _ _ _ => rfl⟩
  have tk : Takes (cxOf (L2.CX P w) P w K mg base N_tree_text "tree_text" (defScope s_tree_text) (He.ga K "tree_text") cdv A outer s H E) (fun cls d _ H => E cls d H) := takes_of rfl rfl rfl rfl
  obtain ⟨v, d, rfl, hd, qy, qn⟩ := h
  refine ⟨_, (pss_cons (ps_if (pt_not (pt_val (pe_g g_is_plain_tree hr pass0 (pa_cons (pv 0) (pa_cons pe_int pa_nil))))) (pss_one (ps_raise rfl tk (pmk_own0 PySem.F.excBase_ValueError T.exc_NoTree.1 T.glo_NoTree T.exc_NoTree.2.1 (raises_own T.exc_NoTree.2.2.1 T.exc_NoTree.2.2.2)))) pss_nil)
    (pss_one (ps_ret (pe_g g_tree_word hr pass0 (pa_cons (pv 0) pa_nil))))), ?_⟩
  refine ⟨_, rfl, v, d, 12, 1, rfl, rfl, rfl, hd, fun H1 e1 => ⟨_, rfl, ?_⟩⟩
  cases ep : plainB 12 d with
  | false => exact iteT (qn ep _ e1)
  | true =>
    obtain ⟨tr, rfl, hdp, hh, hs, hl, q⟩ := qy ep
    exact iteF ⟨_, rfl, v, tr, rfl, hh, hs, hl, Dp.mono e1 _ _ hdp, fun s es => q s es _ e1⟩
theorem ok_tree_text (T : Txt K mg) : G P w K mg base (L2.CX P w) 17 "tree_text" ["tree"] (sp_tree_text K) := (okk_tree_text T).g
theorem gk_tree_text (T : Txt K mg) : GK P w K mg base (L2.CX P w) 17 "tree_text" "tree" (sp_tree_text K) := (okk_tree_text T).kw
def TB__law_no_tree (K : PySem.W.Frag) : WX → TS := fun W => tDrop (tCallS (sp_tree_text K) (WE W) (tCons (tVar 0) tNil))
def TS__law_no_tree (K : PySem.W.Frag) := TSno K (He.ga K "NoTree") (He.ga K "FoldError") (He.ga K "NoNumbers")
def sp__law_no_tree (K : PySem.W.Frag) : Sp := fun vs H Q _ => ∃ (v : V) (d : PyData), vs = [v] ∧ Dx K H v d ∧ plainB 12 d = false ∧ RetS H Q (.bl true)
theorem ok__law_no_tree (T : Txt K mg) : G P w K mg base CX0 18 "_law_no_tree" ["_law_thing"] (sp__law_no_tree K) := by
  obtain ⟨fd, F⟩ := T.fn__law_no_tree
  have g_tree_text := ok_tree_text (P := P) (w := w) (base := base) T
  have gk_tree_text := gk_tree_text (P := P) (w := w) (base := base) T
  refine ⟨_, fd, T.glo__law_no_tree, F.kp, F.ok sc__law_no_tree (fun vs H Q E h => by first | (obtain ⟨rfl, _⟩ := h; rfl) | (obtain ⟨_, rfl, _⟩ := h; rfl) | (obtain ⟨_, _, rfl, _⟩ := h; rfl) | (obtain ⟨_, _, _, rfl, _⟩ := h; rfl) | (obtain ⟨_, _, _, _, rfl, _⟩ := h; rfl) | (obtain ⟨_, _, _, _, _, rfl, _⟩ := h; rfl) | (obtain ⟨_, _, _, _, _, _, rfl, _⟩ := h; rfl) | (obtain ⟨_, _, _, _, _, _, _, rfl, _⟩ := h; rfl) | (obtain ⟨_, _, _, _, _, _, _, _, rfl, _⟩ := h; rfl)) (fun cdv A outer s H vs Q E hr h => ?_), F.bindsN fun _ _ _ _ _ _ us hl => match us, hl with | [_], _ => rfl⟩
  obtain ⟨v, d, rfl, hd, hn, q⟩ := h
  refine ⟨_, PSs.nox (pss_cons (ps_set (i := 1) sc__law_no_tree.nd rfl (Or.inl rfl) pe_bl)
    (pss_cons (ps_try_as (i := 2) (tb := TB__law_no_tree K) (ts := TS__law_no_tree K) (Wout := fun _ _ _ _ => False) rfl rfl sc__law_no_tree.nd rfl rfl ⟨rfl, by decide, Or.inl T.glo_NoTree⟩ takes0
      (fun W pn xe tk _ => (pss_one (ps_expr (pe_gS g_tree_text hr (fun σ => passAt tk σ) (pa_cons (pv 0) pa_nil)))))
      (fun a oe cls d pn hz hf => (pss_one (ps_set (i := 1) sc__law_no_tree.nd rfl (Or.inl rfl) (pe_and (pe_callB (call_isE2 T.excC_NoTree hz hf) (by rfl) T.free_isinstance (by decide +kernel) (pa_cons (pv 2) (pa_cons (pe_gref T.glo_FoldError) pa_nil))) (pe_one (pe_not (pe_callB (call_isE2 T.excC_NoTree hz hf) (by rfl) T.free_isinstance (by decide +kernel) (pa_cons (pv 2) (pa_cons (pe_gref T.glo_NoNumbers) pa_nil))))))))))
    (pss_one (ps_ret (pv 1))))), ?_⟩
  refine ⟨_, rfl, v, d, rfl, hd, fun e => ?_, fun _ H1 e1 => ?_⟩
  · rw [hn] at e
    cases e
  · refine ⟨true, T.exm_NoTree_NoTree, fun _ a ha => ?_, fun q => nomatch q⟩
    refine ⟨_, rfl, rfl, rfl, _, _, _, rfl, fun u hu => hu, T.kit_NoTree_FoldError, _, rfl, ?_⟩
    refine iteT ⟨_, rfl, rfl, rfl, _, _, _, rfl, fun u hu => hu, T.kit_NoTree_NoNumbers, _, rfl, ?_⟩
    exact ⟨_, rfl, q _ e1⟩
theorem canLay_tr : ∀ t : Tr, PyData.canLay0 (trD t) = true
  | .leaf => by decide +kernel
  | .motion m => (show (PyData.strOk "motion" && (true && true)) = true by decide +kernel)
  | .split m a b => by
    show (PyData.strOk "split" && (true && (PyData.canLay0 (trD a) && (PyData.canLay0 (trD b) && true)))) = true
    rw [canLay_tr a, canLay_tr b]
    decide +kernel
theorem depth_tr : ∀ t : Tr, PyData.depth (trD t) ≤ hgt t
  | .leaf => (show max 0 0 + 1 ≤ 1 by decide)
  | .motion m => (show max 0 (max 0 0) + 1 ≤ 1 by decide)
  | .split m a b => by
    have h1 := depth_tr a
    have h2 := depth_tr b
    show max 0 (max 0 (max (PyData.depth (trD a)) (max (PyData.depth (trD b)) 0))) + 1 ≤ max (hgt a) (hgt b) + 1
    omega
theorem shaped_tr {t : Tr} (h : hgt t ≤ 60) : SeqAt.shaped (trD t) = true := by
  unfold SeqAt.shaped
  have := depth_tr t
  rw [canLay_tr, decide_eq_true (show PyData.depth (trD t) ≤ 64 by omega)]
  rfl
theorem eqv_leaf (t : Tr) : PyData.eqv (trD t) (trD .leaf) = match t with | .leaf => true | _ => false := by
  cases t with
  | leaf => exact eq_self (shaped_tr (by decide))
  | motion m =>
    show PyData.eqv (.tuple [.str "motion", .int (m : Int)]) (.tuple [.str "leaf"]) = false
    simp [PyData.eqv, PyData.eqvAll]
  | split m a b =>
    show PyData.eqv (.tuple [.str "split", .int (m : Int), trD a, trD b]) (.tuple [.str "leaf"]) = false
    simp [PyData.eqv, PyData.eqvAll]
def sp__law_is_tree (K : PySem.W.Frag) (m : Nat) : Sp := fun vs H Q _ => ∃ (v : V) (tr : Tr), vs = [v] ∧ hgt tr ≤ m ∧ hgt tr ≤ 60 ∧ Dp K H v (trD tr) ∧ RetS H Q (.bl true)
theorem no__law_is_tree {vs : List V} {H : Hp} {Q : VK} {E : XK} (h : sp__law_is_tree K 0 vs H Q E) : False := by
  obtain ⟨_, t, _, z, _⟩ := h
  have := hgt_pos t
  omega
theorem ok0__law_is_tree (T : Txt K mg) : G P w K mg base CX0 (0 + 2) "_law_is_tree" ["_law_tree"] (sp__law_is_tree K 0) := by
  obtain ⟨fd, F⟩ := T.fn__law_is_tree
  refine ⟨_, fd, T.glo__law_is_tree, F.kp, F.ok sc__law_is_tree (fun vs H Q E h => by first | (obtain ⟨rfl, _⟩ := h; rfl) | (obtain ⟨_, rfl, _⟩ := h; rfl) | (obtain ⟨_, _, rfl, _⟩ := h; rfl) | (obtain ⟨_, _, _, rfl, _⟩ := h; rfl) | (obtain ⟨_, _, _, _, rfl, _⟩ := h; rfl) | (obtain ⟨_, _, _, _, _, rfl, _⟩ := h; rfl) | (obtain ⟨_, _, _, _, _, _, rfl, _⟩ := h; rfl) | (obtain ⟨_, _, _, _, _, _, _, rfl, _⟩ := h; rfl) | (obtain ⟨_, _, _, _, _, _, _, _, rfl, _⟩ := h; rfl)) (fun cdv A outer s H vs Q E hr h => ?_), F.bindsN fun _ _ _ _ _ _ us hl => match us, hl with | [_], _ => rfl⟩
  exact (no__law_is_tree h).elim
theorem okS__law_is_tree (T : Txt K mg) (n : Nat) (g__law_is_tree : G P w K mg base CX0 (n + 2) "_law_is_tree" ["_law_tree"] (sp__law_is_tree K n)) : G P w K mg base CX0 (n + 2 + 1) "_law_is_tree" ["_law_tree"] (sp__law_is_tree K (n + 1)) := by
  obtain ⟨fd, F⟩ := T.fn__law_is_tree
  have g__law_is_integer := ok__law_is_integer (P := P) (w := w) (base := base) T
  refine ⟨_, fd, T.glo__law_is_tree, F.kp, F.ok sc__law_is_tree (fun vs H Q E h => by first | (obtain ⟨rfl, _⟩ := h; rfl) | (obtain ⟨_, rfl, _⟩ := h; rfl) | (obtain ⟨_, _, rfl, _⟩ := h; rfl) | (obtain ⟨_, _, _, rfl, _⟩ := h; rfl) | (obtain ⟨_, _, _, _, rfl, _⟩ := h; rfl) | (obtain ⟨_, _, _, _, _, rfl, _⟩ := h; rfl) | (obtain ⟨_, _, _, _, _, _, rfl, _⟩ := h; rfl) | (obtain ⟨_, _, _, _, _, _, _, rfl, _⟩ := h; rfl) | (obtain ⟨_, _, _, _, _, _, _, _, rfl, _⟩ := h; rfl)) (fun cdv A outer s H vs Q E hr h => ?_), F.bindsN fun _ _ _ _ _ _ us hl => match us, hl with | [_], _ => rfl⟩
  obtain ⟨v, tr, rfl, hh, h60, hd, q⟩ := h
  refine ⟨_, PSs.nox (pss_cons (ps_if (PW.pt (pw_or (pt_not (pt_val (pe_callB call_isi (by rfl) T.free_isinstance (by decide +kernel) (pa_cons (pv 0) (pa_cons (pe_ty (T := "tuple") T.free_tuple (by decide +kernel)) pa_nil))))) (pw_or (pt_cmpR op_eq (pe_callB call_len_seq (by rfl) T.free_len (by decide +kernel) (pa_cons (pv 0) pa_nil)) pe_int (nomark _)) (pw_or1 (pt_cmpR (op_eqD hr.units) (pv 0) (pe_tup (pa_cons pe_str pa_nil)) (nomark _)))))) (pss_one (ps_ret (pe_cmpR (op_eqD hr.units) (pv 0) (pe_tup (pa_cons pe_str pa_nil)) (nomark _)))) pss_nil)
    (pss_cons (ps_if (pt_cmpR op_eq (pe_ix ix_tup (pv 0) pe_int (fun _ _ => rfl)) pe_str (nomark _)) (pss_one (ps_ret (pe_and (pe_cmpR op_eq (pe_callB call_len_seq (by rfl) T.free_len (by decide +kernel) (pa_cons (pv 0) pa_nil)) pe_int (nomark _)) (pe_one (pe_g g__law_is_integer hr pass0 (pa_cons (pe_ix ix_tup (pv 0) pe_int (fun _ _ => rfl)) pa_nil)))))) pss_nil)
    (pss_cons (ps_if (PW.pt (pw_or (pt_cmpR op_ne (pe_ix ix_tup (pv 0) pe_int (fun _ _ => rfl)) pe_str (nomark _)) (pw_or (pt_cmpR op_ne (pe_callB call_len_seq (by rfl) T.free_len (by decide +kernel) (pa_cons (pv 0) pa_nil)) pe_int (nomark _)) (pw_or1 (pt_not (pt_val (pe_g g__law_is_integer hr pass0 (pa_cons (pe_ix ix_tup (pv 0) pe_int (fun _ _ => rfl)) pa_nil)))))))) (pss_one (ps_ret pe_bl)) pss_nil)
    (pss_one (ps_ret (pe_and (pe_g g__law_is_tree hr pass0 (pa_cons (pe_ix ix_tup (pv 0) pe_int (fun _ _ => rfl)) pa_nil)) (pe_one (pe_g g__law_is_tree hr pass0 (pa_cons (pe_ix ix_tup (pv 0) pe_int (fun _ _ => rfl)) pa_nil))))))))), ?_⟩
  have motion_split : decide (V.str "split" = V.str "motion") = false := by decide +kernel
  have eT : isiT (trD tr) = true := by cases tr <;> rfl
  have hsh := shaped_tr h60
  have hlf : SeqAt.shaped (trD .leaf) = true := shaped_tr (by decide)
  refine ⟨_, rfl, _, _, _, _, _, rfl, .ty _, tyX_of hd, kit_ty (isiT_is _), _, rfl, ?_⟩
  rw [eT]
  refine iteF ?_
  obtain ⟨ds, p, xs, eds, rfl, hsq, hx⟩ : ∃ ds p xs, trD tr = .tuple ds ∧ v = .ref p ∧ SqT K H p xs ∧ DpAll K H xs ds := by
    obtain ⟨ds, eds⟩ := tupD eT
    rw [eds] at hd
    obtain ⟨p, xs, a, b, c⟩ := tup_of hd
    exact ⟨ds, p, xs, eds, a, b, c⟩
  have hlen := DpAll.len hx
  refine ⟨_, rfl, _, _, rfl, .inr hsq, rfl, _, rfl, ?_⟩
  rw [dint, decide_eq_false (show ¬ ((xs.length : Nat) : Int) = 0 by
    have h1 : 1 ≤ ds.length := by
      cases tr with
      | leaf => injection eds with e; rw [← e]; decide
      | motion m => injection eds with e; rw [← e]; exact (show 1 ≤ 2 by decide)
      | split m a b => injection eds with e; rw [← e]; exact (show 1 ≤ 4 by decide)
    omega)]
  refine iteF ⟨_, rfl, by show 1 ≤ sizeLine; decide, fun p1 hp1 => ?_⟩
  have e1 : Same H (upd H p1 (.tup [.str "leaf"])) := same_new hp1
  refine ⟨trD tr, trD .leaf, Dp.mono e1 _ _ hd, .tup (SqT.of upd_same) (.cons (.str _) .nil), hsh, hlf, _, rfl, ?_⟩
  rw [eqv_leaf]
  generalize upd H p1 (.tup [V.str "leaf"]) = H1 at e1 ⊢
  cases tr with
  | leaf =>
    refine iteT ⟨_, rfl, by show 1 ≤ sizeLine; decide, fun p2 hp2 => ?_⟩
    have e2 : Same H (upd H1 p2 (.tup [.str "leaf"])) := e1.trans (same_new hp2)
    refine ⟨trD .leaf, trD .leaf, Dp.mono e2 _ _ hd, .tup (SqT.of upd_same) (.cons (.str _) .nil), hsh, hlf, ?_⟩
    rw [eqv_leaf]
    exact q _ e2
  | motion m =>
    injection eds with eds
    subst eds
    obtain ⟨x0, x1, rfl, h0, h1⟩ := all2 hx
    obtain rfl := str_of h0
    obtain rfl := int_of h1
    have hsq1 := Same.sqT e1 hsq
    refine iteF ⟨_, rfl, _, _, _, _, rfl, rfl, hsq1, rfl, rfl, _, rfl, ?_⟩
    rw [decide_eq_true rfl]
    refine iteT ⟨_, rfl, _, _, rfl, .inr hsq1, rfl, _, rfl, ?_⟩
    rw [decide_eq_true (show V.int (([V.str "motion", V.int (m : Int)].length : Nat) : Int) = V.int 2 from rfl)]
    exact iteT ⟨_, rfl, _, _, _, _, rfl, rfl, hsq1, rfl, _, _, rfl, .int _, q _ e1⟩
  | split m ta tb =>
    injection eds with eds
    subst eds
    obtain ⟨x0, x1, xa, xb, rfl, h0, h1, ha, hb⟩ := all4 hx
    obtain rfl := str_of h0
    obtain rfl := int_of h1
    have hsq1 := Same.sqT e1 hsq
    have hga : hgt ta ≤ n := Nat.le_trans (Nat.le_max_left (hgt ta) (hgt tb)) (Nat.le_of_succ_le_succ hh)
    have hgb : hgt tb ≤ n := Nat.le_trans (Nat.le_max_right (hgt ta) (hgt tb)) (Nat.le_of_succ_le_succ hh)
    have h60' : max (hgt ta) (hgt tb) + 1 ≤ 60 := h60
    refine iteF ⟨_, rfl, _, _, _, _, rfl, rfl, hsq1, rfl, rfl, _, rfl, ?_⟩
    rw [motion_split]
    refine iteF ⟨_, rfl, _, _, _, _, rfl, rfl, hsq1, rfl, rfl, _, rfl, ?_⟩
    rw [decide_eq_true rfl]
    refine iteF ⟨_, rfl, _, _, rfl, .inr hsq1, rfl, _, rfl, ?_⟩
    rw [decide_eq_true (show V.int (([V.str "split", V.int (m : Int), xa, xb].length : Nat) : Int) = V.int 4 from rfl)]
    refine iteF ⟨_, rfl, _, _, _, _, rfl, rfl, hsq1, rfl, _, _, rfl, .int _, _, rfl, iteF ?_⟩
    refine ⟨_, rfl, _, _, _, _, rfl, rfl, hsq1, rfl, xa, ta, rfl, hga, by omega, Dp.mono e1 _ _ ha, fun H2 e2 => ⟨_, rfl, iteT ?_⟩⟩
    exact ⟨_, rfl, _, _, _, _, rfl, rfl, Same.sqT e2 hsq1, rfl, xb, tb, rfl, hgb, by omega, Dp.mono (e1.trans e2) _ _ hb, fun H3 e3 => q _ ((e1.trans e2).trans e3)⟩
theorem ok__law_is_tree (T : Txt K mg) : ∀ n : Nat, G P w K mg base CX0 (n + 2) "_law_is_tree" ["_law_tree"] (sp__law_is_tree K n)
  | 0 => ok0__law_is_tree T
  | n + 1 => (show n + 2 + 1 = n + 1 + 2 by omega) ▸ okS__law_is_tree T n (ok__law_is_tree T n)
end
end Q
/-! X94: the law's own reading of trees by a stack -/
namespace Q
open PySem PySem.Spec PyProof.Rows L2
open TL (tl)
section
variable {P : Program} {w : World} {K : PySem.W.Frag} {mg : Str → Option Value} {base : Heap}
/-- a test that comes out as c -/
theorem ifBy {tt : TT} {a b : TS} {D : Ends} {σ : L2.St} {H : Hp} (c : Bool) (h : ∀ k : Bool → Hp → Prop, k c H → tt σ H k) (q : if c = true then a D σ H else b D σ H) : tIfS tt a b D σ H := h _ q
def wv : Wi → V
  | .lev k => .int k
  | .ch c => .str ⟨#[c]⟩
def sp__law_bad_sign (K : PySem.W.Frag) : Sp := fun vs H Q _ => ∃ (t : Str), vs = [.str t] ∧ t.length < 700000 ∧ (mach [.lev 1] [] (tl t) = none → RetS H Q .non) ∧ ∀ e, mach [.lev 1] [] (tl t) = some e → RetS H Q (.int (((tl t).length - e.length + 1 : Nat) : Int))
theorem ok__law_bad_sign (T : Txt K mg) : G P w K mg base CX0 1 "_law_bad_sign" ["_law_text"] (sp__law_bad_sign K) := by
  obtain ⟨fd, F⟩ := T.fn__law_bad_sign
  refine ⟨_, fd, T.glo__law_bad_sign, F.kp, F.ok sc__law_bad_sign (fun vs H Q E h => by first | (obtain ⟨rfl, _⟩ := h; rfl) | (obtain ⟨_, rfl, _⟩ := h; rfl) | (obtain ⟨_, _, rfl, _⟩ := h; rfl) | (obtain ⟨_, _, _, rfl, _⟩ := h; rfl) | (obtain ⟨_, _, _, _, rfl, _⟩ := h; rfl) | (obtain ⟨_, _, _, _, _, rfl, _⟩ := h; rfl) | (obtain ⟨_, _, _, _, _, _, rfl, _⟩ := h; rfl) | (obtain ⟨_, _, _, _, _, _, _, rfl, _⟩ := h; rfl) | (obtain ⟨_, _, _, _, _, _, _, _, rfl, _⟩ := h; rfl)) (fun cdv A outer s H vs Q E hr h => ?_), F.bindsN fun _ _ _ _ _ _ us hl => match us, hl with | [_], _ => rfl⟩
  obtain ⟨t, rfl, hl, qn, qe⟩ := h
  refine ⟨_, PSs.nox (pss_cons (ps_set (i := 1) sc__law_bad_sign.nd rfl (Or.inl rfl) (pe_lst (pa_cons pe_int pa_nil)))
    (pss_cons (ps_set (i := 2) sc__law_bad_sign.nd rfl (Or.inl rfl) pe_str)
    (Evl.pss_cut (ps_for PassesOwn.never rfl (pi_range1 (by rfl) T.free_range (pa_cons (pe_callB call_len_str (by rfl) T.free_len (by decide +kernel) (pa_cons (pv 0) pa_nil)) pa_nil)) (pg_name (i := 3) sc__law_bad_sign.nd rfl (Or.inl rfl)) (pss_cons (ps_set (i := 4) sc__law_bad_sign.nd rfl (Or.inl rfl) (pe_ix ix_str (pv 0) (pv 3) (fun _ _ => rfl)))
    (pss_one (ps_if (PW.pt (pw_and (pt_cmpR op_ne (pv 2) pe_str (nomark _)) (pw_and (pt_cmpR op_in_sign (pv 4) pe_str (by rfl)) (pw_and (pt_cmpR op_ne (pe_ix ix_str (pv 2) pe_int (fun _ _ => rfl)) pe_str (nomark _)) (pw_and1 (pt_cmpR op_lt (pe_callB call_len_str (by rfl) T.free_len (by decide +kernel) (pa_cons (pv 2) pa_nil)) pe_int (nomark _))))))) (pss_one (ps_set (i := 2) sc__law_bad_sign.nd rfl (Or.inl rfl) (pe_op op_add_str (pv 2) (pv 4)))) (pss_cons (ps_set (i := 2) sc__law_bad_sign.nd rfl (Or.inl rfl) pe_str)
    (pss_cons (ps_if (pt_cmpR op_eq (pe_callB call_len_seq (by rfl) T.free_len (by decide +kernel) (pa_cons (pv 1) pa_nil)) pe_int (nomark _)) (pss_one (ps_ret (pe_op op_add (pv 3) pe_int))) pss_nil)
    (pss_cons (ps_set (i := 5) sc__law_bad_sign.nd rfl (Or.inl rfl) (pe_bm0 PySem.F.plainAttrs_list PySem.F.slot_list_pop PySem.F.type_list_pop mt_pop (pv 1)))
    (pss_one (ps_if (PW.pt (pw_and (pt_cmpR op_in_sign (pv 4) pe_str (by rfl)) (pw_and1 (pt_val (pe_callB call_isi (by rfl) T.free_isinstance (by decide +kernel) (pa_cons (pv 5) (pa_cons (pe_ty (T := "int") T.free_int (by decide +kernel)) pa_nil))))))) (pss_one (ps_set (i := 2) sc__law_bad_sign.nd rfl (Or.inl rfl) (pv 4))) (pss_one (ps_if (PW.pt (pw_and (pt_cmpR op_eq (pv 4) pe_str (nomark _)) (pw_and (pt_val (pe_callB call_isi (by rfl) T.free_isinstance (by decide +kernel) (pa_cons (pv 5) (pa_cons (pe_ty (T := "int") T.free_int (by decide +kernel)) pa_nil)))) (pw_and1 (pt_chain op_lt op_lt pe_int (pv 5) pe_int))))) (pss_one (ps_set (i := 1) sc__law_bad_sign.nd rfl (Or.inl rfl) (pe_op op_cat (pv 1) (pe_lst (pa_cons pe_str (pa_cons (pe_op op_add (pv 5) pe_int) (pa_cons pe_str (pa_cons (pe_op op_add (pv 5) pe_int) (pa_cons pe_str (pa_cons pe_int pa_nil)))))))))) (pss_one (ps_if (PW.pt (pw_and (pt_cmpR op_ne (pv 4) (pv 5) (nomark _)) (pw_and1 (PW.pt (pw_or (pt_cmpR op_ne (pv 4) pe_str (nomark _)) (pw_or (pt_not (pt_val (pe_callB call_isi (by rfl) T.free_isinstance (by decide +kernel) (pa_cons (pv 5) (pa_cons (pe_ty (T := "int") T.free_int (by decide +kernel)) pa_nil))))) (pw_or1 (pt_cmpR op_eq (pv 5) pe_int (nomark _))))))))) (pss_one (ps_ret (pe_op op_add (pv 3) pe_int))) pss_nil)))))))))))))
    (pss_cons (ps_if (pt_cmpR op_gt (pe_callB call_len_seq (by rfl) T.free_len (by decide +kernel) (pa_cons (pv 1) pa_nil)) pe_int (nomark _)) (pss_one (ps_ret (pe_op op_add (pe_callB call_len_str (by rfl) T.free_len (by decide +kernel) (pa_cons (pv 0) pa_nil)) pe_int))) pss_nil)
    (pss_one (ps_ret pe_non)))))), ?_⟩
  have hlen := TL.len_tl t
  have szb : ∀ {n : Nat}, n ≤ 16000000 → n ≤ sizeLine := fun h => by
    rw [sizeLine_eq]
    omega
  refine ⟨by show 1 ≤ sizeLine; decide, fun D0 hD0 => ?_⟩
  refine ⟨fun σ' H' => ∃ (D : Addr) (W : List Wi) (ds : Str) (x3 x4 x5 : Option V), σ' = [some (.str t), some (.ref D), some (.str ds), x3, x4, x5] ∧ Same H H' ∧ H' D = some (.lst ((W.map wv).reverse)) ∧ mach [.lev 1] [] (tl t) = mach W (tl ds) [], ?_, ?_⟩
  · refine ⟨_, rfl, t, rfl, szle (by omega), _, rfl, by omega, by omega, ?_⟩
    refine for_it walk_range (fun i σ' H' => ∃ (D : Addr) (W : List Wi) (ds : Str) (x3 x4 x5 : Option V), σ' = [some (.str t), some (.ref D), some (.str ds), x3, x4, x5] ∧ Same H H' ∧ H D = none ∧ H' D = some (.lst ((W.map wv).reverse)) ∧ W.length ≤ 5 * i + 1 ∧ ds.length ≤ i ∧ mach [.lev 1] [] (tl t) = mach W (tl ds) ((tl t).drop i))
      ⟨D0, [.lev 1], "", none, none, none, rfl, same_new hD0, hD0, upd_same, Nat.le_refl _, (show ("" : Str).length ≤ 0 by decide +kernel), by rw [show tl "" = [] by decide +kernel]; rfl⟩ (fun _ _ _ _ _ => True.intro) ?_ ?_
    · rintro i x σ H1 H2 hi ⟨D, W, ds, x3, x4, x5, rfl, hS, hD, hDD, hW, hds, hM⟩ ⟨rfl, rfl⟩
      have hi2 : i < (tl t).length := by
        have : ((t.length : Nat) : Int).toNat = t.length := Int.toNat_natCast _
        omega
      have e0 : (0 : Int) + (i : Int) = (i : Int) := by omega
      have hat : atI (tl t) (0 + (i : Int)) = some (tl t)[i] := by
        rw [e0]
        exact atI_nat (List.getElem?_eq_getElem hi2)
      have hdrop : (tl t).drop i = (tl t)[i] :: (tl t).drop (i + 1) := List.drop_eq_getElem_cons hi2
      rw [hdrop] at hM
      generalize (tl t)[i] = c at hat hdrop hM
      generalize hR : (tl t).drop (i + 1) = r at hdrop hM
      refine ⟨_, rfl, _, rfl, t, _, c, rfl, rfl, szle (by omega), hat, ?_⟩
      have hdl := TL.len_tl ds
      have err : mach W (tl ds) (c :: r) = some (c :: r) → ∀ H3, Same H H3 → Q (.int (0 + (i : Int) + 1)) H3 := fun z H3 e3 => by
        have q := qe (c :: r) (by rw [hM, z]) H3 e3
        have h1 := congrArg List.length hdrop
        rw [List.length_drop] at h1
        have e : (((tl t).length - (c :: r).length + 1 : Nat) : Int) = 0 + (i : Int) + 1 := by omega
        rw [e] at q
        exact q
      dsimp only [gName]
      refine ifBy (!(tl ds).isEmpty && goOn (tl ds) c) (fun k hk => ?_) ?_
      · refine ⟨_, rfl, rfl, _, rfl, ?_⟩
        rw [dstr, show tl "" = [] by decide +kernel]
        by_cases c1 : tl ds = []
        · rw [decide_eq_true c1]
          rw [c1] at hk
          exact iteF hk
        · rw [decide_eq_false c1]
          obtain ⟨d0, dr, ed⟩ := List.exists_cons_of_ne_nil c1
          refine iteT ⟨_, rfl, c, _, rfl, rfl, _, rfl, ?_⟩
          rw [mem_dig]
          cases hc : isDig c with
          | false =>
            rw [show (!(tl ds).isEmpty && goOn (tl ds) c) = false by unfold goOn; rw [hc, ed]; rfl] at hk
            exact iteF hk
          | true =>
            have hat0 : atI (tl ds) 0 = some d0 := by rw [ed]; exact atI_nat (xs := d0 :: dr) (j := 0) rfl
            refine iteT ⟨_, rfl, _, _, d0, rfl, rfl, szle (by omega), hat0, rfl, _, rfl, ?_⟩
            rw [dstr, show tl "0" = [48] by decide +kernel, show tl (⟨#[d0]⟩ : Str) = [d0] from rfl]
            by_cases c48 : d0 = 48
            · rw [decide_eq_true (by rw [c48])]
              rw [show (!(tl ds).isEmpty && goOn (tl ds) c) = false by unfold goOn; rw [hc, ed, c48]; simp] at hk
              exact iteF hk
            · rw [decide_eq_false (fun e => c48 (List.cons.inj e).1)]
              refine iteT ⟨_, rfl, _, rfl, szle (by omega), _, _, rfl, rfl, _, rfl, ?_⟩
              have e : (!(tl ds).isEmpty && goOn (tl ds) c) = decide ((ds.length : Int) < 40) := by
                unfold goOn
                rw [hc, ed, decide_eq_true (show (d0 :: dr).head? ≠ some 48 from fun e => c48 (Option.some.inj e))]
                show decide ((d0 :: dr).length < 40) = _
                rw [← ed]
                exact decide_eq_decide.mpr (by omega)
              rw [e] at hk
              exact hk
      cases hg : (!(tl ds).isEmpty && goOn (tl ds) c) with
      | true =>
        rw [mach_dig _ _ _ _ hg] at hM
        refine iteT ⟨_, rfl, _, rfl, _, _, rfl, rfl, szle (show ds.length + 1 ≤ 1000000 by omega), ?_⟩
        refine ⟨D, W, ds ++ ⟨#[c]⟩, _, _, _, rfl, hS, hD, hDD, by omega, ?_, ?_⟩
        · rw [TL.len_tl, TL.tl_append, List.length_append, ← TL.len_tl]
          exact Nat.add_le_add hds (Nat.le_refl 1)
        · rw [hM, TL.tl_append]
      | false =>
        refine iteF ⟨_, rfl, _, _, rfl, .inl (SqL.of hDD), rfl, _, rfl, ?_⟩
        rw [dint, List.length_reverse, List.length_map]
        cases W with
        | nil =>
          rw [mach_nil _ _ _ hg] at hM
          rw [decide_eq_true (show ((([] : List Wi).length : Nat) : Int) = 0 from rfl)]
          exact iteT ⟨_, rfl, _, _, rfl, rfl, err (mach_nil _ _ _ hg) _ hS⟩
        | cons wi W =>
          rw [decide_eq_false (show ¬ (((wi :: W).length : Nat) : Int) = 0 by rw [List.length_cons]; omega)]
          have hpop : ((wi :: W).map wv).reverse = (W.map wv).reverse ++ [wv wi] := by rw [List.map_cons, List.reverse_cons]
          rw [hpop] at hDD
          refine iteF ⟨_, rfl, .inl ⟨rfl, _, SqL.of hDD⟩, D, _, wv wi, rfl, rfl, hDD, by rw [List.length_append]; simp, ?_⟩
          rw [List.dropLast_concat]
          have hS2 : Same H (upd H2 D (.lst ((W.map wv).reverse))) := same_set hS hD
          have hD2 : upd H2 D (.lst ((W.map wv).reverse)) D = some (.lst ((W.map wv).reverse)) := upd_same
          generalize upd H2 D (.lst ((W.map wv).reverse)) = H5 at hS2 hD2 ⊢
          have e00 : tl ("" : Str) = [] := by decide +kernel
          have hW2 : W.length + 1 ≤ 5 * i + 1 := hW
          cases wi with
          | lev k =>
            have hml := mach_lev k W (tl ds) c r hg
            dsimp only [gName]
            refine ifBy (isDig c) (fun kk hk => ?_) ?_
            · refine ⟨_, rfl, c, _, rfl, rfl, _, rfl, ?_⟩
              rw [mem_dig]
              cases hc : isDig c with
              | false =>
                rw [hc] at hk
                exact iteF hk
              | true =>
                rw [hc] at hk
                exact iteT ⟨_, rfl, _, _, _, _, _, rfl, .ty _, .base (.int _), kit_ty (isiI_is (.int 0)), _, rfl, hk⟩
            cases hc : isDig c with
            | true =>
              rw [hc, if_pos rfl] at hml
              refine iteT ⟨_, rfl, D, W, ⟨#[c]⟩, _, _, _, rfl, hS2, hD, hD2, by omega, ?_, ?_⟩
              · show 1 ≤ i + 1
                omega
              · rw [hM, hml]
            | false =>
              rw [hc, if_neg (by decide)] at hml
              refine iteF (ifBy (decide (c = 40 ∧ 0 < k ∧ k < 12)) (fun kk hk => ?_) ?_)
              · refine ⟨_, rfl, rfl, _, rfl, ?_⟩
                rw [dstr, show tl "(" = [40] by decide +kernel, show tl (⟨#[c]⟩ : Str) = [c] from rfl]
                by_cases c40 : c = 40
                · rw [decide_eq_true (by rw [c40])]
                  refine iteT ⟨_, rfl, _, _, _, _, _, rfl, .ty _, .base (.int _), kit_ty (isiI_is (.int 0)), _, rfl, iteT ⟨_, rfl, _, _, rfl, rfl, _, rfl, ?_⟩⟩
                  by_cases ck : 0 < k
                  · rw [decide_eq_true (show (0 : Int) < (k : Int) by omega)]
                    refine iteT ⟨_, _, rfl, rfl, _, rfl, ?_⟩
                    rw [show decide (c = 40 ∧ 0 < k ∧ k < 12) = decide ((k : Int) < 12) from decide_eq_decide.mpr (by omega)] at hk
                    exact hk
                  · rw [decide_eq_false (show ¬ (0 : Int) < (k : Int) by omega)]
                    rw [decide_eq_false (by omega)] at hk
                    exact iteF ⟨_, rfl, hk⟩
                · rw [decide_eq_false (fun e => c40 (List.cons.inj e).1)]
                  rw [decide_eq_false (by omega)] at hk
                  exact iteF hk
              by_cases cc : c = 40 ∧ 0 < k ∧ k < 12
              · rw [decide_eq_true cc]
                rw [if_pos cc] at hml
                refine iteT ⟨_, rfl, _, rfl, _, _, rfl, rfl, _, rfl, _, _, rfl, rfl, by show 6 ≤ sizeLine; decide, fun p1 hp1 => ?_⟩
                have hD3 := (same_new (o := .lst [.str ")", .int ((k : Int) + 1), .str " ", .int ((k : Int) + 1), .str " ", .int 0]) hp1) _ _ hD2
                refine ⟨D, p1, _, _, rfl, rfl, hD3, upd_same, ?_, fun p2 hp2 => ?_⟩
                · rw [List.length_reverse, List.length_map]
                  exact szb (show W.length + 6 ≤ 16000000 by omega)
                · have hS3 := hS2.trans (same_new (o := .lst [.str ")", .int ((k : Int) + 1), .str " ", .int ((k : Int) + 1), .str " ", .int 0]) hp1)
                  refine ⟨p2, .lev 0 :: .ch 32 :: .lev (k + 1) :: .ch 32 :: .lev (k + 1) :: .ch 41 :: W, "", _, _, _, rfl, hS3.trans (same_new hp2), hS3.free hp2, ?_, ?_, ?_, ?_⟩
                  · rw [upd_same]
                    congr 2
                    simp only [List.map_cons, List.reverse_cons, List.append_assoc]
                    rfl
                  · simp only [List.length_cons]
                    omega
                  · exact Nat.le_trans (show ("" : Str).length ≤ 0 by decide +kernel) (Nat.zero_le _)
                  · rw [hM, hml, e00]
              · rw [decide_eq_false cc]
                rw [if_neg cc] at hml
                refine iteF (ifBy (!decide (c = 46 ∧ k ≠ 0)) (fun kk hk => ?_) ?_)
                · refine ⟨_, rfl, _, rfl, rfl, _, rfl, ?_⟩
                  rw [decide_eq_false (show ¬ V.str ⟨#[c]⟩ = wv (.lev k) from fun e => nomatch e)]
                  refine iteT ⟨_, rfl, rfl, _, rfl, ?_⟩
                  rw [dstr, show tl "." = [46] by decide +kernel, show tl (⟨#[c]⟩ : Str) = [c] from rfl]
                  by_cases c46 : c = 46
                  · rw [decide_eq_true (by rw [c46])]
                    refine iteF ⟨_, rfl, _, _, _, _, _, rfl, .ty _, .base (.int _), kit_ty (isiI_is (.int 0)), _, rfl, iteF ⟨_, rfl, rfl, _, rfl, ?_⟩⟩
                    rw [show (!decide (c = 46 ∧ k ≠ 0)) = decide (wv (.lev k) = V.int 0) by
                      rw [show decide (wv (.lev k) = V.int 0) = decide ((k : Int) = 0) from dint _ _, ← decide_not]
                      exact decide_eq_decide.mpr (by omega)] at hk
                    exact hk
                  · rw [decide_eq_false (fun e => c46 (List.cons.inj e).1)]
                    rw [decide_eq_false (by omega)] at hk
                    exact iteT hk
                by_cases c4 : c = 46 ∧ k ≠ 0
                · rw [decide_eq_true c4]
                  rw [if_pos c4] at hml
                  refine iteF ⟨D, W, "", _, _, _, rfl, hS2, hD, hD2, by omega, ?_, ?_⟩
                  · exact Nat.le_trans (show ("" : Str).length ≤ 0 by decide +kernel) (Nat.zero_le _)
                  · rw [hM, hml, e00]
                · rw [decide_eq_false c4]
                  rw [if_neg c4] at hml
                  exact iteT ⟨_, rfl, _, _, rfl, rfl, err hml _ hS2⟩
          | ch d =>
            have hmc := mach_chr d W (tl ds) c r hg
            dsimp only [gName]
            refine ifBy false (fun kk hk => ?_) (iteF (ifBy false (fun kk hk => ?_) (iteF (ifBy (!decide (c = d)) (fun kk hk => ?_) ?_))))
            · refine ⟨_, rfl, c, _, rfl, rfl, _, rfl, ?_⟩
              refine ite2 (fun _ => ?_) fun _ => hk
              exact ⟨_, rfl, _, _, _, _, _, rfl, .ty _, .base (.str _), kit_ty (isiI_is (.str "")), _, rfl, hk⟩
            · refine ⟨_, rfl, rfl, _, rfl, ?_⟩
              refine ite2 (fun _ => ?_) fun _ => hk
              exact ⟨_, rfl, _, _, _, _, _, rfl, .ty _, .base (.str _), kit_ty (isiI_is (.str "")), _, rfl, iteF hk⟩
            · refine ⟨_, rfl, _, rfl, rfl, _, rfl, ?_⟩
              rw [show decide (V.str ⟨#[c]⟩ = wv (.ch d)) = decide (c = d) by
                rw [show decide (V.str ⟨#[c]⟩ = wv (.ch d)) = decide (tl ⟨#[c]⟩ = tl ⟨#[d]⟩) from dstr _ _]
                exact decide_eq_decide.mpr ⟨fun e => (List.cons.inj (show [c] = [d] from e)).1, fun e => by rw [e]⟩]
              cases hcd : decide (c = d) with
              | true =>
                rw [hcd] at hk
                exact iteF hk
              | false =>
                rw [hcd] at hk
                refine iteT ⟨_, rfl, rfl, _, rfl, ?_⟩
                refine ite2 (fun _ => hk) fun _ => ?_
                exact ⟨_, rfl, _, _, _, _, _, rfl, .ty _, .base (.str _), kit_ty (isiI_is (.str "")), _, rfl, iteT hk⟩
            by_cases hcd : c = d
            · rw [decide_eq_true hcd]
              rw [if_pos hcd] at hmc
              refine iteF ⟨D, W, "", _, _, _, rfl, hS2, hD, hD2, by omega, ?_, ?_⟩
              · exact Nat.le_trans (show ("" : Str).length ≤ 0 by decide +kernel) (Nat.zero_le _)
              · rw [hM, hmc, e00]
            · rw [decide_eq_false hcd]
              rw [if_neg hcd] at hmc
              exact iteT ⟨_, rfl, _, _, rfl, rfl, err hmc _ hS2⟩
    · rintro σ H1 ⟨D, W, ds, x3, x4, x5, rfl, hS, hD, hDD, hW, hds, hM⟩
      have : ((t.length : Nat) : Int).toNat = t.length := Int.toNat_natCast _
      rw [this, hlen, List.drop_of_length_le (Nat.le_refl _)] at hM
      exact ⟨D, W, ds, x3, x4, x5, rfl, hS, hDD, hM⟩
  · rintro σ' H1 ⟨D, W, ds, x3, x4, x5, rfl, hS, hDD, hM⟩
    refine ⟨_, rfl, _, _, rfl, .inl (SqL.of hDD), _, _, rfl, rfl, _, rfl, ?_⟩
    rw [List.length_reverse, List.length_map]
    cases W with
    | nil =>
      rw [decide_eq_false (show ¬ (0 : Int) < ((([] : List Wi).length : Nat) : Int) by decide)]
      exact iteF (qn hM _ hS)
    | cons wi W =>
      rw [decide_eq_true (show (0 : Int) < (((wi :: W).length : Nat) : Int) by rw [List.length_cons]; omega)]
      refine iteT ⟨_, rfl, t, rfl, szle (by omega), _, _, rfl, rfl, ?_⟩
      have q := qe [] hM _ hS
      have e : (((tl t).length - ([] : List Nat).length + 1 : Nat) : Int) = (t.length : Int) + 1 := by
        rw [List.length_nil]
        omega
      rw [e] at q
      exact q
end
end Q
/-! Y94: trees drawn and spoilt -/
namespace Q
open PySem PySem.Spec PyProof.Rows L2
open TL (tl)
section
variable {P : Program} {w : World} {K : PySem.W.Frag} {mg : Str → Option Value} {base : Heap}
/-! ### laying things -/
theorem DxAll.app {H : Hp} : ∀ {vs : List V} {ds : List PyData} {ws : List V} {es : List PyData}, DxAll K H vs ds → DxAll K H ws es → DxAll K H (vs ++ ws) (ds ++ es)
  | _, _, _, _, .nil, s => s
  | _, _, _, _, .cons h r, s => .cons h (DxAll.app r s)
theorem lay_tup {F H F1 H1 : Hp} {p : Addr} {vs : List V} {ds : List PyData} (m : Mv P0 F H F1 H1) (hp : H1 p = none) (h : DxAll K F1 vs ds) :
    Mv P0 F H (upd F1 p (.tup vs)) (upd H1 p (.tup vs)) ∧ Dx K (upd F1 p (.tup vs)) (.ref p) (.tuple ds) ∧ Same F1 (upd F1 p (.tup vs)) :=
  have hF := (Mv.nw (o := .tup vs) (Mv.refl m.k) hp).f
  ⟨m.nw hp, .tup (SqT.of upd_same) (DxAll.mono hF _ _ h), hF⟩
theorem lay_lst {F H F1 H1 : Hp} {p : Addr} {vs : List V} {ds : List PyData} (m : Mv P0 F H F1 H1) (hp : H1 p = none) (h : DxAll K F1 vs ds) :
    Mv P0 F H (upd F1 p (.lst vs)) (upd H1 p (.lst vs)) ∧ Dx K (upd F1 p (.lst vs)) (.ref p) (.list ds) ∧ Same F1 (upd F1 p (.lst vs)) :=
  have hF := (Mv.nw (o := .lst vs) (Mv.refl m.k) hp).f
  ⟨m.nw hp, .lst (SqL.of upd_same) (DxAll.mono hF _ _ h), hF⟩
theorem lay_tupP {F H F1 H1 : Hp} {p : Addr} {vs : List V} {ds : List PyData} (m : Mv P0 F H F1 H1) (hp : H1 p = none) (h : DpAll K F1 vs ds) :
    Mv P0 F H (upd F1 p (.tup vs)) (upd H1 p (.tup vs)) ∧ Dp K (upd F1 p (.tup vs)) (.ref p) (.tuple ds) ∧ Same F1 (upd F1 p (.tup vs)) :=
  have hF := (Mv.nw (o := .tup vs) (Mv.refl m.k) hp).f
  ⟨m.nw hp, .tup (SqT.of upd_same) (DpAll.mono hF _ _ h), hF⟩
def sp__law_tree_drawn (K : PySem.W.Frag) (m : Nat) : Sp := fun vs H Q _ => ∃ (p : Addr) (dp many : Int) (F : Hp), vs = [.ref p, .int dp, .int many] ∧ Sti p F H ∧ 1 ≤ dp ∧ dp ≤ (m : Int) ∧
  ∀ tr v F' H', (hgt tr : Int) ≤ dp → sml tr → Mv (PP p) F H F' H' → StO F' H' p → Dp K F' v (trD tr) → Q v H'
theorem no__law_tree_drawn {vs : List V} {H : Hp} {Q : VK} {E : XK} (h : sp__law_tree_drawn K 0 vs H Q E) : False := by
  obtain ⟨_, _, _, _, _, _, z, z2, _⟩ := h
  omega
theorem ok0__law_tree_drawn (T : Txt K mg) : G P w K mg base CX0 (0 + 4) "_law_tree_drawn" ["_law_stream_here", "_law_deep", "_law_many"] (sp__law_tree_drawn K 0) := by
  obtain ⟨fd, F⟩ := T.fn__law_tree_drawn
  refine ⟨_, fd, T.glo__law_tree_drawn, F.kp, F.ok sc__law_tree_drawn (fun vs H Q E h => by first | (obtain ⟨rfl, _⟩ := h; rfl) | (obtain ⟨_, rfl, _⟩ := h; rfl) | (obtain ⟨_, _, rfl, _⟩ := h; rfl) | (obtain ⟨_, _, _, rfl, _⟩ := h; rfl) | (obtain ⟨_, _, _, _, rfl, _⟩ := h; rfl) | (obtain ⟨_, _, _, _, _, rfl, _⟩ := h; rfl) | (obtain ⟨_, _, _, _, _, _, rfl, _⟩ := h; rfl) | (obtain ⟨_, _, _, _, _, _, _, rfl, _⟩ := h; rfl) | (obtain ⟨_, _, _, _, _, _, _, _, rfl, _⟩ := h; rfl)) (fun cdv A outer s H vs Q E hr h => ?_), F.bindsN fun _ _ _ _ _ _ us hl => match us, hl with | [_, _, _], _ => rfl⟩
  exact (no__law_tree_drawn h).elim
theorem okS__law_tree_drawn (T : Txt K mg) (n : Nat) (g__law_tree_drawn : G P w K mg base CX0 (n + 4) "_law_tree_drawn" ["_law_stream_here", "_law_deep", "_law_many"] (sp__law_tree_drawn K n)) : G P w K mg base CX0 (n + 4 + 1) "_law_tree_drawn" ["_law_stream_here", "_law_deep", "_law_many"] (sp__law_tree_drawn K (n + 1)) := by
  obtain ⟨fd, F⟩ := T.fn__law_tree_drawn
  have g__law_size_drawn := ok__law_size_drawn (P := P) (w := w) (base := base) T
  have g__law_take := ok__law_take (P := P) (w := w) (base := base) T
  refine ⟨_, fd, T.glo__law_tree_drawn, F.kp, F.ok sc__law_tree_drawn (fun vs H Q E h => by first | (obtain ⟨rfl, _⟩ := h; rfl) | (obtain ⟨_, rfl, _⟩ := h; rfl) | (obtain ⟨_, _, rfl, _⟩ := h; rfl) | (obtain ⟨_, _, _, rfl, _⟩ := h; rfl) | (obtain ⟨_, _, _, _, rfl, _⟩ := h; rfl) | (obtain ⟨_, _, _, _, _, rfl, _⟩ := h; rfl) | (obtain ⟨_, _, _, _, _, _, rfl, _⟩ := h; rfl) | (obtain ⟨_, _, _, _, _, _, _, rfl, _⟩ := h; rfl) | (obtain ⟨_, _, _, _, _, _, _, _, rfl, _⟩ := h; rfl)) (fun cdv A outer s H vs Q E hr h => ?_), F.bindsN fun _ _ _ _ _ _ us hl => match us, hl with | [_, _, _], _ => rfl⟩
  obtain ⟨p, dp, many, F, rfl, st, hd1, hd2, q⟩ := h
  refine ⟨_, PSs.nox (pss_cons (ps_set (i := 3) sc__law_tree_drawn.nd rfl (Or.inl rfl) (pe_g g__law_take hr pass0 (pa_cons (pv 0) (pa_cons pe_int pa_nil))))
    (pss_cons (ps_set (i := 4) sc__law_tree_drawn.nd rfl (Or.inl rfl) (pe_g g__law_size_drawn hr pass0 (pa_cons (pv 0) pa_nil)))
    (pss_cons (ps_if (PW.pt (pw_or (pt_cmpR op_le (pv 1) pe_int (nomark _)) (pw_or1 (pt_cmpR op_lt (pv 2) pe_int (nomark _))))) (pss_one (ps_ret (pe_ix ix_list (pe_lst (pa_cons (pe_tup (pa_cons pe_str pa_nil)) (pa_cons (pe_tup (pa_cons pe_str (pa_cons (pv 4) pa_nil))) (pa_cons (pe_tup (pa_cons pe_str (pa_cons (pe_op op_mod (pe_callTy call_int1 (by rfl) T.free_int (by decide +kernel) (pa_cons (pv 4) pa_nil)) pe_int) pa_nil))) (pa_cons (pe_tup (pa_cons pe_str pa_nil)) pa_nil))))) (pv 3) (fun _ _ => rfl)))) pss_nil)
    (pss_cons (ps_if (pt_cmpR op_lt (pv 3) pe_int (nomark _)) (pss_one (ps_ret (pe_tup (pa_cons pe_str (pa_cons (pv 4) (pa_cons (pe_g g__law_tree_drawn hr pass0 (pa_cons (pv 0) (pa_cons (pe_op op_sub (pv 1) pe_int) (pa_cons pe_int pa_nil)))) (pa_cons (pe_g g__law_tree_drawn hr pass0 (pa_cons (pv 0) (pa_cons (pe_op op_sub (pv 1) pe_int) (pa_cons (pe_op op_sub (pv 2) pe_int) pa_nil)))) pa_nil))))))) pss_nil)
    (pss_cons (ps_if (pt_cmpR op_eq (pv 3) pe_int (nomark _)) (pss_one (ps_ret (pe_tup (pa_cons pe_str (pa_cons (pv 4) (pa_cons (pe_g g__law_tree_drawn hr pass0 (pa_cons (pv 0) (pa_cons (pe_op op_sub (pv 1) pe_int) (pa_cons (pe_op op_sub (pv 2) pe_int) pa_nil)))) (pa_cons (pe_g g__law_tree_drawn hr pass0 (pa_cons (pv 0) (pa_cons (pe_op op_sub (pv 1) pe_int) (pa_cons pe_int pa_nil)))) pa_nil))))))) pss_nil)
    (pss_cons (ps_set (i := 5) sc__law_tree_drawn.nd rfl (Or.inl rfl) (pe_op op_fdivW (pv 2) pe_int))
    (pss_one (ps_ret (pe_tup (pa_cons pe_str (pa_cons (pv 4) (pa_cons (pe_g g__law_tree_drawn hr pass0 (pa_cons (pv 0) (pa_cons (pe_op op_sub (pv 1) pe_int) (pa_cons (pv 5) pa_nil)))) (pa_cons (pe_g g__law_tree_drawn hr pass0 (pa_cons (pv 0) (pa_cons (pe_op op_sub (pv 1) pe_int) (pa_cons (pe_op op_sub (pv 2) (pv 5)) pa_nil)))) pa_nil))))))))))))), ?_⟩
  refine ⟨_, rfl, p, 4, F, rfl, st, by decide, by decide +kernel, fun k H1 k0 k1 m1 o1 => ?_⟩
  have st1 := st.step m1 o1
  refine ⟨_, rfl, p, F, rfl, st1, fun d H2 d0 d1 m2 o2 => ?_⟩
  have st2 := st1.step m2 o2
  have m02 := m1.trp m2 st.o st1.o
  obtain ⟨nn, rfl⟩ := Int.eq_ofNat_of_zero_le d0
  have hnn : nn < 10 ^ 38 := by
    have e38 : (10 : Int) ^ 38 = ((10 ^ 38 : Nat) : Int) := by rw [Int.natCast_pow] <;> rfl
    rw [e38] at d1
    exact Int.ofNat_lt.mp d1
  have hn40 : nn < 10 ^ 40 := Nat.lt_trans hnn (by decide)
  dsimp only [gName]
  refine ifBy (decide (dp ≤ 1) || decide (many < 2)) (fun kk hk => ?_) ?_
  · refine ⟨_, rfl, _, _, rfl, rfl, _, rfl, ?_⟩
    by_cases c : dp ≤ 1
    · rw [decide_eq_true c] at hk ⊢
      exact iteT hk
    · rw [decide_eq_false c] at hk ⊢
      exact iteF ⟨_, rfl, _, _, rfl, rfl, _, rfl, hk⟩
  have m0 : Mv P0 F H2 F H2 := Mv.refl st2.k
  refine ite2 (fun _ => ?_) fun hc => ?_
  · refine ⟨by show 1 ≤ sizeLine; decide, fun b1 h1 => ?_⟩
    obtain ⟨n1, w1, g1⟩ := lay_tupP (K := K) m0 h1 (.cons (.str "leaf") .nil)
    generalize upd F b1 (.tup [V.str "leaf"]) = F1 at n1 w1 g1
    generalize upd H2 b1 (.tup [V.str "leaf"]) = I1 at n1 ⊢
    refine ⟨_, rfl, by show 2 ≤ sizeLine; decide, fun b2 h2 => ?_⟩
    obtain ⟨n2, w2, g2⟩ := lay_tupP (K := K) n1 h2 (.cons (.str "motion") (.cons (.int (nn : Int)) .nil))
    generalize upd F1 b2 (.tup [V.str "motion", .int (nn : Int)]) = F2 at n2 w2 g2
    generalize upd I1 b2 (.tup [V.str "motion", .int (nn : Int)]) = I2 at n2 ⊢
    refine ⟨_, rfl, .inl ⟨_, rfl, _, _, rfl, rfl, (show (0 : Int) < 3 by decide), by show 2 ≤ sizeLine; decide, fun b3 h3 => ?_⟩⟩
    have e3 : (nn : Int) % 3 = ((nn % 3 : Nat) : Int) := (Int.natCast_emod nn 3).symm
    obtain ⟨n3, w3, g3⟩ := lay_tupP (K := K) (vs := [V.str "motion", .int ((nn : Int) % 3)]) (ds := [.str "motion", .int ((nn % 3 : Nat) : Int)]) n2 h3 (.cons (.str "motion") (.cons (by rw [e3]; exact .int _) .nil))
    generalize upd F2 b3 (.tup [V.str "motion", .int ((nn : Int) % 3)]) = F3 at n3 w3 g3
    generalize upd I2 b3 (.tup [V.str "motion", .int ((nn : Int) % 3)]) = I3 at n3 ⊢
    refine ⟨by show 1 ≤ sizeLine; decide, fun b4 h4 => ?_⟩
    obtain ⟨n4, w4, g4⟩ := lay_tupP (K := K) n3 h4 (.cons (.str "leaf") .nil)
    generalize upd F3 b4 (.tup [V.str "leaf"]) = F4 at n4 w4 g4
    generalize upd I3 b4 (.tup [V.str "leaf"]) = I4 at n4 ⊢
    refine ⟨by show 4 ≤ sizeLine; decide, fun b5 h5 => ?_⟩
    obtain ⟨v, hv, hat⟩ := atI_mem (xs := [V.ref b1, .ref b2, .ref b3, .ref b4]) k0 k1
    refine ⟨_, rfl, b5, _, _, v, rfl, rfl, SqL.of upd_same, hat, ?_⟩
    have n5 := n4.own (o := .lst [V.ref b1, .ref b2, .ref b3, .ref b4]) h5
    have hall : ∃ tr, hgt tr = 1 ∧ sml tr ∧ Dp K F4 v (trD tr) := by
      simp only [List.mem_cons, List.not_mem_nil, or_false] at hv
      rcases hv with rfl | rfl | rfl | rfl
      · exact ⟨.leaf, rfl, True.intro, Dp.mono (g2.trans (g3.trans g4)) _ _ w1⟩
      · exact ⟨.motion nn, rfl, hn40, Dp.mono (g3.trans g4) _ _ w2⟩
      · exact ⟨.motion (nn % 3), rfl, Nat.lt_of_lt_of_le (Nat.mod_lt _ (by decide)) (by decide), Dp.mono g4 _ _ w3⟩
      · exact ⟨.leaf, rfl, True.intro, w4⟩
    obtain ⟨tr, ht, hs, hdv⟩ := hall
    exact q tr v F4 _ (by rw [ht]; exact hd1) hs (m02.trp n5.up st.o st2.o) (st2.stay n5).o hdv
  · have hdp : 1 < dp := by
      by_cases c : dp ≤ 1
      · rw [decide_eq_true c] at hc
        exact absurd rfl hc
      · omega
    have fin : ∀ ta va Fa Ha tb vb Fb Hb, (hgt ta : Int) ≤ dp - 1 → sml ta → Mv (PP p) F H2 Fa Ha → StO Fa Ha p → Dp K Fa va (trD ta) → (hgt tb : Int) ≤ dp - 1 → sml tb → Mv (PP p) Fa Ha Fb Hb → StO Fb Hb p → Dp K Fb vb (trD tb) →
        ([V.str "split", V.int (nn : Int), va, vb].length ≤ sizeLine ∧ ∀ b, Hb b = none → Q (.ref b) (upd Hb b (.tup [V.str "split", V.int (nn : Int), va, vb]))) := by
      intro ta va Fa Ha tb vb Fb Hb ha sa ma oa da hb sb mb ob db
      refine ⟨by show 4 ≤ sizeLine; decide, fun b hb0 => ?_⟩
      have sta := st2.step ma oa
      have stb := sta.step mb ob
      obtain ⟨n1, w1, g1⟩ := lay_tupP (K := K) (F1 := Fb) (Mv.refl stb.k) hb0 (.cons (.str "split") (.cons (.int (nn : Int)) (.cons (Dp.mono mb.f _ _ da) (.cons db .nil))))
      have mm := ((m02.trp ma st.o st2.o).trp mb st.o sta.o).trp n1.up st.o stb.o
      refine q (.split nn ta tb) _ _ _ ?_ ⟨hn40, sa, sb⟩ mm (stb.stay n1).o w1
      show ((max (hgt ta) (hgt tb) + 1 : Nat) : Int) ≤ dp
      omega
    have h1 : (1 : Int) ≤ dp - 1 := by omega
    have h2 : dp - 1 ≤ (n : Int) := by omega
    refine ⟨_, rfl, _, _, rfl, rfl, _, rfl, ite2 (fun _ => ?_) fun _ => ?_⟩
    · refine ⟨_, rfl, _, rfl, _, rfl, _, _, rfl, rfl, p, _, _, F, rfl, st2, h1, h2, fun ta va Fa Ha ha sa ma oa da => ?_⟩
      refine ⟨_, rfl, _, rfl, _, _, rfl, rfl, _, rfl, _, _, rfl, rfl, p, _, _, Fa, rfl, st2.step ma oa, h1, h2, fun tb vb Fb Hb hb sb mb ob db => ?_⟩
      exact fin ta va Fa Ha tb vb Fb Hb ha sa ma oa da hb sb mb ob db
    refine ⟨_, rfl, rfl, _, rfl, ite2 (fun _ => ?_) fun _ => ?_⟩
    · refine ⟨_, rfl, _, rfl, _, rfl, _, _, rfl, rfl, _, rfl, _, _, rfl, rfl, p, _, _, F, rfl, st2, h1, h2, fun ta va Fa Ha ha sa ma oa da => ?_⟩
      refine ⟨_, rfl, _, rfl, _, _, rfl, rfl, p, _, _, Fa, rfl, st2.step ma oa, h1, h2, fun tb vb Fb Hb hb sb mb ob db => ?_⟩
      exact fin ta va Fa Ha tb vb Fb Hb ha sa ma oa da hb sb mb ob db
    · refine ⟨_, rfl, _, _, rfl, rfl, ⟨by decide, by decide +kernel⟩, ?_⟩
      refine ⟨_, rfl, _, rfl, _, rfl, _, _, rfl, rfl, _, rfl, p, _, _, F, rfl, st2, h1, h2, fun ta va Fa Ha ha sa ma oa da => ?_⟩
      refine ⟨_, rfl, _, rfl, _, _, rfl, rfl, _, rfl, _, rfl, _, _, rfl, rfl, p, _, _, Fa, rfl, st2.step ma oa, h1, h2, fun tb vb Fb Hb hb sb mb ob db => ?_⟩
      exact fin ta va Fa Ha tb vb Fb Hb ha sa ma oa da hb sb mb ob db
theorem ok__law_tree_drawn (T : Txt K mg) : ∀ n : Nat, G P w K mg base CX0 (n + 4) "_law_tree_drawn" ["_law_stream_here", "_law_deep", "_law_many"] (sp__law_tree_drawn K n)
  | 0 => ok0__law_tree_drawn T
  | n + 1 => (show n + 4 + 1 = n + 1 + 4 by omega) ▸ okS__law_tree_drawn T n (ok__law_tree_drawn T n)
/-- never a plain tree -/
def Bad (d : PyData) : Prop := ∀ n, plainB n d = false
theorem bad_of {d : PyData} (h : isiT d = false) : Bad d := fun n => plainB_noT h
theorem bad_other {s : Str} {r : List PyData} (hl : V.str s ≠ V.str "leaf") (hm : V.str s ≠ V.str "motion") (hs : V.str s ≠ V.str "split") : Bad (.tuple (.str s :: r)) := fun n => plainB_other hl hm hs
theorem bad_leaf {d : PyData} {r : List PyData} : Bad (.tuple (.str "leaf" :: d :: r)) := fun n => by
  cases n with
  | zero => rfl
  | succ n =>
    rw [plainB_cons, if_pos rfl]
    rfl
theorem nlm : V.str "motion" ≠ V.str "leaf" := by decide +kernel
theorem nls : V.str "split" ≠ V.str "leaf" := by decide +kernel
theorem nsm : V.str "split" ≠ V.str "motion" := by decide +kernel
theorem bad_motion {r : List PyData} (h : ∀ i, r = [.int i] → i < 0) : Bad (.tuple (.str "motion" :: r)) := fun n => by
  cases n with
  | zero => rfl
  | succ n =>
    rw [plainB_cons, if_neg nlm, if_pos rfl]
    split
    · rename_i i
      exact decide_eq_false (by have := h i rfl; omega)
    · rfl
theorem bad_split {r : List PyData} (h : ∀ i a b, r = [.int i, a, b] → i < 0 ∨ Bad a ∨ Bad b) : Bad (.tuple (.str "split" :: r)) := fun n => by
  cases n with
  | zero => rfl
  | succ n =>
    rw [plainB_cons, if_neg nls, if_neg nsm, if_pos rfl]
    split
    · rename_i i a b
      rcases h i a b rfl with h | h | h
      · rw [decide_eq_false (show ¬ (0 : Int) ≤ i by omega)]
        rfl
      · rw [h n]
        simp
      · rw [h n]
        simp
    · rfl
/-- the things that are no whole number from 0 on -/
def NoI (d : PyData) : Prop := ∀ i, d = .int i → i < 0
theorem bad_more (tr : Tr) {ds : List PyData} (e : trD tr = .tuple ds) (x : PyData) : Bad (.tuple (ds ++ [x])) := by
  cases tr with
  | leaf =>
    injection e with e
    rw [← e]
    exact bad_leaf
  | motion m =>
    injection e with e
    rw [← e]
    exact bad_motion fun i z => nomatch (List.cons.inj z).2
  | split m a b =>
    injection e with e
    rw [← e]
    exact bad_split fun i a b z => nomatch (List.cons.inj (List.cons.inj (List.cons.inj z).2).2).2
theorem cut20 (a b c d : V) : cutV [a, b, c, d] none (some (2 + 0)) = [a, b] := by
  show List.take (HT.sIx 4 4 (some (2 + 0)) - HT.sIx 4 0 none) (List.drop (HT.sIx 4 0 none) [a, b, c, d]) = _
  rw [show HT.sIx 4 4 (some (2 + 0)) = 2 by decide, show HT.sIx 4 0 none = 0 by decide]
  rfl
theorem cut21 (a b c d : V) : cutV [a, b, c, d] none (some (2 + 1)) = [a, b, c] := by
  show List.take (HT.sIx 4 4 (some (2 + 1)) - HT.sIx 4 0 none) (List.drop (HT.sIx 4 0 none) [a, b, c, d]) = _
  rw [show HT.sIx 4 4 (some (2 + 1)) = 3 by decide, show HT.sIx 4 0 none = 0 by decide]
  rfl
theorem cut30 (a b c d : V) : cutV [a, b, c, d] (some (2 + 0 + 1)) none = [d] := by
  show List.take (HT.sIx 4 4 none - HT.sIx 4 0 (some (2 + 0 + 1))) (List.drop (HT.sIx 4 0 (some (2 + 0 + 1))) [a, b, c, d]) = _
  rw [show HT.sIx 4 4 none = 4 by decide, show HT.sIx 4 0 (some (2 + 0 + 1)) = 3 by decide]
  rfl
theorem cut31 (a b c d : V) : cutV [a, b, c, d] (some (2 + 1 + 1)) none = [] := by
  show List.take (HT.sIx 4 4 none - HT.sIx 4 0 (some (2 + 1 + 1))) (List.drop (HT.sIx 4 0 (some (2 + 1 + 1))) [a, b, c, d]) = _
  rw [show HT.sIx 4 4 none = 4 by decide, show HT.sIx 4 0 (some (2 + 1 + 1)) = 4 by decide]
  rfl
def sp__law_spoilt (K : PySem.W.Frag) (m : Nat) : Sp := fun vs H Q _ => ∃ (p : Addr) (v : V) (tr : Tr) (F : Hp), vs = [.ref p, v] ∧ Sti p F H ∧ hgt tr ≤ m ∧ Dp K F v (trD tr) ∧
  ∀ d u F' H', Bad d → Mv (PP p) F H F' H' → StO F' H' p → Dx K F' u d → Q u H'
theorem no__law_spoilt {vs : List V} {H : Hp} {Q : VK} {E : XK} (h : sp__law_spoilt K 0 vs H Q E) : False := by
  obtain ⟨_, _, t, _, _, _, z, _⟩ := h
  have := hgt_pos t
  omega
theorem ok0__law_spoilt (T : Txt K mg) : G P w K mg base CX0 (0 + 3) "_law_spoilt" ["_law_stream_here", "_law_tree"] (sp__law_spoilt K 0) := by
  obtain ⟨fd, F⟩ := T.fn__law_spoilt
  refine ⟨_, fd, T.glo__law_spoilt, F.kp, F.ok sc__law_spoilt (fun vs H Q E h => by first | (obtain ⟨rfl, _⟩ := h; rfl) | (obtain ⟨_, rfl, _⟩ := h; rfl) | (obtain ⟨_, _, rfl, _⟩ := h; rfl) | (obtain ⟨_, _, _, rfl, _⟩ := h; rfl) | (obtain ⟨_, _, _, _, rfl, _⟩ := h; rfl) | (obtain ⟨_, _, _, _, _, rfl, _⟩ := h; rfl) | (obtain ⟨_, _, _, _, _, _, rfl, _⟩ := h; rfl) | (obtain ⟨_, _, _, _, _, _, _, rfl, _⟩ := h; rfl) | (obtain ⟨_, _, _, _, _, _, _, _, rfl, _⟩ := h; rfl)) (fun cdv A outer s H vs Q E hr h => ?_), F.bindsN fun _ _ _ _ _ _ us hl => match us, hl with | [_, _], _ => rfl⟩
  exact (no__law_spoilt h).elim
theorem okS__law_spoilt (T : Txt K mg) (n : Nat) (g__law_spoilt : G P w K mg base CX0 (n + 3) "_law_spoilt" ["_law_stream_here", "_law_tree"] (sp__law_spoilt K n)) : G P w K mg base CX0 (n + 3 + 1) "_law_spoilt" ["_law_stream_here", "_law_tree"] (sp__law_spoilt K (n + 1)) := by
  obtain ⟨fd, F⟩ := T.fn__law_spoilt
  have g__law_take := ok__law_take (P := P) (w := w) (base := base) T
  refine ⟨_, fd, T.glo__law_spoilt, F.kp, F.ok sc__law_spoilt (fun vs H Q E h => by first | (obtain ⟨rfl, _⟩ := h; rfl) | (obtain ⟨_, rfl, _⟩ := h; rfl) | (obtain ⟨_, _, rfl, _⟩ := h; rfl) | (obtain ⟨_, _, _, rfl, _⟩ := h; rfl) | (obtain ⟨_, _, _, _, rfl, _⟩ := h; rfl) | (obtain ⟨_, _, _, _, _, rfl, _⟩ := h; rfl) | (obtain ⟨_, _, _, _, _, _, rfl, _⟩ := h; rfl) | (obtain ⟨_, _, _, _, _, _, _, rfl, _⟩ := h; rfl) | (obtain ⟨_, _, _, _, _, _, _, _, rfl, _⟩ := h; rfl)) (fun cdv A outer s H vs Q E hr h => ?_), F.bindsN fun _ _ _ _ _ _ us hl => match us, hl with | [_, _], _ => rfl⟩
  obtain ⟨p, v, tr, F, rfl, st, hh, hv, q⟩ := h
  refine ⟨_, PSs.nox (pss_cons (ps_set (i := 2) sc__law_spoilt.nd rfl (Or.inl rfl) (pe_g g__law_take hr pass0 (pa_cons (pv 0) (pa_cons pe_int pa_nil))))
    (Evl.pss_cut (ps_if (PW.pt (pw_and (pt_cmpR op_eq (pe_ix ix_tup (pv 1) pe_int (fun _ _ => rfl)) pe_str (nomark _)) (pw_and1 (pt_cmpR op_lt (pv 2) pe_int (nomark _))))) (pss_cons (ps_set (i := 3) sc__law_spoilt.nd rfl (Or.inl rfl) (pe_op op_add pe_int (pe_g g__law_take hr pass0 (pa_cons (pv 0) (pa_cons pe_int pa_nil)))))
    (pss_one (ps_ret (pe_op op_catT (pe_op op_catT (pe_slice sl_tup (pv 1) po_none (po_some (pv 3))) (pe_tup (pa_cons (pe_g g__law_spoilt hr pass0 (pa_cons (pv 0) (pa_cons (pe_ix ix_tup (pv 1) (pv 3) (fun _ _ => rfl)) pa_nil))) pa_nil))) (pe_slice sl_tup (pv 1) (po_some (pe_op op_add (pv 3) pe_int)) po_none))))) pss_nil)
    (Evl.pss_cut (ps_if (PW.pt (pw_and (pt_cmpR op_eq (pe_ix ix_tup (pv 1) pe_int (fun _ _ => rfl)) pe_str (nomark _)) (pw_and1 (pt_cmpR op_lt (pv 2) pe_int (nomark _))))) (pss_one (ps_ret (pe_tup (pa_cons pe_str (pa_cons (pe_ix ix_list (pe_lst (pa_cons (pe_un un_neg pe_int) (pa_cons pe_bl (pa_cons pe_non (pa_cons pe_str (pa_cons (pe_tup (pa_cons pe_int pa_nil)) pa_nil)))))) (pe_g g__law_take hr pass0 (pa_cons (pv 0) (pa_cons pe_int pa_nil))) (fun _ _ => rfl)) (pa_cons (pe_ix ix_tup (pv 1) pe_int (fun _ _ => rfl)) (pa_cons (pe_ix ix_tup (pv 1) pe_int (fun _ _ => rfl)) pa_nil))))))) pss_nil)
    (Evl.pss_cut (ps_if (PW.pt (pw_and (pt_cmpR op_eq (pe_ix ix_tup (pv 1) pe_int (fun _ _ => rfl)) pe_str (nomark _)) (pw_and1 (pt_cmpR op_lt (pv 2) pe_int (nomark _))))) (pss_one (ps_ret (pe_tup (pa_cons pe_str (pa_cons (pe_ix ix_list (pe_lst (pa_cons (pe_un un_neg pe_int) (pa_cons pe_bl (pa_cons pe_non (pa_cons pe_str (pa_cons (pe_tup (pa_cons pe_int pa_nil)) (pa_cons pe_bl (pa_cons (pe_un un_neg pe_int) (pa_cons pe_dnewK (pa_cons (pe_lst pa_nil) pa_nil)))))))))) (pv 2) (fun _ _ => rfl)) pa_nil))))) pss_nil)
    (pss_one (ps_ret (pe_ix ix_list (pe_lst (pa_cons pe_non (pa_cons (pe_tup pa_nil) (pa_cons (pe_lst pa_nil) (pa_cons pe_str (pa_cons (pe_tup (pa_cons pe_str (pa_cons pe_int pa_nil))) (pa_cons (pe_tup (pa_cons pe_str pa_nil)) (pa_cons (pe_tup (pa_cons pe_str (pa_cons pe_int (pa_cons (pe_tup (pa_cons pe_str pa_nil)) pa_nil)))) (pa_cons (pe_callTy call_list_of (by rfl) T.free_list (by decide +kernel) (pa_cons (pv 1) pa_nil)) (pa_cons (pe_tup (pa_cons pe_str pa_nil)) (pa_cons pe_int (pa_cons (pe_tup (pa_cons pe_str pa_nil)) (pa_cons (pe_tup (pa_cons pe_str (pa_cons pe_int (pa_cons pe_int pa_nil)))) (pa_cons (pe_op op_catT (pv 1) (pe_tup (pa_cons (pe_tup (pa_cons pe_str pa_nil)) pa_nil))) (pa_cons (pe_tup (pa_cons pe_int pa_nil)) pa_nil))))))))))))))) (pv 2) (fun _ _ => rfl)))))))), ?_⟩
  refine ⟨_, rfl, p, 14, F, rfl, st, by decide, by decide +kernel, fun k H1 k0 k1 m1 o1 => ?_⟩
  have st1 := st.step m1 o1
  obtain ⟨s0, dr, eds, hsp, hmo⟩ : ∃ s0 dr, trD tr = .tuple (.str s0 :: dr) ∧ (V.str s0 = V.str "split" → ∃ m ta tb, tr = .split m ta tb) ∧ (V.str s0 = V.str "motion" → ∃ m, tr = .motion m) := by
    cases tr with
    | leaf => exact ⟨_, _, rfl, fun e => absurd e (by decide +kernel), fun e => absurd e (by decide +kernel)⟩
    | motion m => exact ⟨_, _, rfl, fun e => absurd e (by decide +kernel), fun _ => ⟨m, rfl⟩⟩
    | split m a b => exact ⟨_, _, rfl, fun _ => ⟨m, a, b, rfl⟩, fun e => absurd e (by decide +kernel)⟩
  obtain ⟨a, xs, rfl, hsq0, hx0⟩ := tup_of (by rw [eds] at hv; exact hv)
  obtain ⟨x0, xr, exs, hat0⟩ : ∃ x0 xr, xs = x0 :: xr ∧ atI xs 0 = some (V.str s0) := by
    cases hx0 with
    | cons h r =>
      obtain rfl := str_of h
      exact ⟨_, _, rfl, atI_nat (j := 0) rfl⟩
  have hsq1 := Same.sqT st1.k hsq0
  refine ⟨fun σ' H' => σ' = [some (.ref p), some (.ref a), some (.int k), none] ∧ H1 = H', ?_, ?_⟩
  · refine ifBy (decide (V.str s0 = V.str "split") && decide (k < 9)) (fun kk hk => ?_) ?_
    · refine ⟨_, rfl, _, _, _, _, rfl, rfl, hsq1, hat0, rfl, _, rfl, ?_⟩
      cases hc : decide (V.str s0 = V.str "split") with
      | true =>
        rw [hc] at hk
        exact iteT ⟨_, rfl, _, _, rfl, rfl, _, rfl, hk⟩
      | false =>
        rw [hc] at hk
        exact iteF hk
    · refine ite2 (fun hc => ?_) fun _ => ⟨rfl, rfl⟩
      obtain ⟨m, ta, tb, rfl⟩ := hsp (of_decide_eq_true (Bool.and_eq_true_iff.mp hc).1)
      injection eds with eds
      obtain ⟨y0, y1, ya, yb, exs, d0, d1, da, db⟩ := all4 (show DpAll K F xs [.str "split", .int (m : Int), trD ta, trD tb] by rw [show [PyData.str "split", .int (m : Int), trD ta, trD tb] = _ from eds]; exact hx0)
      subst exs
      obtain rfl := str_of d0
      obtain rfl := int_of d1
      have hh2 : max (hgt ta) (hgt tb) ≤ n := Nat.le_of_succ_le_succ hh
      refine ⟨_, rfl, p, 2, F, rfl, st1, by decide, by decide +kernel, fun d H2 g0 g1 m2 o2 => ⟨_, _, rfl, rfl, ?_⟩⟩
      have st2 := st1.step m2 o2
      have m02 := m1.trp m2 st.o st1.o
      have hd : d = 0 ∨ d = 1 := by omega
      rcases hd with rfl | rfl
      · refine ⟨_, rfl, _, rfl, _, rfl, a, _, rfl, Same.sqT st2.k hsq0, (by show ¬ (HT.sIx 4 0 none = 0 ∧ HT.sIx 4 4 (some (2 + 0)) = 4); decide), ?_⟩
        rw [show cutV [V.str "split", .int (m : Int), ya, yb] none (some ((fun i j => i + j) 2 0)) = [V.str "split", .int (m : Int)] from cut20 _ _ _ _]
        intro c1 hc1
        obtain ⟨n1, w1, f1⟩ := lay_tup (K := K) (vs := [V.str "split", .int (m : Int)]) (ds := [.str "split", .int (m : Int)]) (Mv.refl st2.k) hc1 (.cons (.str _) (.cons (.int _) .nil))
        have st3 := st2.stay n1
        have m03 := m02.trp n1.up st.o st2.o
        refine ⟨_, rfl, _, rfl, _, rfl, _, _, _, _, rfl, rfl, Same.sqT (f1.trans st3.k) hsq0, atI_nat (xs := [V.str "split", .int (m : Int), ya, yb]) (j := 2) rfl, p, ya, ta, _, rfl, st3, by omega, Dp.mono f1 _ _ da, fun d u F4 H4 bd m4 o4 du => ?_⟩
        have st4 := st3.step m4 o4
        have m04 := m03.trp m4 st.o st3.o
        refine ⟨by show 1 ≤ sizeLine; decide, fun c2 hc2 => ?_⟩
        obtain ⟨n5, w5, f5⟩ := lay_tup (K := K) (vs := [u]) (ds := [d]) (Mv.refl st4.k) hc2 (.cons du .nil)
        have st5 := st4.stay n5
        have m05 := m04.trp n5.up st.o st4.o
        have f15 := f1.trans (m4.f.trans f5)
        have hc1F : SqT K (upd F4 c2 (.tup [u])) c1 [V.str "split", .int (m : Int)] := Same.sqT (m4.f.trans f5) (SqT.of upd_same)
        refine ⟨c1, c2, _, _, rfl, rfl, Same.sqT st5.k hc1F, SqT.of upd_same, (fun e => nomatch e), by show 2 + 1 ≤ sizeLine; decide, (fun e => nomatch e), fun _ c3 hc3 => ?_⟩
        obtain ⟨n6, w6, f6⟩ := lay_tup (K := K) (vs := [V.str "split", .int (m : Int)] ++ [u]) (ds := [.str "split", .int (m : Int), d]) (Mv.refl st5.k) hc3 (.cons (.str _) (.cons (.int _) (.cons (Dx.mono f5 _ _ du) .nil)))
        have st6 := st5.stay n6
        have m06 := m05.trp n6.up st.o st5.o
        refine ⟨_, rfl, _, rfl, _, _, rfl, rfl, _, rfl, a, _, rfl, Same.sqT ((f15.trans f6).trans st6.k) hsq0, (by show ¬ (HT.sIx 4 0 (some (2 + 0 + 1)) = 0 ∧ HT.sIx 4 4 none = 4); decide), ?_⟩
        rw [show cutV [V.str "split", .int (m : Int), ya, yb] (some ((fun i j => i + j) ((fun i j => i + j) 2 0) 1)) none = [yb] from cut30 _ _ _ _]
        intro c4 hc4
        obtain ⟨n7, w7, f7⟩ := lay_tup (K := K) (vs := [yb]) (ds := [trD tb]) (Mv.refl st6.k) hc4 (.cons (Dx.mono (f15.trans f6) _ _ (dx db)) .nil)
        have st7 := st6.stay n7
        have m07 := m06.trp n7.up st.o st6.o
        have hc3F := Same.sqT (K := K) f7 (SqT.of (upd_same (H := upd F4 c2 (.tup [u])) (a := c3) (o := .tup ([V.str "split", .int (m : Int)] ++ [u]))))
        refine ⟨c3, c4, _, _, rfl, rfl, Same.sqT st7.k hc3F, SqT.of upd_same, (fun e => nomatch e), by show 3 + 1 ≤ sizeLine; decide, (fun e => nomatch e), fun _ c5 hc5 => ?_⟩
        obtain ⟨n8, w8, f8⟩ := lay_tup (K := K) (vs := [V.str "split", .int (m : Int)] ++ [u] ++ [yb]) (ds := [.str "split", .int (m : Int), d, trD tb]) (Mv.refl st7.k) hc5
          (.cons (.str _) (.cons (.int _) (.cons (Dx.mono ((f5.trans f6).trans f7) _ _ du) (.cons (Dx.mono ((f15.trans f6).trans f7) _ _ (dx db)) .nil))))
        exact q _ _ _ _ (bad_split fun i a b z => .inr (.inl (by rw [← (List.cons.inj (List.cons.inj z).2).1]; exact bd))) (m07.trp n8.up st.o st7.o) (st7.stay n8).o w8
      · refine ⟨_, rfl, _, rfl, _, rfl, a, _, rfl, Same.sqT st2.k hsq0, (by show ¬ (HT.sIx 4 0 none = 0 ∧ HT.sIx 4 4 (some (2 + 1)) = 4); decide), ?_⟩
        rw [show cutV [V.str "split", .int (m : Int), ya, yb] none (some ((fun i j => i + j) 2 1)) = [V.str "split", .int (m : Int), ya] from cut21 _ _ _ _]
        intro c1 hc1
        obtain ⟨n1, w1, f1⟩ := lay_tup (K := K) (vs := [V.str "split", .int (m : Int), ya]) (ds := [.str "split", .int (m : Int), trD ta]) (Mv.refl st2.k) hc1 (.cons (.str _) (.cons (.int _) (.cons (dx da) .nil)))
        have st3 := st2.stay n1
        have m03 := m02.trp n1.up st.o st2.o
        refine ⟨_, rfl, _, rfl, _, rfl, _, _, _, _, rfl, rfl, Same.sqT (f1.trans st3.k) hsq0, atI_nat (xs := [V.str "split", .int (m : Int), ya, yb]) (j := 3) rfl, p, yb, tb, _, rfl, st3, by omega, Dp.mono f1 _ _ db, fun d u F4 H4 bd m4 o4 du => ?_⟩
        have st4 := st3.step m4 o4
        have m04 := m03.trp m4 st.o st3.o
        refine ⟨by show 1 ≤ sizeLine; decide, fun c2 hc2 => ?_⟩
        obtain ⟨n5, w5, f5⟩ := lay_tup (K := K) (vs := [u]) (ds := [d]) (Mv.refl st4.k) hc2 (.cons du .nil)
        have st5 := st4.stay n5
        have m05 := m04.trp n5.up st.o st4.o
        have f15 := f1.trans (m4.f.trans f5)
        have hc1F : SqT K (upd F4 c2 (.tup [u])) c1 [V.str "split", .int (m : Int), ya] := Same.sqT (m4.f.trans f5) (SqT.of upd_same)
        refine ⟨c1, c2, _, _, rfl, rfl, Same.sqT st5.k hc1F, SqT.of upd_same, (fun e => nomatch e), by show 3 + 1 ≤ sizeLine; decide, (fun e => nomatch e), fun _ c3 hc3 => ?_⟩
        obtain ⟨n6, w6, f6⟩ := lay_tup (K := K) (vs := [V.str "split", .int (m : Int), ya] ++ [u]) (ds := [.str "split", .int (m : Int), trD ta, d]) (Mv.refl st5.k) hc3 (.cons (.str _) (.cons (.int _) (.cons (Dx.mono f15 _ _ (dx da)) (.cons (Dx.mono f5 _ _ du) .nil))))
        have st6 := st5.stay n6
        have m06 := m05.trp n6.up st.o st5.o
        refine ⟨_, rfl, _, rfl, _, _, rfl, rfl, _, rfl, a, _, rfl, Same.sqT ((f15.trans f6).trans st6.k) hsq0, (by show ¬ (HT.sIx 4 0 (some (2 + 1 + 1)) = 0 ∧ HT.sIx 4 4 none = 4); decide), ?_⟩
        rw [show cutV [V.str "split", .int (m : Int), ya, yb] (some ((fun i j => i + j) ((fun i j => i + j) 2 1) 1)) none = [] from cut31 _ _ _ _]
        intro c4 hc4
        obtain ⟨n7, w7, f7⟩ := lay_tup (K := K) (vs := []) (ds := []) (Mv.refl st6.k) hc4 .nil
        have st7 := st6.stay n7
        have m07 := m06.trp n7.up st.o st6.o
        have hc3F := Same.sqT (K := K) f7 (SqT.of (upd_same (H := upd F4 c2 (.tup [u])) (a := c3) (o := .tup ([V.str "split", .int (m : Int), ya] ++ [u]))))
        refine ⟨c3, c4, _, _, rfl, rfl, Same.sqT st7.k hc3F, SqT.of upd_same, (fun e => nomatch e), by show 4 + 0 ≤ sizeLine; decide, (fun _ => ?_), fun e => absurd rfl e⟩
        exact q _ _ _ _ (bad_split fun i a b z => .inr (.inr (by rw [← (List.cons.inj (List.cons.inj (List.cons.inj z).2).2).1]; exact bd))) m07 st7.o (Dx.mono f7 _ _ w6)
  rintro σ' H' ⟨rfl, rfl⟩
  refine ⟨fun σ' H' => σ' = [some (.ref p), some (.ref a), some (.int k), none] ∧ H1 = H', ?_, ?_⟩
  · refine ifBy (decide (V.str s0 = V.str "split") && decide (k < 11)) (fun kk hk => ?_) ?_
    · refine ⟨_, rfl, _, _, _, _, rfl, rfl, hsq1, hat0, rfl, _, rfl, ?_⟩
      cases hc : decide (V.str s0 = V.str "split") with
      | true =>
        rw [hc] at hk
        exact iteT ⟨_, rfl, _, _, rfl, rfl, _, rfl, hk⟩
      | false =>
        rw [hc] at hk
        exact iteF hk
    · refine ite2 (fun hc => ?_) fun _ => ⟨rfl, rfl⟩
      obtain ⟨m, ta, tb, rfl⟩ := hsp (of_decide_eq_true (Bool.and_eq_true_iff.mp hc).1)
      injection eds with eds
      obtain ⟨y0, y1, ya, yb, exs, d0, d1, da, db⟩ := all4 (show DpAll K F xs [.str "split", .int (m : Int), trD ta, trD tb] by rw [show [PyData.str "split", .int (m : Int), trD ta, trD tb] = _ from eds]; exact hx0)
      subst exs
      obtain rfl := str_of d0
      obtain rfl := int_of d1
      refine ⟨_, rfl, by show 1 ≤ sizeLine; decide, fun b1 h1 => ?_⟩
      obtain ⟨n1, w1, f1⟩ := lay_tup (K := K) (vs := [.int 0]) (ds := [.int 0]) (Mv.refl st1.k) h1 (.cons (.int _) .nil)
      have st2 := st1.stay n1
      have m02 := m1.trp n1.up st.o st1.o
      refine ⟨by show 5 ≤ sizeLine; decide, fun b2 h2 => ?_⟩
      have n2 := Mv.nw (o := .lst [.int (-1), .bl true, .non, .str "0", .ref b1]) (Mv.refl st2.k) h2
      have st3 := st2.stay n2
      have m03 := m02.trp n2.up st.o st2.o
      refine ⟨_, rfl, p, 5, _, rfl, st3, by decide, by decide +kernel, fun d H4 g0 g1 m4 o4 => ?_⟩
      have st4 := st3.step m4 o4
      have m04 := m03.trp m4 st.o st3.o
      obtain ⟨u, hu, hat⟩ := atI_mem (xs := [V.int (-1), .bl true, .non, .str "0", .ref b1]) g0 g1
      refine ⟨b2, _, _, u, rfl, rfl, SqL.of (st4.k _ _ upd_same), hat, ?_⟩
      have hall : ∃ e, Dx K (upd (upd F b1 (.tup [.int 0])) b2 (.lst [.int (-1), .bl true, .non, .str "0", .ref b1])) u e ∧ NoI e := by
        simp only [List.mem_cons, List.not_mem_nil, or_false] at hu
        rcases hu with rfl | rfl | rfl | rfl | rfl
        · exact ⟨_, .int _, fun i z => by injection z with z; omega⟩
        · exact ⟨_, .bl _, fun i z => nomatch z⟩
        · exact ⟨_, .non, fun i z => nomatch z⟩
        · exact ⟨_, .str _, fun i z => nomatch z⟩
        · exact ⟨_, Dx.mono n2.f _ _ w1, fun i z => nomatch z⟩
      obtain ⟨e, de, hno⟩ := hall
      have f02 := f1.trans n2.f
      have hsq4 := Same.sqT (f02.trans st4.k) hsq0
      refine ⟨_, rfl, _, _, _, _, rfl, rfl, hsq4, atI_nat (xs := [V.str "split", .int (m : Int), ya, yb]) (j := 2) rfl, _, rfl, _, _, _, _, rfl, rfl, hsq4, atI_nat (xs := [V.str "split", .int (m : Int), ya, yb]) (j := 3) rfl, by show 4 ≤ sizeLine; decide, fun b3 h3 => ?_⟩
      obtain ⟨n5, w5, f5⟩ := lay_tup (K := K) (vs := [.str "split", u, ya, yb]) (ds := [.str "split", e, trD ta, trD tb]) (Mv.refl st4.k) h3 (.cons (.str _) (.cons de (.cons (Dx.mono f02 _ _ (dx da)) (.cons (Dx.mono f02 _ _ (dx db)) .nil))))
      exact q _ _ _ _ (bad_split fun i a b z => .inl (hno i (List.cons.inj z).1)) (m04.trp n5.up st.o st4.o) (st4.stay n5).o w5
  rintro σ' H' ⟨rfl, rfl⟩
  refine ⟨fun σ' H' => σ' = [some (.ref p), some (.ref a), some (.int k), none] ∧ H1 = H', ?_, ?_⟩
  · refine ifBy (decide (V.str s0 = V.str "motion") && decide (k < 9)) (fun kk hk => ?_) ?_
    · refine ⟨_, rfl, _, _, _, _, rfl, rfl, hsq1, hat0, rfl, _, rfl, ?_⟩
      cases hc : decide (V.str s0 = V.str "motion") with
      | true =>
        rw [hc] at hk
        exact iteT ⟨_, rfl, _, _, rfl, rfl, _, rfl, hk⟩
      | false =>
        rw [hc] at hk
        exact iteF hk
    · refine ite2 (fun hc => ?_) fun _ => ⟨rfl, rfl⟩
      have k9 : k < 9 := of_decide_eq_true (Bool.and_eq_true_iff.mp hc).2
      refine ⟨_, rfl, by show 1 ≤ sizeLine; decide, fun b1 h1 => ?_⟩
      obtain ⟨n1, w1, f1⟩ := lay_tup (K := K) (vs := [.int 0]) (ds := [.int 0]) (Mv.refl st1.k) h1 (.cons (.int _) .nil)
      have st2 := st1.stay n1
      have m02 := m1.trp n1.up st.o st1.o
      refine ⟨_, rfl, fun b2 h2 => ?_⟩
      have n2 := Mv.nw (o := .dK []) (Mv.refl st2.k) h2
      have w2 : Dx K (upd (upd F b1 (.tup [.int 0])) b2 (.dK [])) (.ref b2) (.dict []) := .dK upd_same
      have st3 := st2.stay n2
      have m03 := m02.trp n2.up st.o st2.o
      refine ⟨by show 0 ≤ sizeLine; exact Nat.zero_le _, fun b3 h3 => ?_⟩
      obtain ⟨n3, w3, f3⟩ := lay_lst (K := K) (vs := []) (ds := []) (Mv.refl st3.k) h3 .nil
      have st4 := st3.stay n3
      have m04 := m03.trp n3.up st.o st3.o
      refine ⟨by show 9 ≤ sizeLine; decide, fun b4 h4 => ?_⟩
      obtain ⟨u, hu, hat⟩ := atI_mem (xs := [V.int (-1), .bl true, .non, .str "0", .ref b1, .bl false, .int (-5), .ref b2, .ref b3]) k0 k9
      have n4 := Mv.own (o := .lst [V.int (-1), .bl true, .non, .str "0", .ref b1, .bl false, .int (-5), .ref b2, .ref b3]) (Mv.refl (P := P0) st4.k) h4
      have st5 := st4.stay n4
      have m05 := m04.trp n4.up st.o st4.o
      refine ⟨_, rfl, b4, _, _, u, rfl, rfl, SqL.of upd_same, hat, by show 2 ≤ sizeLine; decide, fun b5 h5 => ?_⟩
      have hall : ∃ e, Dx K (upd (upd (upd F b1 (.tup [.int 0])) b2 (.dK [])) b3 (.lst [])) u e ∧ NoI e := by
        simp only [List.mem_cons, List.not_mem_nil, or_false] at hu
        rcases hu with rfl | rfl | rfl | rfl | rfl | rfl | rfl | rfl | rfl
        · exact ⟨_, .int _, fun i z => by injection z with z; omega⟩
        · exact ⟨_, .bl _, fun i z => nomatch z⟩
        · exact ⟨_, .non, fun i z => nomatch z⟩
        · exact ⟨_, .str _, fun i z => nomatch z⟩
        · exact ⟨_, Dx.mono (n2.f.trans f3) _ _ w1, fun i z => nomatch z⟩
        · exact ⟨_, .bl _, fun i z => nomatch z⟩
        · exact ⟨_, .int _, fun i z => by injection z with z; omega⟩
        · exact ⟨_, Dx.mono f3 _ _ w2, fun i z => nomatch z⟩
        · exact ⟨_, w3, fun i z => nomatch z⟩
      obtain ⟨e, de, hno⟩ := hall
      obtain ⟨n6, w6, f6⟩ := lay_tup (K := K) (vs := [.str "motion", u]) (ds := [.str "motion", e]) (Mv.refl st5.k) h5 (.cons (.str _) (.cons de .nil))
      exact q _ _ _ _ (bad_motion fun i z => hno i (List.cons.inj z).1) (m05.trp n6.up st.o st5.o) (st5.stay n6).o w6
  rintro σ' H' ⟨rfl, rfl⟩
  -- the last list
  have m0 : Mv P0 F H1 F H1 := Mv.refl st1.k
  refine ⟨by show 0 ≤ sizeLine; exact Nat.zero_le _, fun b1 h1 => ?_⟩
  obtain ⟨n1, w1, f1⟩ := lay_tup (K := K) (vs := []) (ds := []) m0 h1 .nil
  generalize upd F b1 (.tup []) = F1 at n1 w1 f1
  generalize upd H1 b1 (.tup []) = I1 at n1 ⊢
  refine ⟨by show 0 ≤ sizeLine; exact Nat.zero_le _, fun b2 h2 => ?_⟩
  obtain ⟨n2, w2, f2⟩ := lay_lst (K := K) (vs := []) (ds := []) n1 h2 .nil
  generalize upd F1 b2 (.lst []) = F2 at n2 w2 f2
  generalize upd I1 b2 (.lst []) = I2 at n2 ⊢
  refine ⟨by show 2 ≤ sizeLine; decide, fun b3 h3 => ?_⟩
  obtain ⟨n3, w3, f3⟩ := lay_tup (K := K) (vs := [.str "leaf", .int 0]) (ds := [.str "leaf", .int 0]) n2 h3 (.cons (.str _) (.cons (.int _) .nil))
  generalize upd F2 b3 (.tup [.str "leaf", .int 0]) = F3 at n3 w3 f3
  generalize upd I2 b3 (.tup [.str "leaf", .int 0]) = I3 at n3 ⊢
  refine ⟨by show 1 ≤ sizeLine; decide, fun b4 h4 => ?_⟩
  obtain ⟨n4, w4, f4⟩ := lay_tup (K := K) (vs := [.str "motion"]) (ds := [.str "motion"]) n3 h4 (.cons (.str _) .nil)
  generalize upd F3 b4 (.tup [.str "motion"]) = F4 at n4 w4 f4
  generalize upd I3 b4 (.tup [.str "motion"]) = I4 at n4 ⊢
  refine ⟨by show 1 ≤ sizeLine; decide, fun b5 h5 => ?_⟩
  obtain ⟨n5, w5, f5⟩ := lay_tup (K := K) (vs := [.str "leaf"]) (ds := [.str "leaf"]) n4 h5 (.cons (.str _) .nil)
  generalize upd F4 b5 (.tup [.str "leaf"]) = F5 at n5 w5 f5
  generalize upd I4 b5 (.tup [.str "leaf"]) = I5 at n5 ⊢
  refine ⟨by show 3 ≤ sizeLine; decide, fun b6 h6 => ?_⟩
  obtain ⟨n6, w6, f6⟩ := lay_tup (K := K) (vs := [.str "split", .int 0, .ref b5]) (ds := [.str "split", .int 0, .tuple [.str "leaf"]]) n5 h6 (.cons (.str _) (.cons (.int _) (.cons w5 .nil)))
  generalize upd F5 b6 (.tup [.str "split", .int 0, .ref b5]) = F6 at n6 w6 f6
  generalize upd I5 b6 (.tup [.str "split", .int 0, .ref b5]) = I6 at n6 ⊢
  have f06 := f1.trans (f2.trans (f3.trans (f4.trans (f5.trans f6))))
  refine ⟨_, rfl, a, xs, rfl, .inr (Same.sqT (f06.trans n6.k) hsq0), fun b7 h7 => ?_⟩
  obtain ⟨n7, w7, f7⟩ := lay_lst (K := K) (vs := xs) n6 h7 (DxAll.mono f06 _ _ (DxAll.of _ _ hx0))
  generalize upd F6 b7 (.lst xs) = F7 at n7 w7 f7
  generalize upd I6 b7 (.lst xs) = I7 at n7 ⊢
  refine ⟨by show 1 ≤ sizeLine; decide, fun b8 h8 => ?_⟩
  obtain ⟨n8, w8, f8⟩ := lay_tup (K := K) (vs := [.str "Leaf"]) (ds := [.str "Leaf"]) n7 h8 (.cons (.str _) .nil)
  generalize upd F7 b8 (.tup [.str "Leaf"]) = F8 at n8 w8 f8
  generalize upd I7 b8 (.tup [.str "Leaf"]) = I8 at n8 ⊢
  refine ⟨by show 1 ≤ sizeLine; decide, fun b9 h9 => ?_⟩
  obtain ⟨n9, w9, f9⟩ := lay_tup (K := K) (vs := [.str ""]) (ds := [.str ""]) n8 h9 (.cons (.str _) .nil)
  generalize upd F8 b9 (.tup [.str ""]) = F9 at n9 w9 f9
  generalize upd I8 b9 (.tup [.str ""]) = I9 at n9 ⊢
  refine ⟨by show 3 ≤ sizeLine; decide, fun ba ha => ?_⟩
  obtain ⟨na, wa, fa⟩ := lay_tup (K := K) (vs := [.str "motion", .int 0, .int 0]) (ds := [.str "motion", .int 0, .int 0]) n9 ha (.cons (.str _) (.cons (.int _) (.cons (.int _) .nil)))
  generalize upd F9 ba (.tup [.str "motion", .int 0, .int 0]) = Fa at na wa fa
  generalize upd I9 ba (.tup [.str "motion", .int 0, .int 0]) = Ia at na ⊢
  refine ⟨_, rfl, by show 1 ≤ sizeLine; decide, fun bb hb => ?_⟩
  obtain ⟨nb, wb, fb⟩ := lay_tup (K := K) (vs := [.str "leaf"]) (ds := [.str "leaf"]) na hb (.cons (.str _) .nil)
  generalize upd Fa bb (.tup [.str "leaf"]) = Fb at nb wb fb
  generalize upd Ia bb (.tup [.str "leaf"]) = Ib at nb ⊢
  refine ⟨by show 1 ≤ sizeLine; decide, fun bc hc => ?_⟩
  obtain ⟨nc, wc, fc⟩ := lay_tup (K := K) (vs := [.ref bb]) (ds := [.tuple [.str "leaf"]]) nb hc (.cons wb .nil)
  have wcs : SqT K (upd Fb bc (.tup [.ref bb])) bc [.ref bb] := SqT.of upd_same
  generalize upd Fb bc (.tup [.ref bb]) = Fc at nc wc fc wcs
  generalize upd Ib bc (.tup [.ref bb]) = Ic at nc ⊢
  have f0c := f06.trans (f7.trans (f8.trans (f9.trans (fa.trans (fb.trans fc)))))
  have hxl := DpAll.len hx0
  have hdl : dr.length ≤ 3 := by
    cases tr with
    | leaf => injection eds with e; rw [← (List.cons.inj e).2]; decide
    | motion m => injection eds with e; rw [← (List.cons.inj e).2]; exact (show 1 ≤ 3 by decide)
    | split m a b => injection eds with e; rw [← (List.cons.inj e).2]; exact (show 3 ≤ 3 by decide)
  refine ⟨a, bc, xs, _, rfl, rfl, Same.sqT (f0c.trans nc.k) hsq0, Same.sqT nc.k wcs, (by rw [exs]; exact fun e => nomatch e), szle (by rw [hxl, List.length_cons, List.length_singleton]; omega), (fun e => nomatch e), fun _ bd hd => ?_⟩
  obtain ⟨nd, wd, fd2⟩ := lay_tup (K := K) (vs := xs ++ [.ref bb]) (ds := (.str s0 :: dr) ++ [.tuple [.str "leaf"]]) nc hd (DxAll.app (DxAll.mono f0c _ _ (DxAll.of _ _ hx0)) (.cons (Dx.mono fc _ _ wb) .nil))
  generalize upd Fc bd (.tup (xs ++ [.ref bb])) = Fd at nd wd fd2
  generalize upd Ic bd (.tup (xs ++ [.ref bb])) = Id at nd ⊢
  refine ⟨by show 1 ≤ sizeLine; decide, fun be he => ?_⟩
  obtain ⟨ne, we, fe⟩ := lay_tup (K := K) (vs := [.int 0]) (ds := [.int 0]) nd he (.cons (.int _) .nil)
  generalize upd Fd be (.tup [.int 0]) = Fe at ne we fe
  generalize upd Id be (.tup [.int 0]) = Ie at ne ⊢
  refine ⟨by show 14 ≤ sizeLine; decide, fun bz hz => ?_⟩
  obtain ⟨u, hu, hat⟩ := atI_mem (xs := [V.non, .ref b1, .ref b2, .str "leaf", .ref b3, .ref b4, .ref b6, .ref b7, .ref b8, .int 0, .ref b9, .ref ba, .ref bd, .ref be]) k0 k1
  have nz := ne.own (o := .lst [V.non, .ref b1, .ref b2, .str "leaf", .ref b3, .ref b4, .ref b6, .ref b7, .ref b8, .int 0, .ref b9, .ref ba, .ref bd, .ref be]) hz
  refine ⟨_, rfl, bz, _, _, u, rfl, rfl, SqL.of upd_same, hat, ?_⟩
  have ge := fe
  have gd := fd2.trans ge
  have gc := fc.trans gd
  have gb := fb.trans gc
  have ga := fa.trans gb
  have g9 := f9.trans ga
  have g8 := f8.trans g9
  have g7 := f7.trans g8
  have g6 := f6.trans g7
  have g5 := f5.trans g6
  have g4 := f4.trans g5
  have g3 := f3.trans g4
  have g2 := f2.trans g3
  have hall : ∃ e, Dx K Fe u e ∧ Bad e := by
    simp only [List.mem_cons, List.not_mem_nil, or_false] at hu
    rcases hu with rfl | rfl | rfl | rfl | rfl | rfl | rfl | rfl | rfl | rfl | rfl | rfl | rfl | rfl
    · exact ⟨_, .non, bad_of rfl⟩
    · exact ⟨_, Dx.mono g2 _ _ w1, plainB_nil⟩
    · exact ⟨_, Dx.mono g3 _ _ w2, bad_of rfl⟩
    · exact ⟨_, .str _, bad_of rfl⟩
    · exact ⟨_, Dx.mono g4 _ _ w3, bad_leaf⟩
    · exact ⟨_, Dx.mono g5 _ _ w4, bad_motion fun i z => nomatch z⟩
    · exact ⟨_, Dx.mono g7 _ _ w6, bad_split fun i a b z => nomatch (List.cons.inj (List.cons.inj z).2).2⟩
    · exact ⟨_, Dx.mono g8 _ _ w7, bad_of rfl⟩
    · exact ⟨_, Dx.mono g9 _ _ w8, bad_other (by decide +kernel) (by decide +kernel) (by decide +kernel)⟩
    · exact ⟨_, .int _, bad_of rfl⟩
    · exact ⟨_, Dx.mono ga _ _ w9, bad_other (by decide +kernel) (by decide +kernel) (by decide +kernel)⟩
    · exact ⟨_, Dx.mono gb _ _ wa, bad_motion fun i z => nomatch (List.cons.inj z).2⟩
    · exact ⟨_, Dx.mono ge _ _ wd, bad_more tr eds _⟩
    · exact ⟨_, we, fun n => plainB_noS rfl⟩
  obtain ⟨e, de, hbad⟩ := hall
  exact q _ _ _ _ hbad (m1.trp nz.up st.o st1.o) (st1.stay nz).o de
theorem ok__law_spoilt (T : Txt K mg) : ∀ n : Nat, G P w K mg base CX0 (n + 3) "_law_spoilt" ["_law_stream_here", "_law_tree"] (sp__law_spoilt K n)
  | 0 => ok0__law_spoilt T
  | n + 1 => (show n + 3 + 1 = n + 1 + 3 by omega) ▸ okS__law_spoilt T n (ok__law_spoilt T n)
end
end Q
/-! Z94: trees judged -/
namespace Q
open PySem PySem.Spec PyProof.Rows L2
open TL (tl)
section
variable {P : Program} {w : World} {K : PySem.W.Frag} {mg : Str → Option Value} {base : Heap}
theorem trW_len : ∀ t : Tr, sml t → (trW t).length + 44 ≤ 44 * 2 ^ hgt t
  | .leaf, _ => (show 1 + 44 ≤ 44 * 2 ^ 1 by decide)
  | .motion m, h => by
    have h1 := TL.numL_len (k := 40) (by decide) (show m < 10 ^ 40 from h)
    show (TL.numL m).length + 44 ≤ 44 * 2 ^ 1
    omega
  | .split m a b, ⟨hm, ha, hb⟩ => by
    have h1 := TL.numL_len (k := 40) (by decide) hm
    have ia := trW_len a ha
    have ib := trW_len b hb
    have pa : 2 ^ hgt a ≤ 2 ^ max (hgt a) (hgt b) := Nat.pow_le_pow_right (by decide) (Nat.le_max_left ..)
    have pb : 2 ^ hgt b ≤ 2 ^ max (hgt a) (hgt b) := Nat.pow_le_pow_right (by decide) (Nat.le_max_right ..)
    show (40 :: (TL.numL m ++ 32 :: (trW a ++ 32 :: (trW b ++ [41])))).length + 44 ≤ 44 * 2 ^ (max (hgt a) (hgt b) + 1)
    rw [Nat.pow_succ]
    simp only [List.length_cons, List.length_append, List.length_nil]
    omega
theorem trW_12 {t : Tr} (hs : sml t) (h : hgt t ≤ 12) : (trW t).length < 200000 := by
  have h1 := trW_len t hs
  have h2 : 2 ^ hgt t ≤ 2 ^ 12 := Nat.pow_le_pow_right (by decide) h
  omega
theorem trW_13 {t : Tr} (hs : sml t) (h : hgt t ≤ 13) : (trW t).length < 400000 := by
  have h1 := trW_len t hs
  have h2 : 2 ^ hgt t ≤ 2 ^ 13 := Nat.pow_le_pow_right (by decide) h
  omega
theorem wid_tr : ∀ t : Tr, wid (trD t) ≤ 4
  | .leaf => by simp [trD, wid, wids]
  | .motion m => by simp [trD, wid, wids]
  | .split m a b => by
    have h1 := wid_tr a
    have h2 := wid_tr b
    simp [trD, wid, wids]
    omega
theorem dep_tr : ∀ t : Tr, dep (trD t) ≤ hgt t
  | .leaf => by simp [trD, dep, deps, hgt]
  | .motion m => by simp [trD, dep, deps, hgt]
  | .split m a b => by
    have h1 := dep_tr a
    have h2 := dep_tr b
    simp [trD, dep, deps, hgt]
    omega
theorem wid_toldD (d : PyData) (h : wid d ≤ 4) : wid (toldD d) ≤ 4 := by
  simp [toldD, wid, wids]
  omega
theorem dep_toldD (d : PyData) : dep (toldD d) ≤ dep d + 1 := by
  simp [toldD, dep, deps]
theorem plainB_high : ∀ (t : Tr) (n : Nat), n < hgt t → plainB n (trD t) = false
  | t, 0, _ => rfl
  | .leaf, n + 1, h => by
    have h2 : n + 1 < 1 := h
    omega
  | .motion m, n + 1, h => by
    have h2 : n + 1 < 1 := h
    omega
  | .split m a b, n + 1, h => by
    have h2 : n + 1 < max (hgt a) (hgt b) + 1 := h
    show plainB (n + 1) (.tuple (.str "split" :: [.int (m : Int), trD a, trD b])) = false
    rw [plainB_cons, if_neg nls, if_neg nsm, if_pos rfl]
    show (decide ((0 : Int) ≤ m) && (plainB n (trD a) && plainB n (trD b))) = false
    by_cases ha : n < hgt a
    · rw [plainB_high a n ha]
      simp
    · rw [plainB_high b n (by omega)]
      simp
/-- the tree drawn, and the stream -/
structure Tst (K : PySem.W.Frag) (p : Addr) (F H F' H' : Hp) (v : V) (tr : Tr) : Prop where
  st : Sti p F H
  m : Mv (PP p) F H F' H'
  o : StO F' H' p
  d : Dp K F' v (trD tr)
theorem Tst.s {p : Addr} {F H F' H' : Hp} {v : V} {tr : Tr} (n : Tst K p F H F' H' v tr) : Sti p F' H' := n.st.step n.m n.o
theorem Tst.up {p : Addr} {F H F' H' F2 H2 : Hp} {v : V} {tr : Tr} (n : Tst K p F H F' H' v tr) (m : Mv (PP p) F' H' F2 H2) (o : StO F2 H2 p) : Tst K p F H F2 H2 v tr :=
  ⟨n.st, n.m.trp m n.st.o n.o, o, Dp.mono m.f _ _ n.d⟩
theorem Tst.pure {p : Addr} {F H F' H' F2 H2 : Hp} {v : V} {tr : Tr} (n : Tst K p F H F' H' v tr) (m : Mv P0 F' H' F2 H2) : Tst K p F H F2 H2 v tr := n.up m.up (n.s.stay m).o
theorem Tst.same {p : Addr} {F H F' H' H2 : Hp} {v : V} {tr : Tr} (n : Tst K p F H F' H' v tr) (e : Same H' H2) : Tst K p F H F' H2 v tr := n.pure ((Mv.refl n.s.k).same e)
theorem Tst.dh {p : Addr} {F H F' H' : Hp} {v : V} {tr : Tr} (n : Tst K p F H F' H' v tr) : Dp K H' v (trD tr) := Dp.mono n.m.k _ _ n.d
def sp__law_trees_judged (K : PySem.W.Frag) : Sp := fun vs H Q _ => ∃ (p : Addr) (F : Hp), vs = [.ref p] ∧ Sti p F H ∧ ∀ F' H', Mv (PP p) F H F' H' → StO F' H' p → Q (.bl true) H'
theorem ok__law_trees_judged (T : Txt K mg) : G P w K mg base CX0 25 "_law_trees_judged" ["_law_stream_here"] (sp__law_trees_judged K) := by
  obtain ⟨fd, F⟩ := T.fn__law_trees_judged
  have g__law_alike := ok__law_alike (P := P) (w := w) (base := base) T 20
  have g__law_bad_sign := ok__law_bad_sign (P := P) (w := w) (base := base) T
  have g__law_changed := ok__law_changed (P := P) (w := w) (base := base) T
  have g__law_is_tree := ok__law_is_tree (P := P) (w := w) (base := base) T 12
  have g__law_no_tree := ok__law_no_tree (P := P) (w := w) (base := base) T
  have g__law_spoilt := ok__law_spoilt (P := P) (w := w) (base := base) T 12
  have g__law_take := ok__law_take (P := P) (w := w) (base := base) T
  have g__law_tree_drawn := ok__law_tree_drawn (P := P) (w := w) (base := base) T 12
  have g__law_tree_read := ok__law_tree_read (P := P) (w := w) (base := base) T
  have g__law_tree_word := ok__law_tree_word (P := P) (w := w) (base := base) T 13
  have g_read_tree := ok_read_tree (P := P) (w := w) (base := base) T
  have gk_read_tree := gk_read_tree (P := P) (w := w) (base := base) T
  have g_tree_text := ok_tree_text (P := P) (w := w) (base := base) T
  have gk_tree_text := gk_tree_text (P := P) (w := w) (base := base) T
  refine ⟨_, fd, T.glo__law_trees_judged, F.kp, F.ok sc__law_trees_judged (fun vs H Q E h => by first | (obtain ⟨rfl, _⟩ := h; rfl) | (obtain ⟨_, rfl, _⟩ := h; rfl) | (obtain ⟨_, _, rfl, _⟩ := h; rfl) | (obtain ⟨_, _, _, rfl, _⟩ := h; rfl) | (obtain ⟨_, _, _, _, rfl, _⟩ := h; rfl) | (obtain ⟨_, _, _, _, _, rfl, _⟩ := h; rfl) | (obtain ⟨_, _, _, _, _, _, rfl, _⟩ := h; rfl) | (obtain ⟨_, _, _, _, _, _, _, rfl, _⟩ := h; rfl) | (obtain ⟨_, _, _, _, _, _, _, _, rfl, _⟩ := h; rfl)) (fun cdv A outer s H vs Q E hr h => ?_), F.bindsN fun _ _ _ _ _ _ us hl => match us, hl with | [_], _ => rfl⟩
  obtain ⟨p, F, rfl, st, q⟩ := h
  refine ⟨_, PSs.nox (pss_cons (ps_set (i := 1) sc__law_trees_judged.nd rfl (Or.inl rfl) (pe_op op_add pe_int (pe_g g__law_take hr pass0 (pa_cons (pv 0) (pa_cons pe_int pa_nil)))))
    (pss_cons (ps_set (i := 2) sc__law_trees_judged.nd rfl (Or.inl rfl) (pe_g g__law_tree_drawn hr pass0 (pa_cons (pv 0) (pa_cons (pv 1) (pa_cons (pe_op op_add pe_int (pe_g g__law_take hr pass0 (pa_cons (pv 0) (pa_cons pe_int pa_nil)))) pa_nil)))))
    (pss_cons (ps_set (i := 3) sc__law_trees_judged.nd rfl (Or.inl rfl) (pe_g g__law_tree_word hr pass0 (pa_cons (pv 2) pa_nil)))
    (Evl.pss_cut (ps_if (PW.pt (pw_or (pt_not (pt_val (pe_g g__law_alike hr pass0 (pa_cons (pe_gk gk_tree_text hr passF (pk_cons (pv 2) pk_nil)) (pa_cons (pv 3) pa_nil))))) (pw_or1 (pt_not (pt_val (pe_g g__law_alike hr pass0 (pa_cons (pe_gk gk_read_tree hr passF (pk_cons (pv 3) pk_nil)) (pa_cons (pv 2) pa_nil)))))))) (pss_one (ps_ret pe_bl)) pss_nil)
    (Evl.pss_cut (ps_for PassesOwn.never rfl (pi_tup (pe_tup (pa_cons pe_str (pa_cons pe_str pa_nil)))) (pg_name (i := 4) sc__law_trees_judged.nd rfl (Or.inl rfl)) (pss_cons (ps_set (i := 5) sc__law_trees_judged.nd rfl (Or.inl rfl) (pe_g g__law_changed hr pass0 (pa_cons (pv 0) (pa_cons (pv 3) (pa_cons (pv 4) pa_nil)))))
    (pss_cons (ps_set (i := 6) sc__law_trees_judged.nd rfl (Or.inl rfl) (pe_g g__law_tree_read hr pass0 (pa_cons (pv 5) pa_nil)))
    (pss_cons (ps_set (i := 7) sc__law_trees_judged.nd rfl (Or.inl rfl) (pe_g g__law_bad_sign hr pass0 (pa_cons (pv 5) pa_nil)))
    (Evl.pss_cut (ps_if (PW.pt (pw_and (pt_cmpR op_notN (pv 7) pe_non (nomark _)) (pw_and1 (pt_not (pt_val (pe_g g__law_alike hr pass0 (pa_cons (pv 6) (pa_cons (pe_tup (pa_cons pe_str (pa_cons (pv 7) pa_nil))) pa_nil)))))))) (pss_one (ps_ret pe_bl)) pss_nil)
    (pss_one (ps_if (PW.pt (pw_and (pt_cmpR op_isN (pv 7) pe_non (nomark _)) (pw_and1 (PW.pt (pw_or (pt_cmpR op_ne (pe_ix ix_tup (pv 6) pe_int (fun _ _ => rfl)) pe_str (nomark _)) (pw_or (pt_not (pt_val (pe_g g__law_is_tree hr pass0 (pa_cons (pe_ix ix_tup (pv 6) pe_int (fun _ _ => rfl)) pa_nil)))) (pw_or1 (pt_cmpR op_ne (pe_g g__law_tree_word hr pass0 (pa_cons (pe_ix ix_tup (pv 6) pe_int (fun _ _ => rfl)) pa_nil)) (pv 5) (nomark _))))))))) (pss_one (ps_ret pe_bl)) pss_nil)))))))
    (pss_one (ps_ret (pe_and (pe_g g__law_no_tree hr pass0 (pa_cons (pe_g g__law_spoilt hr pass0 (pa_cons (pv 0) (pa_cons (pv 2) pa_nil))) pa_nil)) (pe_one (pe_g g__law_no_tree hr pass0 (pa_cons (pe_ix ix_list (pe_lst (pa_cons pe_non (pa_cons pe_int (pa_cons pe_str (pa_cons (pe_lst pa_nil) (pa_cons pe_dnewK (pa_cons pe_bl (pa_cons (pe_tup pa_nil) pa_nil)))))))) (pe_op op_mod (pv 1) pe_int) (fun _ _ => rfl)) pa_nil))))))))))), ?_⟩
  refine ⟨_, rfl, p, 12, F, rfl, st, by decide, by decide +kernel, fun d H1 d0 d1 m1 o1 => ⟨_, _, rfl, rfl, ?_⟩⟩
  have st1 := st.step m1 o1
  refine ⟨_, rfl, _, rfl, _, rfl, p, 14, F, rfl, st1, by decide, by decide +kernel, fun e H2 e0 e1 m2 o2 => ⟨_, _, rfl, rfl, ?_⟩⟩
  have st2 := st1.step m2 o2
  have m02 := m1.trp m2 st.o st1.o
  refine ⟨p, _, _, F, rfl, st2, ?_, ?_, fun tr v F3 H3 ht hs m3 o3 hv => ?_⟩
  · show 1 ≤ 1 + d
    omega
  · show 1 + d ≤ ((12 : Nat) : Int)
    omega
  have h12 : hgt tr ≤ 12 := by
    have h2 : (hgt tr : Int) ≤ 1 + d := ht
    omega
  have n3 : Tst K p F H F3 H3 v tr := ⟨st, m02.trp m3 st.o st2.o, o3, hv⟩
  have hl := trW_12 hs h12
  have hwid := wid_tr tr
  have hdep := dep_tr tr
  refine ⟨_, rfl, v, tr, rfl, by omega, hs, by omega, n3.dh, fun text ht => ?_⟩
  have hlt := TL.len_tl text
  rw [ht] at hlt
  refine ⟨fun σ' H' => ∃ (F' : Hp), σ' = [some (.ref p), some (.int (1 + d)), some v, some (.str text), none, none, none, none] ∧ Tst K p F H F' H' v tr, ?_, ?_⟩
  · refine ⟨_, rfl, v, trD tr, rfl, dx n3.dh, fun _ => ⟨tr, rfl, n3.dh, h12, hs, by omega, fun s hs2 H4 e4 => ?_⟩, fun z => ?_⟩
    · have es : s = text := TL.ext_tl (by rw [hs2, ht])
      subst es
      refine ⟨_, rfl, _, _, .str s, rfl, .str _, .str _, by rw [wid] <;> first | decide | (intro _ h; cases h), by rw [dep] <;> first | decide | (intro _ h; cases h), fun H5 e5 => ⟨_, rfl, iteF ?_⟩⟩
      have n5 := n3.same (e4.trans e5)
      refine ⟨_, rfl, _, .str s, F3, rfl, n5.s.k, .str _, (fun z => nomatch z), fun t et => ?_⟩
      cases et
      refine ⟨by omega, fun e ee => ?_, fun tr2 ee => fun v2 F6 H6 m6 hv2 => ?_⟩
      · rw [ht, readT_ok h12 hs] at ee
        cases ee
      · rw [ht, readT_ok h12 hs] at ee
        cases ee
        have n6 := n5.pure m6
        refine ⟨_, rfl, _, _, trD tr, rfl, Dp.mono m6.k _ _ hv2, n6.dh, by omega, by omega, fun H7 e7 => ⟨_, rfl, iteF ?_⟩⟩
        exact ⟨F6, rfl, n6.same e7⟩
    · rw [plainB_tr tr 12 h12] at z
      cases z
  clear n3
  rintro σ' H4 ⟨F4, rfl, n4⟩
  refine ⟨fun σ' H' => ∃ (F' : Hp) (x4 x5 x6 x7 : Option V), σ' = [some (.ref p), some (.int (1 + d)), some v, some (.str text), x4, x5, x6, x7] ∧ Tst K p F H F' H' v tr, ?_, ?_⟩
  · refine ⟨by show 2 ≤ sizeLine; decide, fun U hU => ⟨U, rfl, ⟨_, SqT.of upd_same⟩, ?_⟩⟩
    have mU := (Mv.refl n4.s.k).nw (o := .tup [.str "0123456789().", .str "( 0)1.-a+/~\n"]) hU
    have n5 := n4.pure mU
    have hUF : upd F4 U (.tup [V.str "0123456789().", .str "( 0)1.-a+/~\n"]) U = some (.tup [.str "0123456789().", .str "( 0)1.-a+/~\n"]) := upd_same
    generalize upd F4 U (.tup [V.str "0123456789().", .str "( 0)1.-a+/~\n"]) = F5 at hUF n5
    generalize upd H4 U (.tup [V.str "0123456789().", .str "( 0)1.-a+/~\n"]) = H5 at n5 ⊢
    refine for_it (n := 2) (walk_tup (xs := [.str "0123456789().", .str "( 0)1.-a+/~\n"])) (fun i σ H' => ∃ (F' : Hp) (x4 x5 x6 x7 : Option V), σ = [some (.ref p), some (.int (1 + d)), some v, some (.str text), x4, x5, x6, x7] ∧ Tst K p F H F' H' v tr ∧ F' U = some (.tup [.str "0123456789().", .str "( 0)1.-a+/~\n"]))
      ⟨F5, none, none, none, none, rfl, n5, hUF⟩ (fun i σ H' _ ⟨F', _, _, _, _, _, n, hu⟩ => SqT.of (n.m.k _ _ hu)) ?_ ?_
    · rintro i x σ H6 H7 hi ⟨F6, x4, x5, x6, x7, rfl, n6, hu⟩ ⟨rfl, hx⟩
      obtain ⟨most, rfl, hm0, hm1⟩ : ∃ most : Str, x = .str most ∧ 0 < most.length ∧ most.length < 1000 := by
        rcases i with _ | _ | i
        · exact ⟨_, (Option.some.inj hx).symm, by decide +kernel, by decide +kernel⟩
        · exact ⟨_, (Option.some.inj hx).symm, by decide +kernel, by decide +kernel⟩
        · omega
      refine ⟨_, rfl, _, rfl, _, rfl, p, text, most, F6, rfl, n6.s, by omega, hm0, hm1, fun t' H8 hl8 m8 o8 => ?_⟩
      have n8 := n6.up m8 o8
      have hu8 := m8.f _ _ hu
      have hlt' := TL.len_tl t'
      refine ⟨_, rfl, _, .str t', F6, rfl, n8.s.k, .str _, (fun z => nomatch z), fun t et => ?_⟩
      cases et
      refine ⟨by omega, fun v9 F9 H9 m9 hv9 => ?_⟩
      have n9 := n8.pure m9
      have hu9 := m9.f _ _ hu8
      have hmach := mach_read (tl t')
      cases er : readT (tl t') with
      | inl e =>
        rw [er] at hmach
        rw [show dueT (tl t') = badD (((tl t').length - e.length + 1 : Nat) : Int) by unfold dueT; rw [er]] at hv9
        refine ⟨_, rfl, t', rfl, by omega, (fun z => by rw [hmach] at z; cases z), fun e2 z Ha ea => ?_⟩
        rw [hmach] at z
        cases z
        have na := n9.same ea
        refine ⟨fun σ' H' => ∃ (F' : Hp), σ' = [some (.ref p), some (.int (1 + d)), some v, some (.str text), some (.str most), some (.str t'), some v9, some (.int (((tl t').length - e.length + 1 : Nat) : Int))] ∧ Tst K p F H F' H' v tr ∧ F' U = some (.tup [.str "0123456789().", .str "( 0)1.-a+/~\n"]), ?_, ?_⟩
        · refine ⟨_, rfl, rfl, _, rfl, ?_⟩
          rw [decide_eq_false (show ¬ V.int (((tl t').length - e.length + 1 : Nat) : Int) = V.non from fun z => nomatch z)]
          refine iteT ⟨_, rfl, _, rfl, by show 2 ≤ sizeLine; decide, fun p2 hp2 => ?_⟩
          obtain ⟨mb, hb⟩ := two_new (K := K) (v := .str "BadText") (u := .int (((tl t').length - e.length + 1 : Nat) : Int)) (Mv.refl na.s.k) hp2 (.str _) (.int _)
          refine ⟨_, _, _, rfl, Dp.mono (mb.f.trans mb.k) _ _ hv9, Dp.mono mb.k _ _ hb, Nat.lt_of_le_of_lt (wid_bad _) (by decide), Nat.lt_of_le_of_lt (dep_bad _) (by decide), fun Hb eb => ⟨_, rfl, iteF ?_⟩⟩
          exact ⟨_, rfl, (na.pure mb).same eb, mb.f _ _ hu9⟩
        · rintro σ' Hc ⟨Fc, rfl, nc, huc⟩
          refine ⟨_, rfl, rfl, _, rfl, ?_⟩
          rw [decide_eq_false (show ¬ V.int (((tl t').length - e.length + 1 : Nat) : Int) = V.non from fun z => nomatch z)]
          exact iteF ⟨Fc, _, _, _, _, rfl, nc, huc⟩
      | inr tr2 =>
        rw [er] at hmach
        rw [show dueT (tl t') = toldD (trD tr2) by unfold dueT; rw [er]] at hv9
        obtain ⟨hw2, hh2, hs2⟩ := readT_is er
        refine ⟨_, rfl, t', rfl, by omega, (fun _ Ha ea => ?_), fun e2 z => by rw [hmach] at z; cases z⟩
        have na := n9.same ea
        refine ⟨fun σ' H' => σ' = [some (.ref p), some (.int (1 + d)), some v, some (.str text), some (.str most), some (.str t'), some v9, some .non] ∧ Ha = H', ?_, ?_⟩
        · refine ⟨_, rfl, rfl, _, rfl, ?_⟩
          rw [decide_eq_true rfl]
          exact iteF ⟨rfl, rfl⟩
        · rintro σ' H' ⟨rfl, rfl⟩
          refine ⟨_, rfl, rfl, _, rfl, ?_⟩
          rw [decide_eq_true rfl]
          obtain ⟨pt, xst, rfl, hst, hxt⟩ := tup_of hv9
          obtain ⟨u0, u1, rfl, hu0, hu1⟩ := all2 hxt
          obtain rfl := str_of hu0
          refine iteT ⟨_, rfl, _, _, _, _, rfl, rfl, Same.sqT na.m.k hst, rfl, rfl, _, rfl, ?_⟩
          rw [decide_eq_true rfl]
          refine iteF ⟨_, rfl, _, _, _, _, rfl, rfl, Same.sqT na.m.k hst, rfl, u1, tr2, rfl, hh2, by omega, Dp.mono na.m.k _ _ hu1, fun Hb eb => ⟨_, rfl, iteF ?_⟩⟩
          have nb := na.same eb
          refine ⟨_, rfl, _, _, _, _, rfl, rfl, Same.sqT nb.m.k hst, rfl, u1, tr2, rfl, by omega, hs2, by rw [← hw2]; omega, Dp.mono nb.m.k _ _ hu1, fun s hss => ⟨_, rfl, rfl, _, rfl, ?_⟩⟩
          rw [dstr, hss, hw2, decide_eq_true rfl]
          exact iteF ⟨F9, _, _, _, _, rfl, nb, hu9⟩
    · rintro σ H6 ⟨F6, x4, x5, x6, x7, rfl, n6, _⟩
      exact ⟨F6, x4, x5, x6, x7, rfl, n6⟩
  clear n4
  rintro σ' H4 ⟨F4, x4, x5, x6, x7, rfl, n4⟩
  refine ⟨_, rfl, _, rfl, p, v, tr, F4, rfl, n4.s, h12, n4.d, fun bd u F5 H5 hbad m5 o5 hu => ?_⟩
  have n5 := n4.up m5 o5
  refine ⟨u, bd, rfl, Dx.mono n5.m.k _ _ hu, hbad 12, fun H6 e6 => ⟨_, rfl, iteT ?_⟩⟩
  have n6 := n5.same e6
  refine ⟨by show 0 ≤ sizeLine; exact Nat.zero_le _, fun b1 h1 => ?_⟩
  obtain ⟨m1', w1, f1⟩ := lay_lst (K := K) (vs := []) (ds := []) (Mv.refl n6.m.k) h1 .nil
  generalize upd F5 b1 (.lst []) = G1 at m1' w1 f1
  generalize upd H6 b1 (.lst []) = I1 at m1' ⊢
  intro b2 h2
  have m2' := m1'.nw (o := .dK []) h2
  have f2 := (Mv.nw (o := .dK []) (Mv.refl m1'.k) h2).f
  have w2 : Dx K (upd G1 b2 (.dK [])) (.ref b2) (.dict []) := .dK upd_same
  generalize upd G1 b2 (.dK []) = G2 at m2' w2 f2
  generalize upd I1 b2 (.dK []) = I2 at m2' ⊢
  refine ⟨by show 0 ≤ sizeLine; exact Nat.zero_le _, fun b3 h3 => ?_⟩
  obtain ⟨m3', w3, f3⟩ := lay_tup (K := K) (vs := []) (ds := []) m2' h3 .nil
  generalize upd G2 b3 (.tup []) = G3 at m3' w3 f3
  generalize upd I2 b3 (.tup []) = I3 at m3' ⊢
  refine ⟨by show 7 ≤ sizeLine; decide, fun b4 h4 => ?_⟩
  have g0 : 0 ≤ (1 + d) % 7 := Int.emod_nonneg _ (by decide)
  have g1 : (1 + d) % 7 < 7 := Int.emod_lt_of_pos _ (by decide)
  obtain ⟨u2, hu2, hat⟩ := atI_mem (xs := [V.non, .int 5, .str ".", .ref b1, .ref b2, .bl true, .ref b3]) g0 g1
  have m4' := m3'.own (o := .lst [V.non, .int 5, .str ".", .ref b1, .ref b2, .bl true, .ref b3]) h4
  have hall : ∃ e, Dx K G3 u2 e ∧ Bad e := by
    simp only [List.mem_cons, List.not_mem_nil, or_false] at hu2
    rcases hu2 with rfl | rfl | rfl | rfl | rfl | rfl | rfl
    · exact ⟨_, .non, bad_of rfl⟩
    · exact ⟨_, .int _, bad_of rfl⟩
    · exact ⟨_, .str _, bad_of rfl⟩
    · exact ⟨_, Dx.mono (f2.trans f3) _ _ w1, bad_of rfl⟩
    · exact ⟨_, Dx.mono f3 _ _ w2, bad_of rfl⟩
    · exact ⟨_, .bl _, bad_of rfl⟩
    · exact ⟨_, w3, plainB_nil⟩
  obtain ⟨ee, dee, hbe⟩ := hall
  refine ⟨_, rfl, _, _, rfl, rfl, (show (0 : Int) < 7 by decide), b4, _, _, u2, rfl, rfl, SqL.of upd_same, hat, u2, ee, rfl, Dx.mono m4'.k _ _ dee, hbe 12, fun H7 e7 => ?_⟩
  have nn := (n6.pure m4').same e7
  exact q _ _ nn.m nn.o
end
end Q
/-! Law94: the deepest tree; the law -/
namespace Q
open PySem PySem.Spec PyProof.Rows L2
open TL (tl)
section
variable {P : Program} {w : World} {K : PySem.W.Frag} {mg : Str → Option Value} {base : Heap}
def sp__law_deepest (K : PySem.W.Frag) : Sp := fun vs H Q _ => ∃ (p : Addr) (F : Hp), vs = [.ref p] ∧ Sti p F H ∧ ∀ F' H', Mv (PP p) F H F' H' → StO F' H' p → Q (.bl true) H'
theorem ok__law_deepest (T : Txt K mg) : G P w K mg base CX0 25 "_law_deepest" ["_law_stream_here"] (sp__law_deepest K) := by
  obtain ⟨fd, F⟩ := T.fn__law_deepest
  have g__law_alike := ok__law_alike (P := P) (w := w) (base := base) T 20
  have g__law_bad_sign := ok__law_bad_sign (P := P) (w := w) (base := base) T
  have g__law_no_tree := ok__law_no_tree (P := P) (w := w) (base := base) T
  have g__law_size_drawn := ok__law_size_drawn (P := P) (w := w) (base := base) T
  have g__law_take := ok__law_take (P := P) (w := w) (base := base) T
  have g__law_tree_read := ok__law_tree_read (P := P) (w := w) (base := base) T
  have g__law_tree_word := ok__law_tree_word (P := P) (w := w) (base := base) T 13
  have g_tree_text := ok_tree_text (P := P) (w := w) (base := base) T
  have gk_tree_text := gk_tree_text (P := P) (w := w) (base := base) T
  refine ⟨_, fd, T.glo__law_deepest, F.kp, F.ok sc__law_deepest (fun vs H Q E h => by first | (obtain ⟨rfl, _⟩ := h; rfl) | (obtain ⟨_, rfl, _⟩ := h; rfl) | (obtain ⟨_, _, rfl, _⟩ := h; rfl) | (obtain ⟨_, _, _, rfl, _⟩ := h; rfl) | (obtain ⟨_, _, _, _, rfl, _⟩ := h; rfl) | (obtain ⟨_, _, _, _, _, rfl, _⟩ := h; rfl) | (obtain ⟨_, _, _, _, _, _, rfl, _⟩ := h; rfl) | (obtain ⟨_, _, _, _, _, _, _, rfl, _⟩ := h; rfl) | (obtain ⟨_, _, _, _, _, _, _, _, rfl, _⟩ := h; rfl)) (fun cdv A outer s H vs Q E hr h => ?_), F.bindsN fun _ _ _ _ _ _ us hl => match us, hl with | [_], _ => rfl⟩
  obtain ⟨p, F, rfl, st, q⟩ := h
  refine ⟨_, PSs.nox (pss_cons (ps_set (i := 1) sc__law_deepest.nd rfl (Or.inl rfl) (pe_g g__law_size_drawn hr pass0 (pa_cons (pv 0) pa_nil)))
    (pss_cons (ps_set (i := 2) sc__law_deepest.nd rfl (Or.inl rfl) (pe_tup (pa_cons pe_str (pa_cons (pv 1) pa_nil))))
    (Evl.pss_cut (ps_for PassesOwn.never rfl (pi_range1 (by rfl) T.free_range (pa_cons pe_int pa_nil)) (pg_name (i := 3) sc__law_deepest.nd rfl (Or.inl rfl)) (pss_one (ps_if (pt_cmpR op_eq (pe_g g__law_take hr pass0 (pa_cons (pv 0) (pa_cons pe_int pa_nil))) pe_int (nomark _)) (pss_one (ps_set (i := 2) sc__law_deepest.nd rfl (Or.inl rfl) (pe_tup (pa_cons pe_str (pa_cons (pv 3) (pa_cons (pv 2) (pa_cons (pe_tup (pa_cons pe_str pa_nil)) pa_nil))))))) (pss_one (ps_set (i := 2) sc__law_deepest.nd rfl (Or.inl rfl) (pe_tup (pa_cons pe_str (pa_cons (pv 3) (pa_cons (pe_tup (pa_cons pe_str (pa_cons (pv 3) pa_nil))) (pa_cons (pv 2) pa_nil))))))))))
    (pss_cons (ps_set (i := 4) sc__law_deepest.nd rfl (Or.inl rfl) (pe_g g__law_tree_word hr pass0 (pa_cons (pv 2) pa_nil)))
    (Evl.pss_cut (ps_if (PW.pt (pw_or (pt_not (pt_val (pe_g g__law_alike hr pass0 (pa_cons (pe_g g_tree_text hr passF (pa_cons (pv 2) pa_nil)) (pa_cons (pv 4) pa_nil))))) (pw_or1 (pt_not (pt_val (pe_g g__law_alike hr pass0 (pa_cons (pe_g g__law_tree_read hr pass0 (pa_cons (pv 4) pa_nil)) (pa_cons (pe_tup (pa_cons pe_str (pa_cons (pv 2) pa_nil))) pa_nil)))))))) (pss_one (ps_ret pe_bl)) pss_nil)
    (pss_cons (ps_set (i := 5) sc__law_deepest.nd rfl (Or.inl rfl) (pe_g g__law_tree_word hr pass0 (pa_cons (pe_tup (pa_cons pe_str (pa_cons (pv 1) (pa_cons (pe_tup (pa_cons pe_str pa_nil)) (pa_cons (pv 2) pa_nil))))) pa_nil)))
    (Evl.pss_cut (ps_if (pt_not (pt_val (pe_g g__law_alike hr pass0 (pa_cons (pe_g g__law_tree_read hr pass0 (pa_cons (pv 5) pa_nil)) (pa_cons (pe_tup (pa_cons pe_str (pa_cons (pe_g g__law_bad_sign hr pass0 (pa_cons (pv 5) pa_nil)) pa_nil))) pa_nil))))) (pss_one (ps_ret pe_bl)) pss_nil)
    (pss_one (ps_ret (pe_g g__law_no_tree hr pass0 (pa_cons (pe_tup (pa_cons pe_str (pa_cons (pv 1) (pa_cons (pe_tup (pa_cons pe_str pa_nil)) (pa_cons (pv 2) pa_nil))))) pa_nil))))))))))), ?_⟩
  refine ⟨_, rfl, p, F, rfl, st, fun d H1 d0 d1 m1 o1 => ?_⟩
  have st1 := st.step m1 o1
  obtain ⟨nn, rfl⟩ := Int.eq_ofNat_of_zero_le d0
  have hnn : nn < 10 ^ 38 := by
    have e38 : (10 : Int) ^ 38 = ((10 ^ 38 : Nat) : Int) := by rw [Int.natCast_pow] <;> rfl
    rw [e38] at d1
    exact Int.ofNat_lt.mp d1
  have hn40 : nn < 10 ^ 40 := Nat.lt_trans hnn (by decide)
  refine ⟨_, rfl, by show 2 ≤ sizeLine; decide, fun b0 h0 => ?_⟩
  obtain ⟨n1, w1, f1⟩ := lay_tupP (K := K) (Mv.refl st1.k) h0 (.cons (.str "motion") (.cons (.int (nn : Int)) .nil))
  have t1 : Tst K p F H (upd F b0 (.tup [V.str "motion", .int (nn : Int)])) (upd H1 b0 (.tup [V.str "motion", .int (nn : Int)])) (.ref b0) (.motion nn) := ⟨st, m1.trp n1.up st.o st1.o, (st1.stay n1).o, w1⟩
  generalize upd F b0 (.tup [V.str "motion", .int (nn : Int)]) = F1 at t1
  generalize upd H1 b0 (.tup [V.str "motion", .int (nn : Int)]) = H2 at t1 ⊢
  refine ⟨fun σ' H' => ∃ (F' : Hp) (v : V) (tr : Tr) (x3 : Option V), σ' = [some (.ref p), some (.int (nn : Int)), some v, x3, none, none] ∧ Tst K p F H F' H' v tr ∧ hgt tr = 12 ∧ sml tr, ?_, ?_⟩
  · refine ⟨_, rfl, by decide, by decide, ?_⟩
    refine for_it walk_range (fun i σ' H' => ∃ (F' : Hp) (v : V) (tr : Tr) (x3 : Option V), σ' = [some (.ref p), some (.int (nn : Int)), some v, x3, none, none] ∧ Tst K p F H F' H' v tr ∧ hgt tr = i + 1 ∧ sml tr)
      ⟨F1, _, _, none, rfl, t1, rfl, hn40⟩ (fun _ _ _ _ _ => True.intro) ?_ ?_
    · rintro i x σ H3 H4 hi ⟨F', v, tr, x3, rfl, t, ht, hs⟩ ⟨rfl, rfl⟩
      have hi11 : i < 11 := hi
      have hi40 : i < 10 ^ 40 := Nat.lt_trans hi11 (by decide)
      have ei : (0 : Int) + (i : Int) = (i : Int) := by omega
      refine ⟨_, rfl, p, 2, F', rfl, t.s, by decide, by decide +kernel, fun k H5 k0 k1 m5 o5 => ⟨rfl, _, rfl, ?_⟩⟩
      have t5 := t.up m5 o5
      refine ite2 (fun _ => ?_) fun _ => ?_
      · refine ⟨_, rfl, _, rfl, by show 1 ≤ sizeLine; decide, fun b1 h1 => ?_⟩
        obtain ⟨n6, w6, f6⟩ := lay_tupP (K := K) (vs := [.str "leaf"]) (ds := [.str "leaf"]) (Mv.refl t5.s.k) h1 (.cons (.str _) .nil)
        refine ⟨by show 4 ≤ sizeLine; decide, fun b2 h2 => ?_⟩
        obtain ⟨n7, w7, f7⟩ := lay_tupP (K := K) (vs := [.str "split", .int (0 + (i : Int)), v, .ref b1]) (ds := [.str "split", .int (i : Int), trD tr, .tuple [.str "leaf"]]) n6 h2 (.cons (.str _) (.cons (by rw [ei]; exact .int _) (.cons (Dp.mono f6 _ _ t5.d) (.cons w6 .nil))))
        have t7 := t5.pure n7
        refine ⟨_, _, .split i tr .leaf, _, rfl, ⟨t7.st, t7.m, t7.o, w7⟩, ?_, hi40, hs, True.intro⟩
        show max (hgt tr) 1 + 1 = i + 1 + 1
        omega
      · refine ⟨_, rfl, _, rfl, by show 2 ≤ sizeLine; decide, fun b1 h1 => ?_⟩
        obtain ⟨n6, w6, f6⟩ := lay_tupP (K := K) (vs := [.str "motion", .int (0 + (i : Int))]) (ds := [.str "motion", .int (i : Int)]) (Mv.refl t5.s.k) h1 (.cons (.str _) (.cons (by rw [ei]; exact .int _) .nil))
        refine ⟨_, rfl, by show 4 ≤ sizeLine; decide, fun b2 h2 => ?_⟩
        obtain ⟨n7, w7, f7⟩ := lay_tupP (K := K) (vs := [.str "split", .int (0 + (i : Int)), .ref b1, v]) (ds := [.str "split", .int (i : Int), .tuple [.str "motion", .int (i : Int)], trD tr]) n6 h2 (.cons (.str _) (.cons (by rw [ei]; exact .int _) (.cons w6 (.cons (Dp.mono f6 _ _ t5.d) .nil))))
        have t7 := t5.pure n7
        refine ⟨_, _, .split i (.motion i) tr, _, rfl, ⟨t7.st, t7.m, t7.o, w7⟩, ?_, hi40, hi40, hs⟩
        show max 1 (hgt tr) + 1 = i + 1 + 1
        omega
    · rintro σ H3 ⟨F', v, tr, x3, rfl, t, ht, hs⟩
      exact ⟨F', v, tr, x3, rfl, t, ht, hs⟩
  clear t1
  rintro σ' H3 ⟨F3, v, tr, x3, rfl, t3, ht, hs⟩
  have h12 : hgt tr ≤ 12 := by omega
  have hl := trW_12 hs h12
  have hwid := wid_tr tr
  have hdep := dep_tr tr
  refine ⟨_, rfl, v, tr, rfl, by omega, hs, by omega, t3.dh, fun text hx => ?_⟩
  have hlt := TL.len_tl text
  rw [hx] at hlt
  refine ⟨fun σ' H' => ∃ (F' : Hp), σ' = [some (.ref p), some (.int (nn : Int)), some v, x3, some (.str text), none] ∧ Tst K p F H F' H' v tr, ?_, ?_⟩
  · refine ⟨_, rfl, v, trD tr, rfl, dx t3.dh, fun _ => ⟨tr, rfl, t3.dh, h12, hs, by omega, fun s hs2 H4 e4 => ?_⟩, fun z => ?_⟩
    · have es : s = text := TL.ext_tl (by rw [hs2, hx])
      subst es
      refine ⟨_, rfl, _, _, .str s, rfl, .str _, .str _, by rw [wid] <;> first | decide | (intro _ h; cases h), by rw [dep] <;> first | decide | (intro _ h; cases h), fun H5 e5 => ⟨_, rfl, iteF ?_⟩⟩
      have t5 := t3.same (e4.trans e5)
      refine ⟨_, rfl, _, .str s, F3, rfl, t5.s.k, .str _, (fun z => nomatch z), fun t et => ?_⟩
      cases et
      refine ⟨by omega, fun v2 F6 H6 m6 hv2 => ?_⟩
      rw [show dueT (tl s) = toldD (trD tr) by unfold dueT; rw [hx, readT_ok h12 hs]] at hv2
      have t6 := t5.pure m6
      refine ⟨_, rfl, by show 2 ≤ sizeLine; decide, fun p2 hp2 => ?_⟩
      obtain ⟨mb, hb⟩ := two_new (K := K) (v := .str "told") (u := v) (Mv.refl t6.s.k) hp2 (.str _) t6.d
      have h1 := wid_toldD (trD tr) hwid
      have h2 := dep_toldD (trD tr)
      refine ⟨_, _, toldD (trD tr), rfl, Dp.mono (mb.f.trans mb.k) _ _ hv2, Dp.mono mb.k _ _ hb, by omega, by omega, fun H7 e7 => ⟨_, rfl, iteF ?_⟩⟩
      exact ⟨_, rfl, (t6.pure mb).same e7⟩
    · rw [plainB_tr tr 12 h12] at z
      cases z
  clear t3
  rintro σ' H4 ⟨F4, rfl, t4⟩
  -- the longer one
  have mk : ∀ {F5 H5 : Hp} {b1 b2 : Addr}, Tst K p F H F5 H5 v tr → H5 b1 = none → upd H5 b1 (.tup [V.str "leaf"]) b2 = none → ∃ F6, Tst K p F H F6 (upd (upd H5 b1 (.tup [V.str "leaf"])) b2 (.tup [.str "split", .int (nn : Int), .ref b1, v])) v tr ∧ Dp K F6 (.ref b2) (trD (.split nn .leaf tr)) := by
    intro F5 H5 b1 b2 t h1 h2
    obtain ⟨n6, w6, f6⟩ := lay_tupP (K := K) (vs := [.str "leaf"]) (ds := [.str "leaf"]) (Mv.refl t.s.k) h1 (.cons (.str _) .nil)
    obtain ⟨n7, w7, f7⟩ := lay_tupP (K := K) (vs := [.str "split", .int (nn : Int), .ref b1, v]) (ds := [.str "split", .int (nn : Int), .tuple [.str "leaf"], trD tr]) n6 h2 (.cons (.str _) (.cons (.int _) (.cons w6 (.cons (Dp.mono f6 _ _ t.d) .nil))))
    exact ⟨_, t.pure n7, w7⟩
  have hh13 : hgt (.split nn .leaf tr) = 13 := by
    show max 1 (hgt tr) + 1 = 13
    omega
  have hs13 : sml (.split nn .leaf tr) := ⟨hn40, True.intro, hs⟩
  have hl13 := trW_13 hs13 (by omega)
  refine ⟨_, rfl, by show 1 ≤ sizeLine; decide, fun b1 h1 => ⟨_, rfl, by show 4 ≤ sizeLine; decide, fun b2 h2 => ?_⟩⟩
  obtain ⟨F5, t5, w5⟩ := mk t4 h1 h2
  refine ⟨_, .split nn .leaf tr, rfl, by omega, hs13, by omega, Dp.mono t5.m.k _ _ w5, fun lg hlg => ?_⟩
  have hll := TL.len_tl lg
  rw [hlg] at hll
  obtain ⟨er, her⟩ := readT_high (t := .split nn .leaf tr) (by omega) hs13
  generalize upd (upd H4 b1 (.tup [V.str "leaf"])) b2 (.tup [.str "split", .int (nn : Int), .ref b1, v]) = H5 at t5 ⊢
  refine ⟨fun σ' H' => ∃ (F' : Hp), σ' = [some (.ref p), some (.int (nn : Int)), some v, x3, some (.str text), some (.str lg)] ∧ Tst K p F H F' H' v tr, ?_, ?_⟩
  · refine ⟨_, rfl, _, .str lg, F5, rfl, t5.s.k, .str _, (fun z => nomatch z), fun t et => ?_⟩
    cases et
    refine ⟨by omega, fun v2 F6 H6 m6 hv2 => ?_⟩
    rw [show dueT (tl lg) = badD (((tl lg).length - er.length + 1 : Nat) : Int) by unfold dueT; rw [hlg, her]] at hv2
    have t6 := t5.pure m6
    have hmach := mach_read (tl lg)
    rw [hlg, her] at hmach
    refine ⟨_, rfl, lg, rfl, by omega, (fun z => by rw [hlg, hmach] at z; cases z), fun e2 z Ha ea => ?_⟩
    rw [hlg, hmach] at z
    cases z
    have ta := t6.same ea
    refine ⟨by show 2 ≤ sizeLine; decide, fun p2 hp2 => ?_⟩
    obtain ⟨mb, hb⟩ := two_new (K := K) (v := .str "BadText") (u := .int (((tl lg).length - er.length + 1 : Nat) : Int)) (Mv.refl ta.s.k) hp2 (.str _) (.int _)
    refine ⟨_, _, _, rfl, Dp.mono (mb.f.trans mb.k) _ _ hv2, Dp.mono mb.k _ _ hb, Nat.lt_of_le_of_lt (wid_bad _) (by decide), Nat.lt_of_le_of_lt (dep_bad _) (by decide), fun Hb eb => ⟨_, rfl, iteF ?_⟩⟩
    exact ⟨_, rfl, (ta.pure mb).same eb⟩
  · rintro σ' H6 ⟨F6, rfl, t6⟩
    refine ⟨_, rfl, by show 1 ≤ sizeLine; decide, fun b3 h3 => ⟨_, rfl, by show 4 ≤ sizeLine; decide, fun b4 h4 => ?_⟩⟩
    obtain ⟨F7, t7, w7⟩ := mk t6 h3 h4
    refine ⟨_, trD (.split nn .leaf tr), rfl, dx (Dp.mono t7.m.k _ _ w7), plainB_high _ _ (by omega), fun H8 e8 => ?_⟩
    have t8 := t7.same e8
    exact q _ _ t8.m t8.o
theorem shaped_bad (k : Int) : SeqAt.shaped (badD k) = true := by
  unfold SeqAt.shaped
  show (PyData.strOk "BadText" && (true && true)) && decide (max 0 (max 0 0) + 1 ≤ 64) = true
  decide +kernel
theorem numGo_full : ∀ (k ds r : List Nat), ds.head? ≠ some 48 → ds ≠ [] → k.all isDig = true → ds.length + k.length = 40 → numGo ds (k ++ r) = (ds ++ k, r)
  | [], ds, r, _, _, _, hl => by
    rw [List.nil_append, List.append_nil]
    cases r with
    | nil => rfl
    | cons c z =>
      rw [numGo_cons, show goOn ds c = false by
        unfold goOn
        rw [decide_eq_false (show ¬ ds.length < 40 by rw [List.length_nil] at hl; omega)]
        simp]
      rfl
  | c :: k, ds, r, h0, hne, hk, hl => by
    rw [List.all_cons, Bool.and_eq_true] at hk
    rw [List.length_cons] at hl
    rw [List.cons_append, numGo_cons, show goOn ds c = true by unfold goOn; rw [hk.1, decide_eq_true h0, decide_eq_true (show ds.length < 40 by omega)]; rfl, if_pos rfl]
    obtain ⟨d, z, e⟩ := List.exists_cons_of_ne_nil hne
    rw [numGo_full k (ds ++ [c]) r (by rw [e] at h0 ⊢; exact h0) (by simp) hk.2 (by rw [List.length_append]; simp only [List.length_cons, List.length_nil]; omega), List.append_assoc]
    rfl
theorem num_40 {n : Nat} (h1 : 10 ^ 39 ≤ n) (h2 : n < 10 ^ 40) : (TL.numL n).length = 40 := by
  have a := TL.numL_len (k := 40) (by decide) h2
  have b := valN_lt (all_dig_num n)
  rw [val_num] at b
  have c : 10 ^ 39 < 10 ^ (TL.numL n).length := Nat.lt_of_le_of_lt h1 b
  have d := (Nat.pow_lt_pow_iff_right (a := 10) (by decide)).mp c
  omega
/-- one digit too many -/
theorem readT_41 {n : Nat} (h1 : 10 ^ 39 ≤ n) (h2 : n < 10 ^ 40) : readT (TL.numL n ++ [55]) = .inl [55] := by
  have hl := num_40 h1 h2
  have hd := all_dig_num n
  have h48 := head_num n (by have : 0 < 10 ^ 39 := by decide
                             omega)
  have h45 : ∃ c k, TL.numL n = c :: k := List.exists_cons_of_ne_nil (TL.numL_ne n)
  obtain ⟨c, k, e⟩ := h45
  rw [e] at hl hd h48
  rw [List.all_cons, Bool.and_eq_true] at hd
  rw [List.length_cons] at hl
  have hp : numP (c :: (k ++ [55])) = some (c :: k, [55]) := by
    rw [numP_cons, if_pos hd.1]
    congr 1
    exact numGo_full k [c] [55] h48 (by simp) hd.2 (by rw [List.length_singleton]; omega)
  have c46 : c ≠ 46 := fun z => by rw [z] at hd; exact absurd hd.1 (by decide)
  have c40 : c ≠ 40 := fun z => by rw [z] at hd; exact absurd hd.1 (by decide)
  have ht := treeP_some (n := 11) c46 c40 hp
  unfold readT
  rw [e, List.cons_append, ht]
def sp_law (K : PySem.W.Frag) : Sp := fun vs H Q _ => ∃ (a : Addr) (ns : List Int), vs = [.ref a] ∧ SqL K H a (ns.map V.int) ∧ ∀ H', Q (.bl true) H'
theorem sp_law_in {H : Hp} {a : Addr} {ns : List Int} {E : XK} (hs : SqL K H a (ns.map V.int)) : sp_law K [.ref a] H (fun v _ => v = .bl true) E := ⟨a, ns, rfl, hs, fun _ => rfl⟩
theorem okf_law (T : Txt K mg) {fd : FuncData} (F : FnP K "law" "law" s_law (He.ga K "law") fd) : FnOk P w K mg base CX0 26 (He.ga K "law") fd ["_law_script"] (sp_law K) := by
  have g__law_alike := ok__law_alike (P := P) (w := w) (base := base) T 20
  have g__law_deepest := ok__law_deepest (P := P) (w := w) (base := base) T
  have g__law_numbers_judged := ok__law_numbers_judged (P := P) (w := w) (base := base) T
  have g__law_numbers_read := ok__law_numbers_read (P := P) (w := w) (base := base) T
  have g__law_stream := ok__law_stream (P := P) (w := w) (base := base) T
  have g__law_take := ok__law_take (P := P) (w := w) (base := base) T
  have g__law_tree_read := ok__law_tree_read (P := P) (w := w) (base := base) T
  have g__law_trees_judged := ok__law_trees_judged (P := P) (w := w) (base := base) T
  refine F.ok sc_law (fun vs H Q E h => by first | (obtain ⟨rfl, _⟩ := h; rfl) | (obtain ⟨_, rfl, _⟩ := h; rfl) | (obtain ⟨_, _, rfl, _⟩ := h; rfl) | (obtain ⟨_, _, _, rfl, _⟩ := h; rfl) | (obtain ⟨_, _, _, _, rfl, _⟩ := h; rfl) | (obtain ⟨_, _, _, _, _, rfl, _⟩ := h; rfl) | (obtain ⟨_, _, _, _, _, _, rfl, _⟩ := h; rfl) | (obtain ⟨_, _, _, _, _, _, _, rfl, _⟩ := h; rfl) | (obtain ⟨_, _, _, _, _, _, _, _, rfl, _⟩ := h; rfl)) (fun cdv A outer s H vs Q E hr h => ?_)
  obtain ⟨a, ns, rfl, hs, q⟩ := h
  refine ⟨_, PSs.nox (pss_cons (ps_set (i := 1) sc_law.nd rfl (Or.inl rfl) (pe_g g__law_stream hr pass0 (pa_cons (pv 0) pa_nil)))
    (pss_cons (ps_set (i := 2) sc_law.nd rfl (Or.inl rfl) (pe_g g__law_take hr pass0 (pa_cons (pv 1) (pa_cons pe_int pa_nil))))
    (pss_cons (ps_set (i := 3) sc_law.nd rfl (Or.inl rfl) (pe_ix ix_list (pe_lst (pa_cons pe_non (pa_cons pe_int (pa_cons (pe_lst (pa_cons pe_str pa_nil)) (pa_cons (pe_tup (pa_cons pe_str (pa_cons pe_str pa_nil))) (pa_cons pe_dnewK (pa_cons pe_bl pa_nil))))))) (pv 2) (fun _ _ => rfl)))
    (Evl.pss_cut (ps_if (PW.pt (pw_or (pt_cmpR (op_neD hr.units) (pe_g g__law_numbers_read hr pass0 (pa_cons (pv 3) pa_nil)) (pe_tup (pa_cons pe_str (pa_cons pe_int pa_nil))) (nomark _)) (pw_or1 (pt_cmpR (op_neD hr.units) (pe_g g__law_tree_read hr pass0 (pa_cons (pv 3) pa_nil)) (pe_tup (pa_cons pe_str (pa_cons pe_int pa_nil))) (nomark _))))) (pss_one (ps_ret pe_bl)) pss_nil)
    (Evl.pss_cut (ps_if (pt_cmpR op_eq (pv 2) pe_int (nomark _)) (pss_cons (ps_set (i := 4) sc_law.nd rfl (Or.inl rfl) (pe_callTy call_str_int (by rfl) T.free_str (by decide +kernel) (pa_cons (pe_op op_add (pe_op op_pow pe_int pe_int) (pe_g g__law_take hr pass0 (pa_cons (pv 1) (pa_cons (pe_op op_pow pe_int pe_int) pa_nil)))) pa_nil)))
    (pss_cons (ps_if (pt_not (pt_val (pe_g g__law_alike hr pass0 (pa_cons (pe_g g__law_tree_read hr pass0 (pa_cons (pv 4) pa_nil)) (pa_cons (pe_tup (pa_cons pe_str (pa_cons (pe_tup (pa_cons pe_str (pa_cons (pe_callTy call_int_str (by rfl) T.free_int (by decide +kernel) (pa_cons (pv 4) pa_nil)) pa_nil))) pa_nil))) pa_nil))))) (pss_one (ps_ret pe_bl)) pss_nil)
    (pss_one (ps_if (PW.pt (pw_or (pt_cmpR (op_neD hr.units) (pe_g g__law_tree_read hr pass0 (pa_cons (pe_op op_add_str (pv 4) pe_str) pa_nil)) (pe_tup (pa_cons pe_str (pa_cons pe_int pa_nil))) (nomark _)) (pw_or1 (pt_not (pt_val (pe_g g__law_deepest hr pass0 (pa_cons (pv 1) pa_nil))))))) (pss_one (ps_ret pe_bl)) pss_nil)))) pss_nil)
    (pss_one (ps_ret (pe_and (pe_g g__law_numbers_judged hr pass0 (pa_cons (pv 1) pa_nil)) (pe_one (pe_g g__law_trees_judged hr pass0 (pa_cons (pv 1) pa_nil))))))))))), ?_⟩
  refine ⟨_, rfl, a, ns, fun _ => none, rfl, (fun _ _ z => nomatch z), hs, fun p F1 H1 m1 hp st1 => ?_⟩
  refine ⟨_, rfl, p, 6, F1, rfl, st1, by decide, by decide +kernel, fun k H2 k0 k1 m2 o2 => ?_⟩
  have st2 := st1.step m2 o2
  have m0 : Mv P0 F1 H2 F1 H2 := Mv.refl st2.k
  refine ⟨by show 1 ≤ sizeLine; decide, fun b1 h1 => ?_⟩
  obtain ⟨n1, w1, f1⟩ := lay_lst (K := K) (vs := [.str "1"]) (ds := [.str "1"]) m0 h1 (.cons (.str _) .nil)
  generalize upd F1 b1 (.lst [.str "1"]) = G1 at n1 w1 f1
  generalize upd H2 b1 (.lst [.str "1"]) = I1 at n1 ⊢
  refine ⟨by show 2 ≤ sizeLine; decide, fun b2 h2 => ?_⟩
  obtain ⟨n2, w2, f2⟩ := lay_tup (K := K) (vs := [.str "1", .str "2"]) (ds := [.str "1", .str "2"]) n1 h2 (.cons (.str _) (.cons (.str _) .nil))
  generalize upd G1 b2 (.tup [.str "1", .str "2"]) = G2 at n2 w2 f2
  generalize upd I1 b2 (.tup [.str "1", .str "2"]) = I2 at n2 ⊢
  intro b3 h3
  have n3 := n2.nw (o := .dK []) h3
  have f3 := (Mv.nw (o := .dK []) (Mv.refl n2.k) h3).f
  have w3 : Dx K (upd G2 b3 (.dK [])) (.ref b3) (.dict []) := .dK upd_same
  generalize upd G2 b3 (.dK []) = G3 at n3 w3 f3
  generalize upd I2 b3 (.dK []) = I3 at n3 ⊢
  refine ⟨by show 6 ≤ sizeLine; decide, fun b4 h4 => ?_⟩
  obtain ⟨v, hv, hat⟩ := atI_mem (xs := [V.non, .int 5, .ref b1, .ref b2, .ref b3, .bl true]) k0 k1
  have n4 := n3.own (o := .lst [V.non, .int 5, .ref b1, .ref b2, .ref b3, .bl true]) h4
  have st4 := st2.stay n4
  refine ⟨_, rfl, b4, _, _, v, rfl, rfl, SqL.of upd_same, hat, ?_⟩
  have hall : ∃ d, Dx K G3 v d ∧ isiS d = false := by
    simp only [List.mem_cons, List.not_mem_nil, or_false] at hv
    rcases hv with rfl | rfl | rfl | rfl | rfl | rfl
    · exact ⟨_, .non, rfl⟩
    · exact ⟨_, .int _, rfl⟩
    · exact ⟨_, Dx.mono (f2.trans f3) _ _ w1, rfl⟩
    · exact ⟨_, Dx.mono f3 _ _ w2, rfl⟩
    · exact ⟨_, w3, rfl⟩
    · exact ⟨_, .bl _, rfl⟩
  obtain ⟨d, hd, hns⟩ := hall
  have nos : ∀ t, d = .str t → False := fun t z => by
    rw [z] at hns
    cases hns
  generalize upd I3 b4 (.lst [V.non, .int 5, .ref b1, .ref b2, .ref b3, .bl true]) = H4 at st4 ⊢
  refine ⟨fun σ' H' => ∃ (F' : Hp), σ' = [some (.ref a), some (.ref p), some (.int k), some v, none] ∧ Sti p F' H', ?_, ?_⟩
  · refine ⟨_, rfl, v, d, G3, rfl, st4.k, hd, (fun _ v5 F5 H5 m5 hv5 => ?_), fun t z => (nos t z).elim⟩
    have st5 := st4.stay m5
    refine ⟨by show 2 ≤ sizeLine; decide, fun p2 hp2 => ?_⟩
    obtain ⟨m6, h6⟩ := two_new (K := K) (v := .str "BadText") (u := .int 0) (Mv.refl st5.k) hp2 (.str _) (.int _)
    refine ⟨badD 0, badD 0, Dp.mono (m6.f.trans m6.k) _ _ hv5, Dp.mono m6.k _ _ h6, shaped_bad 0, shaped_bad 0, _, rfl, ?_⟩
    rw [eq_self (shaped_bad 0)]
    have st6 := st5.stay m6
    refine iteF ⟨_, rfl, v, d, _, rfl, st6.k, Dx.mono (m5.f.trans m6.f) _ _ hd, (fun _ v7 F7 H7 m7 hv7 => ?_), fun t z => (nos t z).elim⟩
    have st7 := st6.stay m7
    refine ⟨by show 2 ≤ sizeLine; decide, fun p3 hp3 => ?_⟩
    obtain ⟨m8, h8⟩ := two_new (K := K) (v := .str "BadText") (u := .int 0) (Mv.refl st7.k) hp3 (.str _) (.int _)
    refine ⟨badD 0, badD 0, Dp.mono (m8.f.trans m8.k) _ _ hv7, Dp.mono m8.k _ _ h8, shaped_bad 0, shaped_bad 0, _, rfl, ?_⟩
    rw [eq_self (shaped_bad 0)]
    exact iteF ⟨_, rfl, st7.stay m8⟩
  rintro σ' H5 ⟨F5, rfl, st5⟩
  refine ⟨fun σ' H' => ∃ (F' : Hp) (x4 : Option V), σ' = [some (.ref a), some (.ref p), some (.int k), some v, x4] ∧ Sti p F' H', ?_, ?_⟩
  · refine ⟨_, rfl, rfl, _, rfl, ite2 (fun _ => ?_) fun _ => ⟨F5, none, rfl, st5⟩⟩
    refine ⟨_, _, rfl, rfl, ⟨by decide, by decide, by decide⟩, _, rfl, _, _, rfl, rfl, ⟨by decide, by decide, by decide⟩, p, _, F5, rfl, st5, by decide +kernel, by decide +kernel, fun e H6 e0 e1 m6 o6 => ⟨_, _, rfl, rfl, ?_⟩⟩
    have st6 := st5.step m6 o6
    obtain ⟨en, rfl⟩ := Int.eq_ofNat_of_zero_le e0
    have hen : en < 10 ^ 38 := by
      have e38 : (10 : Int) ^ (38 : Int).toNat = ((10 ^ 38 : Nat) : Int) := by
        show (10 : Int) ^ 38 = _
        rw [Int.natCast_pow] <;> rfl
      rw [e38] at e1
      exact Int.ofNat_lt.mp e1
    have eN : (10 : Int) ^ (39 : Int).toNat + (en : Int) = ((10 ^ 39 + en : Nat) : Int) := by
      show (10 : Int) ^ 39 + (en : Int) = _
      rw [Int.natCast_add, Int.natCast_pow] <;> rfl
    rw [show (fun i j : Int => V.int (i + j)) ((10 : Int) ^ (39 : Int).toNat) (en : Int) = V.int ((10 ^ 39 + en : Nat) : Int) from congrArg V.int eN]
    have hN1 : 10 ^ 39 ≤ 10 ^ 39 + en := Nat.le_add_right _ _
    have hN2 : 10 ^ 39 + en < 10 ^ 40 := Nat.lt_of_lt_of_le (Nat.add_lt_add_left hen _) (by decide)
    generalize 10 ^ 39 + en = N at hN1 hN2
    have hSm : Sm (N : Int) := Nat.lt_trans hN2 (by decide)
    have hx := TL.tl_num N
    have hlen := TL.len_tl (Str.ofString (toString (N : Int)))
    rw [hx, num_40 hN1 hN2] at hlen
    refine ⟨_, rfl, hSm.log, ?_⟩
    generalize Str.ofString (toString (N : Int)) = dg at hx hlen
    refine ⟨_, rfl, _, .str dg, F5, rfl, st6.k, .str _, (fun z => nomatch z), fun t et => ?_⟩
    cases et
    refine ⟨by omega, fun v7 F7 H7 m7 hv7 => ?_⟩
    rw [show dueT (tl dg) = toldD (trD (.motion N)) by
      unfold dueT
      rw [hx, show TL.numL N = trW (.motion N) from rfl, readT_ok (t := .motion N) (show 1 ≤ 12 by decide) hN2]] at hv7
    have st7 := st6.stay m7
    have hw : wholeL (tl dg) = true := by rw [hx]; exact whole_num N
    have hint := int_whole hw (by omega)
    rw [hx, val_num] at hint
    refine ⟨_, rfl, dg, _, rfl, hint, by omega, by show 2 ≤ sizeLine; decide, fun p2 hp2 => ?_⟩
    obtain ⟨m8, h8⟩ := two_new (K := K) (v := .str "motion") (u := .int (N : Int)) (Mv.refl st7.k) hp2 (.str _) (.int _)
    have st8 := st7.stay m8
    refine ⟨by show 2 ≤ sizeLine; decide, fun p3 hp3 => ?_⟩
    obtain ⟨m9, h9⟩ := two_new (K := K) (v := .str "told") (u := .ref p2) (Mv.refl st8.k) hp3 (.str _) h8
    have st9 := st8.stay m9
    have h1 := wid_toldD (trD (.motion N)) (wid_tr _)
    have h2 := dep_toldD (trD (.motion N))
    have h3 := dep_tr (.motion N)
    have h4 : hgt (.motion N) = 1 := rfl
    refine ⟨_, _, toldD (trD (.motion N)), rfl, Dp.mono ((m8.f.trans m9.f).trans m9.k) _ _ hv7, Dp.mono m9.k _ _ h9, by omega, by omega, fun Ha ea => ⟨_, rfl, iteF ?_⟩⟩
    have sta := st9.stay ((Mv.refl st9.k).same ea)
    refine ⟨_, rfl, _, _, rfl, rfl, szle (show dg.length + ("7" : Str).length ≤ 1000000 by rw [show ("7" : Str).length = 1 by decide +kernel]; omega), ?_⟩
    have h41 : tl (dg ++ ("7" : Str)) = TL.numL N ++ [55] := by rw [TL.tl_append, hx, show tl "7" = [55] by decide +kernel]
    refine ⟨_, .str (dg ++ ("7" : Str)), _, rfl, sta.k, .str _, (fun z => nomatch z), fun t et => ?_⟩
    cases et
    have hl41 := TL.len_tl (dg ++ ("7" : Str))
    rw [h41, List.length_append, num_40 hN1 hN2, List.length_singleton] at hl41
    refine ⟨by omega, fun vb Fb Hb mb hvb => ?_⟩
    rw [show dueT (tl (dg ++ ("7" : Str))) = badD 41 by
      unfold dueT
      rw [h41, readT_41 hN1 hN2]
      show badD (((TL.numL N ++ [55]).length - [55].length + 1 : Nat) : Int) = badD 41
      rw [List.length_append, num_40 hN1 hN2]
      rfl] at hvb
    have stb := sta.stay mb
    refine ⟨by show 2 ≤ sizeLine; decide, fun p4 hp4 => ?_⟩
    obtain ⟨mc, hc⟩ := two_new (K := K) (v := .str "BadText") (u := .int 41) (Mv.refl stb.k) hp4 (.str _) (.int _)
    refine ⟨badD 41, badD 41, Dp.mono (mc.f.trans mc.k) _ _ hvb, Dp.mono mc.k _ _ hc, shaped_bad 41, shaped_bad 41, _, rfl, ?_⟩
    rw [eq_self (shaped_bad 41)]
    have stc := stb.stay mc
    refine iteF ⟨_, rfl, p, _, rfl, stc, fun Fd Hd md od => ⟨_, rfl, iteF ?_⟩⟩
    exact ⟨Fd, _, rfl, stc.step md od⟩
  rintro σ' H6 ⟨F6, x4, rfl, st6⟩
  refine ⟨_, rfl, p, F6, rfl, st6, fun F7 H7 m7 o7 => ⟨_, rfl, iteT ?_⟩⟩
  exact ⟨_, rfl, p, F7, rfl, st6.step m7 o7, fun F8 H8 _ _ => q H8⟩
end
end Q
namespace Q
open PySem PySem.Spec PyProof.Rows L2
def names0 : List PySem.Str := ["FoldError", "NoNumbers", "BadText", "NoTree", "is_integer", "is_row", "common_part", "is_fraction", "MOST_DEEP", "LEAF", "DIGITS", "MOST_DIGITS", "is_whole_text", "is_signed_text", "frac_word", "word_frac", "numbers_text", "read_numbers", "is_plain_tree", "tree_word", "tree_text", "TreeReader", "read_tree", "_law_mixed", "_law_great", "_law_stream", "_law_take", "_law_low", "_law_is_integer", "_law_alike"]
def names1 : List PySem.Str := ["_law_word", "_law_whole", "_law_read_word", "_law_is_long", "_law_numbers_due", "_law_numbers_read", "_law_tree_read", "_law_no_numbers", "_law_no_tree", "_law_changed", "_law_size_drawn", "_law_numbers_judged", "_law_tree_drawn", "_law_tree_word", "_law_is_tree", "_law_bad_sign", "_law_spoilt", "_law_trees_judged", "_law_deepest"]
def names : List PySem.Str := names0 ++ names1
abbrev R : PySem.W.OpenRow := PySem.W.OpenLaw.row PySem.Challenge.rw_fourcreases_k94_whole_numbers_and_trees
abbrev hk : PySem.W.Hook := He.hookX 5 fa fn [] [] exB
def ob (s : PySem.W.SharedT) : He.AlX := He.obsX 5 fa fn [] [] exB (HandSHeadRun.getT s)
theorem ob_eq (s : PySem.W.SharedT) : ob s = hk.obs s.abs := He.obsX_eq (HandSHeadRun.getT_eq s)
theorem run (w : World) : HandSHeadRun.RunEq R (PySem.W.view R.prog [53]) hk ob 20000 names w := by
  intro os
  kernel_rfl
end Q
open PySem PySem.W PySem.Calls PyProof.Rows
open PySem PySem.W PySem.Calls PyProof.Rows
set_option maxRecDepth 100000 in
set_option maxHeartbeats 0 in
theorem PySem.Challenge.cw_fourcreases_k94_whole_numbers_and_trees_holds : PySem.Challenge.rw_fourcreases_k94_whole_numbers_and_trees.Holds := by
  w_on; o_law
  refine HandSHeadRun.head_any (r := OpenLaw.row PySem.Challenge.rw_fourcreases_k94_whole_numbers_and_trees) (q := view (OpenLaw.row PySem.Challenge.rw_fourcreases_k94_whole_numbers_and_trees).prog [53]) (H := Q.hk) (ob := Q.ob) (M := 20000) (loose := Q.names) (d := HandSHeadRun.topDef (OpenLaw.row PySem.Challenge.rw_fourcreases_k94_whole_numbers_and_trees).prog 53) (kwd := []) Q.ob_eq
    (by kernel_rfl) (fun s => by kernel_rfl) Q.run (by kernel_rfl) (by kernel_rfl) (by kernel_rfl) (by rfl) (by first | assumption | decide +kernel) (by decide +kernel) ⟨rfl, rfl, rfl, rfl, rfl, by decide +kernel⟩ ?hw ?hc
  case hw => w_witness2
  case hc =>
    refine L2.walk_ofE (l := PySem.Challenge.rw_fourcreases_k94_whole_numbers_and_trees) (n := 63) (k := 26) (x := "_law_script") (CX := L2.CX0) rfl (by decide) (by kernel_rfl) ⟨rfl, by decide, by decide⟩ ?F (fun _ _ _ _ z => z)
    intro w mg fa h Y G hmg0
    obtain ⟨K, KX, c⟩ := Y
    have hmg : mg ("law" : PySem.Str) = some (.ref fa) := by
      have e : (HandSHeadRun.topDef (OpenLaw.row PySem.Challenge.rw_fourcreases_k94_whole_numbers_and_trees).prog 53).name = ("law" : PySem.Str) := by kernel_rfl
      rw [← e]
      exact hmg0
    have T : Q.Txt K mg := ⟨⟨h, KX, G⟩, c.t.d, c.more⟩
    obtain ⟨fd, F⟩ := T.fn_law
    have e := hmg.symm.trans T.glo_law
    cases e
    have b := L2.FunD.bindsA (ps := ["_law_script"]) F fun _ _ _ _ _ _ us hl => match us, hl with | [_], _ => rfl
    exact ⟨K, fd, Q.sp_law K, KX, fun s v => b s [v] rfl, fun H a ns _ _ hS => Q.sp_law_in hS, fun base _ _ => Q.okf_law (P := (PySem.Challenge.rw_fourcreases_k94_whole_numbers_and_trees).prog) (w := w) (base := base) T F⟩
