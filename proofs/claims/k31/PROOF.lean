import PyProof.Rows.All
import Wide.All
import OpenK.AllK
import Wide.FinOn
import PyProof.EqAt
import PyProof.EqKinds
import PyProof.TupleCall
import KE.KStateDown
import HandS.ForMost
import HandS.ForExc
import HandS.More
import HandS.Wide
import HandS.Style
import HandS.TupAny
import HandS.IsInst
import HandS.Defaults
import HandS.Conv
import HandS.Steps
import HandS.Codes
import HandS.Head0
import HandS.Head1
import HandS.Head2
import HandS.HeadEnd
import HandS.HeadHook1
import HandS.HeadHook2
import HandS.ExcInit
import HandS.ExcField
import HandS.CallSlots
import HandS.TryMany
import HandS.HeadHook3
import HandS.HeadHook4
import KE.GoesEnum
import PyProof.Draws
import PyProof.EnumMake
import HandS.Comp
import HandS.Iter
import HandS.Zip
import HandS.ListItems
import HandS.ListEq
import HandS.Deep
import HandS.DictComp
import HandS.RaiseMore
import HandS.WordsDict
import HandS.FStr
import HandS.RaiseOp
import HandS.StrMore
import HandS.MakeKwOnly
import HandS.MakeKw
import HandS.Small
import HandS.RaiseFrom
import KE.KCallOwn
import HandS.DictTup
import KE.DataFind
import HandS.Finally
import KE.GoesComp
import HandS.ReplaceLit
import HandS.TupLe
import KE.KSortTup
import PySem.Challenge.RW_dialweir_k31_too_great
set_option Elab.async false
set_option linter.all false
set_option maxRecDepth 100000
set_option maxHeartbeats 40000000
namespace DW
open PySem L2
section
variable {X : Cx}
/-- // by any divisor but 0, of less than 9000 bits -/
def CDivX (_ j : Int) : Prop := j ≠ 0 ∧ j.natAbs.log2 < 9000
theorem op_fdivX : OpR X (binaryOp .FloorDiv) (rI CDivX fun i j => .int (i.fdiv j)) :=
  opI fun _ _ _ _ _ _ _ hc q => PyProof.Rows.floordiv_int hc.1 q (.inl (PyProof.noPylong_of_log2 hc.2))
end
def Fr (K : PySem.W.Frag) (S : List Addr) (H H' : Hp) : Prop := (∀ a o, a ∉ S → H a = some o → H' a = some o) ∧ ∀ a xs, SqT K H a xs → SqT K H' a xs
theorem Same.tup {K : PySem.W.Frag} {H H' : Hp} {a : Addr} {xs : List V} (e : Same H H') (h : SqT K H a xs) : SqT K H' a xs := by
  rcases h with (h | ⟨o, h⟩) | h
  · exact .inl (.inl (e _ _ h))
  · exact .inl (.inr ⟨o, e _ _ h⟩)
  · exact .inr h
section
variable {K : PySem.W.Frag} {S S' : List Addr} {H H' H1 H2 : Hp} {a p : Addr} {o u : HO} {xs : List V}
theorem Fr.of (e : Same H H') : Fr K [] H H' := ⟨fun a o _ h => e a o h, fun _ _ h => Same.tup e h⟩
theorem Fr.refl (H : Hp) : Fr K [] H H := ⟨fun _ _ _ h => h, fun _ _ h => h⟩
theorem Fr.trans (a : Fr K S H H1) (b : Fr K S H1 H2) : Fr K S H H2 := ⟨fun c o n h => b.1 c o n (a.1 c o n h), fun c xs h => b.2 c xs (a.2 c xs h)⟩
theorem Fr.sub (a : Fr K S H H1) (h : ∀ x, x ∈ S → x ∈ S') : Fr K S' H H1 := ⟨fun c o n => a.1 c o fun z => n (h c z), a.2⟩
theorem Fr.any (a : Fr K [] H H1) : Fr K S H H1 := a.sub (fun _ h => absurd h (by simp))
theorem Fr.same (a : Fr K [] H H1) : Same H H1 := fun c o h => a.1 c o (by simp) h
theorem Fr.new (h : H p = none) : Fr K S H (upd H p o) := (Fr.of (fun b o e => by rw [upd_ne (ne_of_none e h)]; exact e)).any
theorem Fr.get (e : Fr K S H H') (h : H a = some o) (n : a ∉ S) : H' a = some o := e.1 a o n h
/-- a list at p is written -/
theorem Fr.put {xs : List V} (h : H p = some (.lst xs)) : Fr K [p] H (upd H p o) := ⟨fun c u n e => by rw [upd_ne (fun z => n (by rw [z]; simp))]; exact e, fun c ys e => by
  rcases e with (e | ⟨q, e⟩) | e
  · exact .inl (.inl (by rw [upd_ne (fun z => by rw [z, h] at e; cases e)]; exact e))
  · exact .inl (.inr ⟨q, by rw [upd_ne (fun z => by rw [z, h] at e; cases e)]; exact e⟩)
  · exact .inr e⟩
end
mutual
inductive Tp (K : PySem.W.Frag) (H : Hp) : V → PyData → Prop
  | non : Tp K H .non .none
  | bl (b : Bool) : Tp K H (.bl b) (.bool b)
  | int (i : Int) : Tp K H (.int i) (.int i)
  | str (x : Str) : Tp K H (.str x) (.str x)
  | tup {a : Addr} {xs : List V} {ds : List PyData} : SqT K H a xs → TpAll K H xs ds → Tp K H (.ref a) (.tuple ds)
inductive TpAll (K : PySem.W.Frag) (H : Hp) : List V → List PyData → Prop
  | nil : TpAll K H [] []
  | cons {v : V} {vs : List V} {d : PyData} {ds : List PyData} : Tp K H v d → TpAll K H vs ds → TpAll K H (v :: vs) (d :: ds)
end
section
variable {K : PySem.W.Frag} {H H' : Hp}
mutual
theorem Tp.up {S : List Addr} (e : Fr K S H H') : ∀ {v : V} {d : PyData}, Tp K H v d → Tp K H' v d
  | _, _, .non => .non
  | _, _, .bl b => .bl b
  | _, _, .int i => .int i
  | _, _, .str x => .str x
  | _, _, .tup h a => .tup (e.2 _ _ h) (TpAll.up e a)
theorem TpAll.up {S : List Addr} (e : Fr K S H H') : ∀ {vs : List V} {ds : List PyData}, TpAll K H vs ds → TpAll K H' vs ds
  | _, _, .nil => .nil
  | _, _, .cons h a => .cons (Tp.up e h) (TpAll.up e a)
end
mutual
theorem Tp.dp : ∀ {v : V} {d : PyData}, Tp K H v d → Dp K H v d
  | _, _, .non => .non
  | _, _, .bl b => .bl b
  | _, _, .int i => .int i
  | _, _, .str x => .str x
  | _, _, .tup h a => .tup h (TpAll.dp a)
theorem TpAll.dp : ∀ {vs : List V} {ds : List PyData}, TpAll K H vs ds → DpAll K H vs ds
  | _, _, .nil => .nil
  | _, _, .cons h a => .cons (Tp.dp h) (TpAll.dp a)
end
theorem TpAll.get {vs : List V} {ds : List PyData} (h : TpAll K H vs ds) : ∀ {i : Nat} {d : PyData}, ds[i]? = some d → ∃ v, vs[i]? = some v ∧ Tp K H v d := by
  induction ds generalizing vs with
  | nil => intro i d e; simp at e
  | cons d0 ds ih =>
    intro i d e
    cases h with
    | cons h1 h2 =>
      cases i with
      | zero =>
        simp only [List.getElem?_cons_zero, Option.some.injEq] at e
        subst e
        exact ⟨_, rfl, h1⟩
      | succ i => exact ih h2 e
theorem TpAll.len {vs : List V} {ds : List PyData} (h : TpAll K H vs ds) : vs.length = ds.length := by
  induction ds generalizing vs with
  | nil => cases h; rfl
  | cons d0 ds ih =>
    cases h with
    | cons h1 h2 => simp only [List.length_cons, ih h2]
end
abbrev mv (a b : Int) : PyData := .tuple [.int a, .int b]
structure Fn (P : Program) (w : World) (K : PySem.W.Frag) (mg : Str → Option Value) (base : Heap) (CX : CXT) (k : Nat) (x : Str) (ps : List Str) (dvs : List V) (sp : Sp) : Prop where
  ok : ∃ fd ds, FnOk P w K mg base CX k (He.ga K x) fd ps sp ∧ Vals dvs ds ∧ Binds K fd ps ds
  g : mg x = some (.ref (He.ga K x))
  kp : PySem.W.keepIn K (.ref (He.ga K x)) = true
def rPlus (K : PySem.W.Frag) : R2 := fun x y H Q => rI0 (fun i j => .int (i + j)) x y H Q ∨ (∃ i j, x = .str i ∧ y = .str j ∧ i.length + j.length ≤ sizeLine ∧ Q (.str (i ++ j)) H) ∨ rCatA K x y H Q ∨ rCat x y H Q
theorem op_plus {X : Cx} : OpR X (binaryOp .Add) (rPlus X.K) := OpR.or op_add (OpR.or op_add_str (OpR.or op_catA op_cat))
def rEqq (K : PySem.W.Frag) : R2 := fun x y H Q => rEq x y H Q ∨ rEqD K x y H Q
theorem op_eqq {X : Cx} (hu : X.A.units + 64 < cLine) : OpR X (compareOp .Eq) (rEqq X.K) := OpR.or op_eq (op_eqD hu)
def rNee (K : PySem.W.Frag) : R2 := fun x y H Q => rNe x y H Q ∨ rNeD K x y H Q
theorem op_nee {X : Cx} (hu : X.A.units + 64 < cLine) : OpR X (compareOp .NotEq) (rNee X.K) := OpR.or op_ne (op_neD hu)
def rInt1 : List V → Hp → VK → Prop := fun xs H Q => (∃ i, xs = [.int i] ∧ Q (.int i) H) ∨ ∃ k, xs = [.bl k] ∧ Q (.int (if k then 1 else 0)) H
def rListOf (K : PySem.W.Frag) : List V → Hp → VK → Prop := fun xs H Q => ∃ p ys, xs = [.ref p] ∧ (SqL K H p ys ∨ SqT K H p ys) ∧ ∀ l, H l = none → Q (.ref l) (upd H l (.lst ys))
def rTupleOf (K : PySem.W.Frag) : List V → Hp → VK → Prop := fun xs H Q => ∃ p ys, xs = [.ref p] ∧ ((SqL K H p ys ∧ ∀ l, H l = none → Q (.ref l) (upd H l (.tup ys))) ∨ (SqT K H p ys ∧ Q (.ref p) H))
def rIntStr : List V → Hp → VK → Prop := fun xs H Q => ∃ a n, xs = [.str a] ∧ PySem.intText? a = some n ∧ a.length ≤ 640 ∧ Q (.int n) H
theorem pe_gint {X : Cx} {x : Str} {pos : Pos} {i : Int} (hg : Gl X x) (h : ∃ t, X.mg x = some (.int i t)) (hdb : (x == ("__debug__" : Str)) = false := by decide) : PE X (.Name x pos) (tC (.int i)) := by
  obtain ⟨t, h⟩ := h
  exact pe_glob hg h ⟨_, rfl⟩ hdb
theorem pe_gstr {X : Cx} {x z : Str} {pos : Pos} (hg : Gl X x) (h : ∃ t, X.mg x = some (.str z t)) (hdb : (x == ("__debug__" : Str)) = false := by decide) : PE X (.Name x pos) (tC (.str z)) := by
  obtain ⟨t, h⟩ := h
  exact pe_glob hg h ⟨_, rfl⟩ hdb
end DW
namespace DW
open PySem L2
structure ClsFn (K : PySem.W.Frag) (C f : Addr) (m : Str) : Prop where
  rd : PySem.W.readsIn K C (.type "type") = true
  ga : PySem.W.specialIn K (.ref C) "__getattribute__" = some (some (.builtin "type.__getattribute__"))
  at_ : PySem.W.findCls K (.ref C) (.type "type") m = some (.val (.ref f))
  kp : PySem.W.keepIn K (.ref f) = true
def oexB (K : PySem.W.Frag) (C : Addr) : Bool :=
  (match K.lookup C with
  | some ⟨.type c, _, .cls cd, sl⟩ => decide (c = "type") && (match cd.mro, sl.toList with
    | .ref C' :: bm, [_, _, _, _, some (.builtin n), _] => decide (C' = C) && (decide (n = "ValueError.__new__") && (!cd.hasDel && (cd.hasDict && PySem.HandSPX.refsVE bm)))
    | _, _ => false)
  | _ => false) && (decide (PySem.W.findIn K (.ref C) "__setattr__" = some (some (.builtin "object.__setattr__"))) && (decide (PySem.W.subIn K (.ref C) (.type "BaseException") = some true) && (decide (PySem.W.typeIn K (.ref C) = some (.type "type")) && PySem.W.keepIn K (.ref C))))
theorem oexB_ok {K : PySem.W.Frag} {C : Addr} (h : oexB K C = true) : OexC K C := by
  unfold oexB at h
  obtain ⟨h1, h⟩ := Bool.and_eq_true_iff.mp h
  obtain ⟨h2, h⟩ := Bool.and_eq_true_iff.mp h
  obtain ⟨h3, h⟩ := Bool.and_eq_true_iff.mp h
  obtain ⟨h4, h5⟩ := Bool.and_eq_true_iff.mp h
  refine ⟨?_, of_decide_eq_true h2, of_decide_eq_true h3, of_decide_eq_true h4, h5⟩
  cases e : K.lookup C with
  | none => rw [e] at h1; cases h1
  | some o =>
    obtain ⟨oc, od, dt, sl⟩ := o
    rw [e] at h1
    cases oc with
    | type c =>
      cases dt with
      | cls cd =>
        obtain ⟨g1, g2⟩ := Bool.and_eq_true_iff.mp h1
        have e1 := of_decide_eq_true g1
        subst e1
        obtain ⟨nm, bs, mro, ns, qn, hd, sn, sub, ab, col, del⟩ := cd
        obtain ⟨l⟩ := sl
        dsimp only at g2
        split at g2
        · rename_i C' bm k0 k1 k2 k3 n k5
          obtain ⟨a1, g2⟩ := Bool.and_eq_true_iff.mp g2
          obtain ⟨a2, g2⟩ := Bool.and_eq_true_iff.mp g2
          obtain ⟨a3, g2⟩ := Bool.and_eq_true_iff.mp g2
          obtain ⟨a4, a5⟩ := Bool.and_eq_true_iff.mp g2
          have b1 := of_decide_eq_true a1
          have b2 := of_decide_eq_true a2
          have b3 : del = false := by simpa using a3
          subst b1 b2 b3 a4
          exact ⟨_, _, _, _, _, _, _, _, _, _, _, _, _, _, _, rfl, a5⟩
        · cases g2
      | _ => cases h1
    | _ => cases dt <;> cases h1
def clsFnB (K : PySem.W.Frag) (C f : Addr) (m : Str) : Bool := PySem.W.readsIn K C (.type "type") && (decide (PySem.W.specialIn K (.ref C) "__getattribute__" = some (some (.builtin "type.__getattribute__"))) &&
  ((match PySem.W.findCls K (.ref C) (.type "type") m with | some (.val v) => decide (v = .ref f) | _ => false) && PySem.W.keepIn K (.ref f)))
theorem clsFnB_ok {K : PySem.W.Frag} {C f : Addr} {m : Str} (h : clsFnB K C f m = true) : ClsFn K C f m := by
  unfold clsFnB at h
  obtain ⟨h1, h⟩ := Bool.and_eq_true_iff.mp h
  obtain ⟨h2, h⟩ := Bool.and_eq_true_iff.mp h
  obtain ⟨h3, h4⟩ := Bool.and_eq_true_iff.mp h
  refine ⟨h1, of_decide_eq_true h2, ?_, h4⟩
  split at h3
  · rename_i v e
    rw [e, of_decide_eq_true h3]
  · cases h3
/-- all that is wanted of an exception class by its name; fs: the names of its fields -/
structure ExcX (K : PySem.W.Frag) (mg : Str → Option Value) (x : Str) (fs : List Str) : Prop where
  g : mg x = some (.ref (He.ga K x))
  oex : OexC K (He.ga K x)
  xf : XfC K (He.ga K x)
  no : ∀ f ∈ fs, PySem.W.findIn K (.ref (He.ga K x)) f = some none
  init : PySem.W.findIn K (.ref (He.ga K x)) "__init__" = some (some (.ref (He.ma K (He.ga K x) "__init__")))
  tI : PySem.W.typeIn K (.ref (He.ma K (He.ga K x) "__init__")) = some (.type "function")
  cf : ClsFn K (He.ga K x) (He.ma K (He.ga K x) "__init__") "__init__"
def excXB (K : PySem.W.Frag) (x : Str) (fs : List Str) : Bool := oexB K (He.ga K x) && (xfB K (He.ga K x) && (fs.all (fun f => decide (PySem.W.findIn K (.ref (He.ga K x)) f = some none)) &&
  (decide (PySem.W.findIn K (.ref (He.ga K x)) "__init__" = some (some (.ref (He.ma K (He.ga K x) "__init__")))) && (decide (PySem.W.typeIn K (.ref (He.ma K (He.ga K x) "__init__")) = some (.type "function")) && clsFnB K (He.ga K x) (He.ma K (He.ga K x) "__init__") "__init__"))))
theorem excXB_ok {K : PySem.W.Frag} {mg : Str → Option Value} {x : Str} {fs : List Str} (g : mg x = some (.ref (He.ga K x))) (h : excXB K x fs = true) : ExcX K mg x fs := by
  unfold excXB at h
  obtain ⟨h1, h⟩ := Bool.and_eq_true_iff.mp h
  obtain ⟨h2, h⟩ := Bool.and_eq_true_iff.mp h
  obtain ⟨h3, h⟩ := Bool.and_eq_true_iff.mp h
  obtain ⟨h4, h⟩ := Bool.and_eq_true_iff.mp h
  obtain ⟨h5, h6⟩ := Bool.and_eq_true_iff.mp h
  exact ⟨g, oexB_ok h1, xfB_ok h2, fun f hf => of_decide_eq_true (List.all_eq_true.mp h3 f hf), of_decide_eq_true h4, of_decide_eq_true h5, clsFnB_ok h6⟩
def veB (K : PySem.W.Frag) : Bool := match PySem.W.findCls K (.type "ValueError") (.type "type") "__init__" with | some (.val v) => decide (v = .builtin "ValueError.__init__") | _ => false
theorem veB_ok {K : PySem.W.Frag} (h : veB K = true) : PySem.W.findCls K (.type "ValueError") (.type "type") "__init__" = some (.val (.builtin "ValueError.__init__")) := by
  unfold veB at h
  split at h
  · rename_i v e
    rw [e, of_decide_eq_true h]
  · cases h
end DW
namespace DW
open PySem L2
structure FnM (P : Program) (w : World) (K : PySem.W.Frag) (mg : Str → Option Value) (base : Heap) (CX : CXT) (k : Nat) (x m : Str) (ps : List Str) (sp : Sp) : Prop where
  ok : ∃ fd, FnOk P w K mg base CX k (He.ma K (He.ga K x) m) fd ps sp ∧ Binds K fd ps []
section
variable {X : Cx} {CX : CXT} {k : Nat} {ps : List Str} {sp : Sp} {E : XK} {x : Str} {fs : List Str} {p p1 p2 pos : Pos} {e : Expr} {es : List Expr} {ta t : TA}
end
/-- e.f in an except suite, whatever e's class -/
def tXfA (K : PySem.W.Frag) (a : Addr) (cls : Value) (d : Option Addr) (f : Str) (te : TE) : TE := fun σ H Q => ∃ C, cls = .ref C ∧ XfC K C ∧ PySem.W.findIn K (.ref C) f = some none ∧ tXf a cls d C f te σ H Q
theorem pe_xfA {X : Cx} {a : Addr} {oe : Obj} {cls : Value} {d : Option Addr} {pn : List (Addr × Obj)} {e : Expr} {te : TE} {pos : Pos} {n : Str} (hz : Zc cls d oe) (hf : ∃ vs, oe.data = .fields vs) (he : PE (X.suite a ((a, oe) :: pn)) e te)
    (hb : attributeBase e n X.env (eval e X.env) = eval e X.env := by rfl) : PE (X.suite a ((a, oe) :: pn)) (.Attribute e n pos) (tXfA X.K a cls d n te) :=
  ⟨fun pins s σ H Q I ⟨_, _, T, hno, h⟩ => (pe_xf T hno hz hf he hb).run pins s σ H Q I h⟩
section
variable {K : PySem.W.Frag} {σ : St} {H H' : Hp} {Q : VK} {N B C : St → Hp → Prop} {R : VK} {sp : Sp} {dvs : List V} {ES : St → XK} {tr : TA} {te : TE} {E : XK} {W : WX} {tm : St → Hp → XK → Prop} {QX : XK} {x : Str} {fs : List Str} {mg : Str → Option Value}
/-- what an exception's __init__ promises: its fields -/
def spInitAt (K : PySem.W.Frag) (a : Addr) (H : Hp) (Q : VK) (fl : List (Str × V)) : Prop := ∃ C, H a = some (exo a C none) ∧ OexC K C ∧ (∀ f ∈ fl.map (·.1), PySem.W.findIn K (.ref C) f = some none) ∧
  ∀ dx, H dx = none → dx ≠ a → Q .non (upd (upd H dx (exd dx fl)) a (exo a C (some dx)))
theorem mk_heap {H : Hp} {a d : Addr} {o o1 o2 o3 : HO} (ha : H a = none) (hd : d ≠ a) : upd (del (upd (upd (upd H a o) d o1) a o2) a) d o3 = upd H d o3 := by
  funext b
  by_cases h1 : b = d
  · subst h1; rw [upd_same, upd_same]
  · rw [upd_ne h1, upd_ne h1]
    by_cases h2 : b = a
    · subst h2; rw [del_same, ha]
    · rw [del_ne h2, upd_ne h2, upd_ne h1, upd_ne h2]
end
end DW
namespace DW
def allT : List Bool → Bool
  | [] => true
  | b :: r => b && allT r
theorem allT_get : ∀ {l : List Bool}, allT l = true → ∀ (i : Nat) {b : Bool}, l[i]? = some b → b = true
  | [], _, i, _, e => by simp at e
  | c :: r, h, 0, b, e => by
    obtain ⟨h1, _⟩ := Bool.and_eq_true_iff.mp (show (c && allT r) = true from h)
    have e2 : c = b := Option.some.inj e
    rw [← e2]; exact h1
  | c :: r, h, i + 1, b, e => allT_get (Bool.and_eq_true_iff.mp (show (c && allT r) = true from h)).2 i (show r[i]? = some b from e)
end DW
namespace DW
open PySem L2
section
variable {K : PySem.W.Frag} {σ : St} {H H' : Hp} {Q : VK} {N B C : St → Hp → Prop} {R : VK} {c cls : Value} {i : Nat} {tb : WX → TS} {ts : Addr → Value → Option Addr → TS} {Wout : WX} {d : Option Addr} {x f : Str} {fs : List Str} {mg : Str → Option Value} {v : V} {fl : List (Str × V)} {a dd : Addr}
end
end DW
namespace DW
open PySem L2
/-- the classes and their dicts first: they are looked up most -/
def asE (g : Addr → Option Obj) (n : Nat) : List Addr :=
  let base := (List.range n).reverse
  let cs := base.filter fun a => match g a with | some ⟨_, _, .cls _, _⟩ => true | _ => false
  mainGlobals :: cs ++ (cs.filterMap fun a => match g a with | some ⟨_, _, .cls cd, _⟩ => some cd.ns | _ => none) ++ base
structure SaysE (fa : List He.Fa) (fn : List He.DefD) (ex : PySem.W.Frag → Bool) (K : PySem.W.Frag) : Prop where
  d : He.SaysD fa fn K
  more : ex K = true
end DW
namespace DW
open PySem PySem.Spec PyProof.Rows L2
open Sem (wp)
set_option maxHeartbeats 1000000 in
theorem meets_enum_new1 {v : Value} {o : Obj} {H : Heap → Prop} (B : Begins v o H) :
    Meets (Builtin.«enumerate.__new__» ⟨[.type "enumerate", v], []⟩) (fun _ R s => H s.heap ∧
      R (.ok (.ret (.ref (s.heap.push o).objs.size))) { s with heap := (s.heap.push o).push { cls := .type "enumerate", data := .fields #[.none, .bool false, .ref s.heap.objs.size, rawInt 0, .none, .none] } }) :=
  .of_wp fun prog w A R s h => by
    obtain ⟨hp, g, d, tk, os⟩ := s; obtain ⟨h1, h⟩ := h
    have hsub := sub_enumerate
    have q1 : ∀ {A' : Around} {E : Value → Shared → Prop} {Q : Value → Shared → Prop}, Q (.ref hp.objs.size) ⟨hp.push o, g, d, tk, os⟩ → wpAny (model prog w) A' (pyIter v) Q E ⟨hp, g, d, tk, os⟩ :=
      fun q => B.iter prog w _ _ ⟨hp, g, d, tk, os⟩ _ h1 q
    wp_walk using q1
    refine wpAny_stack_any fun st => wpAny_pure ?_
    split
    · rename_i c _ _ _ _ _
      cases (c == Value.type "enumerate")
      · wp_walk using q1
        exact ⟨_, rfl, h⟩
      · wp_walk using q1
        exact ⟨_, rfl, h⟩
    · wp_walk using q1
      exact ⟨_, rfl, h⟩
theorem call_enum1 {prog : Program} {w : World} {A : Around} {E : Value → Shared → Prop} {s : Shared} {v : Value} {o : Obj} {H : Heap → Prop} {Q : Value → Shared → Prop} (B : Begins v o H) (h1 : H s.heap)
    (h : ∀ h', IsEnum h' (s.heap.objs.size + 1) s.heap.objs.size 0 .none → h'.get? s.heap.objs.size = some o → h'.objs.size = s.heap.objs.size + 2 →
      (∀ b o, s.heap.get? b = some o → h'.get? b = some o) → Q (.ref (s.heap.objs.size + 1)) { s with heap := h' }) :
    wpAny (model prog w) A (call (.type "enumerate") [v]) Q E s := by
  refine callType_new F.called_enumerate (by decide) (F.typeCall_enumerate_1 _) (F.newCall_enumerate_1 _) (fun obj => F.args_object_init_2 obj _) F.entry_enumerate_new
    (meets_enum_new1 B) ⟨h1, ?_⟩
  have hz : (s.heap.push o).objs.size = s.heap.objs.size + 1 := Heap.size_push ..
  show _ ∧ _
  rw [hz]
  have he : IsEnum ((s.heap.push o).push { cls := .type "enumerate", data := .fields #[.none, .bool false, .ref s.heap.objs.size, rawInt 0, .none, .none] }) (s.heap.objs.size + 1) s.heap.objs.size 0 .none := by
    have := Heap.get?_push_size (s.heap.push o) (o := { cls := .type "enumerate", data := .fields #[.none, .bool false, .ref s.heap.objs.size, rawInt 0, .none, .none] }) rfl
    rw [hz] at this; exact this
  refine ⟨⟨_, he, rfl⟩, h _ he (Heap.get?_push_of_some _ (Heap.get?_push_size _ B.free)) (by rw [Heap.size_push, hz]) fun b o x => Heap.get?_push_of_some _ (Heap.get?_push_of_some _ x)⟩
/-- the tuple at a as it stands, each item in a new pair -/
def IteT (K : PySem.W.Frag) (a : Addr) : It :=
  ⟨fun i H => ∃ (xs : List V) (x : V), SqT K H a xs ∧ xs[i]? = some x, fun i H v H' => ∃ T x, v = .ref T ∧ H T = none ∧ H' = upd H T (.tup [.int (i : Nat), x]) ∧ ∀ xs, SqT K H a xs → xs[i]? = some x, fun i H => ∃ xs : List V, SqT K H a xs ∧ xs.length = i⟩
theorem tup_ne_iter {h : Heap} {a it : Addr} {its : Array Value} {i : Nat} (p : h.IsTuple a its) (q : h.IsTupleIter it a i) : a ≠ it := by
  rintro rfl
  obtain ⟨o, ho, hc, _⟩ := p
  obtain ⟨o', ho', hc', _⟩ := q
  rw [ho] at ho'
  cases ho'
  rw [hc] at hc'
  simp at hc'
theorem tup_ne_enum {h : Heap} {a e it : Addr} {its : Array Value} {c : Int} {old : Value} (p : h.IsTuple a its) (q : IsEnum h e it c old) : e ≠ a := by
  rintro rfl
  obtain ⟨o, ho, hc, _⟩ := p
  have q' : h.get? e = _ := q
  rw [ho] at q'
  cases q'
  simp at hc
theorem turn_enumT {P : Program} {w : World} {K : PySem.W.Frag} {elts : List Expr} {kk : Nat} {tpos : Pos} (a e it : Addr) :
    Turn P w K (.Tuple elts kk tpos) (IteT K a) [e, it] e (fun i h => (∃ old, IsEnum h e it ((i : Nat) : Int) old) ∧ h.IsTupleIter it a i ∧ e ≠ it) where
  mem := by simp
  obj := fun i h st b hb => by
    obtain ⟨⟨old, he⟩, ⟨o, ho, hc, hd⟩, _⟩ := st
    have e' : b = e ∨ b = it := by simpa using hb
    rcases e' with z | z
    · rw [z]; exact ⟨_, he, fun v q => nomatch q⟩
    · rw [z]; exact ⟨o, ho, fun v q => by rw [hd] at q; cases q⟩
  keep := fun i h h' st k => let ⟨⟨old, he⟩, hi, hne⟩ := st; ⟨⟨old, k e (by simp) _ he⟩, hi.at fun o q => k it (by simp) o q, hne⟩
  item := by
    intro X hP hw hK hc i pins s σ H E I hf st hg
    subst hP hw hK
    obtain ⟨⟨old, he⟩, hit, hne⟩ := st
    obtain ⟨xs, x, hq, hx⟩ := hg
    obtain ⟨its, rv, p, hz⟩ := I.tuple hq
    obtain ⟨u, hu, ru⟩ := rv.get hx
    have hel : e < s.heap.objs.size := Heap.lt_size he
    have hil : it < s.heap.objs.size := by obtain ⟨_, q, _⟩ := hit; exact Heap.lt_size q
    have pt : s.heap.IsTuple a its.toArray := p
    have hai := tup_ne_iter pt hit
    have hea := tup_ne_enum pt he
    have hlt : i < its.toArray.size := by simpa using (List.getElem?_eq_some_iff.mp hu).1
    refine wpAny_pyNext_enum_itemD (Draws.tuple (A := X.A.in1) (I.ok.hd hc) it a hai its.toArray) he ⟨hit, pt⟩ hlt hne (by simp [hne, hea]) fun u' h' tk hu' ho hst hT hsz hk => ?_
    have eu : u' = u := by
      have h1 : its[i]? = some u' := by simpa using hu'
      rw [hu] at h1
      cases h1
      rfl
    subst eu
    refine ⟨_, rfl, wpAny_letOwnedTupleGo_enum (s := { s with heap := h', toks := tk + 1 }) ho fun h'' he' sb => ?_⟩
    have hT2 : h''.get? s.heap.objs.size = some { cls := .type "tuple", data := .seq #[.int i tk, u'] } := (sb.2 _ (Nat.ne_of_gt hel)).trans hT
    have new : ObjOk X.prog X.w (upd H s.heap.objs.size (.tup [.int (i : Nat), x])) h'' s.heap.objs.size (.tup [.int (i : Nat), x]) :=
      ⟨by show 2 ≤ sizeLine; decide, [.int i tk, u'], .cons ⟨_, rfl⟩ (.cons ru .nil), ⟨_, hT2, rfl, _, rfl⟩⟩
    have I1 : Inv X pins σ (upd H s.heap.objs.size (.tup [.int (i : Nat), x])) { s with heap := h'', toks := tk + 1 } :=
      I.turnedNew (ch := [e, it]) (fun b ob hb q => (sb.2 b (fun z => hb (by simp [z]))).trans (hk b ob (fun z => hb (by simp [z])) (fun z => hb (by simp [z])) q)) hf (Nat.le_refl _) new
    refine ⟨.ref s.heap.objs.size, _, I1, rfl, ⟨_, x, rfl, I.hok.fresh (Nat.le_refl _), rfl, fun ys hy => by rw [I.tuple_inj hy hq]; exact hx⟩, ⟨⟨u', ?_⟩, hst.1.at fun o q => (sb.2 it (Ne.symm hne)).trans q, hne⟩, fun b hb => ?_⟩
    · have e1 : ((i + 1 : Nat) : Int) = (i : Int) + 1 := by omega
      rw [e1]; exact he'
    · have hb' : b < s.heap.objs.size := by
        have e' : b = e ∨ b = it := by simpa using hb
        rcases e' with z | z
        · rw [z]; exact hel
        · rw [z]; exact hil
      rw [upd_ne (Nat.ne_of_lt hb')]
      exact (hf b hb).1
  done := by
    intro X hP hw hK hc i pins s σ H E I hf st hg
    subst hP hw hK
    obtain ⟨⟨old, he⟩, hit, hne⟩ := st
    obtain ⟨xs, hq, hx⟩ := hg
    obtain ⟨its, rv, p, hz⟩ := I.tuple hq
    obtain ⟨f0, f1, f2, f3, f4, f5⟩ := hf it (by simp)
    have pt : s.heap.IsTuple a its.toArray := p
    have hl := rv.length
    have hn : i = its.toArray.size := by rw [List.size_toArray]; omega
    subst hn
    exact wpAny_pyNext_enum_endD (Draws.tuple (A := X.A.in1) (I.ok.hd hc) it a (tup_ne_iter pt hit) its.toArray) he ⟨hit, pt⟩ fun h' eb => ⟨rfl, I.turned (t' := s.toks) (fun b o hb q => eb b o hb q) f0 f1 f3 f4 f5⟩
  self := fun A i s Q E st h => let ⟨⟨_, he⟩, _⟩ := st; wpAny_pyIter_enum he h
def iEnumT (K : PySem.W.Frag) (ta : TA) : TI := fun σ H R => ta σ H fun vs H1 => ∃ a xs, vs = [.ref a] ∧ SqT K H1 a xs ∧ R (IteT K a) H1
theorem pi_enumT {X : Cx} {e : Expr} {ta : TA} {p pos tpos : Pos} {elts : List Expr} {kk : Nat} (hg : Gl X "enumerate") (hm : X.mg "enumerate" = none) (ha : PA X [e] ta) (hs : starEach [e] X.env = [(false, eval e X.env)] := by rfl) :
    PI X (.Tuple elts kk tpos) (.Call (.Name "enumerate" p) [e] [] pos) (iEnumT X.K ta) := by
  refine ⟨fun pins s σ H R I h => ?_⟩
  refine Call_ (ld_blt I hg hm boot_enumerate (PyProof.Rows.callWith_type1 (thn (ha.run pos pins s σ H _ I h) fun us s1 ⟨vs, H1, I1, r1, q1⟩ => ?_) hs rfl))
  obtain ⟨a, xs, ex, hq, q⟩ := q1
  subst ex
  cases r1 with
  | cons r rr =>
    cases rr
    cases r
    obtain ⟨its, rv, p', hz⟩ := I1.tuple hq
    refine call_enum1 (begins_tuple a its.toArray) (show s1.heap.IsTuple a its.toArray from p') fun h' he hit hsz hk => wpAny_pyIter_enum he ?_
    have I2 : Inv X pins σ H1 { s1 with heap := h' } := I1.kept (t' := s1.toks) hk
    refine ⟨s1.heap.objs.size + 1, [s1.heap.objs.size + 1, s1.heap.objs.size], _, _, H1, rfl, I2, turn_enumT a (s1.heap.objs.size + 1) s1.heap.objs.size, ⟨⟨.none, he⟩, ⟨_, hit, rfl, rfl⟩, Nat.succ_ne_self _⟩, fun b hb => ?_, q⟩
    have e' : b = s1.heap.objs.size + 1 ∨ b = s1.heap.objs.size := by simpa using hb
    have hle : s1.heap.objs.size ≤ b := by
      rcases e' with z | z
      · rw [z]; exact Nat.le_add_right _ _
      · rw [z]; exact Nat.le_refl _
    exact I1.fpOk hle (I1.hok.fresh hle)
end DW
namespace MVX
open PySem PySem.W PySem.Spec PySem.Calls PyProof.Rows
section
variable {M : Model} {K : Frag}
end
end MVX
namespace MV
open PySem PySem.Spec PyProof.Rows L2
inductive D where
  | non
  | bl (b : Bool)
  | int (i : Int)
  | str (x : Str)
  | tup (ds : List D)
  | ref (n : Nat)
  | ty (n : String)
  | g (x : Str)
  | exn (a dd : Addr) (c : Str) (ns : List Str) (ds : List D)
  | kl (ds : List D)
/-- lst: a list; frz: a list that is only read; dct, dtt: a dict with keys of ints and texts, of tuples of these (lk: a loop walks it); ins: an instance -/
inductive O where
  | lst (ds : List D)
  | frz (ds : List D)
  | dct (lk : Bool) (kvs : List (Key × D))
  | dtt (lk : Bool) (kvs : List (List Key × D))
  | ins (c : Str) (fs : List (Str × D))
abbrev Mem := List O
abbrev Ev := List (Option D)
structure Exn where
  c : Str
  ns : List Str
  ds : List D
/-- a list that is never written: the script -/
def RdL (K : PySem.W.Frag) (H : Hp) (a : Addr) (xs : List V) : Prop := (∃ ob, H a = some (.frz ob (.lst xs))) ∨
  ∃ (o : Obj) (its : Array Value) (n : Nat), K.lookup a = some o ∧ o.cls = .type "list" ∧ o.dict = none ∧ o.data = .seq its n ∧ its.size ≤ sizeLine ∧ Vals xs its.toList
theorem RdL.sq {K : PySem.W.Frag} {H : Hp} {a : Addr} {xs : List V} (h : RdL K H a xs) : SqL K H a xs := by
  rcases h with h | h
  · exact .inl (.inr h)
  · exact .inr h
/-- a tuple that begins with a text (keys of dicts do): no written one -/
def hdS : List D → Bool
  | .str _ :: _ => true
  | _ => false
def Tq (K : PySem.W.Frag) (H : Hp) (a : Addr) (ds : List D) (xs : List V) : Prop := SqT K H a xs ∧ (hdS ds = true → H a = some (.tup xs))
mutual
inductive Rel (K : PySem.W.Frag) (as : List Addr) (H : Hp) : D → V → Prop
  | non : Rel K as H .non .non
  | bl (b : Bool) : Rel K as H (.bl b) (.bl b)
  | int (i : Int) : Rel K as H (.int i) (.int i)
  | str (x : Str) : Rel K as H (.str x) (.str x)
  | tup {a : Addr} {xs : List V} {ds : List D} : Tq K H a ds xs → RelL K as H ds xs → Rel K as H (.tup ds) (.ref a)
  | ref {n : Nat} {a : Addr} : as[n]? = some a → Rel K as H (.ref n) (.ref a)
  | ty (n : String) : Rel K as H (.ty n) (.ty n)
  | g (x : Str) : Rel K as H (.g x) (.ref (He.ga K x))
  | exn {a dd : Addr} {c : Str} {ns : List Str} {ds : List D} {xs : List V} : H dd = some (.xd (ns.zip xs)) → RelL K as H ds xs → Rel K as H (.exn a dd c ns ds) (.ref a)
  | kl {a : Addr} {xs : List V} {ds : List D} : RdL K H a xs → RelL K as H ds xs → Rel K as H (.kl ds) (.ref a)
inductive RelL (K : PySem.W.Frag) (as : List Addr) (H : Hp) : List D → List V → Prop
  | nil : RelL K as H [] []
  | cons {d : D} {ds : List D} {v : V} {vs : List V} : Rel K as H d v → RelL K as H ds vs → RelL K as H (d :: ds) (v :: vs)
end
structure Ext (K : PySem.W.Frag) (as : List Addr) (H : Hp) (as' : List Addr) (H' : Hp) : Prop where
  pre : as <+: as'
  tup : ∀ a xs, SqT K H a xs → SqT K H' a xs
  xd : ∀ a fs, H a = some (.xd fs) → H' a = some (.xd fs)
  frz : ∀ a ob u, H a = some (.frz ob u) → H' a = some (.frz ob u)
  tp : ∀ a xs, H a = some (.tup xs) → H' a = some (.tup xs)
section
variable {K : PySem.W.Frag} {as as' as2 : List Addr} {H H' H2 : Hp}
theorem Ext.refl : Ext K as H as H := ⟨List.prefix_refl _, fun _ _ h => h, fun _ _ h => h, fun _ _ _ h => h, fun _ _ h => h⟩
theorem Ext.trans (a : Ext K as H as' H') (b : Ext K as' H' as2 H2) : Ext K as H as2 H2 :=
  ⟨a.pre.trans b.pre, fun c xs h => b.tup c xs (a.tup c xs h), fun c fs h => b.xd c fs (a.xd c fs h), fun c o u h => b.frz c o u (a.frz c o u h), fun c xs h => b.tp c xs (a.tp c xs h)⟩
theorem Tq.up {a : Addr} {ds : List D} {xs : List V} (e : Ext K as H as' H') (h : Tq K H a ds xs) : Tq K H' a ds xs := ⟨e.tup _ _ h.1, fun q => e.tp _ _ (h.2 q)⟩
theorem Tq.new {p : Addr} {ds : List D} {xs : List V} : Tq K (upd H p (.tup xs)) p ds xs := ⟨SqT.of upd_same, fun _ => upd_same⟩
theorem pre_get {n : Nat} {a : Addr} (p : as <+: as') (h : as[n]? = some a) : as'[n]? = some a := by
  obtain ⟨t, rfl⟩ := p
  obtain ⟨hn, _⟩ := List.getElem?_eq_some_iff.mp h
  rw [List.getElem?_append_left hn]; exact h
theorem RdL.up (e : Ext K as H as' H') {a : Addr} {xs : List V} (h : RdL K H a xs) : RdL K H' a xs := by
  rcases h with ⟨ob, h⟩ | h
  · exact .inl ⟨ob, e.frz _ _ _ h⟩
  · exact .inr h
mutual
theorem Rel.up (e : Ext K as H as' H') : ∀ {d : D} {v : V}, Rel K as H d v → Rel K as' H' d v
  | _, _, .non => .non
  | _, _, .bl b => .bl b
  | _, _, .int i => .int i
  | _, _, .str x => .str x
  | _, _, .tup h r => .tup (h.up e) (RelL.up e r)
  | _, _, .ref h => .ref (pre_get e.pre h)
  | _, _, .ty n => .ty n
  | _, _, .g x => .g x
  | _, _, .exn h r => .exn (e.xd _ _ h) (RelL.up e r)
  | _, _, .kl h r => .kl (RdL.up e h) (RelL.up e r)
theorem RelL.up (e : Ext K as H as' H') : ∀ {ds : List D} {vs : List V}, RelL K as H ds vs → RelL K as' H' ds vs
  | _, _, .nil => .nil
  | _, _, .cons h r => .cons (Rel.up e h) (RelL.up e r)
end
theorem RelL.len : ∀ {ds : List D} {vs : List V}, RelL K as H ds vs → ds.length = vs.length
  | _, _, .nil => rfl
  | _, _, .cons _ r => by simp only [List.length_cons, RelL.len r]
theorem RelL.get {d : D} : ∀ {ds : List D} {vs : List V} {i : Nat}, RelL K as H ds vs → ds[i]? = some d → ∃ v, vs[i]? = some v ∧ Rel K as H d v
  | _, _, _, .nil, e => by simp at e
  | _, _, 0, .cons h _, e => by
    simp only [List.getElem?_cons_zero, Option.some.injEq] at e
    subst e; exact ⟨_, rfl, h⟩
  | _, _, i + 1, .cons _ r, e => by
    simp only [List.getElem?_cons_succ] at e ⊢
    exact RelL.get r e
theorem RelL.app : ∀ {ds es : List D} {vs ws : List V}, RelL K as H ds vs → RelL K as H es ws → RelL K as H (ds ++ es) (vs ++ ws)
  | _, _, _, _, .nil, s => s
  | _, _, _, _, .cons h r, s => .cons h (RelL.app r s)
theorem RelL.take (n : Nat) : ∀ {ds : List D} {vs : List V}, RelL K as H ds vs → RelL K as H (ds.take n) (vs.take n)
  | _, _, .nil => by simp only [List.take_nil]; exact .nil
  | _, _, .cons h r => by
    cases n with
    | zero => exact .nil
    | succ n => simp only [List.take_succ_cons]; exact .cons h (RelL.take n r)
theorem RelL.drop (n : Nat) : ∀ {ds : List D} {vs : List V}, RelL K as H ds vs → RelL K as H (ds.drop n) (vs.drop n)
  | _, _, .nil => by simp only [List.drop_nil]; exact .nil
  | _, _, .cons h r => by
    cases n with
    | zero => exact .cons h r
    | succ n => simp only [List.drop_succ_cons]; exact RelL.drop n r
theorem RelL.set {d : D} {v : V} (h : Rel K as H d v) : ∀ {ds : List D} {vs : List V} (i : Nat), RelL K as H ds vs → RelL K as H (ds.set i d) (vs.set i v)
  | _, _, _, .nil => by simp only [List.set_nil]; exact .nil
  | _, _, 0, .cons _ r => .cons h r
  | _, _, i + 1, .cons q r => .cons q (RelL.set h i r)
end
/-- pairs of a name or a key and a value -/
def KVR (K : PySem.W.Frag) (as : List Addr) (H : Hp) {κ : Type} (l : List (κ × D)) (m : List (κ × V)) : Prop := Paired (fun (p : κ × D) (q : κ × V) => p.1 = q.1 ∧ Rel K as H p.2 q.2) l m
def OR (K : PySem.W.Frag) (as : List Addr) (H : Hp) (o : O) (a : Addr) : Prop := match o with
  | .lst ds => ∃ xs, H a = some (.lst xs) ∧ RelL K as H ds xs
  | .frz ds => ∃ ob xs, H a = some (.frz ob (.lst xs)) ∧ RelL K as H ds xs
  | .dct lk kvs => ∃ ks, KVR K as H kvs ks ∧ match lk with
    | true => ∃ ob, H a = some (.frz ob (.dK ks))
    | false => H a = some (.dK ks)
  | .dtt lk kvs => ∃ ks, KVR K as H kvs ks ∧ match lk with
    | true => ∃ ob, H a = some (.frz ob (.dT ks))
    | false => H a = some (.dT ks)
  | .ins c fs => ∃ dx ys, H a = some (.ins (He.ga K c) dx ys) ∧ KVR K as H fs ys
structure RepM (K : PySem.W.Frag) (as : List Addr) (H : Hp) (M : Mem) : Prop where
  len : as.length = M.length
  nd : as.Nodup
  ob : ∀ (n : Nat) (a : Addr) (o : O), as[n]? = some a → M[n]? = some o → OR K as H o a
section
variable {K : PySem.W.Frag} {as as' : List Addr} {H H' : Hp} {M : Mem} {κ : Type}
theorem KVR.up (e : Ext K as H as' H') {l : List (κ × D)} {m : List (κ × V)} (h : KVR K as H l m) : KVR K as' H' l m := Paired.mapP h fun _ _ q => ⟨q.1, q.2.up e⟩
theorem KVR.len {l : List (κ × D)} {m : List (κ × V)} (h : KVR K as H l m) : l.length = m.length := Paired.length h
theorem OR.up {o : O} {a : Addr} (e : Ext K as H as' H') (s : H' a = H a) (h : OR K as H o a) : OR K as' H' o a := by
  cases o with
  | lst ds => obtain ⟨xs, h1, h2⟩ := h; exact ⟨xs, s.trans h1, h2.up e⟩
  | frz ds => obtain ⟨ob, xs, h1, h2⟩ := h; exact ⟨ob, xs, s.trans h1, h2.up e⟩
  | dct lk kvs =>
    obtain ⟨ks, h1, h2⟩ := h
    refine ⟨ks, h1.up e, ?_⟩
    cases lk with
    | true => obtain ⟨ob, h2⟩ := h2; exact ⟨ob, s.trans h2⟩
    | false => exact s.trans h2
  | dtt lk kvs =>
    obtain ⟨ks, h1, h2⟩ := h
    refine ⟨ks, h1.up e, ?_⟩
    cases lk with
    | true => obtain ⟨ob, h2⟩ := h2; exact ⟨ob, s.trans h2⟩
    | false => exact s.trans h2
  | ins c fs => obtain ⟨dx, ys, h1, h2⟩ := h; exact ⟨dx, ys, s.trans h1, h2.up e⟩
theorem OR.there {o : O} {a : Addr} (h : OR K as H o a) : ∃ u, H a = some u ∧ (∀ xs, u ≠ .tup xs) ∧ ∀ fs, u ≠ .xd fs := by
  cases o with
  | lst ds => obtain ⟨xs, h1, _⟩ := h; exact ⟨_, h1, (fun _ z => nomatch z), (fun _ z => nomatch z)⟩
  | frz ds => obtain ⟨ob, xs, h1, _⟩ := h; exact ⟨_, h1, (fun _ z => nomatch z), (fun _ z => nomatch z)⟩
  | dct lk kvs =>
    obtain ⟨ks, _, h2⟩ := h
    cases lk with
    | true => obtain ⟨ob, h2⟩ := h2; exact ⟨_, h2, (fun _ z => nomatch z), (fun _ z => nomatch z)⟩
    | false => exact ⟨_, h2, (fun _ z => nomatch z), (fun _ z => nomatch z)⟩
  | dtt lk kvs =>
    obtain ⟨ks, _, h2⟩ := h
    cases lk with
    | true => obtain ⟨ob, h2⟩ := h2; exact ⟨_, h2, (fun _ z => nomatch z), (fun _ z => nomatch z)⟩
    | false => exact ⟨_, h2, (fun _ z => nomatch z), (fun _ z => nomatch z)⟩
  | ins c fs => obtain ⟨dx, ys, h1, _⟩ := h; exact ⟨_, h1, (fun _ z => nomatch z), (fun _ z => nomatch z)⟩
theorem RepM.at_ (r : RepM K as H M) {n : Nat} {o : O} (h : M[n]? = some o) : ∃ a, as[n]? = some a ∧ OR K as H o a := by
  obtain ⟨hn, _⟩ := List.getElem?_eq_some_iff.mp h
  have : n < as.length := by rw [r.len]; exact hn
  exact ⟨as[n], List.getElem?_eq_getElem this, r.ob n _ o (List.getElem?_eq_getElem this) h⟩
theorem RepM.some_ (r : RepM K as H M) {n : Nat} {a : Addr} (h : as[n]? = some a) : ∃ u, H a = some u ∧ (∀ xs, u ≠ .tup xs) ∧ ∀ fs, u ≠ .xd fs := by
  obtain ⟨hn, _⟩ := List.getElem?_eq_some_iff.mp h
  have hm : n < M.length := by rw [← r.len]; exact hn
  exact (r.ob n a _ h (List.getElem?_eq_getElem hm)).there
/-- a new thing at p -/
theorem ext_new {p : Addr} {o : HO} (hp : H p = none) : Ext K as H as (upd H p o) :=
  ⟨List.prefix_refl _, fun a xs h => DW.Same.tup (fun b u e => by rw [upd_ne (ne_of_none e hp)]; exact e) h, fun a fs h => by rw [upd_ne (ne_of_none h hp)]; exact h, fun a o u h => by rw [upd_ne (ne_of_none h hp)]; exact h, fun a xs h => by rw [upd_ne (ne_of_none h hp)]; exact h⟩
theorem ext_app {l : List Addr} : Ext K as H (as ++ l) H := ⟨List.prefix_append _ _, fun _ _ h => h, fun _ _ h => h, fun _ _ _ h => h, fun _ _ h => h⟩
theorem RepM.laid {p : Addr} {o : HO} (r : RepM K as H M) (hp : H p = none) : RepM K as (upd H p o) M :=
  ⟨r.len, r.nd, fun n a u h1 h2 => (r.ob n a u h1 h2).up (ext_new hp) (by
    obtain ⟨w, hw, _⟩ := r.some_ h1
    rw [upd_ne (ne_of_none hw hp)])⟩
theorem RepM.new {p : Addr} {o : O} {u : HO} (r : RepM K as H M) (hp : H p = none) (ho : OR K (as ++ [p]) (upd H p u) o p) : RepM K (as ++ [p]) (upd H p u) (M ++ [o]) := by
  have hn : p ∉ as := fun z => by
    obtain ⟨n, hn, e⟩ := List.getElem_of_mem z
    obtain ⟨w, hw, _⟩ := r.some_ (n := n) (a := p) (by rw [List.getElem?_eq_getElem hn, e])
    rw [hw] at hp; cases hp
  refine ⟨by simp [r.len], ?_, fun n a q h1 h2 => ?_⟩
  · rw [List.nodup_append]
    exact ⟨r.nd, by simp, fun a ha b hb => by simp at hb; subst hb; exact fun z => hn (z ▸ ha)⟩
  · by_cases hl : n < as.length
    · rw [List.getElem?_append_left hl] at h1
      rw [List.getElem?_append_left (by rw [← r.len]; exact hl)] at h2
      refine (r.ob n a q h1 h2).up ((ext_new hp).trans ext_app) ?_
      obtain ⟨w, hw, _⟩ := r.some_ h1
      rw [upd_ne (ne_of_none hw hp)]
    · obtain ⟨h3, _⟩ := List.getElem?_eq_some_iff.mp h1
      have h4 : n = as.length := by simp at h3; omega
      subst h4
      rw [List.getElem?_append_right (Nat.le_refl _)] at h1
      rw [r.len, List.getElem?_append_right (Nat.le_refl _)] at h2
      simp at h1 h2
      subst h1 h2
      exact ho
theorem ext_put {n : Nat} {a : Addr} {u : HO} (r : RepM K as H M) (h : as[n]? = some a) (hz : ∀ ob w, H a ≠ some (.frz ob w)) : Ext K as H as (upd H a u) := by
  obtain ⟨w, hw, nt, nx⟩ := r.some_ h
  refine ⟨List.prefix_refl _, fun b xs q => ?_, fun b fs q => ?_, fun b ob w q => ?_, fun b xs q => ?_⟩
  · rcases q with (q | ⟨o, q⟩) | q
    · exact .inl (.inl (by rw [upd_ne (fun z => by rw [z, hw] at q; exact nt _ (Option.some.inj q))]; exact q))
    · exact .inl (.inr ⟨o, by rw [upd_ne (fun z => by rw [z] at q; exact hz _ _ q)]; exact q⟩)
    · exact .inr q
  · rw [upd_ne (fun z => by rw [z, hw] at q; exact nx _ (Option.some.inj q))]; exact q
  · rw [upd_ne (fun z => by rw [z] at q; exact hz _ _ q)]; exact q
  · rw [upd_ne (fun z => by rw [z, hw] at q; exact nt _ (Option.some.inj q))]; exact q
/-- the thing at a is written -/
theorem RepM.put {n : Nat} {a : Addr} {o : O} {u : HO} (r : RepM K as H M) (h : as[n]? = some a) (hz : ∀ ob w, H a ≠ some (.frz ob w)) (ho : OR K as (upd H a u) o a) : RepM K as (upd H a u) (M.set n o) := by
  refine ⟨by rw [List.length_set]; exact r.len, r.nd, fun m b q h1 h2 => ?_⟩
  by_cases hm : m = n
  · subst hm
    obtain ⟨hn, _⟩ := List.getElem?_eq_some_iff.mp h
    rw [List.getElem?_set_self (by rw [← r.len]; exact hn)] at h2
    cases h2
    rw [h] at h1
    cases h1
    exact ho
  · rw [List.getElem?_set_ne (Ne.symm hm)] at h2
    refine (r.ob m b q h1 h2).up (ext_put r h hz) ?_
    refine upd_ne fun z => hm ?_
    subst z
    obtain ⟨l1, e1⟩ := List.getElem?_eq_some_iff.mp h1
    obtain ⟨l2, e2⟩ := List.getElem?_eq_some_iff.mp h
    exact (List.getElem_inj r.nd).mp (e1.trans e2.symm)
end
def RelS (K : PySem.W.Frag) (as : List Addr) (H : Hp) (ρ : Ev) (σ : L2.St) : Prop := ρ.length = σ.length ∧ ∀ (i : Nat) (d : D), ρ[i]? = some (some d) → ∃ v, σ[i]? = some (some v) ∧ Rel K as H d v
def RelX (K : PySem.W.Frag) (as : List Addr) (H : Hp) (x : Exn) (cls : Value) (d : Option Addr) : Prop :=
  cls = .ref (He.ga K x.c) ∧ ∃ dd xs, d = some dd ∧ H dd = some (.xd (x.ns.zip xs)) ∧ RelL K as H x.ds xs
section
variable {K : PySem.W.Frag} {as as' : List Addr} {H H' : Hp} {ρ : Ev} {σ : L2.St}
theorem RelS.up (e : Ext K as H as' H') (r : RelS K as H ρ σ) : RelS K as' H' ρ σ := ⟨r.1, fun i d h => let ⟨v, h1, h2⟩ := r.2 i d h; ⟨v, h1, h2.up e⟩⟩
theorem RelS.set {i : Nat} {d : D} {v : V} (r : RelS K as H ρ σ) (h : Rel K as H d v) : RelS K as H (ρ.set i (some d)) (σ.set i (some v)) := by
  refine ⟨by simp [r.1], fun j e q => ?_⟩
  by_cases hj : i = j
  · subst hj
    by_cases hl : i < ρ.length
    · rw [List.getElem?_set_self hl] at q
      cases q
      exact ⟨v, List.getElem?_set_self (by rw [← r.1]; exact hl), h⟩
    · rw [List.getElem?_eq_none_iff.mpr (by simp; omega)] at q; cases q
  · rw [List.getElem?_set_ne hj] at q
    obtain ⟨w, h1, h2⟩ := r.2 j e q
    exact ⟨w, by rw [List.getElem?_set_ne hj]; exact h1, h2⟩
theorem RelS.unset {i : Nat} (r : RelS K as H ρ σ) : RelS K as H (ρ.set i none) (σ.set i none) := by
  refine ⟨by simp [r.1], fun j e q => ?_⟩
  by_cases hj : i = j
  · subst hj
    by_cases hl : i < ρ.length
    · rw [List.getElem?_set_self hl] at q; cases q
    · rw [List.getElem?_eq_none_iff.mpr (by simp; omega)] at q; cases q
  · rw [List.getElem?_set_ne hj] at q
    obtain ⟨w, h1, h2⟩ := r.2 j e q
    exact ⟨w, by rw [List.getElem?_set_ne hj]; exact h1, h2⟩
end
end MV
namespace MV
open PySem PySem.Spec PyProof.Rows L2
abbrev DK := D → Mem → Prop
abbrev XM := Exn → Mem → Prop
abbrev ME := Ev → Mem → DK → XM → Prop
abbrev MT := Ev → Mem → (Bool → Mem → Prop) → XM → Prop
abbrev MA := Ev → Mem → (List D → Mem → Prop) → XM → Prop
structure Nd where
  nx : Ev → Mem → Prop
  rt : DK
  bk : Ev → Mem → Prop
  ct : Ev → Mem → Prop
  ex : Exn → Ev → Mem → Prop
abbrev MS := Nd → Ev → Mem → Prop
def LQ (K : PySem.W.Frag) (as : List Addr) (H : Hp) (Q : VK) : DK := fun d M' => ∀ as' H' v, Ext K as H as' H' → RepM K as' H' M' → Rel K as' H' d v → Q v H'
def LT (K : PySem.W.Frag) (as : List Addr) (H : Hp) (Q : Bool → Hp → Prop) : Bool → Mem → Prop := fun b M' => ∀ as' H', Ext K as H as' H' → RepM K as' H' M' → Q b H'
def LA (K : PySem.W.Frag) (as : List Addr) (H : Hp) (Q : List V → Hp → Prop) : List D → Mem → Prop := fun ds M' => ∀ as' H' vs, Ext K as H as' H' → RepM K as' H' M' → RelL K as' H' ds vs → Q vs H'
def LX (K : PySem.W.Frag) (as : List Addr) (H : Hp) (W : XK) : XM := fun x M' => ∀ as' H' cls d, Ext K as H as' H' → RepM K as' H' M' → RelX K as' H' x cls d → W cls d H'
def LS (K : PySem.W.Frag) (as : List Addr) (H : Hp) (N : L2.St → Hp → Prop) : Ev → Mem → Prop := fun ρ M' => ∀ as' H' σ, Ext K as H as' H' → RepM K as' H' M' → RelS K as' H' ρ σ → N σ H'
def LXS (K : PySem.W.Frag) (as : List Addr) (H : Hp) (W : WX) : Exn → Ev → Mem → Prop := fun x ρ M' => ∀ as' H' σ cls d, Ext K as H as' H' → RepM K as' H' M' → RelS K as' H' ρ σ → RelX K as' H' x cls d → W cls d σ H'
section
variable {K : PySem.W.Frag} {as as' : List Addr} {H H' : Hp} {Q : VK} {d : D} {M : Mem}
theorem LQ.mono (h : LQ K as H Q d M) (e : Ext K as H as' H') : LQ K as' H' Q d M := fun as2 H2 v e2 r q => h as2 H2 v (e.trans e2) r q
theorem LT.mono {Q : Bool → Hp → Prop} {b : Bool} (h : LT K as H Q b M) (e : Ext K as H as' H') : LT K as' H' Q b M := fun as2 H2 e2 r => h as2 H2 (e.trans e2) r
theorem LA.mono {Q : List V → Hp → Prop} {ds : List D} (h : LA K as H Q ds M) (e : Ext K as H as' H') : LA K as' H' Q ds M := fun as2 H2 v e2 r q => h as2 H2 v (e.trans e2) r q
theorem LX.mono {W : XK} {x : Exn} (h : LX K as H W x M) (e : Ext K as H as' H') : LX K as' H' W x M := fun as2 H2 c d e2 r q => h as2 H2 c d (e.trans e2) r q
theorem LS.mono {N : L2.St → Hp → Prop} {ρ : Ev} (h : LS K as H N ρ M) (e : Ext K as H as' H') : LS K as' H' N ρ M := fun as2 H2 c e2 r q => h as2 H2 c (e.trans e2) r q
theorem LXS.mono {W : WX} {x : Exn} {ρ : Ev} (h : LXS K as H W x ρ M) (e : Ext K as H as' H') : LXS K as' H' W x ρ M := fun as2 H2 c d y e2 r q => h as2 H2 c d y (e.trans e2) r q
end
def lf (K : PySem.W.Frag) (W : WX) (m : ME) : TE := fun σ H Q => ∃ as M ρ Q' X', RepM K as H M ∧ RelS K as H ρ σ ∧ m ρ M Q' X' ∧ (∀ d M', Q' d M' → LQ K as H Q d M') ∧ ∀ x M', X' x M' → LX K as H (fun c d H => W c d σ H) x M'
def lfT (K : PySem.W.Frag) (W : WX) (m : MT) : TT := fun σ H Q => ∃ as M ρ Q' X', RepM K as H M ∧ RelS K as H ρ σ ∧ m ρ M Q' X' ∧ (∀ d M', Q' d M' → LT K as H Q d M') ∧ ∀ x M', X' x M' → LX K as H (fun c d H => W c d σ H) x M'
def lfA (K : PySem.W.Frag) (W : WX) (m : MA) : TA := fun σ H Q => ∃ as M ρ Q' X', RepM K as H M ∧ RelS K as H ρ σ ∧ m ρ M Q' X' ∧ (∀ d M', Q' d M' → LA K as H Q d M') ∧ ∀ x M', X' x M' → LX K as H (fun c d H => W c d σ H) x M'
/-- ends of the mirror that are as good as D's -/
structure NdOk (K : PySem.W.Frag) (W : WX) (as : List Addr) (H : Hp) (E : Nd) (D : Ends) : Prop where
  nx : ∀ ρ M, E.nx ρ M → LS K as H D.nx ρ M
  rt : ∀ d M, E.rt d M → LQ K as H D.rt d M
  bk : ∀ ρ M, E.bk ρ M → LS K as H D.bk ρ M
  ct : ∀ ρ M, E.ct ρ M → LS K as H D.ct ρ M
  ex : ∀ x ρ M, E.ex x ρ M → LXS K as H W x ρ M
theorem NdOk.mono {K : PySem.W.Frag} {W : WX} {as as' : List Addr} {H H' : Hp} {E : Nd} {D : Ends} (h : NdOk K W as H E D) (e : Ext K as H as' H') : NdOk K W as' H' E D :=
  ⟨fun _ _ q => (h.nx _ _ q).mono e, fun _ _ q => (h.rt _ _ q).mono e, fun _ _ q => (h.bk _ _ q).mono e, fun _ _ q => (h.ct _ _ q).mono e, fun _ _ _ q => (h.ex _ _ _ q).mono e⟩
def lfS (K : PySem.W.Frag) (W : WX) (m : MS) : TS := fun D σ H => ∃ as M ρ E, RepM K as H M ∧ RelS K as H ρ σ ∧ m E ρ M ∧ NdOk K W as H E D
abbrev QE (X : Cx) (W : WX) (e : Expr) (m : ME) : Prop := PE X e (lf X.K W m)
abbrev QT (X : Cx) (W : WX) (e : Expr) (m : MT) : Prop := PT X e (lfT X.K W m)
abbrev QW (X : Cx) (W : WX) (e : Expr) (m : MT) : Prop := PW X e (lfT X.K W m)
abbrev QA (X : Cx) (W : WX) (es : List Expr) (m : MA) : Prop := PA X es (lfA X.K W m)
abbrev QS (X : Cx) (W : WX) (st : Stmt) (m : MS) : Prop := PS X st (lfS X.K W m)
abbrev QSs (X : Cx) (W : WX) (sts : List Stmt) (m : MS) : Prop := PSs X sts (lfS X.K W m)
section
variable {X : Cx} {e : Expr} {es : List Expr} {st : Stmt} {sts : List Stmt}
theorem PEi {t t' : TE} (h : PE X e t) (i : ∀ σ H Q, t' σ H Q → t σ H Q) : PE X e t' := ⟨fun pins s σ H Q I q => h.run pins s σ H Q I (i σ H Q q)⟩
theorem PTi {t t' : TT} (h : PT X e t) (i : ∀ σ H Q, t' σ H Q → t σ H Q) : PT X e t' := ⟨fun pins s σ H Q I q => h.run pins s σ H Q I (i σ H Q q)⟩
theorem PWi {t t' : TT} (h : PW X e t) (i : ∀ σ H Q, t' σ H Q → t σ H Q) : PW X e t' := ⟨fun wh pins s σ H Q I q => h.run wh pins s σ H Q I (i σ H Q q)⟩
theorem PAi {t t' : TA} (h : PA X es t) (i : ∀ σ H Q, t' σ H Q → t σ H Q) : PA X es t' := ⟨fun pos pins s σ H Q I q => h.run pos pins s σ H Q I (i σ H Q q)⟩
theorem PSi {t t' : TS} (h : PS X st t) (i : ∀ D σ H, t' D σ H → t D σ H) : PS X st t' := ⟨fun pins s σ H D I q => h.run pins s σ H D I (i D σ H q)⟩
theorem PSsi {t t' : TS} (h : PSs X sts t) (i : ∀ D σ H, t' D σ H → t D σ H) : PSs X sts t' := ⟨fun pins s σ H D I q => h.run pins s σ H D I (i D σ H q)⟩
end
section
variable {K : PySem.W.Frag} {W : WX} {as : List Addr} {H : Hp} {M : Mem} {ρ : Ev} {σ : L2.St} {X' : XM}
/-- a value has come: go on -/
theorem lf_bind {m : ME} {k : DK} {Q : VK} (r : RepM K as H M) (rs : RelS K as H ρ σ) (h : m ρ M k X') (hx : ∀ x M', X' x M' → LX K as H (fun c d H => W c d σ H) x M')
    (hk : ∀ d M' as' H' v, k d M' → Ext K as H as' H' → RepM K as' H' M' → RelS K as' H' ρ σ → Rel K as' H' d v → Q v H') : lf K W m σ H Q :=
  ⟨as, M, ρ, k, X', r, rs, h, fun d M' q as' H' v e r' q' => hk d M' as' H' v q e r' (rs.up e) q', hx⟩
theorem lfT_bind {m : MT} {k : Bool → Mem → Prop} {Q : Bool → Hp → Prop} (r : RepM K as H M) (rs : RelS K as H ρ σ) (h : m ρ M k X') (hx : ∀ x M', X' x M' → LX K as H (fun c d H => W c d σ H) x M')
    (hk : ∀ b M' as' H', k b M' → Ext K as H as' H' → RepM K as' H' M' → RelS K as' H' ρ σ → Q b H') : lfT K W m σ H Q :=
  ⟨as, M, ρ, k, X', r, rs, h, fun d M' q as' H' e r' => hk d M' as' H' q e r' (rs.up e), hx⟩
theorem lfA_bind {m : MA} {k : List D → Mem → Prop} {Q : List V → Hp → Prop} (r : RepM K as H M) (rs : RelS K as H ρ σ) (h : m ρ M k X') (hx : ∀ x M', X' x M' → LX K as H (fun c d H => W c d σ H) x M')
    (hk : ∀ ds M' as' H' vs, k ds M' → Ext K as H as' H' → RepM K as' H' M' → RelS K as' H' ρ σ → RelL K as' H' ds vs → Q vs H') : lfA K W m σ H Q :=
  ⟨as, M, ρ, k, X', r, rs, h, fun d M' q as' H' v e r' q' => hk d M' as' H' v q e r' (rs.up e) q', hx⟩
end
section
variable {X : Cx} {W : WX} {pos : Pos}
def mVar (i : Nat) : ME := fun ρ M Q _ => match ρ[i]? with | some (some d) => Q d M | _ => False
def mC (d : D) : ME := fun _ M Q _ => Q d M
theorem qe_var {i : Nat} {x : Str} (hN : X.N[i]? = some x) (hv : Vis X.env.scope x) (hd : (x == ("__debug__" : Str)) = false := by decide) (hcd : (x == ("__classdict__" : Str)) = false := by decide) : QE X W (.Name x pos) (mVar i) :=
  PEi (pe_var hN hv hd hcd) fun σ H Q ⟨as, M, ρ, Q', X', r, rs, h, hq, hx⟩ => by
    unfold mVar at h
    split at h
    · rename_i d e
      obtain ⟨v, e2, rv⟩ := rs.2 i d e
      exact ⟨v, e2, hq d M h as H v .refl r rv⟩
    · exact h.elim
theorem lf_c {K : PySem.W.Frag} {d : D} {v : V} (hr : ∀ as H, Rel K as H d v) (σ : L2.St) (H : Hp) (Q : VK) (h : lf K W (mC d) σ H Q) : tC v σ H Q := by
  obtain ⟨as, M, ρ, Q', X', r, rs, h, hq, hx⟩ := h
  exact hq d M h as H v .refl r (hr as H)
theorem qe_int {i : Int} {j : Nat} : QE X W (.Constant (.int i) j pos) (mC (.int i)) := PEi pe_int (lf_c fun _ _ => .int i)
theorem qe_non {j : Nat} : QE X W (.Constant .none j pos) (mC .non) := PEi pe_non (lf_c fun _ _ => .non)
theorem qe_str {x : Str} {j : Nat} : QE X W (.Constant (.str x) j pos) (mC (.str x)) := PEi pe_str (lf_c fun _ _ => .str x)
theorem qe_gint {x : Str} {i : Int} (hg : Gl X x) (h : ∃ t, X.mg x = some (.int i t)) (hd : (x == ("__debug__" : Str)) = false := by decide) : QE X W (.Name x pos) (mC (.int i)) := PEi (DW.pe_gint hg h hd) (lf_c fun _ _ => .int i)
theorem qe_gstr {x z : Str} (hg : Gl X x) (h : ∃ t, X.mg x = some (.str z t)) (hd : (x == ("__debug__" : Str)) = false := by decide) : QE X W (.Name x pos) (mC (.str z)) := PEi (DW.pe_gstr hg h hd) (lf_c fun _ _ => .str z)
end
abbrev OP := D → D → Mem → DK → Prop
abbrev OU := D → Mem → DK → Prop
abbrev OA := List D → Mem → DK → Prop
def SimO (K : PySem.W.Frag) (r : R2) (o : OP) : Prop := ∀ (as : List Addr) (H : Hp) (M : Mem) (dx dy : D) (x y : V) (k : DK) (Q : VK), RepM K as H M → Rel K as H dx x → Rel K as H dy y → o dx dy M k → (∀ d M', k d M' → LQ K as H Q d M') → r x y H Q
def SimU (K : PySem.W.Frag) (r : V → Hp → VK → Prop) (o : OU) : Prop := ∀ (as : List Addr) (H : Hp) (M : Mem) (dx : D) (x : V) (k : DK) (Q : VK), RepM K as H M → Rel K as H dx x → o dx M k → (∀ d M', k d M' → LQ K as H Q d M') → r x H Q
def SimA (K : PySem.W.Frag) (r : List V → Hp → VK → Prop) (o : OA) : Prop := ∀ (as : List Addr) (H : Hp) (M : Mem) (ds : List D) (vs : List V) (k : DK) (Q : VK), RepM K as H M → RelL K as H ds vs → o ds M k → (∀ d M', k d M' → LQ K as H Q d M') → r vs H Q
def mOp (o : OP) (ma mb : ME) : ME := fun ρ M Q X => ma ρ M (fun x M1 => mb ρ M1 (fun y M2 => o x y M2 Q) X) X
def mUn (o : OU) (ma : ME) : ME := fun ρ M Q X => ma ρ M (fun x M1 => o x M1 Q) X
def mCB (o : OA) (ma : MA) : ME := fun ρ M Q X => ma ρ M (fun xs M1 => o xs M1 Q) X
section
variable {K : PySem.W.Frag} {W : WX}
theorem lf_op {r : R2} {o : OP} {ma mb : ME} (hs : SimO K r o) (σ : L2.St) (H : Hp) (Q : VK) (h : lf K W (mOp o ma mb) σ H Q) : tOp r (lf K W ma) (lf K W mb) σ H Q := by
  obtain ⟨as, M, ρ, Q', X', rp, rs, h, hq, hx⟩ := h
  refine lf_bind rp rs h hx fun dx M1 as1 H1 x h1 e1 r1 rs1 rx => ?_
  refine lf_bind r1 rs1 h1 (fun x M' q => (hx x M' q).mono e1) fun dy M2 as2 H2 y h2 e2 r2 rs2 ry => ?_
  exact hs as2 H2 M2 dx dy x y Q' Q r2 (rx.up e2) ry h2 fun d M' q => (hq d M' q).mono (e1.trans e2)
theorem lf_un {r : V → Hp → VK → Prop} {o : OU} {ma : ME} (hs : SimU K r o) (σ : L2.St) (H : Hp) (Q : VK) (h : lf K W (mUn o ma) σ H Q) : tUn r (lf K W ma) σ H Q := by
  obtain ⟨as, M, ρ, Q', X', rp, rs, h, hq, hx⟩ := h
  refine lf_bind rp rs h hx fun dx M1 as1 H1 x h1 e1 r1 rs1 rx => ?_
  exact hs as1 H1 M1 dx x Q' Q r1 rx h1 fun d M' q => (hq d M' q).mono e1
theorem lf_cb {r : List V → Hp → VK → Prop} {o : OA} {ma : MA} (hs : SimA K r o) (σ : L2.St) (H : Hp) (Q : VK) (h : lf K W (mCB o ma) σ H Q) : tCB r (lfA K W ma) σ H Q := by
  obtain ⟨as, M, ρ, Q', X', rp, rs, h, hq, hx⟩ := h
  refine lfA_bind rp rs h hx fun ds M1 as1 H1 vs h1 e1 r1 rs1 rv => ?_
  exact hs as1 H1 M1 ds vs Q' Q r1 rv h1 fun d M' q => (hq d M' q).mono e1
theorem SimO.or {r r' : R2} {o o' : OP} (h : SimO K r o) (h' : SimO K r' o') : SimO K (fun x y H Q => r x y H Q ∨ r' x y H Q) (fun x y M Q => o x y M Q ∨ o' x y M Q) := fun as H M dx dy x y k Q rp rx ry q hk => by
  rcases q with q | q
  · exact .inl (h as H M dx dy x y k Q rp rx ry q hk)
  · exact .inr (h' as H M dx dy x y k Q rp rx ry q hk)
end
section
variable {X : Cx} {W : WX} {a b : Expr} {es : List Expr} {ma mb mc : ME} {pos : Pos}
theorem qe_op {op : Operator} {r : R2} {o : OP} (ho : OpR X (binaryOp op) r) (hs : SimO X.K r o) (ha : QE X W a ma) (hb : QE X W b mb) : QE X W (.BinOp a op b pos) (mOp o ma mb) := PEi (pe_op ho ha hb) (lf_op hs)
theorem qe_un {op : UnaryOp} {r : V → Hp → VK → Prop} {o : OU} (ho : UnR X (unaryOp op) r) (hs : SimU X.K r o) (ha : QE X W a ma) : QE X W (.UnaryOp op a pos) (mUn o ma) := PEi (pe_un ho ha) (lf_un hs)
theorem qe_cmp {op : CmpOp} {r : R2} {o : OP} (ho : OpR X (compareOp op) r) (hs : SimO X.K r o) (ha : QE X W a ma) (hb : QE X W b mb) (hm : behindInMarks op b = false) : QE X W (.Compare a [op] [b] pos) (mOp o ma mb) := PEi (pe_cmpR ho ha hb hm) (lf_op hs)
theorem qe_ix {r : R2} {o : OP} (hr : IxR X r) (hs : SimO X.K r o) (ha : QE X W a ma) (hb : QE X W b mb) (hp : PlainIx b) : QE X W (.Subscript a b pos) (mOp o ma mb) := PEi (pe_ix hr ha hb hp) (lf_op hs)
def mNil : MA := fun _ M Q _ => Q [] M
def mCons (ma : ME) (mr : MA) : MA := fun ρ M Q X => ma ρ M (fun x M1 => mr ρ M1 (fun xs M2 => Q (x :: xs) M2) X) X
theorem qa_nil : QA X W [] mNil := PAi pa_nil fun σ H Q ⟨as, M, ρ, Q', X', r, rs, h, hq, hx⟩ => hq [] M h as H [] .refl r .nil
theorem qa_cons {mr : MA} (ha : QE X W a ma) (hr : QA X W es mr) (hs : starEach (a :: es) X.env = (false, eval a X.env) :: starEach es X.env := by rfl) : QA X W (a :: es) (mCons ma mr) :=
  PAi (pa_cons ha hr hs) fun σ H Q ⟨as, M, ρ, Q', X', r, rs, h, hq, hx⟩ => by
    refine lf_bind r rs h hx fun dx M1 as1 H1 x h1 e1 r1 rs1 rx => ?_
    refine lfA_bind r1 rs1 h1 (fun x M' q => (hx x M' q).mono e1) fun ds M2 as2 H2 vs h2 e2 r2 rs2 rv => ?_
    exact hq _ _ h2 as2 H2 _ (e1.trans e2) r2 (.cons (rx.up e2) rv)
def oTup : OA := fun ds M Q => ds.length ≤ 1000 ∧ Q (.tup ds) M
def oLst : OA := fun ds M Q => ds.length ≤ 1000 ∧ Q (.ref M.length) (M ++ [.lst ds])
theorem app_at {α : Type} {l : List α} {a : α} : (l ++ [a])[l.length]? = some a := by simp
theorem le_size {n : Nat} (h : n ≤ 1000) : n ≤ sizeLine := Nat.le_trans h (by decide)
/-- a new tuple is laid -/
theorem new_tup {K : PySem.W.Frag} {as : List Addr} {H : Hp} {M : Mem} {ds : List D} {xs : List V} {p : Addr} {k : DK} {Q : VK} (r : RepM K as H M) (rv : RelL K as H ds xs) (hp : H p = none) (h : k (.tup ds) M) (hk : ∀ d M', k d M' → LQ K as H Q d M') : Q (.ref p) (upd H p (.tup xs)) :=
  hk _ _ h as _ _ (ext_new hp) (r.laid hp) (.tup Tq.new (rv.up (ext_new hp)))
theorem new_obj {K : PySem.W.Frag} {as : List Addr} {H : Hp} {M : Mem} {o : O} {u : HO} {p : Addr} {k : DK} {Q : VK} (r : RepM K as H M) (hp : H p = none) (ho : OR K (as ++ [p]) (upd H p u) o p) (h : k (.ref M.length) (M ++ [o])) (hk : ∀ d M', k d M' → LQ K as H Q d M') : Q (.ref p) (upd H p u) :=
  hk _ _ h (as ++ [p]) _ _ ((ext_new hp).trans ext_app) (r.new hp ho) (.ref (by rw [← r.len]; exact app_at))
theorem new_lst {K : PySem.W.Frag} {as : List Addr} {H : Hp} {M : Mem} {ds : List D} {xs : List V} {p : Addr} {k : DK} {Q : VK} (r : RepM K as H M) (rv : RelL K as H ds xs) (hp : H p = none) (h : k (.ref M.length) (M ++ [.lst ds])) (hk : ∀ d M', k d M' → LQ K as H Q d M') : Q (.ref p) (upd H p (.lst xs)) :=
  new_obj (o := .lst ds) r hp ⟨xs, upd_same, rv.up ((ext_new hp).trans ext_app)⟩ h hk
theorem qe_tup {n : Nat} {ma : MA} (ha : QA X W es ma) : QE X W (.Tuple es n pos) (mCB oTup ma) := PEi (pe_tup ha) fun σ H Q ⟨as, M, ρ, Q', X', r, rs, h, hq, hx⟩ => by
  refine lfA_bind r rs h hx fun ds M1 as1 H1 vs h1 e1 r1 rs1 rv => ?_
  exact ⟨by rw [← rv.len]; exact le_size h1.1, fun p hp => new_tup r1 rv hp h1.2 fun d M' q => (hq d M' q).mono e1⟩
theorem qe_lst {ma : MA} (ha : QA X W es ma) : QE X W (.List es pos) (mCB oLst ma) := PEi (pe_lst ha) fun σ H Q ⟨as, M, ρ, Q', X', r, rs, h, hq, hx⟩ => by
  refine lfA_bind r rs h hx fun ds M1 as1 H1 vs h1 e1 r1 rs1 rv => ?_
  exact ⟨by rw [← rv.len]; exact le_size h1.1, fun p hp => new_lst r1 rv hp h1.2 fun d M' q => (hq d M' q).mono e1⟩
end
section
variable {X : Cx} {W : WX} {a b c : Expr} {rest : List Expr} {ma mb mc : ME} {ta tb tc : MT} {pos : Pos}
def mB (ma : ME) : MT := fun ρ M Q X => ma ρ M (fun x M1 => match x with | .bl k => Q k M1 | _ => False) X
def mAnd (t u : MT) : MT := fun ρ M Q X => t ρ M (fun k M1 => if k = true then u ρ M1 Q X else Q false M1) X
def mOr (t u : MT) : MT := fun ρ M Q X => t ρ M (fun k M1 => if k = true then Q true M1 else u ρ M1 Q X) X
def mNot (t : MT) : MT := fun ρ M Q X => t ρ M (fun k M1 => Q (!k) M1) X
theorem lfT_b {K : PySem.W.Frag} {σ : L2.St} {H : Hp} {Q : Bool → Hp → Prop} (h : lfT K W (mB ma) σ H Q) : tTest (lf K W ma) σ H Q := by
  obtain ⟨as, M, ρ, Q', X', r, rs, h, hq, hx⟩ := h
  refine lf_bind r rs h hx fun dx M1 as1 H1 x h1 e1 r1 rs1 rx => ?_
  cases rx with
  | bl k => exact ⟨k, rfl, hq k M1 h1 as1 H1 e1 r1⟩
  | _ => exact h1.elim
theorem qt_cmp {op : CmpOp} {r : R2} {o : OP} (ho : OpR X (compareOp op) r) (hs : SimO X.K r o) (ha : QE X W a ma) (hb : QE X W b mb) (hm : behindInMarks op b = false) : QT X W (.Compare a [op] [b] pos) (mB (mOp o ma mb)) :=
  PTi (pt_cmpR ho ha hb hm) fun σ H Q h => by
    have h2 := lfT_b h
    exact lf_op hs σ H _ h2
theorem qw_or1 (ha : QT X W a ta) : QW X W (.BoolOp .Or [a] pos) ta := pw_or1 ha
theorem qw_or (ha : QT X W a ta) (hb : QW X W (.BoolOp .Or (b :: rest) pos) tb) : QW X W (.BoolOp .Or (a :: b :: rest) pos) (mOr ta tb) := PWi (pw_or ha hb) fun σ H Q ⟨as, M, ρ, Q', X', r, rs, h, hq, hx⟩ => by
  refine lfT_bind r rs h hx fun k M1 as1 H1 h1 e1 r1 rs1 => ?_
  cases k with
  | true => exact hq true M1 h1 as1 H1 e1 r1
  | false => exact ⟨as1, M1, ρ, Q', X', r1, rs1, h1, fun d M' q => (hq d M' q).mono e1, fun x M' q => (hx x M' q).mono e1⟩
theorem qt_not (ha : QT X W a ta) : QT X W (.UnaryOp .Not a pos) (mNot ta) := PTi (pt_not ha) fun σ H Q ⟨as, M, ρ, Q', X', r, rs, h, hq, hx⟩ =>
  lfT_bind r rs h hx fun k M1 as1 H1 h1 e1 r1 _ => hq (!k) M1 h1 as1 H1 e1 r1
/-- a value's truth -/
def tru (x : D) (M : Mem) (Q : Bool → Mem → Prop) : Prop := match x with
  | .non => Q false M
  | .bl b => Q b M
  | .int i => Q (i != 0) M
  | .str y => y.length ≤ 16000000 ∧ Q ((y.length : Int) != 0) M
  | .tup ds => Q (!ds.isEmpty) M
  | .ref n => match M[n]? with
    | some (.lst ds) => Q (!ds.isEmpty) M
    | some (.dct false kvs) => Q (!kvs.isEmpty) M
    | _ => False
  | _ => False
def mTru (ma : ME) : MT := fun ρ M Q X => ma ρ M (fun x M1 => tru x M1 Q) X
theorem RelL.isEmpty {K : PySem.W.Frag} {as : List Addr} {H : Hp} {ds : List D} {vs : List V} (h : RelL K as H ds vs) : ds.isEmpty = vs.isEmpty := by cases h <;> rfl
theorem KVR.isEmpty {K : PySem.W.Frag} {as : List Addr} {H : Hp} {κ : Type} {ds : List (κ × D)} {vs : List (κ × V)} (h : KVR K as H ds vs) : ds.isEmpty = vs.isEmpty := by cases h <;> rfl
theorem tru_ok {K : PySem.W.Frag} {as : List Addr} {H : Hp} {M : Mem} {d : D} {x : V} {k : Bool → Mem → Prop} {Q : Bool → Hp → Prop} (rp : RepM K as H M) (rx : Rel K as H d x) (h : tru d M k) (hk : ∀ b M', k b M' → LT K as H Q b M') : ∃ b, TruV K x H b ∧ Q b H := by
  cases rx with
  | non => exact ⟨false, rfl, hk _ _ h as H .refl rp⟩
  | bl b => exact ⟨b, rfl, hk _ _ h as H .refl rp⟩
  | int i => exact ⟨_, rfl, hk _ _ h as H .refl rp⟩
  | str y => exact ⟨_, ⟨Nat.le_trans h.1 (by decide), rfl⟩, hk _ _ h.2 as H .refl rp⟩
  | tup hs hl => exact ⟨_, .inr (.inl ⟨_, hs.1, rfl⟩), by rw [← hl.isEmpty]; exact hk _ _ h as H .refl rp⟩
  | ref hn =>
    rename_i n a
    dsimp only [tru] at h
    split at h
    · rename_i ds e
      obtain ⟨a', ha, xs, h1, h2⟩ := rp.at_ e
      rw [hn] at ha; cases ha
      exact ⟨_, .inl ⟨xs, SqL.of h1, rfl⟩, by rw [← h2.isEmpty]; exact hk _ _ h as H .refl rp⟩
    · rename_i kvs e
      obtain ⟨a', ha, ks, h1, h2⟩ := rp.at_ e
      rw [hn] at ha; cases ha
      exact ⟨_, .inr (.inr ⟨ks, h2, rfl⟩), by rw [← h1.isEmpty]; exact hk _ _ h as H .refl rp⟩
    · exact h.elim
  | _ => exact h.elim
theorem qt_tru (ha : QE X W a ma) (he : ∀ whole, isTrue a X.env whole = (do let v ← whole; standAt a.pos; holding [v] (truthy v))) : QT X W a (mTru ma) := PTi (pt_truth ha he) fun σ H Q ⟨as, M, ρ, Q', X', r, rs, h, hq, hx⟩ => by
  refine lf_bind r rs h hx fun dx M1 as1 H1 x h1 e1 r1 rs1 rx => ?_
  exact tru_ok r1 rx h1 fun b M' q => (hq b M' q).mono e1
def mAndV (ma mb : ME) : ME := fun ρ M Q X => ma ρ M (fun x M1 => match x with | .bl k => if k = true then mb ρ M1 Q X else Q (.bl false) M1 | _ => False) X
def mOrV (ma mb : ME) : ME := fun ρ M Q X => ma ρ M (fun x M1 => match x with | .bl k => if k = true then Q (.bl true) M1 else mb ρ M1 Q X | _ => False) X
def mIf (t : MT) (ma mb : ME) : ME := fun ρ M Q X => t ρ M (fun k M1 => if k = true then ma ρ M1 Q X else mb ρ M1 Q X) X
def mChain (o o' : OP) (ma mb mc : ME) : ME := fun ρ M Q X => ma ρ M (fun x M1 => mb ρ M1 (fun y M2 => o x y M2 fun z M3 => match z with | .bl k => if k = true then mc ρ M3 (fun w M4 => o' y w M4 Q) X else Q (.bl false) M3 | _ => False) X) X
theorem qe_one {op : BoolOp} (ha : QE X W a ma) : QE X W (.BoolOp op [a] pos) ma := pe_one ha
theorem qe_or (ha : QE X W a ma) (hb : QE X W (.BoolOp .Or (b :: rest) pos) mb) : QE X W (.BoolOp .Or (a :: b :: rest) pos) (mOrV ma mb) := PEi (pe_or ha hb) fun σ H Q ⟨as, M, ρ, Q', X', r, rs, h, hq, hx⟩ => by
  refine lf_bind r rs h hx fun dx M1 as1 H1 x h1 e1 r1 rs1 rx => ?_
  cases rx with
  | bl k =>
    refine ⟨k, rfl, ?_⟩
    cases k with
    | true => exact hq _ M1 h1 as1 H1 _ e1 r1 (.bl true)
    | false => exact ⟨as1, M1, ρ, Q', X', r1, rs1, h1, fun d M' q => (hq d M' q).mono e1, fun x M' q => (hx x M' q).mono e1⟩
  | _ => exact h1.elim
theorem qe_ifExp (hc : QT X W c tc) (ha : QE X W a ma) (hb : QE X W b mb) : QE X W (.IfExp c a b pos) (mIf tc ma mb) := PEi (pe_ifExp hc ha hb) fun σ H Q ⟨as, M, ρ, Q', X', r, rs, h, hq, hx⟩ => by
  refine lfT_bind r rs h hx fun k M1 as1 H1 h1 e1 r1 rs1 => ?_
  cases k with
  | true => exact ⟨as1, M1, ρ, Q', X', r1, rs1, h1, fun d M' q => (hq d M' q).mono e1, fun x M' q => (hx x M' q).mono e1⟩
  | false => exact ⟨as1, M1, ρ, Q', X', r1, rs1, h1, fun d M' q => (hq d M' q).mono e1, fun x M' q => (hx x M' q).mono e1⟩
theorem lf_chain {K : PySem.W.Frag} {r r' : R2} {o o' : OP} (hs : SimO K r o) (hs' : SimO K r' o') (σ : L2.St) (H : Hp) (Q : VK) (h : lf K W (mChain o o' ma mb mc) σ H Q) : tChain r r' (lf K W ma) (lf K W mb) (lf K W mc) σ H Q := by
  obtain ⟨as, M, ρ, Q', X', rp, rs, h, hq, hx⟩ := h
  refine lf_bind rp rs h hx fun dx M1 as1 H1 x h1 e1 r1 rs1 rx => ?_
  refine lf_bind r1 rs1 h1 (fun x M' q => (hx x M' q).mono e1) fun dy M2 as2 H2 y h2 e2 r2 rs2 ry => ?_
  refine hs as2 H2 M2 dx dy x y _ _ r2 (rx.up e2) ry h2 fun dz M3 q3 as3 H3 z e3 r3 rz => ?_
  cases rz with
  | bl k =>
    refine ⟨k, rfl, ?_⟩
    have e4 := (e1.trans e2).trans e3
    cases k with
    | true =>
      rw [if_pos rfl]
      refine lf_bind r3 (rs2.up e3) q3 (fun x M' q => (hx x M' q).mono e4) fun dw M4 as4 H4 w h4 e5 r4 rs4 rw' => ?_
      exact hs' as4 H4 M4 dy dw y w Q' Q r4 (ry.up (e3.trans e5)) rw' h4 fun d M' q => (hq d M' q).mono (e4.trans e5)
    | false =>
      rw [if_neg Bool.false_ne_true]
      exact hq _ M3 q3 as3 H3 _ e4 r3 (.bl false)
  | _ => exact q3.elim
theorem qt_chain {op op' : CmpOp} {r r' : R2} {o o' : OP} (ho : OpR X (compareOp op) r) (hs : SimO X.K r o) (ho' : OpR X (compareOp op') r') (hs' : SimO X.K r' o') (ha : QE X W a ma) (hb : QE X W b mb) (hc : QE X W c mc) (hm : lastMarks [op, op'] [b, c] = false := by with_unfolding_all rfl) :
    QT X W (.Compare a [op, op'] [b, c] pos) (mB (mChain o o' ma mb mc)) := PTi (pt_chain ho ho' ha hb hc hm) fun σ H Q h => lf_chain hs hs' σ H _ (lfT_b h)
end
end MV
namespace MV
open PySem PySem.Spec PyProof.Rows L2
/-- from c on, the contexts are those at the addresses l, the last one's is None -/
def Lks (G : Heap) : List Addr → Value → Prop
  | [], c => c = .none
  | x :: l, c => c = .ref x ∧ ∃ o vs c', G.get? x = some o ∧ o.data = .fields vs ∧ vs[2]? = some c' ∧ Lks G l c'
theorem Lks.up {G G' : Heap} : ∀ {l : List Addr} {c : Value}, (∀ x ∈ l, ∀ o, G.get? x = some o → G'.get? x = some o) → Lks G l c → Lks G' l c
  | [], _, _, h => h
  | x :: l, _, k, ⟨e, o, vs, c', h1, h2, h3, r⟩ => ⟨e, o, vs, c', k x (by simp) o h1, h2, h3, Lks.up (fun y hy => k y (by simp [hy])) r⟩
theorem Lks.at_ {G : Heap} : ∀ {l : List Addr} {c : Value}, Lks G l c → ∀ x ∈ l, ∃ o vs, G.get? x = some o ∧ o.data = .fields vs
  | [], _, _, _, hx => by cases hx
  | y :: l, _, ⟨_, o, vs, _, h1, h2, _, r⟩, x, hx => by
    rcases List.mem_cons.mp hx with rfl | hx
    · exact ⟨o, vs, h1, h2⟩
    · exact r.at_ x hx
/-- the object's context leads to None within B; none of its links is tracked -/
def CtxL (B : Heap) (H : Hp) (o : Obj) : Prop := ∀ vs : Array Value, o.data = .fields vs → ∃ c l, vs[2]? = some c ∧ Lks B l c ∧ ∀ x ∈ l, H x = none
theorem CtxL.none {B : Heap} {H : Hp} {o : Obj} {vs : Array Value} (hd : o.data = .fields vs) (h : vs[2]? = some .none) : CtxL B H o := fun vs' e => by
  rw [hd] at e; cases e
  exact ⟨.none, [], h, rfl, fun _ z => by cases z⟩
def Zk (B : Heap) (H : Hp) (cls : Value) (d : Option Addr) : Obj → Prop := fun o => o.cls = cls ∧ o.dict = d ∧ CtxL B H o
theorem Zk.steady {B : Heap} {H : Hp} {cls : Value} {d : Option Addr} : PXN.Steady1 (Zk B H cls d) := fun o v ⟨h1, h2, h3⟩ => by
  refine ⟨PXN.steady_cls o v h1, PXN.steady_dict o v h2, fun vs e => ?_⟩
  obtain ⟨oc, od, dt, sl⟩ := o
  cases dt with
  | fields v0 =>
    have e2 : v0.setIfInBounds 1 v = vs := Data.fields.inj e
    subst e2
    obtain ⟨c, l, g1, g2⟩ := h3 v0 rfl
    exact ⟨c, l, by rw [Array.getElem?_setIfInBounds_ne (by decide)]; exact g1, g2⟩
  | _ => cases e
theorem Zk.zc {B : Heap} {H : Hp} {cls : Value} {d : Option Addr} {o : Obj} (h : Zk B H cls d o) : Zc cls d o := ⟨h.1, h.2.1⟩
/-- an exception in the air of X -/
structure AirAt (X : Cx) (W : WX) (s' : Shared) (a : Addr) (B : Heap) (sI : Shared) (pins : List (Addr × Obj)) (σ : L2.St) (H : Hp) (cls : Value) (d : Option Addr) : Prop where
  inv : Inv X pins σ H sI
  low : ∀ b o, sI.heap.get? b = some o → b ∉ frs X.stack → B.get? b = some o
  up : sI.heap.UpToSlots s'.heap
  sky : Sky B X.stack a (Zk B H cls d) X.env.locals s'.heap
  na : H a = none
  os : s'.os = sI.os
  ag : AllBare s'.gens
  w : W cls d σ H
def XE (X : Cx) (W : WX) (u : Value) (s' : Shared) : Prop := ∃ a B sI pins σ H cls d, u = .ref a ∧ AirAt X W s' a B sI pins σ H cls d
def Takes (X : Cx) (W : WX) : Prop := ∀ u s', XE X W u s' → X.xe u s'
/-- behind a call that let one out -/
structure OutAt (P : Program) (w : World) (outer : List Env) (H : Hp) (s : Shared) (E : XK) (s' : Shared) (a : Addr) (B : Heap) (H' : Hp) (cls : Value) (d : Option Addr) : Prop where
  fl : HandSPX.FlyingZ B outer a (Zk B H' cls d) s'.heap
  hok : HOk P w H' B
  ub : UB (frs outer) H H' s.heap B s'.heap
  na : H' a = none
  os : s'.os = s.os
  ag : AllBare s'.gens
  e : E cls d H'
def CX (P : Program) (w : World) : CXT := fun outer H s E u s' => ∃ a B H' cls d, u = .ref a ∧ OutAt P w outer H s E s' a B H' cls d
section
variable {X : Cx} {pins : List (Addr × Obj)} {σ : L2.St} {H : Hp} {sI s s' : Shared} {B : Heap} {W : WX} {E : XK}
theorem XE.of_call (I : Inv X pins σ H s) (hW : ∀ cls d H', E cls d H' → W cls d σ H') {u : Value} (c : CX X.prog X.w X.stack H s E u s') : XE X W u s' := by
  obtain ⟨a, B, H', cls, d, rfl, c⟩ := c
  obtain ⟨G, gy, gn⟩ := restrict s'.heap fun b => (B.get? b).isSome || decide (b ∈ frs X.stack)
  have inB : ∀ b o, B.get? b = some o → G.get? b = some o := fun b o z => (gy b (by simp [z])).trans (c.fl.1 b o z)
  have inF : ∀ b, b ∈ frs X.stack → G.get? b = s'.heap.get? b := fun b z => gy b (by simp [z])
  have out : ∀ b o, G.get? b = some o → s'.heap.get? b = some o ∧ (b ∉ frs X.stack → B.get? b = some o) := fun b o z => by
    by_cases hF : b ∈ frs X.stack
    · exact ⟨(inF b hF).symm.trans z, fun n => absurd hF n⟩
    · cases q : B.get? b with
      | none =>
        have := gn b (by simp [q, hF])
        rw [this] at z; cases z
      | some o' =>
        have := inB b o' q
        rw [this] at z; cases z
        exact ⟨c.fl.1 b _ q, fun _ => rfl⟩
  refine ⟨a, B, { s with heap := G, gens := s'.gens, drawn := s'.drawn, toks := s'.toks }, pins, σ, H', cls, d, rfl, ?_, fun b o z n => (out b o z).2 n, Heap.UpToSlots.of_keeps fun b o z => (out b o z).1, .inr (.inl c.fl), c.na, c.os, c.ag, hW _ _ _ c.e⟩
  have U : Un (frs X.stack) [] H H' s.heap G := {
    keep := fun b o z n hb _ => inB b o (c.ub.keep b o z n hb)
    slot := fun b o z n hb _ => by
      obtain ⟨sl, q⟩ := c.ub.slot b o z hb
      exact ⟨sl, (inF b hb).trans q⟩
    free := fun b o z n _ => c.ub.free b o z n
    there := fun b o z _ => by
      by_cases hF : b ∈ frs X.stack
      · obtain ⟨sl, q⟩ := c.ub.slot b o z hF
        exact ⟨_, (inF b hF).trans q⟩
      · obtain ⟨o', q⟩ := c.ub.there b o z hF
        exact ⟨o', inB b o' q⟩
    tups := c.ub.tups
    frzs := c.ub.frzs
    tbls := c.ub.tbls }
  exact I.call (ch := []) U (c.hok.kept inB) c.ag (fun _ z => by cases z)
/-- a new one -/
theorem XE.new {a : Addr} {oe : Obj} {vs : Array Value} {cls : Value} {d : Option Addr} {l : List Addr} {c : Value} (I : Inv X pins σ H sI) (k : ∀ b o, sI.heap.get? b = some o → s'.heap.get? b = some o) (hne : sI.heap.get? a = none) (he : s'.heap.get? a = some oe)
    (hc : oe.cls = cls) (hdd : oe.dict = d) (hd : oe.data = .fields vs) (h1 : vs[1]? = some .none) (h2 : vs[2]? = some c) (hl : Lks sI.heap l c) (hF : ∀ x ∈ l, x ∉ frs X.stack) (hH : ∀ x ∈ l, H x = none)
    (na : H a = none) (os : s'.os = sI.os) (ag : AllBare s'.gens) (w : W cls d σ H) : XE X W (.ref a) s' := by
  have hB : (PySem.W.hideAll sI.heap (frs X.stack)).get? a = none := by
    cases q : (PySem.W.hideAll sI.heap (frs X.stack)).get? a with
    | none => rfl
    | some o =>
      have z := PySem.W.of_hideAll _ q
      rw [hne] at z; cases z
  have hz : Zk (PySem.W.hideAll sI.heap (frs X.stack)) H cls d oe := ⟨hc, hdd, fun vs' e => by
    rw [hd] at e; cases e
    exact ⟨c, l, h2, hl.up fun x hx o z => PySem.W.hideAll_get _ z (hF x hx), hH⟩⟩
  refine ⟨a, PySem.W.hideAll sI.heap (frs X.stack), sI, pins, σ, H, cls, d, rfl, I, fun b o e hb => PySem.W.hideAll_get _ e hb, Heap.UpToSlots.of_keeps k, .inl ⟨fun b o e => k b o (PySem.W.of_hideAll _ e), hB, ?_, oe, vs, he, hz, hd, h1⟩, na, os, ag, w⟩
  exact Heap.FunFrames.of_keeps (fun b o e _ => ⟨o, k b o e, rfl⟩) (funFrames_none I.stack fun b hb => PySem.W.hideAll_none _ hb)
/-- it leaves the def -/
theorem XE.leave (hs : X.stack = X.env :: X.outer) (hf : X.env.frame = some X.env.locals) (hex : X.ex = []) {E₁ : Value → Shared → Prop} (hW : ∀ cls d σ H, W cls d σ H → E cls d H) {u : Value} (x : XE X W u s') :
    wpAny (model X.prog X.w) X.A (leaving X.env u) (fun _ s'' => CX X.prog X.w X.outer X.H_0 X.s_0 E u s'') E₁ s' := by
  obtain ⟨a, B, sI, pins, σ, H, cls, d, rfl, x⟩ := x
  have I := x.inv
  have hfr : X.A.frames = some (X.env :: X.outer) := by rw [I.ok.frames, hs]
  have off : ∀ b o, X.s_0.heap.get? b = some o → b ∉ X.fs → b ∉ frs X.stack := fun b o e hb hm => by
    rcases List.mem_cons.mp (I.stkSub b hm) with z | z
    · have h1 := Heap.lt_size e
      have h2 := I.ok.above
      rw [z] at h1
      exact Nat.not_lt.mpr h2 h1
    · exact hb z
  have noex : ∀ b, b ∉ X.ex := fun b hb => by rw [hex] at hb; cases hb
  have fin : ∀ h', HandSPX.FlyingZ B X.outer a (Zk B H cls d) h' → s'.heap.UpToSlots h' → CX X.prog X.w X.outer X.H_0 X.s_0 E (.ref a) { s' with heap := h' } := fun h' fl up' => by
    refine ⟨a, B, H, cls, d, rfl, fl, I.inGround x.low, ?_, x.na, x.os.trans I.os, x.ag, hW _ _ _ _ x.w⟩
    exact {
      keep := fun b o e n hb => x.low b o (I.base.keep b o e n hb (noex b)) (off b o e hb)
      slot := fun b o e hb => by
        obtain ⟨_, o₀, e₀, hnf⟩ := I.ok.funs.mem hb
        rw [e] at e₀; cases e₀
        obtain ⟨sl, e1⟩ := I.base.slot b o e (I.ok.frf b hb) hb (noex b)
        obtain ⟨sl2, e2⟩ := x.up b _ e1 hnf
        obtain ⟨sl3, e3⟩ := up' b _ e2 hnf
        exact ⟨sl3, e3⟩
      free := fun b o e n => I.base.free b o e n (noex b)
      there := fun b o e hb => by
        obtain ⟨o', e1⟩ := I.base.there b o e (noex b)
        exact ⟨o', x.low b o' e1 (off b o e hb)⟩
      tups := I.base.tups
      frzs := I.base.frzs
      tbls := I.base.tbls }
  have sky := x.sky
  rw [hs] at sky
  rcases sky with ⟨hB, hn, hl, oe, vs, he, hz, hd, h1⟩ | fl | hd
  · exact PXN.leaving_firstZ Zk.steady hfr hl hf he hB hn hd h1 hz fin
  · exact PXN.leaves_onZ Zk.steady hfr hf fl fin
  · exact HandSPX.leaves_heldZ hf hd fin
theorem takes_of (hs : X.stack = X.env :: X.outer) (hf : X.env.frame = some X.env.locals) (hex : X.ex = []) {E₁ : Value → Shared → Prop}
    (hx : X.xe = fun e s' => wpAny (model X.prog X.w) X.A (leaving X.env e) (fun _ s'' => CX X.prog X.w X.outer X.H_0 X.s_0 E e s'') E₁ s') : Takes X (fun cls d _ H => E cls d H) := fun u s' x => by
  rw [hx]
  exact XE.leave (W := fun cls d _ H => E cls d H) (E := E) hs hf hex (fun _ _ _ _ h => h) x
theorem passAt (tk : Takes X W) (σ : L2.St) : PassesAt (CX X.prog X.w) X σ (WE W σ) := fun _ _ _ e s' I c => tk e s' (XE.of_call I (fun _ _ _ h => h) c)
end
theorem unchain_ok {prog : Program} {w : World} {A : Around} {R : Result → Shared → Prop} {a : Addr} {s : Shared} (q : R (.ok (.ret .none)) s)
    (l : List Addr) : ∀ (pre : List Addr) (x : Addr) (slow : Value) (tg : Bool), a ∉ l → Lks s.heap (x :: l) (.ref x) → Lks s.heap (pre ++ x :: l) slow → codeAny (model prog w) A (.builtin "proto.unchain" ⟨[.ref a, .ref x, slow, .bool tg], []⟩) R s := by
  induction l with
  | nil =>
    rintro pre x slow tg hnl ⟨_, o, vs, c, h1, h2, h3, r⟩ hs
    refine codeAny_builtin HotX.entry_unchain ?_
    show wpAny _ _ (field (.ref x) 2 >>= _) _ _ s
    refine wpAny_bind (wpAny_field h1 h2 h3 ?_)
    have r' : c = .none := r
    subst r'
    rw [if_pos (show (Value.none == Value.none) = true from rfl)]
    first
    | exact wpAny_bind (wpAny_pure (wpAny_pure q))
    | exact wpAny_pure q
  | cons y l ih =>
    rintro pre x slow tg hnl ⟨_, o, vs, c, h1, h2, h3, r⟩ hs
    refine codeAny_builtin HotX.entry_unchain ?_
    show wpAny _ _ (field (.ref x) 2 >>= _) _ _ s
    refine wpAny_bind (wpAny_field h1 h2 h3 ?_)
    obtain ⟨rfl, o2, vs2, c2, g1, g2, g3, r2⟩ := id r
    have hya : y ≠ a := fun z => hnl (z ▸ List.mem_cons_self)
    have hnl' : a ∉ l := fun z => hnl (List.mem_cons_of_mem _ z)
    rw [if_neg (show ¬ (Value.ref y == Value.none) = true by simp)]
    rw [if_neg (show ¬ (Value.ref y == Value.ref a) = true by simp [hya])]
    have go : ∀ pre' slow', Lks s.heap (pre' ++ y :: l) slow' → codeAny (model prog w) A (.builtin "proto.unchain" ⟨[.ref a, .ref y, slow', .bool (!tg)], []⟩) R s := fun pre' slow' h => ih pre' y slow' (!tg) hnl' r h
    split
    · refine wpAny_bind (wpAny_rule ?_)
      first
      | exact wpAny_bind (wpAny_pure (wpAny_pure q))
      | exact wpAny_pure q
    · cases tg with
      | false =>
        have h := go (pre ++ [x]) slow (by simpa using hs)
        refine wpAny_bind (wpAny_pure ?_)
        exact wpAny_pure ⟨Code.quiet_builtin _ (by decide +kernel), h⟩
      | true =>
        obtain ⟨z, zs, ez⟩ : ∃ z zs, pre ++ x :: y :: l = z :: zs := by
          cases pre with
          | nil => exact ⟨_, _, rfl⟩
          | cons p ps => exact ⟨_, _, rfl⟩
        rw [ez] at hs
        obtain ⟨rfl, oz, vz, cz, z1, z2, z3, rz⟩ := hs
        have hzs : ∃ pre', zs = pre' ++ y :: l := by
          cases pre with
          | nil => cases ez; exact ⟨[], rfl⟩
          | cons p ps => cases ez; exact ⟨ps ++ [x], by simp⟩
        obtain ⟨pre', rfl⟩ := hzs
        refine wpAny_bind (wpAny_field z1 z2 z3 ?_)
        exact wpAny_pure ⟨Code.quiet_builtin _ (by decide +kernel), go pre' cz rz⟩
/-- what stands at a behind raise .. from .. -/
structure RaisedAt (h h' : Heap) (a x1 : Addr) (cls : Value) (d : Option Addr) : Prop where
  keep : ∀ b, b ≠ a → h'.get? b = h.get? b
  obj : ∃ o vs, h'.get? a = some o ∧ o.cls = cls ∧ o.dict = d ∧ o.data = .fields vs ∧ vs[1]? = some .none ∧ vs[2]? = some (.ref x1)
def freshX (cls : Value) (d : Option Addr) (t0 : Addr) : Obj := { cls := cls, dict := d, data := .fields #[.ref t0, .none, .none, .none, .bool false, .none] }
end MV
namespace MV
open PySem PySem.Spec PyProof.Rows L2
abbrev RoomU := L2H.RoomH
theorem roomU_make {k : Nat} {A : Around} (r : RoomU (k + 1) A) (C : Addr) (us : List Value) (kw : List (Str × Value)) : RoomU k (A.under (.builtin "type.__call__" ⟨.ref C :: us, kw⟩)) :=
  ⟨by have := r.dp; rw [make_depth]; omega, by have := r.un; rw [make_units]; omega⟩
structure FnU (P : Program) (w : World) (K : PySem.W.Frag) (mg : Str → Option Value) (base : Heap) (k : Nat) (f : Addr) (fd : FuncData) (ps : List Str) (sp : Sp) : Prop where
  len : ∀ vs H Q E, sp vs H Q E → vs.length = ps.length
  run : ∀ (A : Around) (outer : List Env) (s : Shared) (H : Hp) (args : Args) (us : List Value) (vs : List V) (Q : VK) (E : XK), RoomU k A → Env0 P w K mg base A outer s H → BindsTo s fd args (ps.zip us) → Vals vs us → sp vs H Q E →
    codeAny (model P w) A (.call (.ref f) args) (CR CX0 outer P w H s Q E) s
section
variable {P : Program} {w : World} {K : PySem.W.Frag} {mg : Str → Option Value} {base : Heap} {k : Nat} {f : Addr} {fd : FuncData} {ps : List Str} {sp : Sp}
theorem FnU.ok (F : FnU P w K mg base k f fd ps sp) : FnOk P w K mg base CX0 k f fd ps sp := ⟨F.len, fun A outer s H args us vs Q E hr => F.run A outer s H args us vs Q E (L2H.roomH_of hr)⟩
def cxU (P : Program) (w : World) (K : PySem.W.Frag) (mg : Str → Option Value) (base : Heap) (N : List Str) (qual : Str) (scope : Scope) (f : Addr) (cd : Value) (A : Around) (outer : List Env) (s : Shared) (H : Hp) (E : XK) : Cx :=
  { cxOf CX0 P w K mg base N qual scope f cd A outer s H E with calm := false }
theorem inv_startU {N : List Str} {qual : Str} {scope : Scope} {cd : Value} {A : Around} {outer : List Env} {s s1 : Shared} {H : Hp} {E : XK} {us : List Value} {vs : List V}
    (S : FnScope N ps scope) (e0 : Env0 P w K mg base A outer s H) (hl : vs.length = ps.length) (r : Vals vs us)
    (x : InCallC s s.heap.objs.size (bindL (envOfC qual scope s.heap.objs.size f cd).kindOf (ps.zip us) fun _ => none) (cellsFrom (s.heap.objs.size + 1) scope.names []) (bindC (envOfC qual scope s.heap.objs.size f cd).kindOf (ps.zip us) fun _ => none) s1) :
    Inv (cxU P w K mg base N qual scope f cd A outer s H E) [] (start N vs) H s1 := by
  have I := inv_start (CX := CX0) (A := { A with handled := none }) (E := E) S rfl ⟨e0.frames, e0.mod, e0.bs, e0.bsz, e0.funs, e0.frf, e0.hok, e0.bare⟩ hl r x
  have ok : (cxU P w K mg base N qual scope f cd A outer s H E).Ok := ⟨I.ok.mod, I.ok.kind, I.ok.glob, I.ok.blt, I.ok.above, I.ok.inj, I.ok.has, I.ok.cab, (fun z => Bool.noConfusion (show false = true from z)), Around.frames_deeper e0.frames, I.ok.stk, I.ok.exf, I.ok.bs, I.ok.bsz, I.ok.noex, I.ok.exfs, I.ok.funs, I.ok.frf⟩
  exact ⟨ok, I.os, I.bare, I.base, I.loc, I.cell, I.free, I.freeC, I.pin, I.hok, I.len⟩
theorem _root_.L2.FunD.okU {x qual : Str} {params : Arguments} {body : List Stmt} {scope : Scope} {dvs : List V} {kws : List (Str × V)} {N : List Str} (F : FunD K x qual params body scope dvs kws f fd) (S : FnScope N ps scope) (len : ∀ vs H Q E, sp vs H Q E → vs.length = ps.length)
    (hbody : ∀ (cdv : Value) (A : Around) (outer : List Env) (s : Shared) (H : Hp) (vs : List V) (Q : VK) (E : XK), RoomU k (A.deeper (envOfC qual scope s.heap.objs.size f cdv)) → sp vs H Q E →
      ∃ t, PSs (cxU P w K mg base N qual scope f cdv A outer s H E) body t ∧ t { nx := fun _ H' => Q .non H', rt := Q } (start N vs) H) : FnU P w K mg base (k + 1) f fd ps sp := by
  obtain ⟨oc, od, dV, kV, doc, pm, an, cdv, ct, osl, rfl, lk, hcd, _, _⟩ := F.ex
  refine ⟨len, fun A outer s H args us vs Q E hr e0 hb r hsp => ?_⟩
  have KX : K.In s.heap := e0.mod.kin.keeps fun b o e => (e0.bs b o e).1
  have lim : s.heap.NoLimit := e0.mod.nolimit.keeps fun b o e => (e0.bs b o e).1
  have kinds : ∀ y ∈ ps.zip us, scope.names.lookup y.1 = some .local ∨ (scope.names.lookup y.1 = some .cell ∧ ((cellsFrom (s.heap.objs.size + 1) scope.names []).lookup y.1).isSome = true) := fun y hy => by
    rcases S.par y.1 (List.of_mem_zip (show (y.1, y.2) ∈ _ from hy)).1 with q | q
    · exact .inl q
    · exact .inr ⟨q, PySem.W.cellsFrom_some _ _ _ (.inl q)⟩
  refine codeAny_call_function hr.depth (KX _ _ lk) rfl S.co S.gen rfl (PySem.W.codeRec_of KX hcd) (hb _ _ _ _ ?_)
  refine wpAny_newFunctionEnv_cells S.kind kinds fun env he s1 x => ?_
  subst he
  refine ⟨lim.keeps x.toInCall.keep, codeAny_func ?_⟩
  obtain ⟨t, ht, hq⟩ := hbody cdv A outer s H vs Q E (hr.deeper _) hsp
  have I := inv_startU (E := E) S e0 (len _ _ _ _ hsp) r x
  refine wpAny_mono (ht.run [] s1 (start N vs) H _ I hq) (fun fl s' hs => ?_) fun e s' hs => hs
  have fin : ∀ {σ' : L2.St} {H' : Hp} {v : V} {u : Value}, Inv (cxU P w K mg base N qual scope f cdv A outer s H E) [] σ' H' s' → RelV v u → Q v H' → CE outer P w H s Q u s' :=
    fun {σ' H' v u} J rv q => ⟨v, H', J.os, J.bare, J.base, J.hok, rv, q⟩
  cases fl with
  | ret u => obtain ⟨v, σ', H', J, rv, q⟩ := hs; exact fin J rv q
  | next => obtain ⟨σ', H', J, q⟩ := hs; exact fin (v := V.non) (u := Value.none) J rfl q
  | brk => obtain ⟨_, _, _, q⟩ := hs; exact q.elim
  | cont => obtain ⟨_, _, _, q⟩ := hs; exact q.elim
end
/-- methods by class and name -/
structure FnMU (P : Program) (w : World) (K : PySem.W.Frag) (mg : Str → Option Value) (base : Heap) (k : Nat) (x m : Str) (ps : List Str) (sp : Sp) : Prop where
  ok : ∃ fd, FnU P w K mg base k (He.ma K (He.ga K x) m) fd ps sp ∧ Binds K fd ps []
section
variable {X : Cx} {k : Nat} {f : Addr} {fd : FuncData} {ps : List Str} {sp : Sp} {x : Str} {fs : List Str} {p p1 p2 pos : Pos} {e : Expr} {es : List Expr} {ta t : TA}
theorem run_fU {pins : List (Addr × Obj)} {σ : L2.St} {H : Hp} {s : Shared} {Q : VK} {us : List Value} {vs : List V} (F : FnU X.prog X.w X.K X.mg X.base k f fd ps sp) (hr : RoomU k X.A) (hb : Binds X.K fd ps [])
    (I : Inv X pins σ H s) (r : Vals vs us) (h : sp vs H Q E0) : wpAny (model X.prog X.w) X.A (call (.ref f) us) (EP X pins σ Q) X.xe s := by
  have hl : us.length = ps.length := by rw [← r.length]; exact F.len _ _ _ _ h
  have b := hb s us I.kIn (by rw [List.append_nil]; exact hl)
  rw [List.append_nil] at b
  refine wpAny_call (codeAny_mono (F.run X.A X.stack s H ⟨us, []⟩ us vs Q E0 hr I.env0 b r h) fun r s' hq => ?_)
  cases r with
  | error e => exact (show False from hq).elim
  | ok fl =>
    cases fl with
    | ret u => exact I.after hq
    | next => exact (show False from hq).elim
    | brk => exact (show False from hq).elim
    | cont => exact (show False from hq).elim
/-- C.__init__(self, ..) -/
theorem pe_initU {pl : Sem Bool} (c : DW.ExcX X.K X.mg x fs) (F : FnMU X.prog X.w X.K X.mg X.base k x "__init__" ps sp) (hr : RoomU k X.A) (hg : Gl X x) (ha : PA X (e :: es) t) (hdb : (x == ("__debug__" : Str)) = false := by decide)
    (hc : eval (.Call (.Attribute (.Name x p1) "__init__" p2) (e :: es) [] pos) X.env = (do
      let ov ← eval (.Name x p1) X.env
      standAt p2.atName
      let (f, first) ← holding [ov] (getMethod ov "__init__" pl)
      callWith pos f first (backTo pos (starEach (e :: es) X.env)) (backToKw pos (keywordEach [] X.env))) := by rfl)
    (he : starEach (e :: es) X.env = (false, eval e X.env) :: starEach es X.env := by rfl) (hpl : (backTo pos (starEach es X.env)).any (·.1) = false := by rfl) :
    PE X (.Call (.Attribute (.Name x p1) "__init__" p2) (e :: es) [] pos) (tCall sp [] E0 t) := by
  obtain ⟨fd, G, hb⟩ := F.ok
  refine ⟨fun pins s σ H Q I h => ?_⟩
  refine PySem.W.methodCall_KW (pl := pl) (ld_glob I hg c.g ?_ hdb) hc
  refine PySem.W.method_cls I.kIn c.cf.ga (PySem.W.cls_value I.kIn c.cf.rd c.cf.at_ rfl ?_)
  refine PySem.W.callWith_K (h₀ := X.base) I.ok.mod.kin c.cf.kp (thn (ha.run pos pins _ σ H _ (I.tok (s.toks + 1)) h) fun us s1 ⟨vs, H1, I1, r, q⟩ => ⟨I1.kIn, ?_⟩) he hpl
  have q : sp (vs ++ []) H1 Q E0 := q
  rw [List.append_nil] at q
  exact run_fU G hr hb I1 r q
end
def MkK (X : Cx) (pins : List (Addr × Obj)) (σ : L2.St) (Q : XK) (u : Value) (s' : Shared) : Prop :=
  ∃ a t0 sI H' cls d, u = .ref a ∧ Inv X pins σ H' sI ∧ (∀ b o, sI.heap.get? b = some o → s'.heap.get? b = some o) ∧ sI.heap.get? a = none ∧ s'.heap.get? a = some (freshX cls d t0) ∧ H' a = none ∧ s'.os = sI.os ∧ AllBare s'.gens ∧ Raises X cls ∧ Q cls d H'
def PMkK (X : Cx) (e : Expr) (t : L2.St → Hp → XK → Prop) : Prop :=
  ∀ (pins : List (Addr × Obj)) (s : Shared) (σ : L2.St) (H : Hp) (Q : XK), Inv X pins σ H s → t σ H Q → wpAny (model X.prog X.w) X.A (eval e X.env) (MkK X pins σ Q) X.xe s
section
variable {X : Cx} {k : Nat} {ps : List Str} {sp : Sp} {x : Str} {fs : List Str} {p pos : Pos} {e : Expr} {es : List Expr} {ta : TA}
theorem mk_core {pins : List (Addr × Obj)} {σ : L2.St} {H1 : Hp} {s1 : Shared} {Q : XK} {us : List Value} {vs : List V} (c : DW.ExcX X.K X.mg x fs) (F : FnMU X.prog X.w X.K X.mg X.base k x "__init__" ps sp) (hr : RoomU (k + 1) X.A) (I1 : Inv X pins σ H1 s1) (r1 : Vals vs us) (hz : vs.length ≤ 1000)
    (q1 : ∀ a, H1 a = none → sp (.ref a :: vs) (upd H1 a (exo a (He.ga X.K x) none)) (fun v H2 => v = .non ∧ ∃ (d : Addr) (fs : List (Str × V)), H2 a = some (exo a (He.ga X.K x) (some d)) ∧ H2 d = some (exd d fs) ∧ H1 d = none ∧ Q (.ref (He.ga X.K x)) (some d) (upd (del H2 a) d (.xd fs))) E0) :
    wpAny (model X.prog X.w) X.A (call (.ref (He.ga X.K x)) us) (MkK X pins σ Q) X.xe s1 := by
  obtain ⟨fd, G, hb⟩ := F.ok
  have T := c.oex
  obtain ⟨nm, q, N, bs, bm, sn, sub, ab, col, dd, k0, k1, k2, k3, k5, hC, hbm⟩ := T.cls
  generalize hCe : He.ga X.K x = C at *
  obtain ⟨hp, g, dr, tk, os⟩ := s1
  have up1 : hp.objs.size ≤ hp.objs.size + 1 := Nat.le_succ _
  have hq := q1 (hp.objs.size + 1) (I1.hok.fresh up1)
  have kk : ∀ b o, hp.get? b = some o → ((hp.push (PySem.W.kdv_tup us)).push (PySem.HandSPX.excO C hp.objs.size)).get? b = some o := fun b o z => Heap.get?_push_of_some _ (Heap.get?_push_of_some _ z)
  have hget : ((hp.push (PySem.W.kdv_tup us)).push (PySem.HandSPX.excO C hp.objs.size)).get? (hp.objs.size + 1) = some (PySem.HandSPX.excO C hp.objs.size) := by heap_get
  have I2 : Inv X pins σ (upd H1 (hp.objs.size + 1) (exo (hp.objs.size + 1) C none)) ⟨(hp.push (PySem.W.kdv_tup us)).push (PySem.HandSPX.excO C hp.objs.size), g, dr, tk, os⟩ := I1.laid kk up1 (exo_ok hget)
  have r2 : Vals (V.ref (hp.objs.size + 1) :: vs) (Value.ref (hp.objs.size + 1) :: us) := .cons rfl r1
  have hl : (Value.ref (hp.objs.size + 1) :: us).length = ps.length := by rw [← r2.length]; exact G.len _ _ _ _ hq
  have hus : us.length ≤ sizeLine := by rw [← Paired.length r1, sizeLine_eq]; omega
  have b2 := hb _ (Value.ref (hp.objs.size + 1) :: us) I2.kIn (by rw [List.append_nil]; exact hl)
  rw [List.append_nil] at b2
  have hi : PySem.W.findIn X.K (.ref C) "__init__" = some (some (.ref (He.ma X.K C "__init__"))) := by rw [← hCe]; exact c.init
  have ht : PySem.W.typeIn X.K (.ref (He.ma X.K C "__init__")) = some (.type "function") := by rw [← hCe]; exact c.tI
  refine wpAny_call (PySem.HandSPX.call_own PySem.F.excBase_ValueError (fun Y => PySem.HandSPX.refsVE_contains Y bm hbm) (I1.kIn _ _ hC) (PySem.W.looks_findIn I1.kIn hi) (fun self => PySem.W.bind_fn I1.kIn self ht) hus
    (codeAny_mono (G.run _ X.stack _ _ ⟨Value.ref (hp.objs.size + 1) :: us, []⟩ (Value.ref (hp.objs.size + 1) :: us) _ _ E0 (roomU_make hr C us []) (I2.env0.make C us []) b2 r2 hq) fun r s' hq' => ?_))
  cases r with
  | error er => exact (show False from hq').elim
  | ok fl =>
    cases fl with
    | ret u =>
      obtain ⟨v, H2, os2, bare2, un2, hok2, rv, ev, d, fl, ea, ed, hd1, q2⟩ := hq'
      subst ev
      obtain ⟨h2, g2, d2, t2, os'⟩ := s'
      obtain ⟨t0, G2, J, kG, ge, hoe, na⟩ := mk_end0 (d2 := d2) (t2 := t2) I1 up1 kk un2 hok2 os2 bare2 ea ed hd1
      exact ⟨rv, ⟨_, t0, ⟨G2, g2, d2, t2, os'⟩, _, .ref C, some d, rfl, J, kG, ge, hoe, na, rfl, bare2, raises_own T.exC T.tyC, q2⟩⟩
    | next => exact (show False from hq').elim
    | brk => exact (show False from hq').elim
    | cont => exact (show False from hq').elim
theorem pmk_xU (c : DW.ExcX X.K X.mg x fs) (F : FnMU X.prog X.w X.K X.mg X.base k x "__init__" ps sp) (hr : RoomU (k + 1) X.A) (hg : Gl X x) (ha : PA X (e :: es) ta) (hdb : (x == ("__debug__" : Str)) = false := by decide)
    (he : starEach (e :: es) X.env = (false, eval e X.env) :: starEach es X.env := by rfl) (hpl : (backTo pos (starEach es X.env)).any (·.1) = false := by rfl) : PMkK X (.Call (.Name x p) (e :: es) [] pos) (tMkO (He.ga X.K x) sp [] ta) := by
  intro pins s σ H Q I h
  refine wpAny_Call_Name_kw (ld_glob I hg c.g ?_ hdb)
  refine PySem.W.callWith_K (h₀ := X.base) I.ok.mod.kin c.oex.kC (thn (ha.run pos pins s σ H _ I h) fun us s1 ⟨vs, H1, I1, r1, hz, q1⟩ => ⟨I1.kIn, ?_⟩) he hpl
  refine mk_core c F hr I1 r1 hz fun a n => ?_
  have := q1 a n
  rw [List.append_nil] at this
  exact this
end
end MV
namespace MV
open PySem PySem.Spec PyProof.Rows L2
/-- where nothing is handled -/
theorem ps_raiseK {X : Cx} {W : WX} {e : Expr} {t : L2.St → Hp → XK → Prop} {pos : Pos} (hc : X.calm = true) (tk : Takes X W) (he : PMkK X e t) : PS X (.Raise (some e) none pos) (fun _ σ H => t σ H fun cls d H' => W cls d σ H') := by
  refine ⟨fun pins s σ H D I h => ?_⟩
  show wpAny _ _ (do standAt pos; raiseStmt X.env (some (do let v ← eval e X.env; standAt pos; pure v)) none) _ _ _
  refine wpAny_bind (wpAny_standAt (raise_made (I.ok.hd hc) (wpAny_bind (wpAny_mono (he pins s σ H _ I h) (fun u s1 hu => wpAny_bind (wpAny_standAt (wpAny_pure ?_))) fun _ _ x => x))))
  obtain ⟨a, t0, sI, H', cls, d, rfl, J, k, hne, ha, na, os, ag, r, q⟩ := hu
  obtain ⟨r1, r2⟩ := r (model X.prog X.w) s1.heap (J.kIn.keeps k)
  exact ⟨a, freshX cls d t0, _, cls, rfl, ha, rfl, rfl, rfl, r1, r2, tk _ _ (XE.new (l := []) (c := .none) J k hne ha rfl rfl rfl rfl rfl rfl (fun _ z => by cases z) (fun _ z => by cases z) na os ag q)⟩
/-- the pins hold the exception that is handled and what its contexts lead to -/
def LksP (pn : List (Addr × Obj)) : List Addr → Value → Prop
  | [], c => c = .none
  | x :: l, c => c = .ref x ∧ ∃ o vs c', (x, o) ∈ pn ∧ o.data = .fields vs ∧ vs[2]? = some c' ∧ LksP pn l c'
theorem LksP.lks {pn : List (Addr × Obj)} {G : Heap} (k : ∀ p ∈ pn, G.get? p.1 = some p.2) : ∀ {l : List Addr} {c : Value}, LksP pn l c → Lks G l c
  | [], _, h => h
  | x :: l, _, ⟨e, o, vs, c', h1, h2, h3, r⟩ => ⟨e, o, vs, c', k (x, o) h1, h2, h3, LksP.lks k r⟩
theorem LksP.mem {pn : List (Addr × Obj)} : ∀ {l : List Addr} {c : Value}, LksP pn l c → ∀ x ∈ l, ∃ o, (x, o) ∈ pn
  | [], _, _, _, hx => by cases hx
  | y :: l, _, ⟨_, o, vs, _, h1, _, _, r⟩, x, hx => by
    rcases List.mem_cons.mp hx with rfl | hx
    · exact ⟨o, h1⟩
    · exact r.mem x hx
theorem LksP.more {pn pn' : List (Addr × Obj)} (k : ∀ p ∈ pn, p ∈ pn') : ∀ {l : List Addr} {c : Value}, LksP pn l c → LksP pn' l c
  | [], _, h => h
  | x :: l, _, ⟨e, o, vs, c', h1, h2, h3, r⟩ => ⟨e, o, vs, c', k _ h1, h2, h3, LksP.more k r⟩
/-- such pins out of a heap -/
theorem LksP.of {G : Heap} : ∀ {l : List Addr} {c : Value}, Lks G l c → ∃ pl : List (Addr × Obj), LksP pl l c ∧ ∀ p ∈ pl, p.1 ∈ l ∧ G.get? p.1 = some p.2 ∧ ∃ vs, p.2.data = .fields vs
  | [], _, h => ⟨[], h, fun _ z => by cases z⟩
  | x :: l, _, ⟨e, o, vs, c', h1, h2, h3, r⟩ => by
    obtain ⟨pl, g1, g2⟩ := LksP.of r
    refine ⟨(x, o) :: pl, ⟨e, o, vs, c', by simp, h2, h3, g1.more fun p hp => by simp [hp]⟩, fun p hp => ?_⟩
    rcases List.mem_cons.mp hp with rfl | hp
    · exact ⟨by simp, h1, vs, h2⟩
    · obtain ⟨q1, q2⟩ := g2 p hp
      exact ⟨by simp [q1], q2⟩
def HotK (X : Cx) : Prop := ∃ x1 l, X.A.handled = some (.ref x1) ∧ LksP X.pn (x1 :: l) (.ref x1)
end MV
namespace MV
open PySem PySem.Spec PyProof.Rows L2
/-- noted: on the stack l, its flight is fl -/
structure TrZ (B : Heap) (l : List Env) (a : Addr) (Z : Obj → Prop) (fl : Value) (h : Heap) : Prop where
  st : B.StaysIn h
  no : B.get? a = none
  ff : h.FunFrames B l
  tr : HandSPX.TracedZ h B a Z fl
theorem TrZ.held {B : Heap} {l : List Env} {a L : Addr} {Z : Obj → Prop} {h : Heap} (x : TrZ B l a Z (rawInt L) h) : HandSPX.HeldZ B l a Z L h := ⟨x.st, x.no, x.ff, x.tr⟩
theorem TrZ.of_fly {B : Heap} {l : List Env} {a : Addr} {Z : Obj → Prop} {h : Heap} (x : HandSPX.FlyingZ B l a Z h) : TrZ B l a Z .none h := ⟨x.1, x.2.1, x.2.2.1, x.2.2.2⟩
theorem TrZ.of_held {B : Heap} {l : List Env} {a L : Addr} {Z : Obj → Prop} {h : Heap} (x : HandSPX.HeldZ B l a Z L h) : TrZ B l a Z (rawInt L) h := ⟨x.1, x.2.1, x.2.2.1, x.2.2.2⟩
section
variable {X : Cx} {pins : List (Addr × Obj)} {W : WX}
theorem air_mid {a : Addr} {B : Heap} {sI s3 : Shared} {σ : L2.St} {H : Hp} {cls fl : Value} {d : Option Addr} (hs : X.stack = X.env :: X.outer) (hf : X.env.frame = some X.env.locals) (hex : X.ex = []) (J : Inv X pins σ H sI)
    (low : ∀ b o, sI.heap.get? b = some o → b ∉ frs X.stack → B.get? b = some o) (up : sI.heap.UpToSlots s3.heap) (t : TrZ B (X.env :: X.outer) a (Zk B H cls d) fl s3.heap) (na : H a = none) (os : s3.os = sI.os) (ag : AllBare s3.gens) :
    ∃ (oe : Obj) (vs : Array Value) (T : Addr) (oT : Obj) (cp : List (Addr × Obj)), Zc cls d oe ∧ oe.data = .fields vs ∧ (∃ l, LksP ((a, oe) :: cp) (a :: l) (.ref a)) ∧ Inv X pins σ H s3 ∧
      (∀ p ∈ (a, oe) :: (T, oT) :: cp, s3.heap.get? p.1 = some p.2 ∧ H p.1 = none ∧ p.1 ≠ X.env.locals ∧ p.1 ∉ X.fs ∧ ∀ v, p.2.data ≠ .cell v) ∧
      ∀ (σ6 : L2.St) (H6 : Hp) (s6 : Shared), Inv X pins σ6 H6 s6 → (∀ p ∈ (a, oe) :: (T, oT) :: cp, s6.heap.get? p.1 = some p.2 ∧ H6 p.1 = none) →
        ∃ B6 sI6, Inv X pins σ6 H6 sI6 ∧ (∀ b o, sI6.heap.get? b = some o → b ∉ frs X.stack → B6.get? b = some o) ∧ sI6.heap.UpToSlots s6.heap ∧ TrZ B6 (X.env :: X.outer) a (Zk B6 H6 cls d) fl s6.heap ∧ H6 a = none ∧ s6.os = sI6.os ∧ AllBare s6.gens := by
  have J3 : Inv X pins σ H s3 := J.landed low t.st up os ag
  obtain ⟨oe, vs, T, oT, ts, ea, hz, hd, hv1, hnT, hTe, hT, hdT, ht3⟩ := t.tr
  obtain ⟨c, l, hc, hl, hH⟩ := hz.2.2 vs hd
  obtain ⟨cp, hcp, pcp⟩ := LksP.of hl
  have nT : H T = none := (J.inGround low).gone hnT
  have notFr : ∀ (b : Addr) (o : Obj) (fv : Array Value), s3.heap.get? b = some o → o.data = .fields fv → b ∉ frs (X.env :: X.outer) := fun b o fv e dd hm => by
    obtain ⟨_, o', e', hnf⟩ := t.ff.mem hm
    rw [e] at e'; cases e'
    exact hnf _ dd
  have locF : X.env.locals ∈ frs (X.env :: X.outer) := List.mem_filterMap.mpr ⟨X.env, List.mem_cons_self, hf⟩
  have fsF : ∀ b, b ∈ X.fs → b ∈ frs (X.env :: X.outer) := fun b hm => by
    obtain ⟨e, he, q⟩ := List.mem_filterMap.mp hm
    exact List.mem_filterMap.mpr ⟨e, List.mem_cons_of_mem _ he, q⟩
  have all : ∀ p ∈ (a, oe) :: (T, oT) :: cp, s3.heap.get? p.1 = some p.2 ∧ H p.1 = none ∧ ∃ fv, p.2.data = .fields fv := fun p hp => by
    rcases List.mem_cons.mp hp with rfl | hp
    · exact ⟨ea, na, vs, hd⟩
    rcases List.mem_cons.mp hp with rfl | hp
    · exact ⟨hT, nT, ts, hdT⟩
    · obtain ⟨p1, p2, fv, p3⟩ := pcp p hp
      exact ⟨t.st _ _ p2, hH _ p1, fv, p3⟩
  refine ⟨oe, vs, T, oT, cp, hz.zc, hd, ⟨l, rfl, oe, vs, c, by simp, hd, hc, hcp.more fun p hp => by simp [hp]⟩, J3, fun p hp => ?_, fun σ6 H6 s6 J6 pin6 => ?_⟩
  · obtain ⟨p1, p2, fv, p3⟩ := all p hp
    have nf := notFr _ _ _ p1 p3
    exact ⟨p1, p2, fun z => nf (z ▸ locF), fun z => nf (fsF _ z), fun v z => by rw [p3] at z; cases z⟩
  · obtain ⟨ga, na6⟩ := pin6 (a, oe) (by simp)
    obtain ⟨gT, nT6⟩ := pin6 (T, oT) (by simp)
    have fa : a ∉ frs X.stack := by rw [hs]; exact notFr a oe vs ea hd
    have fT : T ∉ frs X.stack := by rw [hs]; exact notFr T oT ts hT hdT
    have far : ∀ b o, sI.heap.get? b = some o → b ≠ a ∧ b ≠ T := fun b o e => by
      by_cases hb : b ∈ frs X.stack
      · exact ⟨fun z => fa (z ▸ hb), fun z => fT (z ▸ hb)⟩
      · have q := low b o e hb
        exact ⟨(fun z => by rw [z, t.no] at q; cases q), (fun z => by rw [z, hnT] at q; cases q)⟩
    have far0 : ∀ b o, X.s_0.heap.get? b = some o → b ≠ a ∧ b ≠ T := fun b o e => by
      obtain ⟨o', q⟩ := J.base.there b o e (by rw [hex]; simp)
      exact far b o' q
    have farP : ∀ p ∈ X.pn ++ pins, p.1 ≠ a ∧ p.1 ≠ T := fun p hp => far p.1 p.2 (J.pin p hp).1
    obtain ⟨G, gy, gn⟩ := restrict s6.heap fun b => !(decide (b = a) || decide (b = T))
    have gIn : ∀ b o, G.get? b = some o → s6.heap.get? b = some o ∧ b ≠ a ∧ b ≠ T := fun b o e => by
      cases q : (!(decide (b = a) || decide (b = T))) with
      | false => rw [gn b q] at e; cases e
      | true =>
        rw [gy b q] at e
        simp only [Bool.not_eq_true', Bool.or_eq_false_iff, decide_eq_false_iff_not] at q
        exact ⟨e, q.1, q.2⟩
    have gOf : ∀ b o, b ≠ a → b ≠ T → s6.heap.get? b = some o → G.get? b = some o := fun b o h1 h2 e => by
      rw [gy b (by simp [h1, h2])]; exact e
    have I6 : Inv X pins σ6 H6 { s6 with heap := G } := J6.less (fun b o e => (gIn b o e).1) gOf ⟨oe, vs, ga, hd⟩ ⟨oT, ts, gT, hdT⟩ na6 nT6 far0 farP
    have B6in : ∀ b o, (PySem.W.hideAll G (frs X.stack)).get? b = some o → s6.heap.get? b = some o := fun b o e => (gIn b o (PySem.W.of_hideAll _ e)).1
    have Bno : ∀ b, (b = a ∨ b = T) → (PySem.W.hideAll G (frs X.stack)).get? b = none := fun b hb => by
      cases q : (PySem.W.hideAll G (frs X.stack)).get? b with
      | none => rfl
      | some o =>
        obtain ⟨_, n1, n2⟩ := gIn b o (PySem.W.of_hideAll _ q)
        rcases hb with z | z
        · exact absurd z n1
        · exact absurd z n2
    have inB : ∀ p ∈ cp, (PySem.W.hideAll G (frs X.stack)).get? p.1 = some p.2 := fun p hp => by
      obtain ⟨p1, p2, fv, p3⟩ := pcp p hp
      have n1 : p.1 ≠ a := fun z => by rw [z, t.no] at p2; cases p2
      have n2 : p.1 ≠ T := fun z => by rw [z, hnT] at p2; cases p2
      refine PySem.W.hideAll_get _ (gOf _ _ n1 n2 (pin6 p (by simp [hp])).1) ?_
      rw [hs]
      exact notFr _ _ _ (t.st _ _ p2) p3
    have hz6 : Zk (PySem.W.hideAll G (frs X.stack)) H6 cls d oe := ⟨hz.1, hz.2.1, fun vs' e => by
      rw [hd] at e; cases e
      refine ⟨c, l, hc, hcp.lks inB, fun x hx => ?_⟩
      obtain ⟨o, ho⟩ := hcp.mem x hx
      exact (pin6 (x, o) (by simp [ho])).2⟩
    refine ⟨PySem.W.hideAll G (frs X.stack), { s6 with heap := G }, I6, fun b o e hb => PySem.W.hideAll_get _ e hb, Heap.UpToSlots.of_keeps fun b o e => (gIn b o e).1, ⟨B6in, Bno a (.inl rfl), ?_, oe, vs, T, oT, ts, ga, hz6, hd, hv1, Bno T (.inr rfl), hTe, gT, hdT, ht3⟩, na6, rfl, J6.bare⟩
    have ff := funFrames_none (B := PySem.W.hideAll G (frs X.stack)) J6.stack fun b hb => PySem.W.hideAll_none _ hb
    rw [← hs]
    exact ff
/-- it is noted by its frame -/
theorem air_note {M : Model} {A' : Around} {a : Addr} {B : Heap} {sI s' : Shared} {σ : L2.St} {H : Hp} {cls : Value} {d : Option Addr} {Q : Unit → Shared → Prop} {E : Value → Shared → Prop} (hs : X.stack = X.env :: X.outer) (hf : X.env.frame = some X.env.locals) (hfr : A'.frames = some (X.env :: X.outer))
    (x : AirAt X W s' a B sI pins σ H cls d) (hQ : ∀ h1, HandSPX.HeldZ B (X.env :: X.outer) a (Zk B H cls d) X.env.locals h1 → s'.heap.UpToSlots h1 → Q () { s' with heap := h1 }) : wpAny M A' (noteFrame (.ref a) X.env) Q E s' := by
  have sky := x.sky
  rw [hs] at sky
  rcases sky with ⟨hB, hn, hl, oe, vs, he0, hz, hd, hv1⟩ | fl | hh
  · exact PXN.look_newZ Zk.steady hfr hl hf he0 hB hn hd hv1 hz hQ
  · exact PXN.looks_onZ Zk.steady hfr hf fl hQ
  · exact HandSPX.againZ hf hh.2.2.2 (hQ s'.heap hh (Heap.UpToSlots.refl _))
/-- it came back to its frame: on it goes -/
theorem air_back {a : Addr} {B : Heap} {s' : Shared} {H : Hp} {cls : Value} {d : Option Addr} {A' : Around} {E : Value → Shared → Prop} {Q : Unit → Shared → Prop} (hf : X.env.frame = some X.env.locals) (hh : HandSPX.HeldZ B (X.env :: X.outer) a (Zk B H cls d) X.env.locals s'.heap)
    (h : ∀ h1, HandSPX.HeldZ B (X.env :: X.outer) a (Zk B H cls d) X.env.locals h1 → s'.heap.UpToSlots h1 → Q () { s' with heap := h1 }) (what : String) :
    wpAny (model X.prog X.w) A' (do
      if (← field (.ref a) 1) == .none then unsupported what
      setFlight (.ref a) X.env.frame) Q E s' := by
  obtain ⟨oe, vs, T, oT, ts, ea, hz, hd, hv1, _⟩ := hh.2.2.2
  refine wpAny_bind (wpAny_field ea hd hv1 ?_)
  rw [if_neg (show ¬ ((Value.ref T == Value.none) = true) from by simp)]
  have go : wpAny (model X.prog X.w) A' (setFlight (.ref a) X.env.frame) Q E s' := by
    rw [hf]
    exact HandSPX.setFlight_onZ hh h
  first
  | exact wpAny_bind (wpAny_pure go)
  | exact go
end
end MV
namespace MV
open PySem PySem.Spec PyProof.Rows L2
section
variable {prog : Program} {w : World} {A : Around} {E : Value → Shared → Prop} {s : Shared}
theorem raiseNew_K {α : Type} {a x1 : Addr} {l : List Addr} {oe : Obj} {vs : Array Value} {Q : α → Shared → Prop} (hh : A.handled = some (.ref x1)) (hl : Lks s.heap (x1 :: l) (.ref x1)) (hn : a ∉ x1 :: l) (ha : s.heap.get? a = some oe) (da : oe.data = .fields vs) (hi : 2 < vs.size)
    (hE : E (.ref a) { s with heap := s.heap.update a (Obj.mapFields (·.setIfInBounds 2 (.ref x1))) }) : wpAny (model prog w) A (raiseNew (.ref a) : Sem α) Q E s := by
  have hx1 : x1 ≠ a := fun z => hn (z ▸ List.mem_cons_self)
  have hnl : a ∉ l := fun z => hn (List.mem_cons_of_mem _ z)
  unfold raiseNew
  refine wpAny_bind (wpAny_handled ?_)
  rw [hh]
  show wpAny _ _ (if (Value.ref x1 != Value.ref a) = true then _ else _) _ _ _
  rw [if_pos (HotX.ref_bne hx1)]
  exact wpAny_bind (wpAny_holding (wpAny_runValue (unchain_ok (wpAny_bind (HotX.chained ha da hi (wpAny_throw hE))) l [] x1 (.ref x1) false hnl hl hl)))
theorem next_tup_endK {it t x1 : Addr} {i : Nat} {items} {l : List Addr} {Q : Option Value → Shared → Prop} (hh : A.handled = some (.ref x1)) (hl : Lks s.heap (x1 :: l) (.ref x1)) (hni : it ∉ x1 :: l)
    (hit : IsTupIter s.heap it t i) (ht : IsTup s.heap t items) (hx : items[i]? = none)
    (hQ : ∀ h', Heap.ExtBut it s.heap h' → Q none { s with heap := h' }) : wpAny (model prog w) A (pyNext (.ref it)) Q E s := by
  obtain ⟨o, ho, hc, hd⟩ := id hit
  obtain ⟨ol, hol, _, nl, hdl⟩ := ht
  unfold pyNext
  refine wpAny_bind (wpAny_attempt (wpAny_callSpecial?_slot (name := Str.ofString "__next__") hit.typeIs slot_tupleiter_next
    (wpAny_call_entry slot_tupleiter_next hit.typeIs entry_tupleiter_next ?_ (args_tupleiter_next _))))
  show wpAny _ _ (field (.ref it) 0 >>= _) _ _ s
  refine wpAny_bind (wpAny_field ho hd (x := .ref t) rfl ?_)
  show wpAny _ _ (if (Value.ref t == Value.none) = true then _ else _) _ _ s
  rw [if_neg (show ¬ ((Value.ref t == Value.none) = true) from Bool.false_ne_true)]
  show wpAny _ _ (field (.ref it) 1 >>= _) _ _ s
  refine wpAny_bind (wpAny_field ho hd (x := .int i 0) rfl ?_)
  show wpAny _ _ (seqItems? (.ref t) >>= _) _ _ s
  refine wpAny_bind (wpAny_seqItems hol hdl ?_)
  simp only [Int.toNat_natCast, hx]
  refine wpAny_bind (wpAny_rule (wpAny_bind (wpAny_setField ho hd (by simp) ?_)))
  show wpAny _ _ (newExc (.type "StopIteration") [] >>= _) _ _ _
  refine wpAny_bind ?_
  simp only [newExc, newTuple]
  refine wpAny_bind (wpAny_newObj_type ?_ (by size_fits))
  refine wpAny_bind (m := firstArgMember _ _) (wpAny_of_eq (a := Value.none) (by first | rfl | (simp only [firstArgMember]; rfl)) ?_)
  refine wpAny_newObj_type ?_ (by size_fits)
  have old : ∀ y ∈ x1 :: l, ∃ oy, s.heap.get? y = some oy := fun y hy => by
    obtain ⟨oy, _, e, _⟩ := hl.at_ y hy
    exact ⟨oy, e⟩
  have ext : ∀ {h' : Heap}, Heap.ExtBut it s.heap h' → Lks h' (x1 :: l) (.ref x1) := fun {h'} ex => hl.up fun y hy oy e => ex y oy (fun z => hni (z ▸ hy)) e
  have lt0 : ∀ (h' : Heap), Heap.ExtBut it s.heap h' → h'.objs.size ∉ x1 :: l := fun h' ex hm => by
    obtain ⟨oy, e⟩ := old _ hm
    exact Nat.lt_irrefl _ (Heap.lt_size (ex _ oy (fun z => hni (z ▸ hm)) e))
  refine raiseNew_K (l := l) (x1 := x1) (by first | exact hh | rfl) (ext (((Heap.SameBut.update ..).extBut.push _).push _)) ?_ (Heap.get?_push_size _ rfl) rfl (by first | (simp; done) | (simp only [Array.size_append]; simp; omega)) ?_
  · exact lt0 _ ((Heap.SameBut.update ..).extBut.push _)
  · refine wpAny_bind (wpAny_isInstance (T := "StopIteration") (b := true) ⟨_, Heap.get?_update_self _ (Heap.get?_push_size _ rfl) rfl, rfl⟩ isSubtype_stop ?_)
    refine wpAny_pure (hQ _ fun b ob hb e => ?_)
    have ex := ((Heap.SameBut.update s.heap it (Obj.mapFields (·.setIfInBounds 0 Value.none))).extBut.push { cls := .type "tuple", data := .seq ([] : List Value).toArray }) b ob hb e
    rw [Heap.get?_update_other _ _ (Nat.ne_of_gt (Heap.lt_size ex))]
    exact Heap.get?_push_of_some _ ex
theorem unpack_tupK {t x1 : Addr} {l : List Addr} {items : Array Value} {targets : List (Bool × (Value → Sem Unit))} {Q : Unit → Shared → Prop} (hh : A.handled = some (.ref x1)) (hl : Lks s.heap (x1 :: l) (.ref x1)) (ht : IsTup s.heap t items)
    (hn : targets.length = items.size) (hstar : targets.findIdx? (·.1) = none)
    (h : ∀ h', Heap.ExtBut s.heap.objs.size s.heap h' → wpAny (model prog w) A (assignInOrder (targets.map (·.2)) items.toList) Q E { s with heap := h' }) :
    wpAny (model prog w) A (unpack (.ref t) targets) Q E s := by
  have hlt : t ≠ s.heap.objs.size := by obtain ⟨o, ho, _⟩ := ht; exact Nat.ne_of_lt (Heap.lt_size ho)
  have hni : s.heap.objs.size ∉ x1 :: l := fun hm => by
    obtain ⟨o, _, e, _⟩ := hl.at_ _ hm
    exact Nat.lt_irrefl _ (Heap.lt_size e)
  unfold unpack
  rw [hn, hstar]
  refine wpAny_bind (wpAny_holding ?_)
  unfold unpackItems
  refine wpAny_bind ?_
  · unfold notIterableAtAll
    refine wpAny_bind (wpAny_specialOf ht.typeIs slot_tuple_iter.lookup ?_)
    refine wpAny_pure ?_
    simp only [Bool.false_eq_true, if_false]
    refine wpAny_bind (wpAny_holding (iter_tuple ht ?_))
    refine wpAny_bind (wpAny_holding (draw_tuple hlt items.size 0 _ _ ⟨_, Heap.get?_push_size _ rfl, rfl, rfl⟩ (ht.push _) (by omega) fun h₁ hit₁ hs₁ => ?_))
    have hall : List.take items.size (List.drop 0 items.toList) = items.toList := by rw [List.drop_zero]; exact List.take_of_length_le (by simp)
    rw [hall]
    rw [if_neg (by simp)]
    have ht₁ : IsTup h₁ t items := (ht.push _).extBut hs₁.extBut hlt
    have hl₁ : Lks h₁ (x1 :: l) (.ref x1) := hl.up fun y hy o e => hs₁.extBut y o (fun z => hni (z ▸ hy)) (Heap.get?_push_of_some _ e)
    refine wpAny_bind (wpAny_holding (next_tup_endK hh hl₁ hni hit₁ ht₁ (by simp) fun h₂ he₂ => ?_))
    simp only [Option.isSome_none, Bool.false_eq_true, if_false]
    exact wpAny_pure (h h₂ fun b o hb e => he₂ b o hb (hs₁.extBut b o hb (Heap.get?_push_of_some _ e)))
end
section
variable {X : Cx} {es : List Expr} {k n : Nat} {t : TGs} {pos : Pos}
/-- (a, b, ..) = a tuple, while one is handled -/
theorem pg_tupK (hot : HotK X) (h : PGs X es t) (hn : (assignEach es X.env).length = n := by rfl) (hst : (assignEach es X.env).findIdx? (·.1) = none := by rfl) : PG X (.Tuple es k pos) (gTup X.K n t) := by
  refine ⟨fun pins s σ H v u Q I r hw => ?_⟩
  obtain ⟨a, xs, e1, hq, hl, hw⟩ := hw
  subst e1
  cases r
  obtain ⟨its, rv, ht, hz⟩ := I.tuple hq
  obtain ⟨x1, l, hh, hlk⟩ := hot
  have lk : Lks s.heap (x1 :: l) (.ref x1) := hlk.lks fun p hp => (I.pin p (List.mem_append_left _ hp)).1
  rw [PyProof.Rows.assign_Tuple]
  refine wpAny_bind (wpAny_standAt (unpack_tupK hh lk ht (by simp [hn, ← hl, rv.length]) hst fun h' hx => ?_))
  have I1 : Inv X pins σ H { s with heap := h' } := I.kept (t' := s.toks) fun b o e => hx b o (Nat.ne_of_lt (Heap.lt_size e)) e
  exact h.run pins _ σ H xs _ Q I1 (by simpa using rv) hw
end
section
variable {prog : Program} {w : World} {A : Around} {E : Value → Shared → Prop}
end
section
variable {X : Cx} {es : List Expr} {k n : Nat} {t : TGs} {pos : Pos}
theorem pg_tupC (hc : X.calm = true ∨ HotK X) (h : PGs X es t) (hn : (assignEach es X.env).length = n := by rfl) (hst : (assignEach es X.env).findIdx? (·.1) = none := by rfl) : PG X (.Tuple es k pos) (gTup X.K n t) := by
  rcases hc with hc | hc
  · exact pg_tup hc h hn hst
  · exact pg_tupK hc h hn hst
end
end MV
namespace MV
open PySem PySem.Spec PyProof.Rows L2
mutual
def deq : D → D → Bool
  | .non, .non => true
  | .bl a, .bl b => a == b
  | .bl a, .int j => (if a then 1 else 0) == j
  | .int i, .bl b => i == (if b then 1 else 0)
  | .int i, .int j => i == j
  | .str x, .str y => x == y
  | .tup xs, .tup ys => deqL xs ys
  | _, _ => false
def deqL : List D → List D → Bool
  | [], [] => true
  | x :: xs, y :: ys => deq x y && deqL xs ys
  | _, _ => false
end
def fine : Nat → D → Bool
  | _, .non => true
  | _, .bl _ => true
  | _, .int _ => true
  | _, .str x => PyData.strOk x
  | k + 1, .tup ds => ds.all (fine k)
  | _, _ => false
mutual
def toPy : D → PyData
  | .non => .none
  | .bl b => .bool b
  | .int i => .int i
  | .str x => .str x
  | .tup ds => .tuple (toPyL ds)
  | _ => .none
def toPyL : List D → List PyData
  | [] => []
  | d :: ds => toPy d :: toPyL ds
end
section
variable {K : PySem.W.Frag} {as : List Addr} {H : Hp}
theorem fine_ok (k : Nat) : ∀ {d : D} {v : V}, fine k d = true → Rel K as H d v → Dp K H v (toPy d) ∧ (toPy d).canLay0 = true ∧ (toPy d).depth ≤ k := by
  induction k with
  | zero =>
    intro d v f r
    cases r with
    | non => exact ⟨.non, by simp [toPy, PyData.canLay0], by simp [toPy, PyData.depth]⟩
    | bl b => exact ⟨.bl b, by simp [toPy, PyData.canLay0], by simp [toPy, PyData.depth]⟩
    | int b => exact ⟨.int b, by simp [toPy, PyData.canLay0], by simp [toPy, PyData.depth]⟩
    | str b => exact ⟨.str b, by simp only [toPy, PyData.canLay0]; exact f, by simp [toPy, PyData.depth]⟩
    | _ => simp [fine] at f
  | succ k ih =>
    intro d v f r
    cases r with
    | non => exact ⟨.non, by simp [toPy, PyData.canLay0], by simp [toPy, PyData.depth]⟩
    | bl b => exact ⟨.bl b, by simp [toPy, PyData.canLay0], by simp [toPy, PyData.depth]⟩
    | int b => exact ⟨.int b, by simp [toPy, PyData.canLay0], by simp [toPy, PyData.depth]⟩
    | str b => exact ⟨.str b, by simp only [toPy, PyData.canLay0]; exact f, by simp [toPy, PyData.depth]⟩
    | tup hs hl =>
      rename_i a xs ds
      have key : ∀ (ds : List D) (xs : List V), RelL K as H ds xs → ds.all (fine k) = true → DpAll K H xs (toPyL ds) ∧ PyData.canLayAll0 (toPyL ds) = true ∧ PyData.depthAll (toPyL ds) ≤ k := by
        intro ds
        induction ds with
        | nil => intro xs h _; cases h; exact ⟨.nil, by simp [toPyL, PyData.canLayAll0], by simp [toPyL, PyData.depthAll]⟩
        | cons d ds ihd =>
          intro xs h f
          cases h with
          | cons h1 h2 =>
            simp only [List.all_cons, Bool.and_eq_true] at f
            obtain ⟨a1, a2, a3⟩ := ih f.1 h1
            obtain ⟨b1, b2, b3⟩ := ihd _ h2 f.2
            refine ⟨.cons a1 b1, by simp [toPyL, PyData.canLayAll0, a2, b2], ?_⟩
            simp only [toPyL, PyData.depthAll]
            omega
      obtain ⟨a1, a2, a3⟩ := key ds xs hl (by simpa [fine] using f)
      exact ⟨.tup hs.1 a1, by simp only [toPy, PyData.canLay0]; exact a2, by simp only [toPy, PyData.depth]; omega⟩
    | _ => simp [fine] at f
theorem fineL_ok (k : Nat) : ∀ {ds : List D} {xs : List V}, RelL K as H ds xs → ds.all (fine k) = true → DpAll K H xs (toPyL ds) ∧ PyData.canLayAll0 (toPyL ds) = true ∧ PyData.depthAll (toPyL ds) ≤ k
  | _, _, .nil, _ => ⟨.nil, by simp [toPyL, PyData.canLayAll0], by simp [toPyL, PyData.depthAll]⟩
  | _, _, .cons h1 h2, f => by
    simp only [List.all_cons, Bool.and_eq_true] at f
    obtain ⟨a1, a2, a3⟩ := fine_ok k f.1 h1
    obtain ⟨b1, b2, b3⟩ := fineL_ok k h2 f.2
    refine ⟨.cons a1 b1, by simp [toPyL, PyData.canLayAll0, a2, b2], ?_⟩
    simp only [toPyL, PyData.depthAll]
    omega
theorem shaped_of {p : PyData} {k : Nat} (h : p.canLay0 = true) (hd : p.depth ≤ k) (hk : k ≤ 64) : SeqAt.shaped p = true := by
  simp only [SeqAt.shaped, Bool.and_eq_true, decide_eq_true_eq]
  exact ⟨h, Nat.le_trans hd hk⟩
end
theorem eqv_deq (k : Nat) : ∀ {d e : D}, fine k d = true → fine k e = true → PyData.eqv (toPy d) (toPy e) = deq d e := by
  induction k with
  | zero =>
    intro d e f g
    cases d <;> cases e <;> first | (simp [fine] at f; done) | (simp [fine] at g; done) | simp [toPy, PyData.eqv, deq]
  | succ k ih =>
    intro d e f g
    cases d <;> cases e <;> first | (simp [fine] at f; done) | (simp [fine] at g; done) | skip
    case tup.tup ds es =>
      simp only [toPy, PyData.eqv, deq]
      simp only [fine] at f g
      revert es
      induction ds with
      | nil => intro es g; cases es <;> simp [toPyL, PyData.eqvAll, deqL]
      | cons d ds ihd =>
        intro es g
        cases es with
        | nil => simp [toPyL, PyData.eqvAll, deqL]
        | cons e es =>
          simp only [List.all_cons, Bool.and_eq_true] at f g
          simp only [toPyL, PyData.eqvAll, deqL]
          rw [ih f.1 g.1, ihd f.2 es g.2]
    all_goals simp [toPy, PyData.eqv, deq]
def okMul (i j : Int) : Prop := CMul i j ∨ CMulW i j
def okDiv (j : Int) : Prop := j ≠ 0 ∧ j.natAbs.log2 < 9000
def oAdd : OP := fun x y M Q => match x, y with
  | .int i, .int j => Q (.int (i + j)) M
  | .str a, .str b => a.length + b.length ≤ 16000000 ∧ Q (.str (a ++ b)) M
  | .tup a, .tup b => a.length + b.length ≤ 16000000 ∧ Q (.tup (a ++ b)) M
  | .ref m, .ref n => match M[m]?, M[n]? with
    | some (.lst a), some (.lst b) => a.length + b.length ≤ 16000000 ∧ Q (.ref M.length) (M ++ [.lst (a ++ b)])
    | _, _ => False
  | _, _ => False
def oSub : OP := fun x y M Q => match x, y with | .int i, .int j => Q (.int (i - j)) M | _, _ => False
def oMul : OP := fun x y M Q => match x, y with | .int i, .int j => okMul i j ∧ Q (.int (i * j)) M | _, _ => False
def oDiv : OP := fun x y M Q => match x, y with | .int i, .int j => okDiv j ∧ Q (.int (i.fdiv j)) M | _, _ => False
def oMod : OP := fun x y M Q => match x, y with | .int i, .int j => j ≠ 0 ∧ Q (.int (i.fmod j)) M | _, _ => False
def oPow : OP := fun x y M Q => match x, y with | .int i, .int j => CPow i j ∧ Q (.int (i ^ j.toNat)) M | _, _ => False
def oNeg : OU := fun x M Q => match x with | .int i => Q (.int (-i)) M | _ => False
def oLt : OP := fun x y M Q => match x, y with | .int i, .int j => Q (.bl (decide (i < j))) M | _, _ => False
def oLe : OP := fun x y M Q => match x, y with | .int i, .int j => Q (.bl (decide (i ≤ j))) M | _, _ => False
def oGt : OP := fun x y M Q => match x, y with | .int i, .int j => Q (.bl (decide (j < i))) M | _, _ => False
def oGe : OP := fun x y M Q => match x, y with | .int i, .int j => Q (.bl (decide (j ≤ i))) M | _, _ => False
mutual
/-- d, with all that it holds, is the plain data p -/
inductive See (M : Mem) : Nat → D → PyData → Prop
  | non (k : Nat) : See M k .non .none
  | bl (k : Nat) (b : Bool) : See M k (.bl b) (.bool b)
  | int (k : Nat) (i : Int) : See M k (.int i) (.int i)
  | str (k : Nat) {x : Str} : PyData.strOk x = true → See M k (.str x) (.str x)
  | tup {k : Nat} {ds : List D} {ps : List PyData} : SeeL M k ds ps → See M (k + 1) (.tup ds) (.tuple ps)
  | lst {k n : Nat} {ds : List D} {ps : List PyData} : M[n]? = some (.lst ds) → SeeL M k ds ps → See M (k + 1) (.ref n) (.list ps)
inductive SeeL (M : Mem) : Nat → List D → List PyData → Prop
  | nil {k : Nat} : SeeL M k [] []
  | cons {k : Nat} {d : D} {ds : List D} {p : PyData} {ps : List PyData} : See M k d p → SeeL M k ds ps → SeeL M k (d :: ds) (p :: ps)
end
/-- x == y (of all that can be seen as plain data) -/
def oEqB (x y : D) (M : Mem) (k : Bool → Prop) : Prop := match x, y with
  | .str a, .str b => k (decide (a = b))
  | .int i, .int j => k (decide (i = j))
  | x, y => ∃ p q, See M 20 x p ∧ See M 20 y q ∧ k (PyData.eqv p q)
def oEq : OP := fun x y M Q => oEqB x y M fun b => Q (.bl b) M
def oNe : OP := fun x y M Q => oEqB x y M fun b => Q (.bl (!b)) M
def oIsN : OU := fun x M Q => Q (.bl (match x with | .non => true | _ => false)) M
def oNotN : OU := fun x M Q => Q (.bl (match x with | .non => false | _ => true)) M
section
variable {K : PySem.W.Frag}
theorem at_lst {as : List Addr} {H : Hp} {M : Mem} {n : Nat} {a : Addr} {ds : List D} (rp : RepM K as H M) (hn : as[n]? = some a) (e : M[n]? = some (.lst ds)) : ∃ xs, H a = some (.lst xs) ∧ RelL K as H ds xs := by
  obtain ⟨a', ha, xs, h1, h2⟩ := rp.at_ e
  rw [hn] at ha; cases ha
  exact ⟨xs, h1, h2⟩
theorem sim_i0 {f : Int → Int → Int} {o : OP} (ho : ∀ x y M Q, o x y M Q → ∃ i j, x = .int i ∧ y = .int j ∧ Q (.int (f i j)) M) : SimO K (rI0 fun i j => .int (f i j)) o := fun as H M dx dy x y k Q rp rx ry h hk => by
  obtain ⟨i, j, rfl, rfl, q⟩ := ho _ _ _ _ h
  cases rx; cases ry
  exact ⟨i, j, rfl, rfl, hk _ _ q as H _ .refl rp (.int _)⟩
theorem sim_b0 {f : Int → Int → Bool} {o : OP} (ho : ∀ x y M Q, o x y M Q → ∃ i j, x = .int i ∧ y = .int j ∧ Q (.bl (f i j)) M) : SimO K (rI0 fun i j => .bl (f i j)) o := fun as H M dx dy x y k Q rp rx ry h hk => by
  obtain ⟨i, j, rfl, rfl, q⟩ := ho _ _ _ _ h
  cases rx; cases ry
  exact ⟨i, j, rfl, rfl, hk _ _ q as H _ .refl rp (.bl _)⟩
theorem sim_i {C : Int → Int → Prop} {f : Int → Int → Int} {o : OP} (ho : ∀ x y M Q, o x y M Q → ∃ i j, x = .int i ∧ y = .int j ∧ C i j ∧ Q (.int (f i j)) M) : SimO K (rI C fun i j => .int (f i j)) o := fun as H M dx dy x y k Q rp rx ry h hk => by
  obtain ⟨i, j, rfl, rfl, c, q⟩ := ho _ _ _ _ h
  cases rx; cases ry
  exact ⟨i, j, rfl, rfl, c, hk _ _ q as H _ .refl rp (.int _)⟩
theorem sim_sub : SimO K (rI0 fun i j => .int (i - j)) oSub := sim_i0 fun x y M Q h => by
  cases x <;> cases y <;> first | exact h.elim | exact ⟨_, _, rfl, rfl, h⟩
theorem sim_mod : SimO K (rI (fun _ j => j ≠ 0) fun i j => .int (i.fmod j)) oMod := sim_i fun x y M Q h => by
  cases x <;> cases y <;> first | exact h.elim | exact ⟨_, _, rfl, rfl, h⟩
theorem sim_div : SimO K (rI DW.CDivX fun i j => .int (i.fdiv j)) oDiv := sim_i fun x y M Q h => by
  cases x <;> cases y <;> first | exact h.elim | exact ⟨_, _, rfl, rfl, h⟩
theorem sim_pow : SimO K (rI CPow fun i j => .int (i ^ j.toNat)) oPow := sim_i fun x y M Q h => by
  cases x <;> cases y <;> first | exact h.elim | exact ⟨_, _, rfl, rfl, h⟩
theorem sim_lt : SimO K (rI0 fun i j => .bl (decide (i < j))) oLt := sim_b0 fun x y M Q h => by
  cases x <;> cases y <;> first | exact h.elim | exact ⟨_, _, rfl, rfl, h⟩
theorem sim_le : SimO K (rI0 fun i j => .bl (decide (i ≤ j))) oLe := sim_b0 fun x y M Q h => by
  cases x <;> cases y <;> first | exact h.elim | exact ⟨_, _, rfl, rfl, h⟩
theorem sim_gt : SimO K (rI0 fun i j => .bl (decide (j < i))) oGt := sim_b0 fun x y M Q h => by
  cases x <;> cases y <;> first | exact h.elim | exact ⟨_, _, rfl, rfl, h⟩
theorem sim_ge : SimO K (rI0 fun i j => .bl (decide (j ≤ i))) oGe := sim_b0 fun x y M Q h => by
  cases x <;> cases y <;> first | exact h.elim | exact ⟨_, _, rfl, rfl, h⟩
def rMulA : R2 := fun x y H Q => rI CMul (fun i j => .int (i * j)) x y H Q ∨ rI CMulW (fun i j => .int (i * j)) x y H Q
theorem op_mulA {X : Cx} : OpR X (binaryOp .Mult) rMulA := OpR.or op_mul op_mulW
theorem sim_mul : SimO K rMulA oMul := fun as H M dx dy x y k Q rp rx ry h hk => by
  cases dx <;> cases dy <;> first | exact h.elim | skip
  cases rx; cases ry
  rcases h.1 with c | c
  · exact .inl ⟨_, _, rfl, rfl, c, hk _ _ h.2 as H _ .refl rp (.int _)⟩
  · exact .inr ⟨_, _, rfl, rfl, c, hk _ _ h.2 as H _ .refl rp (.int _)⟩
theorem sim_neg : SimU K (rU fun i => .int (-i)) oNeg := fun as H M dx x k Q rp rx h hk => by
  cases dx <;> first | exact h.elim | skip
  cases rx
  exact ⟨_, rfl, hk _ _ h as H _ .refl rp (.int _)⟩
theorem sim_add : SimO K (DW.rPlus K) oAdd := fun as H M dx dy x y k Q rp rx ry h hk => by
  cases rx with
  | int i =>
    cases ry with
    | int j => exact .inl ⟨i, j, rfl, rfl, hk _ _ h as H _ .refl rp (.int _)⟩
    | _ => exact h.elim
  | str a =>
    cases ry with
    | str b => exact .inr (.inl ⟨a, b, rfl, rfl, Nat.le_trans h.1 (by decide), hk _ _ h.2 as H _ .refl rp (.str _)⟩)
    | _ => exact h.elim
  | tup hs hl =>
    cases ry with
    | tup hs2 hl2 =>
      refine .inr (.inr (.inl ⟨_, _, _, _, rfl, rfl, hs.1, hs2.1, ?_, fun z => ?_, fun _ z => ?_, fun _ _ p hp => ?_⟩))
      · rw [← hl.len, ← hl2.len]; exact Nat.le_trans h.1 (by decide)
      · subst z
        cases hl
        exact hk _ _ h.2 as H _ .refl rp (.tup hs2 hl2)
      · subst z
        cases hl2
        exact hk _ _ h.2 as H _ .refl rp (by rw [List.append_nil]; exact .tup hs hl)
      · exact new_tup rp (hl.app hl2) hp h.2 hk
    | _ => exact h.elim
  | ref hn =>
    cases ry with
    | ref hm =>
      dsimp only [oAdd] at h
      split at h
      · rename_i a b e1 e2
        obtain ⟨xs, h1, h2⟩ := at_lst rp hn e1
        obtain ⟨ys, h3, h4⟩ := at_lst rp hm e2
        refine .inr (.inr (.inr ⟨_, _, xs, ys, rfl, rfl, h1, h3, ?_, fun p hp => new_lst rp (h2.app h4) hp h.2 hk⟩))
        rw [← h2.len, ← h4.len]; exact Nat.le_trans h.1 (by decide)
      · exact h.elim
    | _ => exact h.elim
  | _ => cases ry <;> exact h.elim
end
end MV
namespace MV
open PySem PySem.Spec PyProof.Rows L2
section
variable {K : PySem.W.Frag} {as : List Addr} {H : Hp} {M : Mem}
theorem dat_ok {d : D} {v : V} (f : fine 20 d = true) (r : Rel K as H d v) : Dp K H v (toPy d) ∧ SeqAt.shaped (toPy d) = true :=
  let ⟨a, b, c⟩ := fine_ok 20 f r; ⟨a, shaped_of b c (by decide)⟩
theorem datL_ok {ds : List D} {xs : List V} {a : Addr} (h : H a = some (.lst xs)) (f : ds.all (fine 20) = true) (r : RelL K as H ds xs) : Dp K H (.ref a) (.list (toPyL ds)) ∧ SeqAt.shaped (.list (toPyL ds)) = true := by
  obtain ⟨h1, h2, h3⟩ := fineL_ok 20 r f
  exact ⟨.lst (SqL.of h) h1, shaped_of (k := 21) (by simp only [PyData.canLay0]; exact h2) (by simp only [PyData.depth]; omega) (by decide)⟩
mutual
theorem See.ok (rp : RepM K as H M) : ∀ {k : Nat} {d : D} {p : PyData} {v : V}, See M k d p → Rel K as H d v → Dp K H v p ∧ p.canLay0 = true ∧ p.depth ≤ k
  | _, _, _, _, .non _, .non => ⟨.non, by simp [PyData.canLay0], by simp [PyData.depth]⟩
  | _, _, _, _, .bl _ b, .bl _ => ⟨.bl b, by simp [PyData.canLay0], by simp [PyData.depth]⟩
  | _, _, _, _, .int _ b, .int _ => ⟨.int b, by simp [PyData.canLay0], by simp [PyData.depth]⟩
  | _, _, _, _, .str _ f, .str _ => ⟨.str _, by simp only [PyData.canLay0]; exact f, by simp [PyData.depth]⟩
  | _, _, _, _, .tup l, .tup hs hl => by
    obtain ⟨a1, a2, a3⟩ := SeeL.ok rp l hl
    exact ⟨.tup hs.1 a1, by simp only [PyData.canLay0]; exact a2, by simp only [PyData.depth]; omega⟩
  | _, _, _, _, .lst e l, .ref hn => by
    obtain ⟨xs, h1, h2⟩ := at_lst rp hn e
    obtain ⟨a1, a2, a3⟩ := SeeL.ok rp l h2
    exact ⟨.lst (SqL.of h1) a1, by simp only [PyData.canLay0]; exact a2, by simp only [PyData.depth]; omega⟩
theorem SeeL.ok (rp : RepM K as H M) : ∀ {k : Nat} {ds : List D} {ps : List PyData} {vs : List V}, SeeL M k ds ps → RelL K as H ds vs → DpAll K H vs ps ∧ PyData.canLayAll0 ps = true ∧ PyData.depthAll ps ≤ k
  | _, _, _, _, .nil, .nil => ⟨.nil, by simp [PyData.canLayAll0], by simp [PyData.depthAll]⟩
  | _, _, _, _, .cons a b, .cons h1 h2 => by
    obtain ⟨a1, a2, a3⟩ := See.ok rp a h1
    obtain ⟨b1, b2, b3⟩ := SeeL.ok rp b h2
    refine ⟨.cons a1 b1, by simp [PyData.canLayAll0, a2, b2], ?_⟩
    simp only [PyData.depthAll]
    omega
end
theorem eqB_ok {dx dy : D} {x y : V} {k : Bool → Prop} (rp : RepM K as H M) (rx : Rel K as H dx x) (ry : Rel K as H dy y) (h : oEqB dx dy M k) :
    (scal x y = true ∧ k (decide (x = y))) ∨ ∃ d e, Dp K H x d ∧ Dp K H y e ∧ SeqAt.shaped d = true ∧ SeqAt.shaped e = true ∧ k (PyData.eqv d e) := by
  unfold oEqB at h
  split at h
  · rename_i a b
    cases rx
    cases ry
    refine .inl ⟨rfl, ?_⟩
    have e : decide ((V.str a) = V.str b) = decide (a = b) := by simp
    rw [e]; exact h
  · rename_i a b
    cases rx
    cases ry
    · refine .inr ⟨.int a, .int b, .int a, .int b, by simp [SeqAt.shaped, PyData.canLay0, PyData.depth], by simp [SeqAt.shaped, PyData.canLay0, PyData.depth], ?_⟩
      simp only [PyData.eqv]
      have e : (a == b) = decide (a = b) := rfl
      rw [e]; exact h
  · obtain ⟨p, q, s1, s2, h⟩ := h
    obtain ⟨a1, a2, a3⟩ := s1.ok rp rx
    obtain ⟨b1, b2, b3⟩ := s2.ok rp ry
    exact .inr ⟨p, q, a1, b1, shaped_of a2 a3 (by decide), shaped_of b2 b3 (by decide), h⟩
theorem sim_eq : SimO K (DW.rEqq K) oEq := fun as H M dx dy x y k Q rp rx ry h hk => by
  rcases eqB_ok rp rx ry h with ⟨s, q⟩ | ⟨d, e, h1, h2, h3, h4, q⟩
  · exact .inl ⟨s, hk _ _ q as H _ .refl rp (.bl _)⟩
  · exact .inr ⟨d, e, h1, h2, h3, h4, hk _ _ q as H _ .refl rp (.bl _)⟩
theorem sim_ne : SimO K (DW.rNee K) oNe := fun as H M dx dy x y k Q rp rx ry h hk => by
  rcases eqB_ok rp rx ry h with ⟨s, q⟩ | ⟨d, e, h1, h2, h3, h4, q⟩
  · exact .inl ⟨s, hk _ _ q as H _ .refl rp (.bl _)⟩
  · exact .inr ⟨d, e, h1, h2, h3, h4, hk _ _ q as H _ .refl rp (.bl _)⟩
end
def oIs : OP := fun x y M Q => match y with | .non => oIsN x M Q | _ => False
def oIsNot : OP := fun x y M Q => match y with | .non => oNotN x M Q | _ => False
section
variable {K : PySem.W.Frag}
theorem sim_is : SimO K rIsN oIs := fun as H M dx dy x y k Q rp rx ry h hk => by
  cases ry <;> first | exact h.elim | skip
  refine ⟨rfl, ?_⟩
  cases rx <;> exact hk _ _ h as H _ .refl rp (.bl _)
theorem sim_isnot : SimO K rNotN oIsNot := fun as H M dx dy x y k Q rp rx ry h hk => by
  cases ry <;> first | exact h.elim | skip
  refine ⟨rfl, ?_⟩
  cases rx <;> exact hk _ _ h as H _ .refl rp (.bl _)
end
def keyOf : D → Option Key
  | .int i => some (.inl i)
  | .str x => some (.inr x)
  | _ => none
def dget {κ : Type} [DecidableEq κ] (kvs : List (κ × D)) (k : κ) : Option D := (kvs.find? fun kv => decide (kv.1 = k)).map (·.2)
def dput {κ : Type} [DecidableEq κ] (kvs : List (κ × D)) (k : κ) (v : D) : List (κ × D) := if (kvs.any fun kv => decide (kv.1 = k)) then kvs.map (fun kv => if kv.1 = k then (kv.1, v) else kv) else kvs ++ [(k, v)]
def ddrop {κ : Type} [DecidableEq κ] (kvs : List (κ × D)) (k : κ) : List (κ × D) := kvs.filter fun kv => decide (kv.1 ≠ k)
section
variable {K : PySem.W.Frag} {as : List Addr} {H : Hp} {M : Mem} {κ : Type} [DecidableEq κ]
theorem KVR.get {l : List (κ × D)} {m : List (κ × V)} (h : KVR K as H l m) (k : κ) : (dget l k = none ∧ valV m k = none) ∨ ∃ d v, dget l k = some d ∧ valV m k = some v ∧ Rel K as H d v := by
  induction h with
  | nil => exact .inl ⟨rfl, rfl⟩
  | cons h t ih =>
    rename_i p q l m
    obtain ⟨h1, h2⟩ := h
    by_cases e : q.1 = k
    · refine .inr ⟨p.2, q.2, ?_, valV_pos e, h2⟩
      simp [dget, List.find?_cons, h1, e]
    · have e2 : ¬ p.1 = k := by rw [h1]; exact e
      have e3 : dget (p :: l) k = dget l k := by simp [dget, List.find?_cons, e2]
      rw [e3, valV_neg e]; exact ih
theorem KVR.any {l : List (κ × D)} {m : List (κ × V)} (h : KVR K as H l m) (k : κ) : (l.any fun kv => decide (kv.1 = k)) = m.any fun kv => decide (kv.1 = k) := by
  induction h with
  | nil => rfl
  | cons h t ih => simp only [List.any_cons, h.1, ih]
theorem KVR.put {l : List (κ × D)} {m : List (κ × V)} (h : KVR K as H l m) (k : κ) {d : D} {v : V} (r : Rel K as H d v) : KVR K as H (dput l k d) (putK m k v) := by
  unfold dput putK
  rw [h.any k]
  split
  · rename_i hx; clear hx
    induction h with
    | nil => exact .nil
    | cons h t ih =>
      rename_i p q l m
      simp only [List.map_cons]
      refine .cons ?_ ih
      rw [h.1]
      split
      · exact ⟨rfl, r⟩
      · exact h
  · exact Paired.snoc h ⟨rfl, r⟩
theorem KVR.drop {l : List (κ × D)} {m : List (κ × V)} (h : KVR K as H l m) (k : κ) : KVR K as H (ddrop l k) (dropK m k) := by
  unfold ddrop dropK
  induction h with
  | nil => exact .nil
  | cons h t ih =>
    rename_i p q l m
    simp only [List.filter_cons, h.1]
    split
    · exact .cons h ih
    · exact ih
theorem keyOf_ok {d : D} {v : V} {k : Key} (r : Rel K as H d v) (e : keyOf d = some k) : v = kV k := by
  cases r <;> simp [keyOf] at e <;> subst e <;> rfl
/-- the dict at n, read -/
theorem at_dct {n : Nat} {a : Addr} {lk : Bool} {kvs : List (Key × D)} (rp : RepM K as H M) (hn : as[n]? = some a) (e : M[n]? = some (.dct lk kvs)) : ∃ ks, KVR K as H kvs ks ∧ Rd H a (.dK ks) := by
  obtain ⟨a', ha, ks, h1, h2⟩ := rp.at_ e
  rw [hn] at ha; cases ha
  cases lk with
  | true => obtain ⟨ob, h2⟩ := h2; exact ⟨ks, h1, .inr ⟨ob, h2⟩⟩
  | false => exact ⟨ks, h1, .inl h2⟩
theorem at_frz {n : Nat} {a : Addr} {ds : List D} (rp : RepM K as H M) (hn : as[n]? = some a) (e : M[n]? = some (.frz ds)) : ∃ ob xs, H a = some (.frz ob (.lst xs)) ∧ RelL K as H ds xs := by
  obtain ⟨a', ha, ob, xs, h1, h2⟩ := rp.at_ e
  rw [hn] at ha; cases ha
  exact ⟨ob, xs, h1, h2⟩
end
def flat : D → Bool
  | .non => true
  | .bl _ => true
  | .int _ => true
  | .str _ => true
  | _ => false
def inOk (x : D) (ds : List D) : Prop := ((flat x && ds.all flat) || (fine 20 x && ds.all (fine 20))) = true
def oInB (x y : D) (M : Mem) (k : Bool → Prop) : Prop := match y with
  | .str z => match x with
    | .str c => match c.cps.toList with
      | [c] => k (decide (c ∈ z.cps.toList))
      | _ => False
    | _ => False
  | .tup ds => (flat x && ds.all flat) = true ∧ k (ds.any fun e => deq e x)
  | .ref n => match M[n]? with
    | some (.lst ds) => inOk x ds ∧ k (ds.any fun e => deq e x)
    | some (.dct _ kvs) => match keyOf x with
      | some q => k (dget kvs q).isSome
      | none => False
    | _ => False
  | _ => False
def oIn : OP := fun x y M Q => oInB x y M fun b => Q (.bl b) M
def oNotIn : OP := fun x y M Q => oInB x y M fun b => Q (.bl (!b)) M
def rDIn : R2 := fun y x H Q => ∃ a o, x = .ref a ∧ DGet H a y o ∧ Q (.bl o.isSome) H
def rDNotIn : R2 := fun y x H Q => ∃ a o, x = .ref a ∧ DGet H a y o ∧ Q (.bl (!o.isSome)) H
def rInA (K : PySem.W.Frag) : R2 := fun x y H Q => rInS x y H Q ∨ rIn K false x y H Q ∨ rInD K x y H Q ∨ rDIn x y H Q
def rNotInA (K : PySem.W.Frag) : R2 := fun x y H Q => rNotInS x y H Q ∨ rIn K true x y H Q ∨ rNotInD K x y H Q ∨ rDNotIn x y H Q
section
variable {X : Cx}
theorem op_din (hu : X.A.units + 1 < cLine) : OpR X (compareOp .In) rDIn := fun pins s σ H x y v u Q I rx ry h => by
  obtain ⟨a, o, rfl, g, q⟩ := h
  obtain rfl : u = Value.ref a := ry
  exact d_in hu I g rx fun s3 I3 => ⟨.bl o.isSome, H, I3, rfl, q⟩
theorem op_dnotin (hu : X.A.units + 1 < cLine) : OpR X (compareOp .NotIn) rDNotIn := fun pins s σ H x y v u Q I rx ry h => by
  obtain ⟨a, o, rfl, g, q⟩ := h
  obtain rfl : u = Value.ref a := ry
  exact d_notIn hu I g rx fun s3 I3 => ⟨.bl (!o.isSome), H, I3, rfl, q⟩
theorem op_inA (hu : X.A.units + 65 < cLine) : OpR X (compareOp .In) (rInA X.K) := OpR.or op_inS (OpR.or op_in_seq (OpR.or (op_inD hu) (op_din (by omega))))
theorem op_notInA (hu : X.A.units + 65 < cLine) : OpR X (compareOp .NotIn) (rNotInA X.K) := OpR.or op_notInS (OpR.or op_notIn_seq (OpR.or (op_notInD hu) (op_dnotin (by omega))))
end
section
variable {K : PySem.W.Frag} {as : List Addr} {H : Hp} {M : Mem}
theorem flat_ok {d : D} {v : V} (r : Rel K as H d v) (f : flat d = true) : flatV v = true := by
  cases r <;> first | rfl | (simp [flat] at f)
theorem eqV_deq {d e : D} {v w : V} (r : Rel K as H d v) (s : Rel K as H e w) (f : flat d = true) (g : flat e = true) : eqV v w = deq d e := by
  cases r <;> first | (simp [flat] at f; done) | skip
  all_goals (cases s <;> first | (simp [flat] at g; done) | simp [eqV, deq])
theorem inV_any {e : D} {w : V} (s : Rel K as H e w) (g : flat e = true) : ∀ {ds : List D} {vs : List V}, RelL K as H ds vs → ds.all flat = true → inV w vs = ds.any (fun d => deq d e) ∧ vs.all flatV = true
  | _, _, .nil, _ => ⟨rfl, rfl⟩
  | _, _, .cons h r, f => by
    simp only [List.all_cons, Bool.and_eq_true] at f
    obtain ⟨h1, h2⟩ := inV_any s g r f.2
    simp only [inV, List.any_cons] at h1 ⊢
    rw [h1, eqV_deq h s f.1 g]
    exact ⟨rfl, by simp [flat_ok h f.1, h2]⟩
theorem any_eqv {e : D} (g : fine 20 e = true) : ∀ {ds : List D}, ds.all (fine 20) = true → ((toPyL ds).any fun z => PyData.eqv z (toPy e)) = ds.any fun d => deq d e
  | [], _ => by simp [toPyL]
  | d :: ds, f => by
    simp only [List.all_cons, Bool.and_eq_true] at f
    simp only [toPyL, List.any_cons, eqv_deq 20 f.1 g, any_eqv g f.2]
theorem inB_ok {neg : Bool} {dx dy : D} {x y : V} {k : Bool → Prop} (rp : RepM K as H M) (rx : Rel K as H dx x) (ry : Rel K as H dy y) (h : oInB dx dy M k) :
    (∃ (c : Nat) (z : Str), x = .str ⟨#[c]⟩ ∧ y = .str z ∧ k (decide (c ∈ z.cps.toList))) ∨
    (∃ p xs, y = .ref p ∧ (SqL K H p xs ∨ SqT K H p xs) ∧ flatV x = true ∧ xs.all flatV = true ∧ k (inV x xs)) ∨
    (∃ d ds, Dp K H x d ∧ Dp K H y (.list ds) ∧ SeqAt.shaped d = true ∧ SeqAt.shaped (.list ds) = true ∧ k (ds.any fun z => PyData.eqv z d)) ∨
    ∃ a o, y = .ref a ∧ DGet H a x o ∧ k o.isSome := by
  cases ry with
  | str z =>
    cases rx <;> first | exact h.elim | skip
    rename_i c
    dsimp only [oInB] at h
    split at h
    · rename_i c0 e
      refine .inl ⟨c0, z, ?_, rfl, h⟩
      obtain ⟨⟨l⟩⟩ := c
      have e2 : l = [c0] := e
      subst e2
      rfl
    · exact h.elim
  | tup hs hl =>
    obtain ⟨f, q⟩ := h
    simp only [Bool.and_eq_true] at f
    obtain ⟨h1, h2⟩ := inV_any rx f.1 hl f.2
    exact .inr (.inl ⟨_, _, rfl, .inr hs.1, flat_ok rx f.1, h2, by rw [h1]; exact q⟩)
  | ref hn =>
    dsimp only [oInB] at h
    split at h
    · rename_i ds e
      obtain ⟨xs, h1, h2⟩ := at_lst rp hn e
      obtain ⟨f, q⟩ := h
      rcases Bool.or_eq_true_iff.mp f with f | f
      · simp only [Bool.and_eq_true] at f
        obtain ⟨h3, h4⟩ := inV_any rx f.1 h2 f.2
        exact .inr (.inl ⟨_, _, rfl, .inl (SqL.of h1), flat_ok rx f.1, h4, by rw [h3]; exact q⟩)
      · simp only [Bool.and_eq_true] at f
        obtain ⟨a1, a2⟩ := dat_ok f.1 rx
        obtain ⟨b1, b2⟩ := datL_ok h1 f.2 h2
        exact .inr (.inr (.inl ⟨_, _, a1, b1, a2, b2, by rw [any_eqv f.1 f.2]; exact q⟩))
    · rename_i lk kvs e
      split at h
      · rename_i q0 eq
        obtain ⟨ks, h1, h2⟩ := at_dct rp hn e
        refine .inr (.inr (.inr ⟨_, valV ks q0, rfl, .inl ⟨ks, q0, h2, keyOf_ok rx eq, rfl⟩, ?_⟩))
        rcases h1.get q0 with ⟨g1, g2⟩ | ⟨d, v, g1, g2, _⟩
        · rw [g2]; rw [g1] at h; exact h
        · rw [g2]; rw [g1] at h; exact h
      · exact h.elim
    · exact h.elim
  | _ => exact h.elim
theorem sim_in : SimO K (rInA K) oIn := fun as H M dx dy x y k Q rp rx ry h hk => by
  have fin : ∀ b, k (.bl b) M → Q (.bl b) H := fun b q => hk _ _ q as H _ .refl rp (.bl _)
  rcases inB_ok (neg := false) rp rx ry h with ⟨c, z, h1, h2, q⟩ | ⟨p, xs, h1, h2, h3, h4, q⟩ | ⟨d, ds, h1, h2, h3, h4, q⟩ | ⟨a, o, h1, h2, q⟩
  · exact .inl ⟨c, z, h1, h2, fin _ q⟩
  · exact .inr (.inl ⟨p, xs, h1, h2, h3, h4, fin _ q⟩)
  · exact .inr (.inr (.inl ⟨d, ds, h1, h2, h3, h4, fin _ q⟩))
  · exact .inr (.inr (.inr ⟨a, o, h1, h2, fin _ q⟩))
theorem sim_notin : SimO K (rNotInA K) oNotIn := fun as H M dx dy x y k Q rp rx ry h hk => by
  have fin : ∀ b, k (.bl b) M → Q (.bl b) H := fun b q => hk _ _ q as H _ .refl rp (.bl _)
  rcases inB_ok (neg := false) rp rx ry h with ⟨c, z, h1, h2, q⟩ | ⟨p, xs, h1, h2, h3, h4, q⟩ | ⟨d, ds, h1, h2, h3, h4, q⟩ | ⟨a, o, h1, h2, q⟩
  · exact .inl ⟨c, z, h1, h2, fin _ q⟩
  · exact .inr (.inl ⟨p, xs, h1, h2, h3, h4, fin _ q⟩)
  · exact .inr (.inr (.inl ⟨d, ds, h1, h2, h3, h4, fin _ q⟩))
  · exact .inr (.inr (.inr ⟨a, o, h1, h2, fin _ q⟩))
end
def oIx : OP := fun x y M Q => match x with
  | .tup ds => match y with
    | .int i => match atI ds i with | some d => Q d M | none => False
    | _ => False
  | .str z => match y with
    | .int i => z.length ≤ 16000000 ∧ match atI z.cps.toList i with | some c => Q (.str ⟨#[c]⟩) M | none => False
    | _ => False
  | .ref n => match M[n]? with
    | some (.lst ds) => match y with
      | .int i => match atI ds i with | some d => Q d M | none => False
      | _ => False
    | some (.frz ds) => match y with
      | .int i => match atI ds i with | some d => Q d M | none => False
      | _ => False
    | some (.dct _ kvs) => match keyOf y with
      | some q => match dget kvs q with | some d => Q d M | none => False
      | none => False
    | _ => False
  | _ => False
def rIxD : R2 := fun x y H Q => ∃ a v, x = .ref a ∧ DGet H a y (some v) ∧ Q v H
theorem ix_dict {X : Cx} (hu : X.A.units + 1 < cLine) : IxR X rIxD := by
  intro value slice pins s σ H x y v u Q I rx ry h hs
  obtain ⟨a, w, rfl, g, q⟩ := h
  obtain rfl : v = Value.ref a := rx
  have hT := dict_typeIs I g
  unfold subscriptTail
  refine wpAny_bind ?_
  rw [getitemInPython_of_ne hT.not_modules]
  refine wpAny_bind (wpAny_specialOf hT PySem.F.slot_dict_getitem.lookup ?_)
  have fin : wpAny (model X.prog X.w) X.A (subscripted slice false (.ref a) u) (fun r s₃ => wpAny (model X.prog X.w) X.A (letTemporaryGo value (.ref a) r >>= fun _ => pure r) (EP X pins σ Q) X.xe s₃) X.xe s := by
    rw [hs]
    exact wpAny_operating (wpAny_mono (d_getItem hu I g ry fun w' s3 I3 rw' => (⟨w, H, I3, rw', q⟩ : EP X pins σ Q w' s3)) (fun r s₃ h₃ => wpAny_bind (wpAny_letTemporaryGo (wpAny_pure h₃))) fun _ _ x => x)
  first
    | exact wpAny_pure (wpAny_bind fin)
    | exact wpAny_bind (wpAny_pure (wpAny_bind fin))
    | exact wpAny_bind fin
def rIxA (K : PySem.W.Frag) : R2 := fun x y H Q => rIx K x y H Q ∨ rIxD x y H Q
theorem ix_any {X : Cx} (hu : X.A.units + 1 < cLine) : IxR X (rIxA X.K) := IxR.or ix_seq (ix_dict hu)
section
variable {K : PySem.W.Frag} {as : List Addr} {H : Hp} {M : Mem}
theorem atI_rel {ds : List D} {vs : List V} {i : Int} {d : D} (r : RelL K as H ds vs) (e : atI ds i = some d) : ∃ v, atI vs i = some v ∧ Rel K as H d v := by
  unfold atI at e ⊢
  rw [← r.len]
  cases h : ixN ds.length i with
  | none => rw [h] at e; cases e
  | some j =>
    rw [h] at e
    exact r.get (show ds[j]? = some d from e)
theorem sim_ix : SimO K (rIxA K) oIx := fun as H M dx dy x y k Q rp rx ry h hk => by
  cases rx with
  | tup hs hl =>
    cases ry <;> first | exact h.elim | skip
    rename_i i
    dsimp only [oIx] at h
    split at h
    · rename_i d e
      obtain ⟨v, e2, rv⟩ := atI_rel hl e
      exact .inl (.inr (.inl ⟨_, _, i, v, rfl, rfl, hs.1, e2, hk _ _ h as H _ .refl rp rv⟩))
    · exact h.elim
  | str z =>
    cases ry <;> first | exact h.elim | skip
    rename_i i
    obtain ⟨hz, h⟩ := h
    split at h
    · rename_i c e
      exact .inl (.inr (.inr ⟨z, i, c, rfl, rfl, Nat.le_trans hz (by decide), e, hk _ _ h as H _ .refl rp (.str _)⟩))
    · exact h.elim
  | ref hn =>
    dsimp only [oIx] at h
    split at h
    · rename_i ds e
      cases ry <;> first | exact h.elim | skip
      rename_i i
      dsimp only at h
      split at h
      · rename_i d e1
        obtain ⟨xs, h1, h2⟩ := at_lst rp hn e
        obtain ⟨v, e2, rv⟩ := atI_rel h2 e1
        exact .inl (.inl ⟨_, xs, i, v, rfl, rfl, SqL.of h1, e2, hk _ _ h as H _ .refl rp rv⟩)
      · exact h.elim
    · rename_i ds e
      cases ry <;> first | exact h.elim | skip
      rename_i i
      dsimp only at h
      split at h
      · rename_i d e1
        obtain ⟨ob, xs, h1, h2⟩ := at_frz rp hn e
        obtain ⟨v, e2, rv⟩ := atI_rel h2 e1
        exact .inl (.inl ⟨_, xs, i, v, rfl, rfl, .inl (.inr ⟨ob, h1⟩), e2, hk _ _ h as H _ .refl rp rv⟩)
      · exact h.elim
    · rename_i lk kvs e
      split at h
      · rename_i q0 eq
        split at h
        · rename_i d e1
          obtain ⟨ks, h1, h2⟩ := at_dct rp hn e
          rcases h1.get q0 with ⟨g1, g2⟩ | ⟨d', v, g1, g2, rv⟩
          · rw [g1] at e1; cases e1
          · rw [g1] at e1; cases e1
            exact .inr ⟨_, v, rfl, .inl ⟨ks, q0, h2, keyOf_ok ry eq, g2.symm⟩, hk _ _ h as H _ .refl rp rv⟩
        · exact h.elim
      · exact h.elim
    · exact h.elim
  | _ => exact h.elim
end
end MV
namespace MV
open PySem PySem.Spec PyProof.Rows L2
abbrev MO := Ev → Mem → (Option Int → Mem → Prop) → XM → Prop
def lfO (K : PySem.W.Frag) (W : WX) (m : MO) : TO := fun σ H Q => ∃ as M ρ Q' X', RepM K as H M ∧ RelS K as H ρ σ ∧ m ρ M Q' X' ∧ (∀ d M', Q' d M' → ∀ as' H', Ext K as H as' H' → RepM K as' H' M' → Q d H') ∧ ∀ x M', X' x M' → LX K as H (fun c d H => W c d σ H) x M'
abbrev QO (X : Cx) (W : WX) (e : Option Expr) (m : MO) : Prop := PO X e (lfO X.K W m)
def mNoPart : MO := fun _ M Q _ => Q none M
def mPart (m : ME) : MO := fun ρ M Q X => m ρ M (fun x M1 => match x with | .int i => Q (some i) M1 | _ => False) X
def cutD {α : Type} (xs : List α) (lo hi : Option Int) : List α := (xs.drop (HT.sIx xs.length 0 lo)).take (HT.sIx xs.length xs.length hi - HT.sIx xs.length 0 lo)
def oSl (x : D) (lo hi : Option Int) (M : Mem) (Q : DK) : Prop := match x with
  | .str z => z.length ≤ 16000000 ∧ Q (.str (cutS z lo hi)) M
  | .tup ds => Q (.tup (cutD ds lo hi)) M
  | .kl ds => Q (.ref M.length) (M ++ [.lst (cutD ds lo hi)])
  | .ref n => match M[n]? with
    | some (.lst ds) => Q (.ref M.length) (M ++ [.lst (cutD ds lo hi)])
    | some (.frz ds) => Q (.ref M.length) (M ++ [.lst (cutD ds lo hi)])
    | _ => False
  | _ => False
def mSl (me : ME) (ml mh : MO) : ME := fun ρ M Q X => me ρ M (fun x M1 => ml ρ M1 (fun l M2 => mh ρ M2 (fun h M3 => oSl x l h M3 Q) X) X) X
def rSlAll (K : PySem.W.Frag) : V → Option Int → Option Int → Hp → VK → Prop := fun x lo hi H Q => rSlS x lo hi H Q ∨ rSlA K x lo hi H Q ∨ rSlL K x lo hi H Q
section
variable {X : Cx} {W : WX} {e : Expr} {lo hi : Option Expr} {me : ME} {ml mh : MO} {pos p2 : Pos}
theorem po_imp {t t' : TO} {o : Option Expr} (h : PO X o t) (i : ∀ σ H Q, t' σ H Q → t σ H Q) : PO X o t' := ⟨fun pins s σ H Q I q => h.run pins s σ H Q I (i σ H Q q)⟩
theorem qo_none : QO X W none mNoPart := po_imp po_none fun σ H Q ⟨as, M, ρ, Q', X', r, rs, h, hq, hx⟩ => hq _ _ h as H .refl r
theorem qo_some (he : QE X W e me) : QO X W (some e) (mPart me) := po_imp (po_some he) fun σ H Q ⟨as, M, ρ, Q', X', r, rs, h, hq, hx⟩ => by
  refine lf_bind r rs h hx fun dx M1 as1 H1 x h1 e1 r1 rs1 rx => ?_
  cases rx <;> first | exact h1.elim | skip
  exact ⟨_, rfl, hq _ _ h1 as1 H1 e1 r1⟩
theorem SlR_or {r r' : V → Option Int → Option Int → Hp → VK → Prop} (h : SlR X r) (h' : SlR X r') : SlR X (fun x lo hi H Q => r x lo hi H Q ∨ r' x lo hi H Q) := by
  intro pins s σ H x v vl vu lo hi sl Q I rx hs pl pu q
  rcases q with q | q
  · exact h pins s σ H x v vl vu lo hi sl Q I rx hs pl pu q
  · exact h' pins s σ H x v vl vu lo hi sl Q I rx hs pl pu q
theorem cut_rel {K : PySem.W.Frag} {as : List Addr} {H : Hp} {ds : List D} {vs : List V} (r : RelL K as H ds vs) (lo hi : Option Int) : RelL K as H (cutD ds lo hi) (cutV vs lo hi) := by
  unfold cutD cutV
  rw [← r.len]
  exact (r.drop _).take _
theorem cut_whole {α : Type} {xs : List α} {lo hi : Option Int} (h : HT.sIx xs.length 0 lo = 0 ∧ HT.sIx xs.length xs.length hi = xs.length) : cutD xs lo hi = xs := by
  unfold cutD; rw [h.1, h.2]; simp
theorem sim_sl {K : PySem.W.Frag} {as : List Addr} {H : Hp} {M : Mem} {dx : D} {x : V} {lo hi : Option Int} {k : DK} {Q : VK} (rp : RepM K as H M) (rx : Rel K as H dx x) (h : oSl dx lo hi M k) (hk : ∀ d M', k d M' → LQ K as H Q d M') : rSlAll K x lo hi H Q := by
  cases rx with
  | str z => exact .inl ⟨z, rfl, Nat.le_trans h.1 (by decide), hk _ _ h.2 as H _ .refl rp (.str _)⟩
  | tup hs hl =>
    refine .inr (.inl ⟨_, _, rfl, hs.1, fun w => ?_, fun _ p hp => new_tup rp (cut_rel hl lo hi) hp h hk⟩)
    refine hk _ _ h as H _ .refl rp ?_
    rw [← hl.len] at w
    rw [cut_whole w]
    exact .tup hs hl
  | kl hs hl => exact .inr (.inr ⟨_, _, rfl, hs.sq, fun p hp => new_lst rp (cut_rel hl lo hi) hp h hk⟩)
  | ref hn =>
    dsimp only [oSl] at h
    split at h
    · rename_i ds e
      obtain ⟨xs, h1, h2⟩ := at_lst rp hn e
      exact .inr (.inr ⟨_, xs, rfl, SqL.of h1, fun p hp => new_lst rp (cut_rel h2 lo hi) hp h hk⟩)
    · rename_i ds e
      obtain ⟨ob, xs, h1, h2⟩ := at_frz rp hn e
      exact .inr (.inr ⟨_, xs, rfl, .inl (.inr ⟨ob, h1⟩), fun p hp => new_lst rp (cut_rel h2 lo hi) hp h hk⟩)
    · exact h.elim
  | _ => exact h.elim
theorem qe_slice (he : QE X W e me) (hl : QO X W lo ml) (hh : QO X W hi mh) : QE X W (.Subscript e (.Slice lo hi none p2) pos) (mSl me ml mh) :=
  PEi (pe_slice (r := rSlAll X.K) (SlR_or sl_str (SlR_or sl_tupA sl_list)) he hl hh) fun σ H Q ⟨as, M, ρ, Q', X', r, rs, h, hq, hx⟩ => by
    refine lf_bind r rs h hx fun dx M1 as1 H1 x h1 e1 r1 rs1 rx => ?_
    refine ⟨as1, M1, ρ, _, X', r1, rs1, h1, fun l M2 h2 as2 H2 e2 r2 => ?_, fun x M' q => (hx x M' q).mono e1⟩
    refine ⟨as2, M2, ρ, _, X', r2, rs1.up e2, h2, fun h M3 h3 as3 H3 e3 r3 => ?_, fun x M' q => (hx x M' q).mono (e1.trans e2)⟩
    exact sim_sl r3 (rx.up (e2.trans e3)) h3 fun d M' q => (hq d M' q).mono ((e1.trans e2).trans e3)
end
def oLen : OA := fun xs M Q => match xs with
  | [.str z] => z.length ≤ 16000000 ∧ Q (.int z.length) M
  | [.tup ds] => Q (.int ds.length) M
  | [.ref n] => match M[n]? with
    | some (.lst ds) => Q (.int ds.length) M
    | some (.frz ds) => Q (.int ds.length) M
    | some (.dct _ kvs) => Q (.int kvs.length) M
    | _ => False
  | _ => False
def oAbs : OA := fun xs M Q => match xs with | [.int i] => Q (.int (if i < 0 then -i else i)) M | _ => False
def oMin2 : OA := fun xs M Q => match xs with | [.int i, .int j] => Q (.int (if j < i then j else i)) M | _ => False
def oMax2 : OA := fun xs M Q => match xs with | [.int i, .int j] => Q (.int (if j > i then j else i)) M | _ => False
def oInt1 : OA := fun xs M Q => match xs with
  | [.int i] => Q (.int i) M
  | [.bl k] => Q (.int (if k then 1 else 0)) M
  | [.str a] => match PySem.intText? a with | some n => a.length ≤ 640 ∧ Q (.int n) M | none => False
  | _ => False
def oStr1 : OA := fun xs M Q => match xs with
  | [.int i] => i.natAbs.log2 < 1920 ∧ Q (.str (toString i)) M
  | [.str a] => Q (.str a) M
  | _ => False
def kD : Key → D
  | .inl i => .int i
  | .inr x => .str x
def oList1 : OA := fun xs M Q => match xs with
  | [.tup ds] => Q (.ref M.length) (M ++ [.lst ds])
  | [.ref n] => match M[n]? with
    | some (.lst ds) => Q (.ref M.length) (M ++ [.lst ds])
    | some (.frz ds) => Q (.ref M.length) (M ++ [.lst ds])
    | some (.dct false kvs) => Q (.ref M.length) (M ++ [.lst (kvs.map fun kv => kD kv.1)])
    | _ => False
  | _ => False
def oTuple1 : OA := fun xs M Q => match xs with
  | [.tup ds] => Q (.tup ds) M
  | [.ref n] => match M[n]? with
    | some (.lst ds) => Q (.tup ds) M
    | some (.frz ds) => Q (.tup ds) M
    | _ => False
  | _ => False
def oDict1 : OA := fun xs M Q => match xs with
  | [.ref n] => match M[n]? with
    | some (.dct _ kvs) => Q (.ref M.length) (M ++ [.dct false kvs])
    | _ => False
  | _ => False
def rLenA (K : PySem.W.Frag) : List V → Hp → VK → Prop := fun xs H Q => (∃ x n, xs = [x] ∧ LenV K x H n ∧ Q (.int n) H) ∨ ∃ a kvs, xs = [V.ref a] ∧ Rd H a (.dK kvs) ∧ Q (.int kvs.length) H
theorem CallR_or {X : Cx} {f : Value} {r r' : List V → Hp → VK → Prop} (h : CallR X f r) (h' : CallR X f r') : CallR X f (fun xs H Q => r xs H Q ∨ r' xs H Q) := by
  intro pins s σ H xs us Q I r q
  rcases q with q | q
  · exact h pins s σ H xs us Q I r q
  · exact h' pins s σ H xs us Q I r q
section
variable {X : Cx} {K : PySem.W.Frag}
theorem call_lenR : CallR X (.builtin "len") (fun xs H Q => ∃ a kvs, xs = [V.ref a] ∧ Rd H a (.dK kvs) ∧ Q (.int kvs.length) H) := by
  intro pins s σ H xs us Q I r h
  obtain ⟨a, kvs, rfl, e, q⟩ := h
  obtain ⟨u, rfl, rx⟩ := vals1 r
  cases rx
  exact d_len I e fun t s' I' => ⟨.int _, H, I', ⟨_, rfl⟩, q⟩
theorem call_lenA : CallR X (.builtin "len") (rLenA X.K) := CallR_or call_len call_lenR
theorem RelL.one {as : List Addr} {H : Hp} {d : D} {vs : List V} (h : RelL K as H [d] vs) : ∃ v, vs = [v] ∧ Rel K as H d v := by
  cases h with
  | cons h r => cases r; exact ⟨_, rfl, h⟩
theorem RelL.two {as : List Addr} {H : Hp} {d e : D} {vs : List V} (h : RelL K as H [d, e] vs) : ∃ v w, vs = [v, w] ∧ Rel K as H d v ∧ Rel K as H e w := by
  cases h with
  | cons h r => obtain ⟨w, rfl, h2⟩ := r.one; exact ⟨_, _, rfl, h, h2⟩
theorem sim_len : SimA K (rLenA K) oLen := fun as H M ds vs k Q rp rv h hk => by
  unfold oLen at h
  split at h
  · obtain ⟨v, rfl, rx⟩ := rv.one
    cases rx
    exact .inl ⟨_, _, rfl, ⟨Nat.le_trans h.1 (by decide), rfl⟩, hk _ _ h.2 as H _ .refl rp (.int _)⟩
  · obtain ⟨v, rfl, rx⟩ := rv.one
    cases rx with
    | tup hs hl => exact .inl ⟨_, _, rfl, .inr ⟨_, hs.1, rfl⟩, by rw [← hl.len]; exact hk _ _ h as H _ .refl rp (.int _)⟩
  · obtain ⟨v, rfl, rx⟩ := rv.one
    cases rx with
    | ref hn =>
      split at h
      · rename_i ds e
        obtain ⟨xs, h1, h2⟩ := at_lst rp hn e
        exact .inl ⟨_, _, rfl, .inl ⟨_, SqL.of h1, rfl⟩, by rw [← h2.len]; exact hk _ _ h as H _ .refl rp (.int _)⟩
      · rename_i ds e
        obtain ⟨ob, xs, h1, h2⟩ := at_frz rp hn e
        exact .inl ⟨_, _, rfl, .inl ⟨_, .inl (.inr ⟨ob, h1⟩), rfl⟩, by rw [← h2.len]; exact hk _ _ h as H _ .refl rp (.int _)⟩
      · rename_i lk kvs e
        obtain ⟨ks, h1, h2⟩ := at_dct rp hn e
        exact .inr ⟨_, ks, rfl, h2, by rw [← h1.len]; exact hk _ _ h as H _ .refl rp (.int _)⟩
      · exact h.elim
  · exact h.elim
def rIntA : List V → Hp → VK → Prop := fun xs H Q => DW.rInt1 xs H Q ∨ DW.rIntStr xs H Q
theorem call_intA : CallR X (.type "int") rIntA := CallR_or call_int1 call_int_str
theorem sim_int : SimA K rIntA oInt1 := fun as H M ds vs k Q rp rv h hk => by
  unfold oInt1 at h
  split at h
  · obtain ⟨v, rfl, rx⟩ := rv.one
    cases rx
    exact .inl (.inl ⟨_, rfl, hk _ _ h as H _ .refl rp (.int _)⟩)
  · obtain ⟨v, rfl, rx⟩ := rv.one
    cases rx
    exact .inl (.inr ⟨_, rfl, hk _ _ h as H _ .refl rp (.int _)⟩)
  · obtain ⟨v, rfl, rx⟩ := rv.one
    cases rx
    split at h
    · rename_i n e
      exact .inr ⟨_, n, rfl, e, h.1, hk _ _ h.2 as H _ .refl rp (.int _)⟩
    · exact h.elim
  · exact h.elim
theorem kD_rel {as : List Addr} {H : Hp} (k : Key) : Rel K as H (kD k) (kV k) := by
  cases k with
  | inl i => exact .int i
  | inr x => exact .str x
theorem KVR.keys {as : List Addr} {H : Hp} {l : List (Key × D)} {m : List (Key × V)} (h : KVR K as H l m) : RelL K as H (l.map fun kv => kD kv.1) (m.map fun kv => kV kv.1) := by
  induction h with
  | nil => exact .nil
  | cons h t ih =>
    simp only [List.map_cons]
    rw [h.1]
    exact .cons (kD_rel _) ih
def rListA (K : PySem.W.Frag) : List V → Hp → VK → Prop := fun xs H Q => DW.rListOf K xs H Q ∨ rListD xs H Q
theorem sim_list : SimA K (rListA K) oList1 := fun as H M ds vs k Q rp rv h hk => by
  unfold oList1 at h
  split at h
  · obtain ⟨v, rfl, rx⟩ := rv.one
    cases rx with
    | tup hs hl => exact .inl ⟨_, _, rfl, .inr hs.1, fun p hp => new_lst rp hl hp h hk⟩
  · obtain ⟨v, rfl, rx⟩ := rv.one
    cases rx with
    | ref hn =>
      split at h
      · rename_i ds e
        obtain ⟨xs, h1, h2⟩ := at_lst rp hn e
        exact .inl ⟨_, _, rfl, .inl (SqL.of h1), fun p hp => new_lst rp h2 hp h hk⟩
      · rename_i ds e
        obtain ⟨ob, xs, h1, h2⟩ := at_frz rp hn e
        exact .inl ⟨_, _, rfl, .inl (.inl (.inr ⟨ob, h1⟩)), fun p hp => new_lst rp h2 hp h hk⟩
      · rename_i kvs e
        obtain ⟨a', ha, ks, h1, h2⟩ := rp.at_ e
        rw [hn] at ha; cases ha
        exact .inr ⟨_, ks, rfl, h2, fun p hp => new_lst rp h1.keys hp h hk⟩
      · exact h.elim
  · exact h.elim
theorem sim_tuple : SimA K (DW.rTupleOf K) oTuple1 := fun as H M ds vs k Q rp rv h hk => by
  unfold oTuple1 at h
  split at h
  · obtain ⟨v, rfl, rx⟩ := rv.one
    cases rx with
    | tup hs hl => exact ⟨_, _, rfl, .inr ⟨hs.1, hk _ _ h as H _ .refl rp (.tup hs hl)⟩⟩
  · obtain ⟨v, rfl, rx⟩ := rv.one
    cases rx with
    | ref hn =>
      split at h
      · rename_i ds e
        obtain ⟨xs, h1, h2⟩ := at_lst rp hn e
        exact ⟨_, _, rfl, .inl ⟨SqL.of h1, fun p hp => new_tup rp h2 hp h hk⟩⟩
      · rename_i ds e
        obtain ⟨ob, xs, h1, h2⟩ := at_frz rp hn e
        exact ⟨_, _, rfl, .inl ⟨.inl (.inr ⟨ob, h1⟩), fun p hp => new_tup rp h2 hp h hk⟩⟩
      · exact h.elim
  · exact h.elim
def rDictD : List V → Hp → VK → Prop := fun xs H Q => ∃ (a : Addr) (kvs : List (Key × V)), xs = [.ref a] ∧ Rd H a (.dK kvs) ∧ ∀ p, H p = none → Q (.ref p) (upd H p (.dK kvs))
theorem sim_dict : SimA K rDictD oDict1 := fun as H M ds vs k Q rp rv h hk => by
  unfold oDict1 at h
  split at h
  · obtain ⟨v, rfl, rx⟩ := rv.one
    cases rx with
    | ref hn =>
      split at h
      · rename_i lk kvs e
        obtain ⟨ks, h1, h2⟩ := at_dct rp hn e
        exact ⟨_, ks, rfl, h2, fun p hp => new_obj (o := .dct false kvs) rp hp ⟨ks, h1.up ((ext_new hp).trans ext_app), upd_same⟩ h hk⟩
      · exact h.elim
  · exact h.elim
end
section
variable {X : Cx} {W : WX} {e : Expr} {es : List Expr} {ma : MA} {p pos : Pos} {x : Str}
theorem qe_callB {id : String} {r : List V → Hp → VK → Prop} {o : OA} (hc : CallR X (.builtin id) r) (hs : SimA X.K r o) (hg : Gl X x) (hm : X.mg x = none) (hv : bootBuiltins x = some (.builtin id)) (ha : QA X W (e :: es) ma) (hn : x ≠ "__name__" := by decide) (hdb : (x == ("__debug__" : Str)) = false := by decide)
    (he : starEach (e :: es) X.env = (false, eval e X.env) :: starEach es X.env := by rfl) (hpl : (backTo pos (starEach es X.env)).any (·.1) = false := by rfl) : QE X W (.Call (.Name x p) (e :: es) [] pos) (mCB o ma) :=
  PEi (pe_callB hc hg hm hv ha hn hdb he hpl) (lf_cb hs)
theorem qe_callTy {T : String} {r : List V → Hp → VK → Prop} {o : OA} (hc : CallR X (.type T) r) (hs : SimA X.K r o) (hg : Gl X x) (hm : X.mg x = none) (hv : bootBuiltins x = some (.type T)) (ha : QA X W (e :: es) ma) (hn : x ≠ "__name__" := by decide) (hdb : (x == ("__debug__" : Str)) = false := by decide)
    (he : starEach (e :: es) X.env = (false, eval e X.env) :: starEach es X.env := by rfl) (hpl : (backTo pos (starEach es X.env)).any (·.1) = false := by rfl) : QE X W (.Call (.Name x p) (e :: es) [] pos) (mCB o ma) :=
  PEi (pe_callTy hc hg hm hv ha hn hdb he hpl) (lf_cb hs)
end
end MV
namespace MV
open PySem PySem.Spec PyProof.Rows L2
def mNext : MS := fun E ρ M => E.nx ρ M
def mRetN : MS := fun E _ M => E.rt .non M
def mSeq (a b : MS) : MS := fun E ρ M => a ⟨fun ρ' M' => b E ρ' M', E.rt, E.bk, E.ct, E.ex⟩ ρ M
def mDrop (m : ME) : MS := fun E ρ M => m ρ M (fun _ M1 => E.nx ρ M1) (fun x M1 => E.ex x ρ M1)
def mRet (m : ME) : MS := fun E ρ M => m ρ M E.rt (fun x M1 => E.ex x ρ M1)
def mIfS (t : MT) (a b : MS) : MS := fun E ρ M => t ρ M (fun k M1 => if k = true then a E ρ M1 else b E ρ M1) (fun x M1 => E.ex x ρ M1)
section
variable {X : Cx} {W : WX} {st : Stmt} {rest a b : List Stmt} {m n : MS} {e c : Expr} {me : ME} {mt : MT} {pos : Pos}
theorem exS {K : PySem.W.Frag} {as : List Addr} {H : Hp} {E : Nd} {D : Ends} {ρ : Ev} {σ : L2.St} (hE : NdOk K W as H E D) (rs : RelS K as H ρ σ) : ∀ x M', E.ex x ρ M' → LX K as H (fun c d H => W c d σ H) x M' :=
  fun x M' q as' H' c d e r' rx => hE.ex x ρ M' q as' H' σ c d e r' (rs.up e) rx
theorem qss_nil : QSs X W [] mNext := PSsi pss_nil fun D σ H ⟨as, M, ρ, E, r, rs, h, hE⟩ => hE.nx _ _ h as H σ .refl r rs
theorem qss_cons (h1 : QS X W st m) (h2 : QSs X W rest n) : QSs X W (st :: rest) (mSeq m n) := PSsi (pss_cons h1 h2) fun D σ H ⟨as, M, ρ, E, r, rs, h, hE⟩ =>
  ⟨as, M, ρ, _, r, rs, h, ⟨fun ρ' M' q as' H' σ' e' r' rs' => ⟨as', M', ρ', E, r', rs', q, hE.mono e'⟩, hE.rt, hE.bk, hE.ct, hE.ex⟩⟩
theorem qss_one (h1 : QS X W st m) : QSs X W [st] m := pss_one h1
theorem qs_expr (he : QE X W e me) (hs : swapsWith e none pos.line X.env = pure false := by rfl) : QS X W (.Expr e pos) (mDrop me) := PSi (ps_expr he hs) fun D σ H ⟨as, M, ρ, E, r, rs, h, hE⟩ =>
  lf_bind r rs h (exS hE rs) fun d M1 as1 H1 v h1 e1 r1 rs1 rv => hE.nx _ _ h1 as1 H1 σ e1 r1 rs1
theorem qs_ret (he : QE X W e me) : QS X W (.Return (some e) pos) (mRet me) := PSi (ps_ret he) fun D σ H ⟨as, M, ρ, E, r, rs, h, hE⟩ =>
  lf_bind r rs h (exS hE rs) fun d M1 as1 H1 v h1 e1 r1 rs1 rv => hE.rt _ _ h1 as1 H1 v e1 r1 rv
theorem qs_if (hc : QT X W c mt) (ha : QSs X W a m) (hb : QSs X W b n) : QS X W (.If c a b pos) (mIfS mt m n) := PSi (ps_if hc ha hb) fun D σ H ⟨as, M, ρ, E, r, rs, h, hE⟩ => by
  refine lfT_bind r rs h (exS hE rs) fun k M1 as1 H1 h1 e1 r1 rs1 => ?_
  cases k with
  | true => exact ⟨as1, M1, ρ, E, r1, rs1, h1, hE.mono e1⟩
  | false => exact ⟨as1, M1, ρ, E, r1, rs1, h1, hE.mono e1⟩
end
mutual
inductive Tg where
  | nm (i : Nat)
  | tp (n : Nat) (l : Tgs)
inductive Tgs where
  | nil
  | cons (t : Tg) (l : Tgs)
end
abbrev MG := D → Ev → Mem → (Ev → Prop) → Prop
abbrev MGs := List D → Ev → Mem → (Ev → Prop) → Prop
mutual
/-- HandS's reading of a target -/
def Tg.rd (K : PySem.W.Frag) : Tg → TG
  | .nm i => gName i
  | .tp n l => fun v σ H Q => gTup K n (l.rd K) v σ H Q ∨ gLst K n (l.rd K) v σ H Q
def Tgs.rd (K : PySem.W.Frag) : Tgs → TGs
  | .nil => gNil
  | .cons t l => gCons (t.rd K) (l.rd K)
end
mutual
/-- the mirror's -/
def Tg.mg : Tg → MG
  | .nm i => fun d ρ _ N => N (ρ.set i (some d))
  | .tp n l => fun d ρ M N => match d with
    | .tup ds => ds.length = n ∧ l.mg ds ρ M N
    | .ref a => match M[a]? with
      | some (.lst ds) => ds.length = n ∧ l.mg ds ρ M N
      | _ => False
    | _ => False
def Tgs.mg : Tgs → MGs
  | .nil => fun ds ρ _ N => match ds with | [] => N ρ | _ => False
  | .cons t l => fun ds ρ M N => match ds with | d :: r => t.mg d ρ M fun ρ' => l.mg r ρ' M N | _ => False
end
mutual
def Tg.slots : Tg → List Nat
  | .nm i => [i]
  | .tp _ l => l.slots
def Tgs.slots : Tgs → List Nat
  | .nil => []
  | .cons t l => t.slots ++ l.slots
end
mutual
theorem Tg.sim {K : PySem.W.Frag} : ∀ (T : Tg) {as : List Addr} {H : Hp} {M : Mem} {ρ : Ev} {σ : L2.St} {d : D} {v : V} {N : Ev → Prop} {Q : L2.St → Hp → Prop}, RepM K as H M → RelS K as H ρ σ → Rel K as H d v → T.mg d ρ M N →
    (∀ ρ' σ', N ρ' → RelS K as H ρ' σ' → Q σ' H) → T.rd K v σ H Q
  | .nm i, as, H, M, ρ, σ, d, v, N, Q, r, rs, rd, h, hq => by
    simp only [Tg.mg] at h
    simp only [Tg.rd]
    exact hq _ _ h (rs.set rd)
  | .tp n l, as, H, M, ρ, σ, d, v, N, Q, r, rs, rd, h, hq => by
    simp only [Tg.mg] at h
    simp only [Tg.rd]
    cases rd with
    | tup hs hl => exact .inl ⟨_, _, rfl, hs.1, by rw [← hl.len]; exact h.1, Tgs.sim l r rs hl h.2 hq⟩
    | ref ha =>
      dsimp only at h
      split at h
      · rename_i ds e
        obtain ⟨xs, h1, h2⟩ := at_lst r ha e
        exact .inr ⟨_, xs, rfl, SqL.of h1, by rw [← h2.len]; exact h.1, Tgs.sim l r rs h2 h.2 hq⟩
      · exact h.elim
    | _ => exact h.elim
theorem Tgs.sim {K : PySem.W.Frag} : ∀ (T : Tgs) {as : List Addr} {H : Hp} {M : Mem} {ρ : Ev} {σ : L2.St} {ds : List D} {vs : List V} {N : Ev → Prop} {Q : L2.St → Hp → Prop}, RepM K as H M → RelS K as H ρ σ → RelL K as H ds vs → T.mg ds ρ M N →
    (∀ ρ' σ', N ρ' → RelS K as H ρ' σ' → Q σ' H) → T.rd K vs σ H Q
  | .nil, as, H, M, ρ, σ, ds, vs, N, Q, r, rs, rd, h, hq => by
    simp only [Tgs.mg] at h
    simp only [Tgs.rd]
    cases rd with
    | nil => exact ⟨rfl, hq _ _ h rs⟩
    | cons _ _ => exact h.elim
  | .cons t l, as, H, M, ρ, σ, ds, vs, N, Q, r, rs, rd, h, hq => by
    simp only [Tgs.mg] at h
    simp only [Tgs.rd]
    cases rd with
    | nil => exact h.elim
    | cons rd rr => exact ⟨_, _, rfl, Tg.sim t r rs rd h fun ρ' σ' h' rs' => Tgs.sim l r rs' rr h' hq⟩
end
theorem set_set_comm {α : Type} (l : List α) {i j : Nat} (a b : α) (h : i ≠ j) : (l.set i a).set j b = (l.set j b).set i a := by
  apply List.ext_getElem?
  intro k
  simp only [List.getElem?_set]
  split <;> split <;> simp_all
theorem wipe_set {σ : L2.St} {i : Nat} {v : Option V} : ∀ {vs : List Nat}, i ∈ vs → wipe (σ.set i v) vs = wipe σ vs
  | w :: vs, h => by
    show (wipe (σ.set i v) vs).set w none = (wipe σ vs).set w none
    by_cases e : i ∈ vs
    · rw [wipe_set e]
    · have hw : i = w := by
        rcases List.mem_cons.mp h with z | z
        · exact z
        · exact absurd z e
      subst hw
      have key : ∀ vs : List Nat, i ∉ vs → wipe (σ.set i v) vs = (wipe σ vs).set i v := by
        intro vs
        induction vs with
        | nil => intro _; rfl
        | cons u vs ih =>
          intro hn
          show (wipe (σ.set i v) vs).set u none = ((wipe σ vs).set u none).set i v
          rw [ih (fun z => hn (List.mem_cons_of_mem _ z)), set_set_comm _ _ _ (fun z => hn (by rw [z]; exact List.mem_cons_self))]
      rw [key vs e, List.set_set]
mutual
/-- only the slots vs are stored -/
theorem Tg.keep {K : PySem.W.Frag} {vs : List Nat} : ∀ (T : Tg), (∀ i ∈ T.slots, i ∈ vs) → ∀ {v : V} {σ : L2.St} {H : Hp} {Q Q' : L2.St → Hp → Prop}, (∀ σ2 H2, wipe σ2 vs = wipe σ vs → Q σ2 H2 → Q' σ2 H2) → T.rd K v σ H Q → T.rd K v σ H Q'
  | .nm i, hi, v, σ, H, Q, Q', im, h => by
    simp only [Tg.rd] at h ⊢
    exact im _ _ (wipe_set (hi i (by simp [Tg.slots]))) h
  | .tp n l, hi, v, σ, H, Q, Q', im, h => by
    simp only [Tg.rd] at h ⊢
    have hi' : ∀ i ∈ l.slots, i ∈ vs := fun i z => hi i (by simpa [Tg.slots] using z)
    rcases h with ⟨a, xs, e, hs, hl, h⟩ | ⟨a, xs, e, hs, hl, h⟩
    · exact .inl ⟨a, xs, e, hs, hl, Tgs.keep l hi' im h⟩
    · exact .inr ⟨a, xs, e, hs, hl, Tgs.keep l hi' im h⟩
theorem Tgs.keep {K : PySem.W.Frag} {vs : List Nat} : ∀ (T : Tgs), (∀ i ∈ T.slots, i ∈ vs) → ∀ {v : List V} {σ : L2.St} {H : Hp} {Q Q' : L2.St → Hp → Prop}, (∀ σ2 H2, wipe σ2 vs = wipe σ vs → Q σ2 H2 → Q' σ2 H2) → T.rd K v σ H Q → T.rd K v σ H Q'
  | .nil, hi, v, σ, H, Q, Q', im, h => by
    simp only [Tgs.rd] at h ⊢
    exact ⟨h.1, im _ _ rfl h.2⟩
  | .cons t l, hi, v, σ, H, Q, Q', im, h => by
    simp only [Tgs.rd] at h ⊢
    obtain ⟨w, ws, e, h⟩ := h
    refine ⟨w, ws, e, Tg.keep t (fun i z => hi i (by simp [Tgs.slots, z])) (fun σ1 H1 e1 q => ?_) h⟩
    exact Tgs.keep l (fun i z => hi i (by simp [Tgs.slots, z])) (fun σ2 H2 e2 q2 => im _ _ (e2.trans e1) q2) q
end
section
variable {X : Cx} {W : WX} {pos : Pos}
def QG (X : Cx) (tg : Expr) (T : Tg) : Prop := PG X tg (T.rd X.K)
def QGs (X : Cx) (tgs : List Expr) (T : Tgs) : Prop := PGs X tgs (T.rd X.K)
theorem qg_name {i : Nat} {x : Str} (hN : X.N.Nodup) (hi : X.N[i]? = some x) (hx : Loc X.env.scope x) (hf : X.fn x = true ∨ X.env.scope.names.lookup x = some .local := by first | exact .inl rfl | exact .inr rfl | assumption) : QG X (.Name x pos) (.nm i) := by
  have h := pg_name (pos := pos) hN hi hx hf
  unfold QG; simp only [Tg.rd]; exact h
theorem qgs_nil : QGs X [] .nil := by
  unfold QGs; simp only [Tgs.rd]; exact pgs_nil
theorem qgs_cons {e : Expr} {es : List Expr} {t : Tg} {l : Tgs} (h1 : QG X e t) (h2 : QGs X es l) (hs : (assignEach (e :: es) X.env).map (·.2) = assign e X.env :: (assignEach es X.env).map (·.2) := by rfl) : QGs X (e :: es) (.cons t l) := by
  unfold QGs; simp only [Tgs.rd]; exact pgs_cons h1 h2 hs
theorem PG_or {tg : Expr} {t u : TG} (h : PG X tg t) (h' : PG X tg u) : PG X tg (fun v σ H Q => t v σ H Q ∨ u v σ H Q) := ⟨fun pins s σ H v w Q I r q => by
  rcases q with q | q
  · exact h.run pins s σ H v w Q I r q
  · exact h'.run pins s σ H v w Q I r q⟩
theorem qg_tup {es : List Expr} {k : Nat} {l : Tgs} {n : Nat} (hc : X.calm = true) (h : QGs X es l) (hn : (assignEach es X.env).length = n := by rfl) (hst : (assignEach es X.env).findIdx? (·.1) = none := by rfl) : QG X (.Tuple es k pos) (.tp n l) := by
  unfold QG; simp only [Tg.rd]; exact PG_or (pg_tup hc h hn hst) (pg_lst hc h hn hst)
variable {e : Expr} {me : ME}
def mSet (i : Nat) (m : ME) : MS := fun E ρ M => m ρ M (fun d M1 => E.nx (ρ.set i (some d)) M1) (fun x M1 => E.ex x ρ M1)
def mAsg (m : ME) (T : Tg) : MS := fun E ρ M => m ρ M (fun d M1 => T.mg d ρ M1 fun ρ' => E.nx ρ' M1) (fun x M1 => E.ex x ρ M1)
theorem qs_set {i : Nat} {x : Str} {pos' : Pos} (hN : X.N.Nodup) (hi : X.N[i]? = some x) (hx : Loc X.env.scope x) (he : QE X W e me) (hs : swapsWith e (some (.Name x pos')) pos.line X.env = pure false := by rfl) (hf : X.fn x = true ∨ X.env.scope.names.lookup x = some .local := by first | exact .inl rfl | exact .inr rfl | assumption) :
    QS X W (.Assign [.Name x pos'] e pos) (mSet i me) := PSi (ps_set hN hi hx he hs hf) fun D σ H ⟨as, M, ρ, E, r, rs, h, hE⟩ =>
  lf_bind r rs h (exS hE rs) fun d M1 as1 H1 v h1 e1 r1 rs1 rv => hE.nx _ _ h1 as1 H1 _ e1 r1 (rs1.set rv)
theorem qs_asg {tg : Expr} {T : Tg} (he : QE X W e me) (hg : QG X tg T) (hs : swapsWithSole [tg] e pos.line X.env = pure false := by rfl) (hw : swappedStores [tg] e X.env = pure none := by rfl)
    (h1 : (assignEach [tg] X.env).map (·.2) = [assign tg X.env] := by rfl) : QS X W (.Assign [tg] e pos) (mAsg me T) := by
  refine PSi (ps_asg he hg hs hw h1) fun D σ H ⟨as, M, ρ, E, r, rs, h, hE⟩ => ?_
  exact lf_bind r rs h (exS hE rs) fun d M1 as1 H1 v h1 e1 r1 rs1 rv => T.sim r1 rs1 rv h1 fun ρ' σ' q rs' => hE.nx _ _ q as1 H1 _ e1 r1 rs'
def mPar (i j : Nat) (ma : MA) : MS := fun E ρ M => ma ρ M (fun ds M1 => match ds with | [d, e] => E.nx ((ρ.set i (some d)).set j (some e)) M1 | _ => False) (fun x M1 => E.ex x ρ M1)
theorem qs_par {i j : Nat} {x y : Str} {a b : Expr} {ma : MA} {px py pt : Pos} {kt k2 pt2} (hc : X.calm = true) (hN : X.N.Nodup) (hi : X.N[i]? = some x) (hj : X.N[j]? = some y) (hij : i ≠ j)
    (hx : X.env.scope.names.lookup x = some .local) (hy : X.env.scope.names.lookup y = some .local) (ha : QA X W [a, b] ma)
    (hw : swappedStores [.Tuple [.Name x px, .Name y py] kt pt] (.Tuple [a, b] k2 pt2) X.env = pure (some [x, y]))
    (hs : swapsWithSole [.Tuple [.Name x px, .Name y py] kt pt] (.Tuple [a, b] k2 pt2) pos.line X.env = pure false := by rfl) :
    QS X W (.Assign [.Tuple [.Name x px, .Name y py] kt pt] (.Tuple [a, b] k2 pt2) pos) (mPar i j ma) := PSi (ps_par hc hN hi hj hij hx hy ha hw hs) fun D σ H ⟨as, M, ρ, E, r, rs, h, hE⟩ => by
  refine lfA_bind r rs h (exS hE rs) fun ds M1 as1 H1 vs h1 e1 r1 rs1 rv => ?_
  split at h1
  · obtain ⟨v, w, rfl, r2, r3⟩ := rv.two
    exact ⟨v, w, rfl, hE.nx _ _ h1 as1 H1 _ e1 r1 ((rs1.set r2).set r3)⟩
  · exact h1.elim
def oSetIx (o i v : D) (M : Mem) (N : Mem → Prop) : Prop := match o with
  | .ref n => match M[n]? with
    | some (.lst ds) => match i with
      | .int k => match ixN ds.length k with
        | some j => N (M.set n (.lst (ds.set j v)))
        | none => False
      | _ => False
    | some (.dct false kvs) => match keyOf i with
      | some q => kvs.length < 16000000 ∧ N (M.set n (.dct false (dput kvs q v)))
      | none => False
    | _ => False
  | _ => False
def mSetIx (mv mo mi : ME) : MS := fun E ρ M => mv ρ M (fun v M1 => mo ρ M1 (fun o M2 => mi ρ M2 (fun i M3 => oSetIx o i v M3 fun M4 => E.nx ρ M4) (fun x M3 => E.ex x ρ M3)) (fun x M2 => E.ex x ρ M2)) (fun x M1 => E.ex x ρ M1)
def rSetD : TSet := fun o y v H Q => ∃ a H', o = .ref a ∧ DPut H a y v H' ∧ Q H'
theorem set_dict (hu : X.A.units + 1 < cLine) : PSet X rSetD := fun pins s σ H o i v ov iv u Q I ro ri rv h => by
  obtain ⟨a, H', rfl, g, q⟩ := h
  obtain rfl : ov = Value.ref a := ro
  exact d_setItem hu I g ri rv fun s4 I4 => ⟨H', I4, q⟩
theorem PSet_or {t u : TSet} (h : PSet X t) (h' : PSet X u) : PSet X (fun o i v H Q => t o i v H Q ∨ u o i v H Q) := fun pins s σ H o i v ov iv w Q I ro ri rv q => by
  rcases q with q | q
  · exact h pins s σ H o i v ov iv w Q I ro ri rv q
  · exact h' pins s σ H o i v ov iv w Q I ro ri rv q
theorem nfrz_lst {H : Hp} {a : Addr} {xs : List V} (h : H a = some (.lst xs)) : ∀ ob w, H a ≠ some (.frz ob w) := fun ob w z => by rw [h] at z; cases z
theorem nfrz_dK {H : Hp} {a : Addr} {xs : List (Key × V)} (h : H a = some (.dK xs)) : ∀ ob w, H a ≠ some (.frz ob w) := fun ob w z => by rw [h] at z; cases z
theorem nfrz_ins {H : Hp} {a C dx : Addr} {xs : List (Str × V)} (h : H a = some (.ins C dx xs)) : ∀ ob w, H a ≠ some (.frz ob w) := fun ob w z => by rw [h] at z; cases z
/-- a list is written -/
theorem put_lst {K : PySem.W.Frag} {as : List Addr} {H : Hp} {M : Mem} {n : Nat} {a : Addr} {xs ys : List V} {ds : List D} (rp : RepM K as H M) (hn : as[n]? = some a) (h1 : H a = some (.lst xs)) (r : RelL K as H ds ys) :
    Ext K as H as (upd H a (.lst ys)) ∧ RepM K as (upd H a (.lst ys)) (M.set n (.lst ds)) :=
  have e := ext_put (u := .lst ys) rp hn (nfrz_lst h1)
  ⟨e, rp.put hn (nfrz_lst h1) ⟨ys, upd_same, r.up e⟩⟩
theorem put_dct {K : PySem.W.Frag} {as : List Addr} {H : Hp} {M : Mem} {n : Nat} {a : Addr} {xs ys : List (Key × V)} {ds : List (Key × D)} (rp : RepM K as H M) (hn : as[n]? = some a) (h1 : H a = some (.dK xs)) (r : KVR K as H ds ys) :
    Ext K as H as (upd H a (.dK ys)) ∧ RepM K as (upd H a (.dK ys)) (M.set n (.dct false ds)) :=
  have e := ext_put (u := .dK ys) rp hn (nfrz_dK h1)
  ⟨e, rp.put hn (nfrz_dK h1) ⟨ys, r.up e, upd_same⟩⟩
theorem at_dK {K : PySem.W.Frag} {as : List Addr} {H : Hp} {M : Mem} {n : Nat} {a : Addr} {kvs : List (Key × D)} (rp : RepM K as H M) (hn : as[n]? = some a) (e : M[n]? = some (.dct false kvs)) : ∃ ks, KVR K as H kvs ks ∧ H a = some (.dK ks) := by
  obtain ⟨a', ha, ks, h1, h2⟩ := rp.at_ e
  rw [hn] at ha; cases ha
  exact ⟨ks, h1, h2⟩
theorem setIx_ok {K : PySem.W.Frag} {as : List Addr} {H : Hp} {M : Mem} {o i v : D} {vo vi vv : V} {N : Mem → Prop} {Q : Hp → Prop} (rp : RepM K as H M) (ro : Rel K as H o vo) (ri : Rel K as H i vi) (rv : Rel K as H v vv) (h : oSetIx o i v M N)
    (hq : ∀ M' H', N M' → Ext K as H as H' → RepM K as H' M' → Q H') : rSetL vo vi vv H Q ∨ rSetD vo vi vv H Q := by
  cases ro <;> first | exact h.elim | skip
  rename_i n a hn
  dsimp only [oSetIx] at h
  split at h
  · rename_i ds e
    cases ri <;> first | exact h.elim | skip
    rename_i k
    dsimp only at h
    split at h
    · rename_i j ej
      obtain ⟨xs, h1, h2⟩ := at_lst rp hn e
      obtain ⟨e1, r1⟩ := put_lst rp hn h1 (h2.set rv j)
      exact .inl ⟨a, xs, k, j, rfl, rfl, h1, by rw [← h2.len]; exact ej, hq _ _ h e1 r1⟩
    · exact h.elim
  · rename_i kvs e
    split at h
    · rename_i q0 eq
      obtain ⟨ks, h1, h2⟩ := at_dK rp hn e
      obtain ⟨e1, r1⟩ := put_dct rp hn h2 (h1.put q0 rv)
      refine .inr ⟨a, _, rfl, .inl ⟨ks, q0, h2, keyOf_ok ri eq, ?_, rfl⟩, hq _ _ h.2 e1 r1⟩
      rw [← h1.len]; exact Nat.lt_of_lt_of_le h.1 (by decide)
    · exact h.elim
  · exact h.elim
theorem qs_setIx {o i : Expr} {mo mi : ME} {pos' : Pos} (hu : X.A.units + 1 < cLine) (he : QE X W e me) (ho : QE X W o mo) (hi : QE X W i mi)
    (ha : ∀ v, assign (.Subscript o i pos') X.env v = (do
      let ov ← holding [v] (eval o X.env)
      let iv ← holding [v, ov] (eval i X.env)
      standAt pos'
      holding [v, ov, iv] (setItem ov iv v)
      release [v, ov, iv] []) := by intro _; rfl)
    (hs : swapsWithSole [.Subscript o i pos'] e pos.line X.env = pure false := by rfl) (hw : swappedStores [.Subscript o i pos'] e X.env = pure none := by rfl)
    (h1 : (assignEach [.Subscript o i pos'] X.env).map (·.2) = [assign (.Subscript o i pos') X.env] := by rfl) : QS X W (.Assign [.Subscript o i pos'] e pos) (mSetIx me mo mi) :=
  PSi (ps_asg he (pg_sub ho hi (PSet_or set_list (set_dict hu)) ha) hs hw h1) fun D σ H ⟨as, M, ρ, E, r, rs, h, hE⟩ => by
    refine lf_bind r rs h (exS hE rs) fun v M1 as1 H1 vv h1 e1 r1 rs1 rv => ?_
    refine lf_bind r1 rs1 h1 (fun x M' q => (exS hE rs x M' q).mono e1) fun o M2 as2 H2 vo h2 e2 r2 rs2 ro => ?_
    refine lf_bind r2 rs2 h2 (fun x M' q => (exS hE rs x M' q).mono (e1.trans e2)) fun i M3 as3 H3 vi h3 e3 r3 rs3 ri => ?_
    exact setIx_ok r3 (ro.up e3) ri (rv.up (e2.trans e3)) h3 fun M' H' q e4 r4 => hE.nx _ _ q as3 H' _ (((e1.trans e2).trans e3).trans e4) r4 (rs3.up e4)
end
end MV
namespace MV
open PySem PySem.Spec PyProof.Rows L2
abbrev MI := Ev → Mem → (List D → (Mem → Prop) → Mem → Prop) → XM → Prop
/-- J walks the items while guard stands -/
def ItOk (K : PySem.W.Frag) (as : List Addr) (H : Hp) (J : It) (items : List D) (guard : Mem → Prop) : Prop := ∀ (as' : List Addr) (H' : Hp) (M' : Mem) (i : Nat), Ext K as H as' H' → RepM K as' H' M' → guard M' →
  (i = items.length → J.stop i H') ∧ ∀ d, items[i]? = some d → J.go i H' ∧ ∀ x H2, J.yld i H' x H2 → Ext K as' H' as' H2 ∧ RepM K as' H2 M' ∧ Rel K as' H2 d x
def lfI (K : PySem.W.Frag) (W : WX) (m : MI) : TI := fun σ H R => ∃ as M ρ k X', RepM K as H M ∧ RelS K as H ρ σ ∧ m ρ M k X' ∧
  (∀ items guard M' as' H' J, k items guard M' → Ext K as H as' H' → RepM K as' H' M' → ItOk K as' H' J items guard → R J H') ∧ ∀ x M', X' x M' → LX K as H (fun c d H => W c d σ H) x M'
abbrev QI (X : Cx) (W : WX) (tg iter : Expr) (m : MI) : Prop := PI X tg iter (lfI X.K W m)
theorem PIi {X : Cx} {tg e : Expr} {t t' : TI} (h : PI X tg e t) (i : ∀ σ H R, t' σ H R → t σ H R) : PI X tg e t' := ⟨fun pins s σ H R I q => h.run pins s σ H R I (i σ H R q)⟩
def mForL (guard : Mem → Prop) (T : Tg) (b : MS) (E : Nd) : List D → Ev → Mem → Prop
  | [], ρ, M => guard M ∧ E.nx ρ M
  | d :: ds, ρ, M => guard M ∧ T.mg d ρ M fun ρ1 => b ⟨fun ρ2 M2 => mForL guard T b E ds ρ2 M2, E.rt, E.nx, fun ρ2 M2 => mForL guard T b E ds ρ2 M2, E.ex⟩ ρ1 M
def mFor (mi : MI) (T : Tg) (b : MS) : MS := fun E ρ M => mi ρ M (fun items guard M1 => mForL guard T b E items ρ M1) (fun x M1 => E.ex x ρ M1)
theorem drop_cons {α : Type} {l : List α} {i : Nat} (h : i < l.length) : l.drop i = l[i] :: l.drop (i + 1) := List.drop_eq_getElem_cons h
section
variable {X : Cx} {W : WX} {tg iter : Expr} {body : List Stmt} {mi : MI} {T : Tg} {mb : MS} {pos : Pos}
theorem qs_for (hp : PassesOwn (model X.prog X.w) X.A X.env X.xe) (hc : X.calm = true) (hi : QI X W tg iter mi) (hg : QG X tg T) (hb : QSs X W body mb) (hs : ∀ x, foldedSetIterable iter X.env x = pure x := by intro _; rfl) :
    QS X W (.For tg iter body [] pos) (mFor mi T mb) := PSi (ps_for hp hc hi hg hb hs) fun D σ H ⟨as, M, ρ, E, r, rs, h, hE⟩ => by
  refine ⟨as, M, ρ, _, _, r, rs, h, fun items guard M1 as1 H1 J h1 e1 r1 ok => ?_, exS hE rs⟩
  refine ⟨fun i m σ' H' => ∃ as' M' ρ', Ext X.K as1 H1 as' H' ∧ RepM X.K as' H' M' ∧ RelS X.K as' H' ρ' σ' ∧ i + m = items.length ∧ mForL guard T mb E (items.drop i) ρ' M', ⟨items.length, as1, M1, ρ, .refl, r1, rs.up e1, by simp, h1⟩, ?_⟩
  rintro i m σ' H' ⟨as', M', ρ', e', r', rs', hm, h'⟩
  by_cases hl : i < items.length
  · right
    rw [drop_cons hl] at h'
    obtain ⟨hgd, h'⟩ := h'
    obtain ⟨_, ok2⟩ := ok as' H' M' i e' r' hgd
    obtain ⟨go, yld⟩ := ok2 _ (List.getElem?_eq_getElem hl)
    refine ⟨go, fun σ2 H2 => ∃ as2 M2 ρ2, Ext X.K as1 H1 as2 H2 ∧ RepM X.K as2 H2 M2 ∧ RelS X.K as2 H2 ρ2 σ2 ∧ mForL guard T mb E (items.drop (i + 1)) ρ2 M2, fun σ2 H2 ⟨as2, M2, ρ2, a, b, c, d⟩ => ⟨m - 1, by omega, as2, M2, ρ2, a, b, c, by omega, d⟩, fun x H2 y => ?_⟩
    obtain ⟨e2, r2, rx⟩ := yld x H2 y
    refine T.sim r2 (rs'.up e2) rx h' fun ρ3 σ3 h3 rs3 => ?_
    have e3 := e'.trans e2
    exact ⟨as', M', ρ3, _, r2, rs3, h3, ⟨fun ρ4 M4 q as4 H4 σ4 e4 r4 rs4 => ⟨as4, M4, ρ4, e3.trans e4, r4, rs4, q⟩, (hE.mono (e1.trans e3)).rt, (hE.mono (e1.trans e3)).nx, fun ρ4 M4 q as4 H4 σ4 e4 r4 rs4 => ⟨as4, M4, ρ4, e3.trans e4, r4, rs4, q⟩, (hE.mono (e1.trans e3)).ex⟩⟩
  · left
    have hi' : i = items.length := by omega
    rw [List.drop_eq_nil_of_le (by omega)] at h'
    exact ⟨(ok as' H' M' i e' r' h'.1).1 hi', hE.nx _ _ h'.2 as' H' σ' (e1.trans e') r' rs'⟩
end
def mISeq (me : ME) : MI := fun ρ M k X => me ρ M (fun x M1 => match x with
  | .tup ds => k ds (fun _ => True) M1
  | .str z => k (z.cps.toList.map fun c => .str ⟨#[c]⟩) (fun _ => True) M1
  | .ref n => match M1[n]? with
    | some (.lst ds) => k ds (fun M => M[n]? = some (.lst ds)) M1
    | some (.frz ds) => k ds (fun M => M[n]? = some (.frz ds)) M1
    | some (.dct true kvs) => k (kvs.map fun kv => kD kv.1) (fun M => M[n]? = some (.dct true kvs)) M1
    | _ => False
  | _ => False) X
def iSeqA (K : PySem.W.Frag) (tl : TE) : TI := fun σ H R => tl σ H fun x H1 =>
  (∃ a, x = .ref a ∧ (∃ xs, SqL K H1 a xs) ∧ R (Itl K a) H1) ∨ (∃ a, x = .ref a ∧ (∃ xs, SqT K H1 a xs) ∧ R (Itt K a) H1) ∨ (∃ z, x = .str z ∧ R (Its z) H1) ∨
  ∃ d o kvs, x = .ref d ∧ H1 d = some (.frz o (.dK kvs)) ∧ R (Itk d o kvs) H1
section
variable {X : Cx} {W : WX} {tg e e2 : Expr} {me : ME} {pos : Pos}
theorem pi_seqA {tl : TE} (hl : PE X e tl) : PI X tg e (iSeqA X.K tl) := by
  refine ⟨fun pins s σ H R I h => ?_⟩
  refine thn (hl.run pins s σ H _ I h) fun v s1 ⟨x, H1, I1, r1, q1⟩ => ?_
  rcases q1 with ⟨a, e, ⟨xs, hq⟩, q⟩ | ⟨a, e, ⟨xs, hq⟩, q⟩ | ⟨z, e, q⟩ | ⟨d, o, kvs, e, hd, q⟩
  · subst e
    cases r1
    obtain ⟨its, rv, p, hz⟩ := I1.list hq
    refine wpAny_pyIter_list p.isList ?_
    refine ⟨s1.heap.objs.size, [s1.heap.objs.size], _, _, H1, rfl, I1.kept (t' := s1.toks) fun b o e => Heap.get?_push_of_some _ e, turn_list a _, ⟨_, Heap.get?_push_size _ rfl, rfl, rfl⟩, fun b hb => ?_, q⟩
    have e : b = s1.heap.objs.size := by simpa using hb
    subst e
    exact I1.fpOk (Nat.le_refl _) (I1.hok.fresh (Nat.le_refl _))
  · subst e
    cases r1
    obtain ⟨its, rv, p, hz⟩ := I1.tuple hq
    refine wpAny_pyIter_tuple (show s1.heap.IsTuple a its.toArray from p) ?_
    refine ⟨s1.heap.objs.size, [s1.heap.objs.size], _, _, H1, rfl, I1.kept (t' := s1.toks) fun b o e => Heap.get?_push_of_some _ e, turn_tuple a _, ⟨_, Heap.get?_push_size _ rfl, rfl, rfl⟩, fun b hb => ?_, q⟩
    have e : b = s1.heap.objs.size := by simpa using hb
    subst e
    exact I1.fpOk (Nat.le_refl _) (I1.hok.fresh (Nat.le_refl _))
  · subst e
    obtain ⟨t, rfl⟩ := r1
    cases ha : z.cps.all (· < 128)
    · exact wpAny_pyIter_wide ha (pi_one (tk := s1.toks) I1 _ (turn_str _ z t "str_iterator" (.inr rfl)) ⟨_, Heap.get?_push_size _ rfl, rfl, rfl⟩ q)
    · exact wpAny_pyIter_ascii ha (pi_one (tk := s1.toks) I1 _ (turn_str _ z t "str_ascii_iterator" (.inl rfl)) ⟨_, Heap.get?_push_size _ rfl, rfl, rfl⟩ q)
  · subst e
    obtain rfl : v = Value.ref d := r1
    obtain ⟨hs, hgd, hx, es, ep, vs, hdt, hsz, kv, hm⟩ := I1.frzK hd
    refine iter_keys hs hgd hx hdt (pi_one (tk := s1.toks) I1 _ (turn_keys _ hdt) ⟨_, Heap.get?_push_size _ rfl, rfl, ?_⟩ q)
    rw [hsz] <;> rfl
theorem itok_lst {K : PySem.W.Frag} {as : List Addr} {H : Hp} {n : Nat} {a : Addr} {ds : List D} (hn : as[n]? = some a) : ItOk K as H (Itl K a) ds (fun M => M[n]? = some (.lst ds)) := fun as' H' M' i e r g => by
  obtain ⟨xs, h1, h2⟩ := at_lst r (pre_get e.pre hn) g
  refine ⟨fun hi => ⟨xs, SqL.of h1, by rw [← h2.len]; omega⟩, fun d hd => ?_⟩
  obtain ⟨v, hv, rv⟩ := h2.get hd
  refine ⟨⟨xs, v, SqL.of h1, hv⟩, fun x H2 ⟨e2, y⟩ => ?_⟩
  have e3 := y xs (SqL.of h1)
  rw [hv] at e3; cases e3
  subst e2
  exact ⟨.refl, r, rv⟩
theorem itok_frz {K : PySem.W.Frag} {as : List Addr} {H : Hp} {n : Nat} {a : Addr} {ds : List D} (hn : as[n]? = some a) : ItOk K as H (Itl K a) ds (fun M => M[n]? = some (.frz ds)) := fun as' H' M' i e r g => by
  obtain ⟨ob, xs, h1, h2⟩ := at_frz r (pre_get e.pre hn) g
  refine ⟨fun hi => ⟨xs, .inl (.inr ⟨ob, h1⟩), by rw [← h2.len]; omega⟩, fun d hd => ?_⟩
  obtain ⟨v, hv, rv⟩ := h2.get hd
  refine ⟨⟨xs, v, .inl (.inr ⟨ob, h1⟩), hv⟩, fun x H2 ⟨e2, y⟩ => ?_⟩
  have e3 := y xs (.inl (.inr ⟨ob, h1⟩))
  rw [hv] at e3; cases e3
  subst e2
  exact ⟨.refl, r, rv⟩
theorem itok_tup {K : PySem.W.Frag} {as : List Addr} {H : Hp} {a : Addr} {ds : List D} {xs : List V} (hs : SqT K H a xs) (hl : RelL K as H ds xs) : ItOk K as H (Itt K a) ds (fun _ => True) := fun as' H' M' i e r g => by
  have h1 := e.tup _ _ hs
  have h2 := hl.up e
  refine ⟨fun hi => ⟨xs, h1, by rw [← h2.len]; omega⟩, fun d hd => ?_⟩
  obtain ⟨v, hv, rv⟩ := h2.get hd
  refine ⟨⟨xs, v, h1, hv⟩, fun x H2 ⟨e2, y⟩ => ?_⟩
  have e3 := y xs h1
  rw [hv] at e3; cases e3
  subst e2
  exact ⟨.refl, r, rv⟩
theorem itok_str {K : PySem.W.Frag} {as : List Addr} {H : Hp} {z : Str} : ItOk K as H (Its z) (z.cps.toList.map fun c => .str ⟨#[c]⟩) (fun _ => True) := fun as' H' M' i e r g => by
  refine ⟨fun hi => ?_, fun d hd => ?_⟩
  · simp at hi
    show z.cps.size ≤ i
    omega
  · rw [List.getElem?_map] at hd
    cases hc : z.cps.toList[i]? with
    | none => rw [hc] at hd; cases hd
    | some c =>
      rw [hc] at hd
      simp only [Option.map_some, Option.some.injEq] at hd
      have hc2 : z.cps[i]? = some c := by rw [← hc]; simp
      refine ⟨(Array.getElem?_eq_some_iff.mp hc2).1, fun x H2 ⟨e2, c', hc', hx⟩ => ?_⟩
      rw [hc2] at hc'; cases hc'
      subst e2 hx hd
      exact ⟨.refl, r, .str _⟩
theorem itok_keys {K : PySem.W.Frag} {as : List Addr} {H : Hp} {n : Nat} {a : Addr} {o : Obj} {kvs : List (Key × D)} {ks : List (Key × V)} (h2 : H a = some (.frz o (.dK ks))) (h1 : KVR K as H kvs ks) : ItOk K as H (Itk a o ks) (kvs.map fun kv => kD kv.1) (fun M => M[n]? = some (.dct true kvs)) := fun as' H' M' i e r g => by
  have h3 := e.frz _ _ _ h2
  have h4 := (h1.up e)
  refine ⟨fun hi => ⟨h3, by rw [← h4.len]; simp at hi; omega⟩, fun d hd => ?_⟩
  obtain ⟨v, hv, rv⟩ := h4.keys.get hd
  rw [List.getElem?_map] at hv
  cases hk : ks[i]? with
  | none => rw [hk] at hv; cases hv
  | some kv =>
    rw [hk] at hv
    simp only [Option.map_some, Option.some.injEq] at hv
    refine ⟨⟨h3, (List.getElem?_eq_some_iff.mp hk).1⟩, fun x H2 ⟨e2, k', v', hk', hx⟩ => ?_⟩
    rw [hk] at hk'; cases hk'
    subst e2 hx hv
    exact ⟨.refl, r, rv⟩
theorem qi_seq (he : QE X W e me) : QI X W tg e (mISeq me) := PIi (pi_seqA he) fun σ H R ⟨as, M, ρ, k, X', r, rs, h, hq, hx⟩ => by
  refine lf_bind r rs h hx fun d M1 as1 H1 v h1 e1 r1 rs1 rv => ?_
  cases rv with
  | tup hs hl => exact .inr (.inl ⟨_, rfl, ⟨_, hs.1⟩, hq _ _ M1 as1 H1 _ h1 e1 r1 (itok_tup hs.1 hl)⟩)
  | str z => exact .inr (.inr (.inl ⟨z, rfl, hq _ _ M1 as1 H1 _ h1 e1 r1 itok_str⟩))
  | ref hn =>
    dsimp only at h1
    split at h1
    · rename_i ds e2
      obtain ⟨xs, h2, h3⟩ := at_lst r1 hn e2
      exact .inl ⟨_, rfl, ⟨xs, SqL.of h2⟩, hq _ _ M1 as1 H1 _ h1 e1 r1 (itok_lst hn)⟩
    · rename_i ds e2
      obtain ⟨ob, xs, h2, h3⟩ := at_frz r1 hn e2
      exact .inl ⟨_, rfl, ⟨xs, .inl (.inr ⟨ob, h2⟩)⟩, hq _ _ M1 as1 H1 _ h1 e1 r1 (itok_frz hn)⟩
    · rename_i kvs e2
      obtain ⟨a', ha, ks, h2, ob, h3⟩ := r1.at_ e2
      rw [hn] at ha; cases ha
      exact .inr (.inr (.inr ⟨_, ob, ks, rfl, h3, hq _ _ M1 as1 H1 _ h1 e1 r1 (itok_keys h3 h2)⟩))
    · exact h1.elim
  | _ => exact h1.elim
def rangeD (lo : Int) (n : Nat) : List D := (List.range n).map fun i => .int (lo + (i : Nat))
def mIRng1 (ma : MA) : MI := fun ρ M k X => ma ρ M (fun ds M1 => match ds with | [.int j] => (-(2 ^ 62) ≤ j ∧ j < 2 ^ 62) ∧ k (rangeD 0 j.toNat) (fun _ => True) M1 | _ => False) X
def mIRng2 (ma : MA) : MI := fun ρ M k X => ma ρ M (fun ds M1 => match ds with | [.int i, .int j] => (-(2 ^ 62) ≤ i ∧ i < 2 ^ 62 ∧ -(2 ^ 62) ≤ j ∧ j < 2 ^ 62) ∧ k (rangeD i (j - i).toNat) (fun _ => True) M1 | _ => False) X
theorem itok_rng {K : PySem.W.Frag} {as : List Addr} {H : Hp} {lo : Int} {n : Nat} : ItOk K as H (Itr lo n) (rangeD lo n) (fun _ => True) := fun as' H' M' i e r g => by
  refine ⟨fun hi => ?_, fun d hd => ?_⟩
  · simp [rangeD] at hi
    show n ≤ i
    omega
  · have hl : i < n := by
      have := (List.getElem?_eq_some_iff.mp hd).1
      simpa [rangeD] using this
    refine ⟨hl, fun x H2 ⟨e2, hx⟩ => ?_⟩
    subst e2 hx
    simp only [rangeD, List.getElem?_map, List.getElem?_range hl, Option.map_some, Option.some.injEq] at hd
    subst hd
    exact ⟨.refl, r, .int _⟩
theorem qi_range1 {ma : MA} {p : Pos} (hg : Gl X "range") (hm : X.mg "range" = none) (ha : QA X W [e] ma) (hs : starEach [e] X.env = [(false, eval e X.env)] := by rfl) : QI X W tg (.Call (.Name "range" p) [e] [] pos) (mIRng1 ma) :=
  PIi (pi_range1 hg hm ha hs) fun σ H R ⟨as, M, ρ, k, X', r, rs, h, hq, hx⟩ => by
    refine lfA_bind r rs h hx fun ds M1 as1 H1 vs h1 e1 r1 rs1 rv => ?_
    split at h1
    · obtain ⟨v, rfl, rx⟩ := rv.one
      cases rx
      exact ⟨_, rfl, h1.1.1, h1.1.2, hq _ _ M1 as1 H1 _ h1.2 e1 r1 itok_rng⟩
    · exact h1.elim
theorem qi_range2 {ma : MA} {p : Pos} (hg : Gl X "range") (hm : X.mg "range" = none) (ha : QA X W [e, e2] ma) (hs : starEach [e, e2] X.env = [(false, eval e X.env), (false, eval e2 X.env)] := by rfl) (hs2 : starEach [e2] X.env = [(false, eval e2 X.env)] := by rfl) : QI X W tg (.Call (.Name "range" p) [e, e2] [] pos) (mIRng2 ma) :=
  PIi (pi_range2 hg hm ha hs hs2) fun σ H R ⟨as, M, ρ, k, X', r, rs, h, hq, hx⟩ => by
    refine lfA_bind r rs h hx fun ds M1 as1 H1 vs h1 e1 r1 rs1 rv => ?_
    split at h1
    · obtain ⟨v, w, rfl, rx, ry⟩ := rv.two
      cases rx; cases ry
      exact ⟨_, _, rfl, h1.1, hq _ _ M1 as1 H1 _ h1.2 e1 r1 itok_rng⟩
    · exact h1.elim
def enumD (ds : List D) : List D := ds.mapIdx fun i d => .tup [.int (i : Nat), d]
def mIEnumL (ma : MA) : MI := fun ρ M k X => ma ρ M (fun ds M1 => match ds with
  | [.ref n] => match M1[n]? with
    | some (.lst ds) => k (enumD ds) (fun M => M[n]? = some (.lst ds)) M1
    | _ => False
  | _ => False) X
def mIEnumT (ma : MA) : MI := fun ρ M k X => ma ρ M (fun ds M1 => match ds with
  | [.tup ds] => k (enumD ds) (fun _ => True) M1
  | _ => False) X
theorem enumD_get {ds : List D} {i : Nat} {d : D} (h : (enumD ds)[i]? = some d) : ∃ d0, ds[i]? = some d0 ∧ d = .tup [.int (i : Nat), d0] := by
  simp only [enumD, List.getElem?_mapIdx] at h
  cases e : ds[i]? with
  | none => rw [e] at h; cases h
  | some d0 => rw [e] at h; simp at h; exact ⟨d0, rfl, h.symm⟩
theorem new_pair {K : PySem.W.Frag} {as : List Addr} {H : Hp} {M : Mem} {T : Addr} {d1 d2 : D} {v1 v2 : V} (r : RepM K as H M) (hT : H T = none) (r1 : Rel K as H d1 v1) (r2 : Rel K as H d2 v2) :
    Ext K as H as (upd H T (.tup [v1, v2])) ∧ RepM K as (upd H T (.tup [v1, v2])) M ∧ Rel K as (upd H T (.tup [v1, v2])) (.tup [d1, d2]) (.ref T) :=
  ⟨ext_new hT, r.laid hT, .tup Tq.new (.cons (r1.up (ext_new hT)) (.cons (r2.up (ext_new hT)) .nil))⟩
theorem qi_enumL {ma : MA} {p tpos : Pos} {elts : List Expr} {kk : Nat} (hg : Gl X "enumerate") (hm : X.mg "enumerate" = none) (ha : QA X W [e] ma) (hs : starEach [e] X.env = [(false, eval e X.env)] := by rfl) : QI X W (.Tuple elts kk tpos) (.Call (.Name "enumerate" p) [e] [] pos) (mIEnumL ma) :=
  PIi (pi_enum hg hm ha hs) fun σ H R ⟨as, M, ρ, k, X', r, rs, h, hq, hx⟩ => by
    refine lfA_bind r rs h hx fun ds M1 as1 H1 vs h1 e1 r1 rs1 rv => ?_
    split at h1
    · obtain ⟨v, rfl, rx⟩ := rv.one
      cases rx with
      | ref hn =>
        split at h1
        · rename_i ds e2
          obtain ⟨xs, h2, h3⟩ := at_lst r1 hn e2
          refine ⟨_, xs, rfl, SqL.of h2, hq _ _ M1 as1 H1 _ h1 e1 r1 fun as' H' M' i e r g => ?_⟩
          obtain ⟨ys, h4, h5⟩ := at_lst r (pre_get e.pre hn) g
          refine ⟨fun hi => ⟨ys, SqL.of h4, by rw [← h5.len]; simp [enumD] at hi; omega⟩, fun d hd => ?_⟩
          obtain ⟨d0, hd0, rfl⟩ := enumD_get hd
          obtain ⟨v, hv, rv⟩ := h5.get hd0
          refine ⟨⟨ys, v, SqL.of h4, hv⟩, fun x H2 ⟨T, w, ex, hT, eH, y⟩ => ?_⟩
          have e3 := y ys (SqL.of h4)
          rw [hv] at e3; cases e3
          subst ex eH
          exact new_pair r hT (.int _) rv
        · exact h1.elim
    · exact h1.elim
theorem qi_enumT {ma : MA} {p tpos : Pos} {elts : List Expr} {kk : Nat} (hg : Gl X "enumerate") (hm : X.mg "enumerate" = none) (ha : QA X W [e] ma) (hs : starEach [e] X.env = [(false, eval e X.env)] := by rfl) : QI X W (.Tuple elts kk tpos) (.Call (.Name "enumerate" p) [e] [] pos) (mIEnumT ma) :=
  PIi (DW.pi_enumT hg hm ha hs) fun σ H R ⟨as, M, ρ, k, X', r, rs, h, hq, hx⟩ => by
    refine lfA_bind r rs h hx fun ds M1 as1 H1 vs h1 e1 r1 rs1 rv => ?_
    split at h1
    · rename_i ds0
      obtain ⟨v, rfl, rx⟩ := rv.one
      cases rx with
      | tup hs hl =>
        refine ⟨_, _, rfl, hs.1, hq _ _ M1 as1 H1 _ h1 e1 r1 fun as' H' M' i e r g => ?_⟩
        have h4 := e.tup _ _ hs.1
        have h5 := hl.up e
        refine ⟨fun hi => ⟨_, h4, by rw [← h5.len]; simp [enumD] at hi; omega⟩, fun d hd => ?_⟩
        obtain ⟨d0, hd0, rfl⟩ := enumD_get hd
        obtain ⟨v, hv, rv⟩ := h5.get hd0
        refine ⟨⟨_, v, h4, hv⟩, fun x H2 ⟨T, w, ex, hT, eH, y⟩ => ?_⟩
        have e3 := y _ h4
        rw [hv] at e3; cases e3
        subst ex eH
        exact new_pair r hT (.int _) rv
    · exact h1.elim
end
end MV
namespace MV
open PySem PySem.Spec PyProof.Rows L2
def mLock (m : MS) : MS := fun E ρ M => ∃ n kvs, M[n]? = some (.dct false kvs) ∧ m ⟨fun ρ' M' => M'[n]? = some (.dct true kvs) ∧ E.nx ρ' (M'.set n (.dct false kvs)), fun d M' => M'[n]? = some (.dct true kvs) ∧ E.rt d (M'.set n (.dct false kvs)),
  fun ρ' M' => M'[n]? = some (.dct true kvs) ∧ E.bk ρ' (M'.set n (.dct false kvs)), fun ρ' M' => M'[n]? = some (.dct true kvs) ∧ E.ct ρ' (M'.set n (.dct false kvs)), fun x ρ' M' => M'[n]? = some (.dct true kvs) ∧ E.ex x ρ' (M'.set n (.dct false kvs))⟩ ρ (M.set n (.dct true kvs))
mutual
theorem Rel.up0 {K : PySem.W.Frag} {as : List Addr} {H H' : Hp} (t : ∀ b ds xs, Tq K H b ds xs → Tq K H' b ds xs) (x : ∀ b fs, H b = some (.xd fs) → H' b = some (.xd fs)) (z : ∀ b xs, RdL K H b xs → RdL K H' b xs) : ∀ {d : D} {v : V}, Rel K as H d v → Rel K as H' d v
  | _, _, .non => .non
  | _, _, .bl b => .bl b
  | _, _, .int i => .int i
  | _, _, .str s => .str s
  | _, _, .tup h r => .tup (t _ _ _ h) (RelL.up0 t x z r)
  | _, _, .ref h => .ref h
  | _, _, .ty n => .ty n
  | _, _, .g s => .g s
  | _, _, .exn h r => .exn (x _ _ h) (RelL.up0 t x z r)
  | _, _, .kl h r => .kl (z _ _ h) (RelL.up0 t x z r)
theorem RelL.up0 {K : PySem.W.Frag} {as : List Addr} {H H' : Hp} (t : ∀ b ds xs, Tq K H b ds xs → Tq K H' b ds xs) (x : ∀ b fs, H b = some (.xd fs) → H' b = some (.xd fs)) (z : ∀ b xs, RdL K H b xs → RdL K H' b xs) : ∀ {ds : List D} {vs : List V}, RelL K as H ds vs → RelL K as H' ds vs
  | _, _, .nil => .nil
  | _, _, .cons h r => .cons (Rel.up0 t x z h) (RelL.up0 t x z r)
end
section
variable {X : Cx} {W : WX} {st : Stmt} {e : Expr}
/-- behind the lock: the same, unlocked -/
theorem rdl_unl {K : PySem.W.Frag} {H' : Hp} {a : Addr} {ob : Obj} {ks : List (Key × V)} (hz : H' a = some (.frz ob (.dK ks))) : ∀ b xs, RdL K H' b xs → RdL K (upd H' a (.dK ks)) b xs := fun b xs q => by
  rcases q with ⟨o, q⟩ | q
  · exact .inl ⟨o, by rw [upd_ne (fun z => by rw [z, hz] at q; cases q)]; exact q⟩
  · exact .inr q
theorem tq_unl {K : PySem.W.Frag} {H' : Hp} {a : Addr} {ob : Obj} {ks : List (Key × V)} (hz : H' a = some (.frz ob (.dK ks))) : ∀ b ds xs, Tq K H' b ds xs → Tq K (upd H' a (.dK ks)) b ds xs := fun b ds xs q => by
  refine ⟨?_, fun z => by rw [upd_ne (fun z2 => by have q2 := q.2 z; rw [z2, hz] at q2; cases q2)]; exact q.2 z⟩
  have q := q.1
  rcases q with (q | ⟨o, q⟩) | q
  · exact .inl (.inl (by rw [upd_ne (fun z => by rw [z, hz] at q; cases q)]; exact q))
  · exact .inl (.inr ⟨o, by rw [upd_ne (fun z => by rw [z, hz] at q; cases q)]; exact q⟩)
  · exact .inr q
theorem unlock_ok {K : PySem.W.Frag} {as as' : List Addr} {H H' : Hp} {M' : Mem} {n : Nat} {a : Addr} {ob : Obj} {kvs : List (Key × D)} {ks : List (Key × V)} (hn : as[n]? = some a) (h0 : H a = some (.dK ks)) (hk : KVR K as H kvs ks)
    (e1 : Ext K as H as (upd H a (.frz ob (.dK ks)))) (e : Ext K as (upd H a (.frz ob (.dK ks))) as' H') (r : RepM K as' H' M') : H' a = some (.frz ob (.dK ks)) ∧ Ext K as H as' (upd H' a (.dK ks)) ∧ RepM K as' (upd H' a (.dK ks)) (M'.set n (.dct false kvs)) := by
  have hz : H' a = some (.frz ob (.dK ks)) := e.frz _ _ _ upd_same
  have hn' := pre_get e.pre hn
  have e3 := e1.trans e
  have sqt : ∀ b xs, SqT K H' b xs → SqT K (upd H' a (.dK ks)) b xs := fun b xs q => by
    rcases q with (q | ⟨o, q⟩) | q
    · exact .inl (.inl (by rw [upd_ne (fun z => by rw [z, hz] at q; cases q)]; exact q))
    · exact .inl (.inr ⟨o, by rw [upd_ne (fun z => by rw [z, hz] at q; cases q)]; exact q⟩)
    · exact .inr q
  have tpt : ∀ b xs, H' b = some (.tup xs) → upd H' a (.dK ks) b = some (.tup xs) := fun b xs q => by rw [upd_ne (fun z => by rw [z, hz] at q; cases q)]; exact q
  have tqt : ∀ b ds xs, Tq K H' b ds xs → Tq K (upd H' a (.dK ks)) b ds xs := fun b ds xs q => ⟨sqt b xs q.1, fun z => tpt b xs (q.2 z)⟩
  have xdt : ∀ b fs, H' b = some (.xd fs) → upd H' a (.dK ks) b = some (.xd fs) := fun b fs q => by rw [upd_ne (fun z => by rw [z, hz] at q; cases q)]; exact q
  have ext : Ext K as H as' (upd H' a (.dK ks)) := ⟨e3.pre, fun b xs q => sqt b xs (e3.tup b xs q), fun b fs q => xdt b fs (e3.xd b fs q), fun b o u q => by
    rw [upd_ne (fun z => by rw [z, h0] at q; cases q)]; exact e3.frz b o u q, fun b xs q => tpt b xs (e3.tp b xs q)⟩
  refine ⟨hz, ext, ⟨by rw [List.length_set]; exact r.len, r.nd, fun m b q h1 h2 => ?_⟩⟩
  by_cases hm : m = n
  · subst hm
    obtain ⟨hl, _⟩ := List.getElem?_eq_some_iff.mp hn'
    rw [List.getElem?_set_self (by rw [← r.len]; exact hl)] at h2
    cases h2
    rw [hn'] at h1
    cases h1
    exact ⟨ks, hk.up ext, upd_same⟩
  · rw [List.getElem?_set_ne (Ne.symm hm)] at h2
    have ne : b ≠ a := fun z => hm (by
      subst z
      obtain ⟨l1, e1⟩ := List.getElem?_eq_some_iff.mp h1
      obtain ⟨l2, e2⟩ := List.getElem?_eq_some_iff.mp hn'
      exact (List.getElem_inj r.nd).mp (e1.trans e2.symm))
    -- what stands there stays
    have q0 := r.ob m b q h1 h2
    have same : upd H' a (.dK ks) b = H' b := upd_ne ne
    have relL : ∀ {d v}, RelL K as' H' d v → RelL K as' (upd H' a (.dK ks)) d v := fun r => RelL.up0 tqt xdt (rdl_unl hz) r
    have kvr : ∀ {κ : Type} {l : List (κ × D)} {m : List (κ × V)}, KVR K as' H' l m → KVR K as' (upd H' a (.dK ks)) l m := fun h => Paired.mapP h fun _ _ q => ⟨q.1, Rel.up0 tqt xdt (rdl_unl hz) q.2⟩
    · cases q with
      | lst ds => obtain ⟨xs, h1, h2⟩ := q0; exact ⟨xs, same.trans h1, relL h2⟩
      | frz ds => obtain ⟨o, xs, h1, h2⟩ := q0; exact ⟨o, xs, same.trans h1, relL h2⟩
      | dct lk kvs =>
        obtain ⟨ks2, h1, h2⟩ := q0
        refine ⟨ks2, kvr h1, ?_⟩
        cases lk with
        | true => obtain ⟨o, h2⟩ := h2; exact ⟨o, same.trans h2⟩
        | false => exact same.trans h2
      | dtt lk kvs =>
        obtain ⟨ks2, h1, h2⟩ := q0
        refine ⟨ks2, kvr h1, ?_⟩
        cases lk with
        | true => obtain ⟨o, h2⟩ := h2; exact ⟨o, same.trans h2⟩
        | false => exact same.trans h2
      | ins c fs => obtain ⟨dx, ys, h1, h2⟩ := q0; exact ⟨dx, ys, same.trans h1, kvr h2⟩
theorem traced_imp {h B : Heap} {a : Addr} {Z Z' : Obj → Prop} {fl : Value} (z : ∀ o, Z o → Z' o) (x : HandSPX.TracedZ h B a Z fl) : HandSPX.TracedZ h B a Z' fl := by
  obtain ⟨oe, vs, T, oT, ts, he, hz, r⟩ := x
  exact ⟨oe, vs, T, oT, ts, he, z _ hz, r⟩
theorem sky_imp {B : Heap} {l : List Env} {a L : Addr} {Z Z' : Obj → Prop} {h : Heap} (z : ∀ o, Z o → Z' o) (x : Sky B l a Z L h) : Sky B l a Z' L h := by
  rcases x with ⟨h1, h2, h3, oe, vs, g1, g2, g3⟩ | ⟨h1, h2, h3, t⟩ | ⟨h1, h2, h3, t⟩
  · exact .inl ⟨h1, h2, h3, oe, vs, g1, z _ g2, g3⟩
  · exact .inr (.inl ⟨h1, h2, h3, traced_imp z t⟩)
  · exact .inr (.inr ⟨h1, h2, h3, traced_imp z t⟩)
theorem takes_lock {W' : WX} (tk : Takes X W) {d : Addr} {ob : Obj} {u : HO} (hn : ∀ o' u', X.H_0 d ≠ some (.frz o' u')) (hw : ∀ c dd σ H, W' c dd σ H → H d = some (.frz ob u) ∧ W c dd σ (upd H d u)) : Takes X W' := fun v s' ⟨a, B, sI, pins, σ, H, cls, dd, e, x⟩ => by
  obtain ⟨h1, h2⟩ := hw _ _ _ _ x.w
  have non : ∀ {b : Addr}, H b = none → upd H d u b = none := fun {b} z => by rw [upd_ne (fun q => by rw [q, h1] at z; cases z)]; exact z
  have zk : ∀ o, Zk B H cls dd o → Zk B (upd H d u) cls dd o := fun o z => ⟨z.1, z.2.1, fun vs q => by
    obtain ⟨c, l, g1, g2, g3⟩ := z.2.2 vs q
    exact ⟨c, l, g1, g2, fun y hy => non (g3 y hy)⟩⟩
  exact tk v s' ⟨a, B, sI, pins, σ, upd H d u, cls, dd, e, ⟨x.inv.unlock h1 hn, x.low, x.up, sky_imp zk x.sky, non x.na, x.os, x.ag, h2⟩⟩
theorem qs_lock {m : MS} (tk : Takes X W) (h : ∀ W', Takes X W' → QS X W' st m) : QS X W st (mLock m) := by
  refine ⟨fun pins s σ H D I hw => ?_⟩
  obtain ⟨as, M, ρ, E, r, rs, ⟨n, kvs, em, hm⟩, hE⟩ := hw
  obtain ⟨a, ha, ks, hk, h0⟩ := r.at_ em
  have mu : Mut (some (HO.dK ks)) := True.intro
  obtain ⟨od, I1⟩ := I.lock h0 mu
  have nf := I.nofrz h0 mu
  have e1 : Ext X.K as H as (upd H a (.frz od (.dK ks))) := ext_put r ha (nfrz_dK h0)
  have r1 : RepM X.K as (upd H a (.frz od (.dK ks))) (M.set n (.dct true kvs)) := r.put ha (nfrz_dK h0) ⟨ks, hk.up e1, od, upd_same⟩
  have un : ∀ {as' H' M'}, Ext X.K as (upd H a (.frz od (.dK ks))) as' H' → RepM X.K as' H' M' → H' a = some (.frz od (.dK ks)) ∧ Ext X.K as H as' (upd H' a (.dK ks)) ∧ RepM X.K as' (upd H' a (.dK ks)) (M'.set n (.dct false kvs)) := fun {as' H' M'} e r' => unlock_ok ha h0 hk e1 e r'
  have rsU : ∀ {as' H' ρ' σ'}, H' a = some (.frz od (.dK ks)) → RelS X.K as' H' ρ' σ' → RelS X.K as' (upd H' a (.dK ks)) ρ' σ' := fun {as' H' ρ' σ'} hz q => ⟨q.1, fun i d e => let ⟨v, h1, h2⟩ := q.2 i d e; ⟨v, h1, Rel.up0 (tq_unl hz) (fun b fs q => by rw [upd_ne (fun z => by rw [z, hz] at q; cases q)]; exact q) (rdl_unl hz) h2⟩⟩
  have rdU : ∀ {as' H' d v}, H' a = some (.frz od (.dK ks)) → Rel X.K as' H' d v → Rel X.K as' (upd H' a (.dK ks)) d v := fun {as' H' d v} hz q => Rel.up0 (tq_unl hz) (fun b fs q => by rw [upd_ne (fun z => by rw [z, hz] at q; cases q)]; exact q) (rdl_unl hz) q
  have rxU : ∀ {as' H' x c d}, H' a = some (.frz od (.dK ks)) → RelX X.K as' H' x c d → RelX X.K as' (upd H' a (.dK ks)) x c d := fun {as' H' x c d} hz ⟨h1, dd, xs, h2, h3, h4⟩ =>
    ⟨h1, dd, xs, h2, by rw [upd_ne (fun z => by rw [z, hz] at h3; cases h3)]; exact h3, RelL.up0 (tq_unl hz) (fun b fs q => by rw [upd_ne (fun z => by rw [z, hz] at q; cases q)]; exact q) (rdl_unl hz) h4⟩
  let W' : WX := fun c dd σ' H' => H' a = some (.frz od (.dK ks)) ∧ W c dd σ' (upd H' a (.dK ks))
  have tk' : Takes X W' := takes_lock tk nf fun _ _ _ _ q => q
  let D' : Ends := ⟨fun σ' H' => H' a = some (.frz od (.dK ks)) ∧ D.nx σ' (upd H' a (.dK ks)), fun v H' => H' a = some (.frz od (.dK ks)) ∧ D.rt v (upd H' a (.dK ks)), fun σ' H' => H' a = some (.frz od (.dK ks)) ∧ D.bk σ' (upd H' a (.dK ks)), fun σ' H' => H' a = some (.frz od (.dK ks)) ∧ D.ct σ' (upd H' a (.dK ks))⟩
  have nd : NdOk X.K W' as (upd H a (.frz od (.dK ks))) ⟨fun ρ' M' => M'[n]? = some (.dct true kvs) ∧ E.nx ρ' (M'.set n (.dct false kvs)), fun d M' => M'[n]? = some (.dct true kvs) ∧ E.rt d (M'.set n (.dct false kvs)),
      fun ρ' M' => M'[n]? = some (.dct true kvs) ∧ E.bk ρ' (M'.set n (.dct false kvs)), fun ρ' M' => M'[n]? = some (.dct true kvs) ∧ E.ct ρ' (M'.set n (.dct false kvs)), fun x ρ' M' => M'[n]? = some (.dct true kvs) ∧ E.ex x ρ' (M'.set n (.dct false kvs))⟩ D' := by
    refine ⟨fun ρ' M' q as' H' σ' e r' rs' => ?_, fun d M' q as' H' v e r' rv => ?_, fun ρ' M' q as' H' σ' e r' rs' => ?_, fun ρ' M' q as' H' σ' e r' rs' => ?_, fun x ρ' M' q as' H' σ' c dd e r' rs' rx => ?_⟩
    · obtain ⟨hz, e2, r2⟩ := un e r'
      exact ⟨hz, hE.nx _ _ q.2 as' _ σ' e2 r2 (rsU hz rs')⟩
    · obtain ⟨hz, e2, r2⟩ := un e r'
      exact ⟨hz, hE.rt _ _ q.2 as' _ v e2 r2 (rdU hz rv)⟩
    · obtain ⟨hz, e2, r2⟩ := un e r'
      exact ⟨hz, hE.bk _ _ q.2 as' _ σ' e2 r2 (rsU hz rs')⟩
    · obtain ⟨hz, e2, r2⟩ := un e r'
      exact ⟨hz, hE.ct _ _ q.2 as' _ σ' e2 r2 (rsU hz rs')⟩
    · obtain ⟨hz, e2, r2⟩ := un e r'
      exact ⟨hz, hE.ex _ _ _ q.2 as' _ σ' c dd e2 r2 (rsU hz rs') (rxU hz rx)⟩
  refine thn ((h W' tk').run pins s σ _ D' I1 ⟨as, M.set n (.dct true kvs), ρ, _, r1, rs.up e1, hm, nd⟩) fun f s1 q => ?_
  cases f with
  | next => obtain ⟨σ', H', I2, e, q⟩ := q; exact ⟨σ', _, I2.unlock e nf, q⟩
  | brk => obtain ⟨σ', H', I2, e, q⟩ := q; exact ⟨σ', _, I2.unlock e nf, q⟩
  | cont => obtain ⟨σ', H', I2, e, q⟩ := q; exact ⟨σ', _, I2.unlock e nf, q⟩
  | ret v => obtain ⟨x, σ', H', I2, r, e, q⟩ := q; exact ⟨x, σ', _, I2.unlock e nf, r, q⟩
end
end MV
namespace MV
open PySem PySem.Spec PyProof.Rows L2
def wipeE (ρ : Ev) : List Nat → Ev
  | [] => ρ
  | v :: vs => (wipeE ρ vs).set v none
def mYes : MT := fun _ M Q _ => Q true M
def noX : XM := fun _ _ => False
def mLcL (guard : Mem → Prop) (T : Tg) (tt : MT) (me : ME) (ρ : Ev) (n : Nat) (Q : Mem → Prop) : List D → Mem → Prop
  | [], M => guard M ∧ Q M
  | d :: ds, M => guard M ∧ T.mg d ρ M fun ρ2 => tt ρ2 M (fun b M3 => if b = true then me ρ2 M3 (fun y M4 => match M4[n]? with
      | some (.lst acc) => acc.length < 16000000 ∧ mLcL guard T tt me ρ n Q ds (M4.set n (.lst (acc ++ [y])))
      | _ => False) noX else mLcL guard T tt me ρ n Q ds M3) noX
def mLc (mi : MI) (T : Tg) (tt : MT) (me : ME) (vs : List Nat) : ME := fun ρ M Q X => mi ρ M (fun items guard M1 => mLcL guard T tt me (wipeE ρ vs) M1.length (fun M2 => Q (.ref M1.length) M2) items (M1 ++ [.lst []])) X
abbrev W0 : WX := fun _ _ _ _ => False
section
variable {K : PySem.W.Frag} {as : List Addr} {H : Hp} {M : Mem}
theorem RelS.wipe {ρ : Ev} {σ : L2.St} (r : RelS K as H ρ σ) : ∀ vs : List Nat, RelS K as H (wipeE ρ vs) (L2.wipe σ vs)
  | [] => r
  | v :: vs => (RelS.wipe r vs).unset
theorem noX_ok {σ : L2.St} : ∀ x M', noX x M' → LX K as H (fun c d H => W0 c d σ H) x M' := fun _ _ h => h.elim
theorem lf_lc {W : WX} {mi : MI} {T : Tg} {tt : MT} {me : ME} {vs : List Nat} (hT : ∀ i ∈ T.slots, i ∈ vs) {σ : L2.St} {H : Hp} {Q : VK} (h : lf K W (mLc mi T tt me vs) σ H Q) : tLc (lfI K W mi) (T.rd K) (lfT K W0 tt) (lf K W0 me) vs σ H Q := by
  obtain ⟨as, M, ρ, Q', X', r, rs, h, hq, hx⟩ := h
  refine ⟨as, M, ρ, _, X', r, rs, h, fun items guard M1 as1 H1 J h1 e1 r1 ok D hD => ?_, hx⟩
  have rD : RepM K (as1 ++ [D]) (upd H1 D (.lst [])) (M1 ++ [.lst []]) := r1.new (o := .lst []) hD ⟨[], upd_same, .nil⟩
  have eD : Ext K as1 H1 (as1 ++ [D]) (upd H1 D (.lst [])) := (ext_new hD).trans ext_app
  have nD : (as1 ++ [D])[M1.length]? = some D := by rw [← r1.len]; exact app_at
  refine ⟨fun i m H' => ∃ as' M', Ext K (as1 ++ [D]) (upd H1 D (.lst [])) as' H' ∧ RepM K as' H' M' ∧ i + m = items.length ∧ mLcL guard T tt me (wipeE ρ vs) M1.length (fun M2 => Q' (.ref M1.length) M2) (items.drop i) M', ⟨items.length, _, _, .refl, rD, by simp, h1⟩, ?_⟩
  rintro i m H' ⟨as', M', e', r', hm, h'⟩
  have e2 := eD.trans e'
  have nD' := pre_get e'.pre nD
  by_cases hl : i < items.length
  · right
    rw [drop_cons hl] at h'
    obtain ⟨hgd, h'⟩ := h'
    obtain ⟨_, ok2⟩ := ok as' H' M' i e2 r' hgd
    obtain ⟨go, yld⟩ := ok2 _ (List.getElem?_eq_getElem hl)
    refine ⟨go, fun H2 => ∃ as2 M2, Ext K (as1 ++ [D]) (upd H1 D (.lst [])) as2 H2 ∧ RepM K as2 H2 M2 ∧ mLcL guard T tt me (wipeE ρ vs) M1.length (fun M2 => Q' (.ref M1.length) M2) (items.drop (i + 1)) M2, fun H2 ⟨as2, M2, a, b, c⟩ => ⟨m - 1, by omega, as2, M2, a, b, by omega, c⟩, fun x H2 y => ?_⟩
    obtain ⟨e3, r3, rx⟩ := yld x H2 y
    have e4 := e'.trans e3
    have rs3 : RelS K as' H2 (wipeE ρ vs) (L2.wipe σ vs) := (rs.up (e1.trans (e2.trans e3))).wipe vs
    refine T.keep hT (fun σ2 H2' ew q => ⟨?_, q⟩) (T.sim r3 rs3 rx h' fun ρ4 σ4 h4 rs4 => ?_)
    · rw [ew]
      have : ∀ (vs : List Nat) (τ : L2.St), L2.wipe (L2.wipe τ vs) vs = L2.wipe τ vs := fun vs τ => by
        apply List.ext_getElem?
        intro j
        by_cases hj : j ∈ vs
        · have key : ∀ (us : List Nat) (τ : L2.St), j ∈ us → (L2.wipe τ us)[j]? = (if j < τ.length then some none else none) := fun us τ hj => by
            induction us with
            | nil => cases hj
            | cons u us ih =>
              show ((L2.wipe τ us).set u none)[j]? = _
              by_cases hu : u = j
              · subst hu
                by_cases hl : u < τ.length
                · rw [List.getElem?_set_self (by rw [wipe_length]; exact hl), if_pos hl]
                · rw [List.getElem?_eq_none_iff.mpr (by rw [List.length_set, wipe_length]; omega), if_neg hl]
              · rw [List.getElem?_set_ne hu]
                exact ih (by rcases List.mem_cons.mp hj with z | z; exact absurd z.symm hu; exact z)
          rw [key vs _ hj, key vs _ hj, wipe_length]
        · rw [wipe_out hj]
      exact this vs σ
    · refine lfT_bind r3 rs4 h4 noX_ok fun b M3 as3 H3 h5 e5 r5 rs5 => ?_
      cases b with
      | true =>
        rw [if_pos rfl] at h5 ⊢
        refine lf_bind r5 rs5 h5 noX_ok fun dy M4 as4 H4 y h6 e6 r6 rs6 ry => ?_
        split at h6
        · rename_i acc ea
          have n4 := pre_get (e4.trans (e5.trans e6)).pre nD
          obtain ⟨ys, g1, g2⟩ := at_lst r6 n4 ea
          obtain ⟨e7, r7⟩ := put_lst r6 n4 g1 (g2.app (.cons ry .nil))
          exact ⟨ys, g1, by rw [← g2.len]; exact Nat.lt_of_lt_of_le h6.1 (by decide), as4, _, (e4.trans (e5.trans e6)).trans e7, r7, h6.2⟩
        · exact h6.elim
      | false =>
        rw [if_neg Bool.false_ne_true] at h5 ⊢
        exact ⟨as3, M3, e4.trans e5, r5, h5⟩
  · left
    have hi' : i = items.length := by omega
    rw [List.drop_eq_nil_of_le (by omega)] at h'
    exact ⟨(ok as' H' M' i e2 r' h'.1).1 hi', hq _ _ h'.2 as' H' _ (e1.trans e2) r' (.ref nD')⟩
end
section
variable {X : Cx} {W : WX} {elt tg iter : Expr} {ifs : List Expr} {scope : Scope} {own : List (Str × Nat)} {pos spos : Pos} {mi : MI} {T : Tg} {tt : MT} {me : ME}
abbrev QTs (X : Cx) (W : WX) (ifs : List Expr) (m : MT) : Prop := PTs X ifs (lfT X.K W m)
theorem qts_nil : QTs X W [] mYes := ⟨fun pins s σ H Q I ⟨as, M, ρ, Q', X', r, rs, h, hq, hx⟩ => pts_nil.run pins s σ H Q I (hq true M h as H .refl r)⟩
theorem qe_lc (hc : X.calm = true) (hN : X.N.Nodup) (hi : QI X W tg iter mi) (ok : BlkOk X.N X.env.scope scope own)
    (hg : ∀ (s : Shared) (H : Hp) (C : Addr) (cl : List (Str × Addr)) (fp : List Addr), QG (X.blk s H scope (compEnvC scope cl C X.env) fp) tg T) (ht : ∀ (s : Shared) (H : Hp) (C : Addr) (cl : List (Str × Addr)) (fp : List Addr), QTs (X.blk s H scope (compEnvC scope cl C X.env) fp) W0 ifs tt)
    (he : ∀ (s : Shared) (H : Hp) (C : Addr) (cl : List (Str × Addr)) (fp : List Addr), QE (X.blk s H scope (compEnvC scope cl C X.env) fp) W0 elt me) (hT : ∀ i ∈ T.slots, i ∈ own.map (·.2)) (hs : ∀ x, foldedSetIterable iter X.env x = pure x := by intro _; rfl) :
    QE X W (.ListComp elt [⟨tg, iter, ifs, 0⟩] scope pos) (mLc mi T tt me (own.map (·.2))) := PEi (pe_lc (g := T.rd X.K) (tt := lfT X.K W0 tt) (te := lf X.K W0 me) hc hN hi ok hg ht he hs) fun σ H Q h => lf_lc hT h
theorem qs_setLc {i : Nat} {y : Str} {py : Pos} (hc : X.calm = true) (hN : X.N.Nodup) (hy : X.N[i]? = some y) (hyl : X.env.scope.names.lookup y = some .local)
    (hsw : swapsWith (.ListComp elt [⟨tg, iter, ifs, 0⟩] scope pos) (some (.Name y py)) spos.line X.env = pure true) (hi : QI X W tg iter mi) (ok : BlkOk X.N X.env.scope scope own)
    (hg : ∀ (s : Shared) (H : Hp) (C : Addr) (cl : List (Str × Addr)) (fp : List Addr), QG (X.blk s H scope (compEnvC scope cl C X.env) fp) tg T) (ht : ∀ (s : Shared) (H : Hp) (C : Addr) (cl : List (Str × Addr)) (fp : List Addr), QTs (X.blk s H scope (compEnvC scope cl C X.env) fp) W0 ifs tt)
    (he : ∀ (s : Shared) (H : Hp) (C : Addr) (cl : List (Str × Addr)) (fp : List Addr), QE (X.blk s H scope (compEnvC scope cl C X.env) fp) W0 elt me) (hT : ∀ i ∈ T.slots, i ∈ own.map (·.2)) (hs : ∀ x, foldedSetIterable iter X.env x = pure x := by intro _; rfl) :
    QS X W (.Assign [.Name y py] (.ListComp elt [⟨tg, iter, ifs, 0⟩] scope pos) spos) (mSet i (mLc mi T tt me (own.map (·.2)))) := PSi (ps_setLc (g := T.rd X.K) (tt := lfT X.K W0 tt) (te := lf X.K W0 me) hc hN hy hyl hsw hi ok hg ht he hs) fun D σ H ⟨as, M, ρ, E, r, rs, h, hE⟩ => by
  have h : mLc mi T tt me (own.map (·.2)) ρ M (fun d M1 => E.nx (ρ.set i (some d)) M1) (fun x M1 => E.ex x ρ M1) := h
  exact lf_lc hT (lf_bind (k := fun d M1 => E.nx (ρ.set i (some d)) M1) (X' := fun x M1 => E.ex x ρ M1) r rs h (exS hE rs) fun d M1 as1 H1 v h1 e1 r1 rs1 rv => hE.nx _ _ h1 as1 H1 _ e1 r1 (rs1.set rv))
end
def putD (f : Str) (y : D) : List (Str × D) → List (Str × D)
  | [] => [(f, y)]
  | (g, z) :: r => if g = f then (g, y) :: r else (g, z) :: putD f y r
/-- what is known of the classes by their names; fs: the names of fields and of methods that are asked -/
structure ClsN (K : PySem.W.Frag) (cs : List Str) (fs : List Str) : Prop where
  cls : ∀ c ∈ cs, Cls K (He.ga K c)
  no : ∀ c ∈ cs, ∀ f ∈ fs, NoAttr K (He.ga K c) f
def mFld (cs : List Str) (ma : ME) (f : Str) : ME := fun ρ M Q X => ma ρ M (fun x M1 => match x with
  | .ref n => match M1[n]? with
    | some (.ins c fs) => c ∈ cs ∧ match fs.lookup f with
      | some d => Q d M1
      | none => False
    | _ => False
  | _ => False) X
def mSetFld (cs : List Str) (ma mv : ME) (f : Str) : MS := fun E ρ M => mv ρ M (fun y M1 => ma ρ M1 (fun x M2 => match x with
  | .ref n => match M2[n]? with
    | some (.ins c fs) => c ∈ cs ∧ fs.length < 100 ∧ E.nx ρ (M2.set n (.ins c (putD f y fs)))
    | _ => False
  | _ => False) (fun x M2 => E.ex x ρ M2)) (fun x M1 => E.ex x ρ M1)
section
variable {K : PySem.W.Frag} {as : List Addr} {H : Hp} {M : Mem}
theorem KVR.look {l : List (Str × D)} {m : List (Str × V)} (h : KVR K as H l m) (f : Str) : (l.lookup f = none ∧ m.lookup f = none) ∨ ∃ d v, l.lookup f = some d ∧ m.lookup f = some v ∧ Rel K as H d v := by
  induction h with
  | nil => exact .inl ⟨rfl, rfl⟩
  | cons h t ih =>
    rename_i p q l m
    obtain ⟨h1, h2⟩ := h
    obtain ⟨p1, p2⟩ := p
    obtain ⟨q1, q2⟩ := q
    cases h1
    simp only [List.lookup_cons]
    cases e : (f == p1) with
    | true => exact .inr ⟨p2, q2, rfl, rfl, h2⟩
    | false => exact ih
theorem putF_eq (f : Str) (y : V) : ∀ l : List (Str × V), putF f y l = match l with | [] => [(f, y)] | (g, z) :: r => if g = f then (g, y) :: r else (g, z) :: putF f y r
  | [] => by simp [putF]
  | (g, z) :: r => by simp [putF]
theorem KVR.putF {l : List (Str × D)} {m : List (Str × V)} (h : KVR K as H l m) (f : Str) {d : D} {v : V} (r : Rel K as H d v) : KVR K as H (putD f d l) (L2.putF f v m) := by
  induction h with
  | nil => rw [putF_eq]; exact .cons ⟨rfl, r⟩ .nil
  | cons h t ih =>
    rename_i p q l m
    obtain ⟨h1, h2⟩ := h
    obtain ⟨p1, p2⟩ := p
    obtain ⟨q1, q2⟩ := q
    cases h1
    rw [putF_eq]
    simp only [putD]
    split
    · exact .cons ⟨rfl, r⟩ t
    · exact .cons ⟨rfl, h2⟩ ih
theorem at_ins {n : Nat} {a : Addr} {c : Str} {fs : List (Str × D)} (rp : RepM K as H M) (hn : as[n]? = some a) (e : M[n]? = some (.ins c fs)) : ∃ dx ys, H a = some (.ins (He.ga K c) dx ys) ∧ KVR K as H fs ys := by
  obtain ⟨a', ha, dx, ys, h1, h2⟩ := rp.at_ e
  rw [hn] at ha; cases ha
  exact ⟨dx, ys, h1, h2⟩
end
section
variable {X : Cx} {W : WX} {o e value : Expr} {f : Str} {pos pos' apos cpos : Pos} {ma mv : ME} {cs : List Str} {all : List Str} {es : List Expr}
theorem qe_fld (c : ClsN X.K cs all) (hf : f ∈ all) (he : QE X W e ma) (hb : attributeBase e f X.env (eval e X.env) = eval e X.env := by rfl) : QE X W (.Attribute e f pos) (mFld cs ma f) := PEi (pe_fld he hb) fun σ H Q ⟨as, M, ρ, Q', X', r, rs, h, hq, hx⟩ => by
  refine lf_bind r rs h hx fun d M1 as1 H1 v h1 e1 r1 rs1 rv => ?_
  cases rv <;> first | exact h1.elim | skip
  rename_i n a hn
  dsimp only at h1
  split at h1
  · rename_i cc fs em
    obtain ⟨hc, h1⟩ := h1
    obtain ⟨dx, ys, g1, g2⟩ := at_ins r1 hn em
    rcases g2.look f with ⟨l1, l2⟩ | ⟨d, v, l1, l2, rv⟩
    · rw [l1] at h1; exact h1.elim
    · rw [l1] at h1
      exact ⟨_, _, dx, ys, v, rfl, g1, c.cls cc hc, c.no cc hc f hf, l2, hq _ _ h1 as1 H1 _ e1 r1 rv⟩
  · exact h1.elim
theorem qs_fld (c : ClsN X.K cs all) (hf : f ∈ all) (ha : QE X W o ma) (hv : QE X W value mv) (hs : swapsWith value (some (.Attribute o f pos')) pos.line X.env = pure false := by rfl) : QS X W (.Assign [.Attribute o f pos'] value pos) (mSetFld cs ma mv f) := PSi (ps_fld ha hv hs) fun D σ H ⟨as, M, ρ, E, r, rs, h, hE⟩ => by
  refine lf_bind r rs h (exS hE rs) fun y M1 as1 H1 vy h1 e1 r1 rs1 ry => ?_
  refine lf_bind r1 rs1 h1 (fun x M' q => (exS hE rs x M' q).mono e1) fun x M2 as2 H2 v h2 e2 r2 rs2 rv => ?_
  cases rv <;> first | exact h2.elim | skip
  rename_i n a hn
  dsimp only at h2
  split at h2
  · rename_i cc fs em
    obtain ⟨hc, hl, h2⟩ := h2
    obtain ⟨dx, ys, g1, g2⟩ := at_ins r2 hn em
    refine ⟨_, _, dx, ys, rfl, g1, c.cls cc hc, c.no cc hc f hf, by rw [← g2.len]; omega, ?_⟩
    have e3 := ext_put (u := .ins (He.ga X.K cc) dx (L2.putF f vy ys)) r2 hn (nfrz_ins g1)
    have r3 : RepM X.K as2 _ (M2.set n (.ins cc (putD f y fs))) := r2.put hn (nfrz_ins g1) ⟨dx, _, upd_same, (g2.putF f (ry.up e2)).up e3⟩
    exact hE.nx _ _ h2 as2 _ σ ((e1.trans e2).trans e3) r3 (rs2.up e3)
  · exact h2.elim
abbrev OM := D → List D → Mem → DK → Prop
def isT (T : String) (x : D) (M : Mem) : Prop := match x with
  | .str _ => T = "str"
  | .ref n => T = "list" ∧ match M[n]? with | some (.lst _) => True | _ => False
  | _ => False
def mBM (T : String) (r : OM) (mo : ME) (ma : MA) : ME := fun ρ M Q X => mo ρ M (fun x M1 => isT T x M1 ∧ ma ρ M1 (fun xs M2 => r x xs M2 Q) X) X
def SimM (K : PySem.W.Frag) (r : V → List V → Hp → VK → Prop) (o : OM) : Prop := ∀ (as : List Addr) (H : Hp) (M : Mem) (dx : D) (ds : List D) (x : V) (vs : List V) (k : DK) (Q : VK), RepM K as H M → Rel K as H dx x → RelL K as H ds vs → o dx ds M k → (∀ d M', k d M' → LQ K as H Q d M') → r x vs H Q
theorem isT_ok {K : PySem.W.Frag} {as : List Addr} {H : Hp} {M : Mem} {T : String} {d : D} {x : V} (rp : RepM K as H M) (rx : Rel K as H d x) (h : isT T d M) : tyV K T x H := by
  cases rx <;> first | exact h.elim | skip
  · exact h
  · rename_i n a hn
    obtain ⟨h1, h2⟩ := h
    split at h2
    · rename_i ds e
      obtain ⟨xs, g1, g2⟩ := at_lst rp hn e
      exact .inl ⟨h1, xs, SqL.of g1⟩
    · exact h2.elim
theorem qe_bm {T id : String} {name : Str} {r : V → List V → Hp → VK → Prop} {rm : OM} {mo : ME} {mar : MA} (pa : PlainAttrs T) (slot : Slot T name id) (hty : typeOf (.builtin id) = pure (.type "method_descriptor")) (hm : MtR X id r) (hs : SimM X.K r rm) (ho : QE X W o mo) (ha : QA X W (e :: es) mar)
    (hbase : attributeBase o name X.env (eval o X.env) = eval o X.env := by rfl)
    (hfew : ((backTo cpos (starEach (e :: es) X.env)).all (fun x => !x.1) && (backToKw cpos (keywordEach [] X.env)).all (fun x => x.1.isSome)
      && decide ((e :: es).length + ([] : List Keyword).length + (if ([] : List Keyword).isEmpty then 0 else 1) < 30)) = true := by rfl)
    (hline : (apos.endLine == cpos.line) = true := by rfl) (hst : starEach (e :: es) X.env = (false, eval e X.env) :: starEach es X.env := by rfl) (hplain : (backTo cpos (starEach es X.env)).any (·.1) = false := by rfl) :
    QE X W (.Call (.Attribute o name apos) (e :: es) [] cpos) (mBM T rm mo mar) := PEi (pe_bm pa slot hty hm ho ha hbase hfew hline hst hplain) fun σ H Q ⟨as, M, ρ, Q', X', r, rs, h, hq, hx⟩ => by
  refine lf_bind r rs h hx fun d M1 as1 H1 v h1 e1 r1 rs1 rv => ⟨isT_ok r1 rv h1.1, ?_⟩
  refine lfA_bind r1 rs1 h1.2 (fun x M' q => (hx x M' q).mono e1) fun ds M2 as2 H2 vs h2 e2 r2 rs2 rvs => ?_
  exact hs as2 H2 M2 d ds v vs Q' Q r2 (rv.up e2) rvs h2 fun d M' q => (hq d M' q).mono (e1.trans e2)
theorem qe_bm0 {T id : String} {name : Str} {r : V → List V → Hp → VK → Prop} {rm : OM} {mo : ME} (pa : PlainAttrs T) (slot : Slot T name id) (hty : typeOf (.builtin id) = pure (.type "method_descriptor")) (hm : MtR X id r) (hs : SimM X.K r rm) (ho : QE X W o mo)
    (hbase : attributeBase o name X.env (eval o X.env) = eval o X.env := by rfl) (hline : (apos.endLine == cpos.line) = true := by rfl) :
    QE X W (.Call (.Attribute o name apos) [] [] cpos) (mBM T rm mo mNil) := PEi (pe_bm0 pa slot hty hm ho hbase hline) fun σ H Q ⟨as, M, ρ, Q', X', r, rs, h, hq, hx⟩ =>
  lf_bind r rs h hx fun d M1 as1 H1 v h1 e1 r1 rs1 rv => ⟨isT_ok r1 rv h1.1, hs as1 H1 M1 d [] v [] Q' Q r1 rv .nil h1.2 fun d M' q => (hq d M' q).mono e1⟩
end
def omAppend : OM := fun x ds M Q => match x, ds with
  | .ref n, [d] => match M[n]? with
    | some (.lst l) => l.length < 16000000 ∧ Q .non (M.set n (.lst (l ++ [d])))
    | _ => False
  | _, _ => False
def omExtend : OM := fun x ds M Q => match x, ds with
  | .ref n, [.ref m] => match M[n]?, M[m]? with
    | some (.lst l), some (.lst k) => l.length + k.length ≤ 16000000 ∧ Q .non (M.set n (.lst (l ++ k)))
    | _, _ => False
  | _, _ => False
def omPop : OM := fun x ds M Q => match x, ds with
  | .ref n, [] => match M[n]? with
    | some (.lst l) => match l[l.length - 1]? with
      | some d => Q d (M.set n (.lst l.dropLast))
      | none => False
    | _ => False
  | _, _ => False
section
variable {K : PySem.W.Frag}
theorem sim_append : SimM K rAppend omAppend := fun as H M dx ds x vs k Q rp rx rv h hk => by
  unfold omAppend at h
  split at h
  · obtain ⟨v, rfl, r1⟩ := rv.one
    cases rx with
    | ref hn =>
      split at h
      · rename_i l e
        obtain ⟨xs, g1, g2⟩ := at_lst rp hn e
        obtain ⟨e7, r7⟩ := put_lst rp hn g1 (g2.app (.cons r1 .nil))
        exact ⟨_, xs, v, rfl, rfl, g1, by rw [← g2.len]; exact Nat.lt_of_lt_of_le h.1 (by decide), hk _ _ h.2 as _ _ e7 r7 .non⟩
      · exact h.elim
  · exact h.elim
theorem sim_extend : SimM K rExtend omExtend := fun as H M dx ds x vs k Q rp rx rv h hk => by
  unfold omExtend at h
  split at h
  · obtain ⟨v, rfl, r1⟩ := rv.one
    cases rx with
    | ref hn =>
      cases r1 with
      | ref hm =>
        split at h
        · rename_i l kk e1 e2
          obtain ⟨xs, g1, g2⟩ := at_lst rp hn e1
          obtain ⟨ys, g3, g4⟩ := at_lst rp hm e2
          obtain ⟨e7, r7⟩ := put_lst rp hn g1 (g2.app g4)
          exact ⟨_, _, xs, ys, rfl, rfl, g1, g3, by rw [← g2.len, ← g4.len]; exact Nat.le_trans h.1 (by decide), hk _ _ h.2 as _ _ e7 r7 .non⟩
        · exact h.elim
  · exact h.elim
theorem RelL.dropLast {as : List Addr} {H : Hp} : ∀ {ds : List D} {vs : List V}, RelL K as H ds vs → RelL K as H ds.dropLast vs.dropLast := fun {ds vs} r => by
  rw [List.dropLast_eq_take, List.dropLast_eq_take, ← r.len]
  exact r.take _
theorem sim_pop : SimM K rPop omPop := fun as H M dx ds x vs k Q rp rx rv h hk => by
  unfold omPop at h
  split at h
  · cases rv
    cases rx with
    | ref hn =>
      split at h
      · rename_i l e
        split at h
        · rename_i d ed
          obtain ⟨xs, g1, g2⟩ := at_lst rp hn e
          obtain ⟨v, ev, rd⟩ := g2.get ed
          obtain ⟨e7, r7⟩ := put_lst rp hn g1 g2.dropLast
          exact ⟨_, xs, v, rfl, rfl, g1, by rw [← g2.len]; exact ev, hk _ _ h as _ _ e7 r7 (rd.up e7)⟩
        · exact h.elim
      · exact h.elim
  · exact h.elim
end
inductive QJ (X : Cx) (W : WX) : List Expr → List ME → Prop where
  | nil : QJ X W [] []
  | cons {e : Expr} {m : ME} {es : List Expr} {ms : List ME} (h : QE X W e m) (r : QJ X W es ms) : QJ X W (e :: es) (m :: ms)
section
variable {X : Cx} {W : WX} {e : Expr} {me : ME} {pos : Pos}
end
end MV
namespace MV
open PySem PySem.Spec PyProof.Rows L2
abbrev WF := List D → Mem → DK → XM → Prop
/-- the promise: what the mirror says -/
def spM (K : PySem.W.Frag) (n : Nat) (w : WF) : Sp := fun vs H Q E => ∃ as M ds Q' X', vs.length = n ∧ RepM K as H M ∧ RelL K as H ds vs ∧ w ds M Q' X' ∧ (∀ d M', Q' d M' → LQ K as H Q d M') ∧ ∀ x M', X' x M' → LX K as H E x M'
/-- how a call of n positional values and keywords ks binds -/
structure DBn (K : PySem.W.Frag) (fd : FuncData) (ps : List Str) (n : Nat) (ks : List Str) (gD : List D → List D → List D) : Prop where
  ex : ∃ g gV, KBn K fd ps n ks g gV ∧ ∀ (as : List Addr) (H : Hp) (ds es : List D) (vs zs : List V), ds.length = n → es.length = ks.length → RelL K as H ds vs → RelL K as H es zs → RelL K as H (gD ds es) (gV vs zs)
structure Fn (P : Program) (w : World) (K : PySem.W.Frag) (mg : Str → Option Value) (base : Heap) (k : Nat) (f : Addr) (ps : List Str) (W : WF) (n : Nat) (ks : List Str) (gD : List D → List D → List D) : Prop where
  ok : ∃ fd, FnOk P w K mg base (CX P w) k f fd ps (spM K ps.length W) ∧ DBn K fd ps n ks gD
  kp : PySem.W.keepIn K (.ref f) = true
abbrev TA2 := L2.St → Hp → (List V → List V → Hp → Prop) → Prop
abbrev MA2 := Ev → Mem → (List D → List D → Mem → Prop) → XM → Prop
def PCW (X : Cx) (es : List Expr) (kws : List Keyword) (ks : List Str) (pos : Pos) (t : TA2) : Prop := ∀ (f : Value) (first : List Value) (pins : List (Addr × Obj)) (s : Shared) (σ : L2.St) (H : Hp) (R : List V → List V → Hp → Prop) (Qv : Value → Shared → Prop), Inv X pins σ H s → PySem.W.keepIn X.K f = true → t σ H R →
  (∀ us ws vs zs H2 s2, Inv X pins σ H2 s2 → Vals vs us → Vals zs ws → R vs zs H2 → wpAny (model X.prog X.w) X.A (call f (first ++ us) (ks.zip ws)) Qv X.xe s2) →
  wpAny (model X.prog X.w) X.A (callWith pos f first (backTo pos (starEach es X.env)) (backToKw pos (keywordEach kws X.env))) Qv X.xe s
def lfA2 (K : PySem.W.Frag) (W : WX) (m : MA2) : TA2 := fun σ H R => ∃ as M ρ k X', RepM K as H M ∧ RelS K as H ρ σ ∧ m ρ M k X' ∧ (∀ ds es M' as' H' vs zs, k ds es M' → Ext K as H as' H' → RepM K as' H' M' → RelL K as' H' ds vs → RelL K as' H' es zs → R vs zs H') ∧ ∀ x M', X' x M' → LX K as H (fun c d H => W c d σ H) x M'
abbrev QCW (X : Cx) (W : WX) (es : List Expr) (kws : List Keyword) (ks : List Str) (pos : Pos) (m : MA2) : Prop := PCW X es kws ks pos (lfA2 X.K W m)
def mArgs0 : MA2 := fun _ M k _ => k [] [] M
def mArgsP (ma : MA) : MA2 := fun ρ M k X => ma ρ M (fun ds M1 => k ds [] M1) X
def mArgsK (mk : MA) : MA2 := fun ρ M k X => mk ρ M (fun es M1 => k [] es M1) X
def mArgsPK (ma mk : MA) : MA2 := fun ρ M k X => ma ρ M (fun ds M1 => mk ρ M1 (fun es M2 => k ds es M2) X) X
abbrev QK (X : Cx) (W : WX) (kws : List Keyword) (m : MA) : Prop := PK X kws (lfA X.K W m)
section
variable {X : Cx} {W : WX} {e : Expr} {es : List Expr} {kws : List Keyword} {ks : List Str} {pos : Pos} {ma mk : MA} {me : ME}
theorem qk_nil : QK X W [] mNil := ⟨fun pos pins s σ H Q I ⟨as, M, ρ, Q', X', r, rs, h, hq, hx⟩ => pk_nil.run pos pins s σ H Q I (hq [] M h as H [] .refl r .nil)⟩
theorem qk_cons {nm : Option Str} {kpos : Pos} (ha : QE X W e me) (hr : QK X W kws mk) : QK X W (⟨nm, e, kpos⟩ :: kws) (mCons me mk) := ⟨fun pos pins s σ H Q I ⟨as, M, ρ, Q', X', r, rs, h, hq, hx⟩ => (pk_cons ha hr).run pos pins s σ H Q I (by
    refine lf_bind r rs h hx fun dx M1 as1 H1 x h1 e1 r1 rs1 rx => ?_
    refine lfA_bind r1 rs1 h1 (fun x M' q => (hx x M' q).mono e1) fun ds M2 as2 H2 vs h2 e2 r2 rs2 rv => ?_
    exact hq _ _ h2 as2 H2 _ (e1.trans e2) r2 (.cons (rx.up e2) rv))⟩
theorem qcw0 : QCW X W [] [] [] pos mArgs0 := fun f first pins s σ H R Qv I kp ⟨as, M, ρ, k, X', r, rs, h, hq, hx⟩ hk =>
  PySem.W.callWith_K0 I.kIn kp (hk [] [] [] [] H s I .nil .nil (hq [] [] M as H [] [] h .refl r .nil .nil))
theorem qcwP (ha : QA X W (e :: es) ma) (he : starEach (e :: es) X.env = (false, eval e X.env) :: starEach es X.env := by rfl) (hpl : (backTo pos (starEach es X.env)).any (·.1) = false := by rfl) : QCW X W (e :: es) [] [] pos (mArgsP ma) := fun f first pins s σ H R Qv I kp ⟨as, M, ρ, k, X', r, rs, h, hq, hx⟩ hk =>
  PySem.W.callWith_K (h₀ := X.base) I.ok.mod.kin kp (thn (ha.run pos pins s σ H (fun vs H' => R vs [] H') I ⟨as, M, ρ, _, X', r, rs, h, fun ds M' q as' H' vs e r' rv => hq ds [] M' as' H' vs [] q e r' rv .nil, hx⟩) fun us s1 ⟨vs, H1, I1, rv, q⟩ => ⟨I1.kIn, hk us [] vs [] H1 s1 I1 rv .nil q⟩) he hpl
theorem qcwPK (ha : QA X W (e :: es) ma) (hkw : QK X W kws mk) (hall : (backToKw pos (keywordEach kws X.env)).all (·.1.isSome) = true := by kernel_rfl) (hks : (backToKw pos (keywordEach kws X.env)).filterMap (·.1) = ks := by kernel_rfl)
    (he : starEach (e :: es) X.env = (false, eval e X.env) :: starEach es X.env := by rfl)
    (hpl : ((backTo pos (starEach (e :: es) X.env)).any (·.1) || (backToKw pos (keywordEach kws X.env)).any (·.1.isNone)) = false := by kernel_rfl) : QCW X W (e :: es) kws ks pos (mArgsPK ma mk) := fun f first pins s σ H R Qv I kp ⟨as, M, ρ, k, X', r, rs, h, hq, hx⟩ hk =>
  PySem.W.callWith_KW (h₀ := X.base) I.ok.mod.kin kp hall (thn (ha.run pos pins s σ H (fun vs H' => lfA X.K W mk σ H' fun zs H2 => R vs zs H2) I ⟨as, M, ρ, _, X', r, rs, h, fun ds M' q as' H' vs e r' rv =>
      ⟨as', M', ρ, _, X', r', rs.up e, q, fun es M2 q2 as2 H2 zs e2 r2 rz => hq ds es M2 as2 H2 vs zs q2 (e.trans e2) r2 (rv.up e2) rz, fun x M' q => (hx x M' q).mono e⟩, hx⟩) fun us s1 ⟨vs, H1, I1, rv, q⟩ =>
    thn (hkw.run pos pins s1 σ H1 _ I1 q) fun ws s2 ⟨zs, H2, I2, rz, q2⟩ => ⟨I2.kIn, by rw [hks]; exact hk us ws vs zs H2 s2 I2 rv rz q2⟩) hpl he
end
def mCall (w : WF) (n m : Nat) (gD : List D → List D → List D) (ma : MA2) : ME := fun ρ M Q X => ma ρ M (fun ds es M1 => (ds.length = n ∧ es.length = m) ∧ w (gD ds es) M1 Q X) X
def mMeth (c : Str) (mn : Str) (w : WF) (n m : Nat) (gD : List D → List D → List D) (mo : ME) (ma : MA2) : ME := fun ρ M Q X => mo ρ M (fun x M1 => match x with
  | .ref a => match M1[a]? with
    | some (.ins c' fs) => (c' = c ∧ fs.lookup mn = none) ∧ ma ρ M1 (fun ds es M2 => ((x :: ds).length = n ∧ es.length = m) ∧ w (gD (x :: ds) es) M2 Q X) X
    | _ => False
  | _ => False) X
def mMake (c : Str) (w : WF) (n m : Nat) (gD : List D → List D → List D) (ma : MA2) : ME := fun ρ M Q X => ma ρ M (fun ds es M1 => (ds.length + 1 = n ∧ es.length = m) ∧ w (gD (.ref M1.length :: ds) es) (M1 ++ [.ins c []]) (fun v M2 => match v with | .non => Q (.ref M1.length) M2 | _ => False) X) X
section
variable {X : Cx} {W : WX} {x m : Str} {es : List Expr} {kws : List Keyword} {ks ps : List Str} {p pos apos : Pos} {ma : MA2} {k n : Nat} {w : WF} {gD : List D → List D → List D} {f C : Addr} {o : Expr} {mo : ME}
theorem run_fnU {fd : FuncData} {sp : Sp} {E : XK} {g : List Value → List Value → List Value} {gV : List V → List V → List V} {pins : List (Addr × Obj)} {σ : L2.St} {H : Hp} {s : Shared} {Q : VK} {us ws : List Value} {vs zs : List V} (F : FnOk X.prog X.w X.K X.mg X.base (CX X.prog X.w) k f fd ps sp) (hr : Room k X.A) (hb : KBn X.K fd ps n ks g gV) (hx : PassesAt (CX X.prog X.w) X σ E)
    (I : Inv X pins σ H s) (r : Vals vs us) (rz : Vals zs ws) (l1 : vs.length = n) (l2 : zs.length = ks.length) (h : sp (gV vs zs) H Q E) : wpAny (model X.prog X.w) X.A (call (.ref f) us (ks.zip ws)) (EP X pins σ Q) X.xe s := by
  have r2 := hb.rel r rz
  refine wpAny_call (codeAny_mono (F.run X.A X.stack s H ⟨us, ks.zip ws⟩ (g us ws) (gV vs zs) Q E hr I.env0 (hb.to s us ws I.kIn (r.length.symm.trans l1) (rz.length.symm.trans l2)) r2 h) fun r s' hq => ?_)
  cases r with
  | error e => exact hx pins H s e s' I hq
  | ok fl =>
    cases fl with
    | ret u => exact I.after hq
    | next => exact False.elim hq
    | brk => exact False.elim hq
    | cont => exact False.elim hq
/-- the mirror's word as the promise -/
theorem spM_of {K : PySem.W.Frag} {as : List Addr} {H : Hp} {M : Mem} {ds : List D} {vs : List V} {N : Nat} {Q : VK} {E : XK} {k : DK} {X' : XM} (r : RepM K as H M) (rv : RelL K as H ds vs) (hl : vs.length = N) (h : w ds M k X') (hq : ∀ d M', k d M' → LQ K as H Q d M') (hx : ∀ x M', X' x M' → LX K as H E x M') : spM K N w vs H Q E := ⟨as, M, ds, k, X', hl, r, rv, h, hq, hx⟩
/-- f(..) -/
theorem qe_call (F : Fn X.prog X.w X.K X.mg X.base k f ps w n ks gD) (hr : Room k X.A) (hg : Gl X x) (hm : X.mg x = some (.ref f)) (tk : Takes X W) (ha : QCW X W es kws ks pos ma) (hgl : ∀ (ds es : List D), ds.length = n → es.length = ks.length → (gD ds es).length = ps.length) (hdb : (x == ("__debug__" : Str)) = false := by decide) :
    QE X W (.Call (.Name x p) es kws pos) (mCall w n ks.length gD ma) := by
  obtain ⟨⟨fd, G, ⟨g, gV, hb, hrel⟩⟩, kp⟩ := F
  refine ⟨fun pins s σ H Q I ⟨as, M, ρ, Q', X', r, rs, h, hq, hx⟩ => ?_⟩
  refine wpAny_Call_Name_kw (ld_glob I hg hm ?_ hdb)
  refine ha (.ref f) [] pins s σ H (fun vs zs H1 => (vs.length = n ∧ zs.length = ks.length) ∧ spM X.K ps.length w (gV vs zs) H1 Q (WE W σ)) _ I kp ⟨as, M, ρ, _, X', r, rs, h, fun ds es M1 as1 H1 vs zs q e1 r1 rv rz => ?_, hx⟩ fun us ws vs zs H2 s2 I2 rv rz q => ?_
  · obtain ⟨⟨l1, l2⟩, q⟩ := q
    have rg := hrel as1 H1 ds es vs zs l1 l2 rv rz
    exact ⟨⟨by rw [← rv.len]; exact l1, by rw [← rz.len]; exact l2⟩, spM_of r1 rg (by rw [← rg.len]; exact hgl ds es l1 l2) q (fun d M' q => (hq d M' q).mono e1) fun x M' q => (hx x M' q).mono e1⟩
  · exact run_fnU G hr hb (passAt tk σ) I2 rv rz q.1.1 q.1.2 q.2
/-- o.m(..) -/
theorem qe_meth {c : Str} {pl : Sem Bool} (he : QE X W o mo) (cl : Cls X.K (He.ga X.K c)) (hm : Meth X.K (He.ga X.K c) m f) (F : Fn X.prog X.w X.K X.mg X.base k f ps w n ks gD) (hr : Room k X.A) (tk : Takes X W) (ha : QCW X W es kws ks pos ma) (hgl : ∀ (ds es : List D), ds.length = n → es.length = ks.length → (gD ds es).length = ps.length)
    (ht : eval (.Call (.Attribute o m apos) es kws pos) X.env = (do
      let ov ← eval o X.env
      standAt apos.atName
      let (f, first) ← holding [ov] (getMethod ov m pl)
      callWith pos f first (backTo pos (starEach es X.env)) (backToKw pos (keywordEach kws X.env))) := by rfl) :
    QE X W (.Call (.Attribute o m apos) es kws pos) (mMeth c m w n ks.length gD mo ma) := by
  obtain ⟨⟨fd, G, ⟨g, gV, hb, hrel⟩⟩, kp⟩ := F
  refine ⟨fun pins s σ H Q I ⟨as, M, ρ, Q', X', r, rs, h, hq, hx⟩ => ?_⟩
  refine PySem.W.methodCall_KW (pl := pl) (thn (he.run pins s σ H (fun v H1 => ∃ a dx fs, v = .ref a ∧ H1 a = some (.ins (He.ga X.K c) dx fs) ∧ fs.lookup m = none ∧ lfA2 X.K W (fun ρ M k X => ma ρ M k X) σ H1 fun vs zs H2 => (vs.length + 1 = n ∧ zs.length = ks.length) ∧ spM X.K ps.length w (gV (.ref a :: vs) zs) H2 Q (WE W σ)) I ?_) fun u s1 ⟨v, H1, I1, rx, a, dx, fs, ex, ea, l, q⟩ => ?_) ht
  · refine lf_bind r rs h hx fun d M1 as1 H1 v h1 e1 r1 rs1 rv => ?_
    cases rv <;> first | exact h1.elim | skip
    rename_i nn a hn
    dsimp only at h1
    split at h1
    · rename_i c' fs em
      obtain ⟨⟨ec, el⟩, h1⟩ := h1
      subst ec
      obtain ⟨dx, ys, g1, g2⟩ := at_ins r1 hn em
      have l2 : ys.lookup m = none := by
        rcases g2.look m with ⟨_, z⟩ | ⟨d, v, z, _⟩
        · exact z
        · rw [z] at el; cases el
      refine ⟨a, dx, ys, rfl, g1, l2, as1, M1, ρ, _, X', r1, rs1, h1, fun ds es M2 as2 H2 vs zs q e2 r2 rv rz => ?_, fun x M' q => (hx x M' q).mono e1⟩
      obtain ⟨⟨l1, l3⟩, q⟩ := q
      have rv2 : RelL X.K as2 H2 (.ref nn :: ds) (.ref a :: vs) := .cons (.ref (pre_get e2.pre hn)) rv
      have rg := hrel as2 H2 _ es _ zs l1 l3 rv2 rz
      have e3 := e1.trans e2
      exact ⟨⟨by rw [← rv.len]; exact l1, by rw [← rz.len]; exact l3⟩, spM_of r2 rg (by rw [← rg.len]; exact hgl _ es l1 l3) q (fun d M' q => (hq d M' q).mono e3) fun x M' q => (hx x M' q).mono e3⟩
    · exact h1.elim
  · subst ex
    obtain rfl : u = Value.ref a := rx
    refine getmeth_ok I1 ea cl hm l ?_
    refine ha (.ref f) [.ref a] pins s1 σ H1 _ _ I1 kp q fun us ws vs zs H2 s2 I2 rv rz q => ?_
    exact run_fnU (us := .ref a :: us) (vs := .ref a :: vs) G hr hb (passAt tk σ) I2 (.cons rfl rv) rz q.1.1 q.1.2 q.2
/-- C(..) -/
theorem run_makeU {fd : FuncData} {sp : Sp} {E : XK} {g : List Value → List Value → List Value} {gV : List V → List V → List V} {pins : List (Addr × Obj)} {σ : L2.St} {H : Hp} {s : Shared} {Q : VK} {us ws : List Value} {vs zs : List V} (Mk' : Mk X.K C f) (F : FnOk X.prog X.w X.K X.mg X.base (CX X.prog X.w) k f fd ps sp) (hr : Room (k + 1) X.A) (hb : KBn X.K fd ps n ks g gV) (hx : ∀ (pins : List (Addr × Obj)) (H : Hp) (s : Shared) (e : Value) (s' : Shared), Inv X pins σ H s → CX X.prog X.w X.stack H s E e s' → X.xe e s')
    (I : Inv X pins σ H s) (r : Vals vs us) (rz : Vals zs ws) (l1 : vs.length + 1 = n) (l2 : zs.length = ks.length)
    (h : ∀ x dx, H x = none → H dx = none → dx ≠ x → sp (gV (.ref x :: vs) zs) (upd (upd H dx (.own x)) x (.ins C dx [])) (fun v H2 => v = .non ∧ Q (.ref x) H2) E) :
    wpAny (model X.prog X.w) X.A (call (.ref C) us (ks.zip ws)) (EP X pins σ Q) X.xe s := by
  have hq := h (s.heap.objs.size + 1) s.heap.objs.size (I.hok.fresh (Nat.le_succ _)) (I.hok.fresh (Nat.le_refl _)) (Nat.ne_of_lt (Nat.lt_succ_self _))
  have I2 := Inv.made (C := C) I
  have r1 : Vals (V.ref (s.heap.objs.size + 1) :: vs) (Value.ref (s.heap.objs.size + 1) :: us) := .cons rfl r
  have r2 := hb.rel r1 rz
  have n1 : (Value.ref (s.heap.objs.size + 1) :: us).length = n := by
    rw [List.length_cons, ← r.length, l1]
  refine wpAny_call (make_map (f := f) I.kIn Mk'.makes Mk'.init (beq_iff_eq.mp Mk'.fn) (codeAny_mono (F.run _ X.stack _ _ ⟨Value.ref (s.heap.objs.size + 1) :: us, ks.zip ws⟩ (g (Value.ref (s.heap.objs.size + 1) :: us) ws) _ _ E (hr.make C us (ks.zip ws))
    (I2.env0.make C us (ks.zip ws)) (hb.to _ (Value.ref (s.heap.objs.size + 1) :: us) ws I2.kIn n1 (rz.length.symm.trans l2)) r2 hq) fun r s' hq' => ?_))
  cases r with
  | error e => exact hx pins _ _ e s' I2 hq'
  | ok fl =>
    cases fl with
    | ret u =>
      obtain ⟨v, H', I3, rv, ev, q3⟩ := I2.after hq'
      subst ev
      exact ⟨rv, ⟨V.ref (s.heap.objs.size + 1), H', I3, rfl, q3⟩⟩
    | next => exact False.elim hq'
    | brk => exact False.elim hq'
    | cont => exact False.elim hq'
theorem qe_make (Mk' : Mk X.K (He.ga X.K x) f) (F : Fn X.prog X.w X.K X.mg X.base k f ps w n ks gD) (hr : Room (k + 1) X.A) (hg : Gl X x) (hm : X.mg x = some (.ref (He.ga X.K x))) (tk : Takes X W) (ha : QCW X W es kws ks pos ma) (hgl : ∀ (ds es : List D), ds.length = n → es.length = ks.length → (gD ds es).length = ps.length) (hdb : (x == ("__debug__" : Str)) = false := by decide) :
    QE X W (.Call (.Name x p) es kws pos) (mMake x w n ks.length gD ma) := by
  obtain ⟨⟨fd, G, ⟨g, gV, hb, hrel⟩⟩, _⟩ := F
  refine ⟨fun pins s σ H Q I ⟨as, M, ρ, Q', X', r, rs, h, hq, hx⟩ => ?_⟩
  refine wpAny_Call_Name_kw (ld_glob I hg hm ?_ hdb)
  refine ha (.ref (He.ga X.K x)) [] pins s σ H (fun vs zs H1 => (vs.length + 1 = n ∧ zs.length = ks.length) ∧ ∀ y dx, H1 y = none → H1 dx = none → dx ≠ y → spM X.K ps.length w (gV (.ref y :: vs) zs) (upd (upd H1 dx (.own y)) y (.ins (He.ga X.K x) dx [])) (fun v H2 => v = .non ∧ Q (.ref y) H2) (WE W σ)) _ I Mk'.kp ⟨as, M, ρ, _, X', r, rs, h, fun ds es M1 as1 H1 vs zs q e1 r1 rv rz => ?_, hx⟩ fun us ws vs zs H2 s2 I2 rv rz q => ?_
  · obtain ⟨⟨l1, l2⟩, q⟩ := q
    refine ⟨⟨by rw [← rv.len]; exact l1, by rw [← rz.len]; exact l2⟩, fun y dx hy hdx hne => ?_⟩
    have hy2 : upd H1 dx (.own y) y = none := by rw [upd_ne (Ne.symm hne)]; exact hy
    have e2 : Ext X.K as1 H1 (as1 ++ [y]) (upd (upd H1 dx (.own y)) y (.ins (He.ga X.K x) dx [])) := ((ext_new hdx).trans (ext_new hy2)).trans ext_app
    have r2 : RepM X.K (as1 ++ [y]) (upd (upd H1 dx (.own y)) y (.ins (He.ga X.K x) dx [])) (M1 ++ [.ins x []]) := (r1.laid hdx).new hy2 ⟨dx, [], upd_same, .nil⟩
    have ny : (as1 ++ [y])[M1.length]? = some y := by rw [← r1.len]; exact app_at
    have rv2 : RelL X.K (as1 ++ [y]) _ (.ref M1.length :: ds) (.ref y :: vs) := .cons (.ref ny) (rv.up e2)
    have l1' : (D.ref M1.length :: ds).length = n := l1
    have rg := hrel _ _ _ es _ zs l1' l2 rv2 (rz.up e2)
    have e3 := e1.trans e2
    refine spM_of r2 rg (by rw [← rg.len]; exact hgl _ es l1' l2) q (fun d M' q as' H' v e r' rd => ?_) fun x M' q => (hx x M' q).mono e3
    cases rd <;> first | exact q.elim | skip
    exact ⟨rfl, hq _ _ q as' H' _ (e3.trans e) r' (.ref (pre_get e.pre ny))⟩
  · exact run_makeU Mk' G hr hb (passAt tk σ) I2 rv rz q.1.1 q.1.2 q.2
end
def startE (N : List Str) (ds : List D) : Ev := ds.map some ++ List.replicate (N.length - ds.length) none
theorem RelL.start {K : PySem.W.Frag} {as : List Addr} {H : Hp} {ds : List D} {vs : List V} (N : List Str) (r : RelL K as H ds vs) : RelS K as H (startE N ds) (L2.start N vs) := by
  refine ⟨by simp [startE, L2.start, r.len], fun i d h => ?_⟩
  unfold startE at h
  unfold L2.start
  by_cases hl : i < ds.length
  · rw [List.getElem?_append_left (by simpa using hl), List.getElem?_map] at h
    cases e : ds[i]? with
    | none => rw [e] at h; cases h
    | some d0 =>
      rw [e] at h
      simp at h
      subst h
      obtain ⟨v, e2, rv⟩ := r.get e
      exact ⟨v, by rw [List.getElem?_append_left (by simpa [← r.len] using hl), List.getElem?_map, e2]; rfl, rv⟩
  · rw [List.getElem?_append_right (by simpa using hl), List.getElem?_replicate] at h
    split at h <;> cases h
/-- the mirror of a def by its body -/
def wOf (N : List Str) (m : MS) : WF := fun ds M Q X => m ⟨fun _ M' => Q .non M', Q, fun _ _ => False, fun _ _ => False, fun x _ M' => X x M'⟩ (startE N ds) M
theorem body_ok {K : PySem.W.Frag} {N : List Str} {m : MS} {n : Nat} {vs : List V} {H : Hp} {Q : VK} {E : XK} (h : spM K n (wOf N m) vs H Q E) : lfS K (fun c d _ H => E c d H) m { nx := fun _ H' => Q .non H', rt := Q } (L2.start N vs) H := by
  obtain ⟨as, M, ds, Q', X', hl, r, rv, h, hq, hx⟩ := h
  refine ⟨as, M, startE N ds, _, r, rv.start N, h, ⟨fun ρ M' q as' H' σ e r' _ => hq _ _ q as' H' _ e r' .non, hq, fun _ _ q => q.elim, fun _ _ q => q.elim, fun x ρ M' q as' H' σ c d e r' _ rx => hx _ _ q as' H' c d e r' rx⟩⟩
theorem spM_len {K : PySem.W.Frag} {n : Nat} {w : WF} (vs : List V) (H : Hp) (Q : VK) (E : XK) (h : spM K n w vs H Q E) : vs.length = n := let ⟨_, _, _, _, _, hl, _⟩ := h; hl
/-- the def: from the derivation of its body -/
theorem fn_ok {P : Program} {w : World} {K : PySem.W.Frag} {mg : Str → Option Value} {base : Heap} {x qual : Str} {params : Arguments} {body : List Stmt} {scope : Scope} {dvs : List V} {kws : List (Str × V)} {f : Addr} {fd : FuncData} {N ps : List Str} {k : Nat} {m : MS}
    (F : FunD K x qual params body scope dvs kws f fd) (S : FnScope N ps scope)
    (hb : ∀ (cdv : Value) (A : Around) (outer : List Env) (s : Shared) (H : Hp) (E : XK), Room k (A.deeper (envOfC qual scope s.heap.objs.size f cdv)) → Takes (cxOf (CX P w) P w K mg base N qual scope f cdv A outer s H E) (fun c d _ H => E c d H) → PassesOwn (model P w) (A.deeper (envOfC qual scope s.heap.objs.size f cdv)) (envOfC qual scope s.heap.objs.size f cdv) (cxOf (CX P w) P w K mg base N qual scope f cdv A outer s H E).xe →
      QSs (cxOf (CX P w) P w K mg base N qual scope f cdv A outer s H E) (fun c d _ H => E c d H) body m) : FnOk P w K mg base (CX P w) (k + 1) f fd ps (spM K ps.length (wOf N m)) :=
  F.ok S spM_len fun cdv A outer s H vs Q E hr h => ⟨_, hb cdv A outer s H E hr (takes_of rfl rfl rfl rfl) (passes_of rfl), body_ok h⟩
end MV
namespace MV
open PySem PySem.Spec PyProof.Rows L2
/-- the test of a clause: the classes cs -/
def TyOk (X : Cx) (ty : Expr) (cs : List Value) : Prop := ∀ (a : Addr) (pn pins : List (Addr × Obj)) (s : Shared) (σ : L2.St) (H : Hp) (cls : Value) (b : Bool) (Q : Value → Shared → Prop) (E : Value → Shared → Prop), Inv (X.suite a pn) pins σ H s →
  PySem.W.Looks (model X.prog X.w) s.heap (typeOf (.ref a)) cls → PySem.W.exmAny X.K cls cs = some b →
  (∀ v h', (∀ c o, s.heap.get? c = some o → h'.get? c = some o) → PySem.W.Looks (model X.prog X.w) h' (excMatches (.ref a) v) b → Q v { s with heap := h' }) → wpAny (model X.prog X.w) (X.A.mark (some (.ref a))) (eval ty X.env) Q E s
theorem ld_name {X : Cx} {a : Addr} {pn pins : List (Addr × Obj)} {σ : L2.St} {H : Hp} {s : Shared} {x : Str} {c : Value} {np : Pos} {Q : Value → Shared → Prop} {E : Value → Shared → Prop} (hc : Names X x c) (I : Inv (X.suite a pn) pins σ H s) (h : Q c s) : wpAny (model X.prog X.w) (X.A.mark (some (.ref a))) (eval (.Name x np) X.env) Q E s := by
  obtain ⟨hg, hdbg, hm | ⟨hm, hv, hnn⟩⟩ := hc
  · exact ld_glob (X := X.suite a pn) I hg hm h hdbg
  · exact ld_blt (X := X.suite a pn) I hg hm hv h hnn hdbg
theorem ty_one {X : Cx} {x : Str} {c : Value} {np : Pos} (hc : Names X x c) : TyOk X (.Name x np) [c] := fun a pn pins s σ H cls b Q E I LT hb h => by
  obtain ⟨b1, d1, h1, h2, rfl⟩ := PySem.W.exmAny_cons hb
  cases h2
  rw [Bool.or_false] at h
  exact ld_name hc I (h c s.heap (fun _ _ q => q) (PySem.W.exm_one (M := model X.prog X.w) I.kIn LT h1))
theorem flying_keeps {B h h' : Heap} {l : List Env} {a : Addr} {Z : Obj → Prop} (k : ∀ b o, h.get? b = some o → h'.get? b = some o) (x : HandSPX.FlyingZ B l a Z h) : HandSPX.FlyingZ B l a Z h' := by
  obtain ⟨h1, h2, h3, oe, vs, T, oT, ts, g1, g2, g3, g4, g5, g6, g7, g8, g9⟩ := x
  exact ⟨fun b o q => k b o (h1 b o q), h2, PySem.Heap.FunFrames.of_keeps (fun b o q _ => ⟨o, k b o q, rfl⟩) h3, oe, vs, T, oT, ts, k _ _ g1, g2, g3, g4, g5, g6, k _ _ g7, g8, g9⟩
theorem upTo_keeps {h h' h2 : Heap} (x : h.UpToSlots h') (k : ∀ b o, h'.get? b = some o → h2.get? b = some o) : h.UpToSlots h2 := fun b o q hn => by
  obtain ⟨sl, e⟩ := x b o q hn
  exact ⟨sl, k _ _ e⟩
/-- the context of such a suite; xe: what is wished of an exception that leaves it -/
abbrev suiteY (X : Cx) (a : Addr) (pn : List (Addr × Obj)) (xe : Value → Shared → Prop) : Cx := { X with A := X.A.mark (some (.ref a)), calm := false, pn := pn, xe := xe }
section
variable {X : Cx} {pins : List (Addr × Obj)} {σ : L2.St} {H : Hp} {s : Shared}
theorem inv_suiteY {a : Addr} {pn : List (Addr × Obj)} {xe : Value → Shared → Prop} (J : Inv X pins σ H s) (h : ∀ p ∈ pn, s.heap.get? p.1 = some p.2 ∧ H p.1 = none ∧ p.1 ≠ X.env.locals ∧ p.1 ∉ X.fs ∧ ∀ v, p.2.data ≠ .cell v) : Inv (suiteY X a pn xe) [] σ H s := by
  have ok := J.ok.suite a pn
  exact ⟨⟨ok.mod, ok.kind, ok.glob, ok.blt, ok.above, ok.inj, ok.has, ok.cab, (fun z => absurd (show false = true from z) Bool.false_ne_true), ok.frames, ok.stk, ok.exf, ok.bs, ok.bsz, ok.noex, ok.exfs, ok.funs, ok.frf⟩,
    J.os, J.bare, J.base, J.loc, J.cell, J.free, J.freeC, fun p hp => h p (by rw [List.append_nil] at hp; exact hp), J.hok, J.len⟩
theorem inv_unsuiteY {a : Addr} {pn pn' : List (Addr × Obj)} {xe : Value → Shared → Prop} (I : Inv (suiteY X a pn xe) pn' σ H s) (ok : X.Ok) (h : ∀ p ∈ X.pn ++ pins, p ∈ pn) : Inv X pins σ H s :=
  ⟨ok, I.os, I.bare, I.base, I.loc, I.cell, I.free, I.freeC, fun p hp => I.pin p (List.mem_append_left _ (h p hp)), I.hok, I.len⟩
theorem air_unsuite {a0 : Addr} {pn : List (Addr × Obj)} {xe : Value → Shared → Prop} {W : WX} {u : Value} {s' : Shared} (ok : X.Ok) (h : ∀ p ∈ X.pn ++ pins, p ∈ pn) (x : XE (suiteY X a0 pn xe) W u s') :
    ∃ a B sI σ H cls d, u = .ref a ∧ AirAt X W s' a B sI pins σ H cls d := by
  obtain ⟨a, B, sI, pins', σ, H, cls, d, rfl, x⟩ := x
  exact ⟨a, B, sI, σ, H, cls, d, rfl, ⟨inv_unsuiteY x.inv ok h, x.low, x.up, x.sky, x.na, x.os, x.ag, x.w⟩⟩
end
/-- a clause: its classes, the slot of its name, its suite -/
abbrev ClauseK := List Value × Option Nat × (Addr → Value → Option Addr → TS)
def endsK (i : Nat) (D : Ends) : Ends := { nx := fun σ' H' => D.nx (σ'.set i none) H', rt := D.rt, bk := fun σ' H' => D.bk (σ'.set i none) H', ct := fun σ' H' => D.ct (σ'.set i none) H' }
def wUn (oi : Option Nat) (W : WX) : WX := fun c d σ H => W c d (match oi with | none => σ | some i => σ.set i none) H
def wManyK (K : PySem.W.Frag) (Wout : WX) (D : Ends) : List ClauseK → WX
  | [] => Wout
  | (cs, oi, ts) :: r => fun cls d σ H => ∃ b, PySem.W.exmAny K cls cs = some b ∧ (b = true → ∀ a, H a = none → match oi with
      | none => ts a cls d D σ H
      | some i => ts a cls d (endsK i D) (σ.set i (some (.ref a))) H) ∧ (b = false → wManyK K Wout D r cls d σ H)
def SuiteOk (X : Cx) (W : WX) (sts : List Stmt) (ts : Addr → Value → Option Addr → TS) : Prop :=
  ∀ (a : Addr) (oe : Obj) (cls : Value) (d : Option Addr) (pn : List (Addr × Obj)) (xe : Value → Shared → Prop), Zc cls d oe → (∃ vs, oe.data = .fields vs) → HotK (suiteY X a ((a, oe) :: pn) xe) → Takes (suiteY X a ((a, oe) :: pn) xe) W → PSs (suiteY X a ((a, oe) :: pn) xe) sts (ts a cls d)
inductive HdK (X : Cx) (W : WX) : List ExceptHandler → List ClauseK → Prop
  | nil : HdK X W [] []
  | one {ty : Expr} {cs : List Value} {ts : Addr → Value → Option Addr → TS} {b₀ : Stmt} {suite : List Stmt} {pos' : Pos} {hds : List ExceptHandler} {l : List ClauseK} (hc : TyOk X ty cs) (hsu : SuiteOk X W (b₀ :: suite) ts) (r : HdK X W hds l) :
      HdK X W (.ExceptHandler (some ty) none (b₀ :: suite) pos' :: hds) ((cs, none, ts) :: l)
  | as_ {ty : Expr} {n : Str} {i : Nat} {cs : List Value} {ts : Addr → Value → Option Addr → TS} {b₀ : Stmt} {suite : List Stmt} {pos' : Pos} {hds : List ExceptHandler} {l : List ClauseK} (hc : TyOk X ty cs) (hN : X.N.Nodup) (hi : X.N[i]? = some n) (hln : X.env.kindOf n = some .local)
      (hsu : SuiteOk X (wUn (some i) W) (b₀ :: suite) ts) (r : HdK X W hds l) : HdK X W (.ExceptHandler (some ty) (some n) (b₀ :: suite) pos' :: hds) ((cs, some i, ts) :: l)
section
variable {X : Cx} {body : List Stmt} {h₀ : ExceptHandler} {hds : List ExceptHandler} {l : List ClauseK} {pos : Pos} {tb : WX → TS} {Wout : WX}
theorem try_core (hs : X.stack = X.env :: X.outer) (hf : X.env.frame = some X.env.locals) (hex : X.ex = []) (tk : Takes X Wout)
    (hb : ∀ (W : WX) (pn : List (Addr × Obj)) (xe : Value → Shared → Prop), Takes (X.tr pn xe) W → PassesOwn (model X.prog X.w) X.A X.env xe → PSs (X.tr pn xe) body (tb W))
    (hh : HdK X Wout (h₀ :: hds) l) (pins : List (Addr × Obj)) (s : Shared) (σ : L2.St) (H : Hp) (D : Ends) (I : Inv X pins σ H s) (h : tb (wManyK X.K Wout D l) D σ H) :
    wpAny (model X.prog X.w) X.A (execs body X.env) (fun f s₁ => match f with | .next => wpAny (model X.prog X.w) X.A (execs [] X.env) (SP X pins D) X.xe s₁ | f => SP X pins D f s₁)
      (fun e s₁ => wpAny (model X.prog X.w) X.A (noteFrame e X.env) (fun _ s₂ => wpAny (model X.prog X.w) X.A (setFlight e none) (fun _ s₃ => wpAny (model X.prog X.w) X.A (handleBy e X.env (h₀ :: hds)) (SP X pins D) X.xe s₃) X.xe s₂) X.xe s₁) s := by
  have ok := I.ok
  have hfr : X.A.frames = some (X.env :: X.outer) := by rw [ok.frames, hs]
  refine wpAny_mono ((hb (wManyK X.K Wout D l) (X.pn ++ pins) (fun e s₁ => wpAny (model X.prog X.w) X.A (noteFrame e X.env) (fun _ s₂ => wpAny (model X.prog X.w) X.A (setFlight e none) (fun _ s₃ =>
    wpAny (model X.prog X.w) X.A (handleBy e X.env (h₀ :: hds)) (SP X pins D) X.xe s₃) X.xe s₂) X.xe s₁) (fun u s' xx => ?_) PassesOwn.looking).run [] s σ H D (I.toTry _) h) (fun f s1 hsp => ?_) (fun e s1 he => he)
  · obtain ⟨a, B, sI, pins', σ', H', cls, d, rfl, x⟩ := xx
    have J : Inv X pins σ' H' sI := x.inv.ofTry ok
    have x' : AirAt X (wManyK X.K Wout D l) s' a B sI pins σ' H' cls d := ⟨J, x.low, x.up, x.sky, x.na, x.os, x.ag, x.w⟩
    show wpAny (model X.prog X.w) X.A (noteFrame (.ref a) X.env) _ _ _
    refine air_note hs hf hfr x' fun h1 hh1 up1 => ?_
    refine HandSPX.landsZ hh1 fun h3 fl3 up3 => ?_
    have go : ∀ {hds' : List ExceptHandler} {l' : List ClauseK}, HdK X Wout hds' l' → wManyK X.K Wout D l' cls d σ' H' → ∀ h3 : Heap, HandSPX.FlyingZ B (X.env :: X.outer) a (Zk B H' cls d) h3 → sI.heap.UpToSlots h3 →
        wpAny (model X.prog X.w) X.A (handleBy (.ref a) X.env hds') (SP X pins D) X.xe { s' with heap := h3 } := by
      intro hds' l' hk
      induction hk with
      | nil =>
        intro w h3 fl3 up3
        refine wpAny_handleBy_nil ?_
        obtain ⟨k1, k2, k3, oe, vs, T, oT, ts', he, hz, hd, h1, hr⟩ := id fl3
        unfold PySem.passOn
        refine wpAny_bind (wpAny_field he hd h1 ?_)
        rw [if_neg (show ¬ ((Value.ref T == Value.none) = true) from by simp)]
        have fin : wpAny (model X.prog X.w) X.A (setFlight (.ref a) X.env.frame) (fun _ s4 => wpAny (model X.prog X.w) X.A (throw (.ref a) : Sem Flow) (SP X pins D) X.xe s4) X.xe { s' with heap := h3 } := by
          rw [hf]
          refine HandSPX.setFlight_upZ fl3 fun h4 hh4 up4 => wpAny_throw (tk _ _ ?_)
          exact ⟨a, B, sI, pins, σ', H', cls, d, rfl, ⟨J, x.low, up3.trans up4, .inr (.inr (by rw [hs]; exact hh4)), x.na, x.os, x.ag, w⟩⟩
        first
          | exact wpAny_bind (wpAny_pure (wpAny_bind fin))
          | exact wpAny_bind fin
      | one hc hsu r ih =>
        rename_i ty cs ts b₀ suite pos' hds2 l2
        intro w h3 fl3 up3
        obtain ⟨b, hb1, hyes, hno⟩ := w
        obtain ⟨oe3, vs3, T3, oT3, cp3, hz3, hd3, hl3, J3, pn3, _⟩ := air_mid (s3 := { s' with heap := h3 }) hs hf hex J x.low up3 (.of_fly fl3) x.na x.os x.ag
        have S3 : Inv (X.suite a ((a, oe3) :: (X.pn ++ pins))) [] σ' H' { s' with heap := h3 } := J3.suite (pn3 (a, oe3) (by simp)).1 hd3 x.na (pn3 (a, oe3) (by simp)).2.2.1 (pn3 (a, oe3) (by simp)).2.2.2.1
        refine wpAny_handleBy_cons (codeAny_handlers_test ?_) (by intro q; cases q)
        have LT : PySem.W.Looks (model X.prog X.w) h3 (typeOf (.ref a)) cls := fun A Q E s k q => wpAny_typeOf_ref (k _ _ (pn3 (a, oe3) (by simp)).1) (by rw [hz3.1]; exact q)
        refine hc a _ _ { s' with heap := h3 } σ' H' cls b _ _ S3 LT hb1 fun v h4 k4 LM => LM.here ?_
        have fl4 := flying_keeps k4 fl3
        have up4 := upTo_keeps up3 k4
        cases b with
        | true =>
          refine codeAny_handlers_suite ?_
          refine HandSPX.lands_againZ fl4 fun h5 fl5 up5 => ?_
          obtain ⟨oe5, vs5, T5, oT5, cp5, hz5, hd5, ⟨l5, hl5⟩, J5, pn5, _⟩ := air_mid (s3 := { s' with heap := h5 }) hs hf hex J x.low (up4.trans up5) (.of_fly fl5) x.na x.os x.ag
          have sub : ∀ p ∈ X.pn ++ pins, p ∈ (a, oe5) :: (cp5 ++ (X.pn ++ pins)) := fun p hp => List.mem_cons_of_mem _ (List.mem_append_right _ hp)
          have S5 : ∀ xe, Inv (suiteY X a ((a, oe5) :: (cp5 ++ (X.pn ++ pins))) xe) [] σ' H' { s' with heap := h5 } := fun xe => inv_suiteY J5 fun p hp => by
            rcases List.mem_cons.mp hp with rfl | hp
            · exact pn5 _ (by simp)
            rcases List.mem_append.mp hp with hp | hp
            · exact pn5 _ (by simp [hp])
            · exact J5.pin p hp
          have hot : ∀ xe, HotK (suiteY X a ((a, oe5) :: (cp5 ++ (X.pn ++ pins))) xe) := fun xe => ⟨a, l5, rfl, hl5.more fun p hp => by
            rcases List.mem_cons.mp hp with rfl | hp
            · exact List.mem_cons_self
            · exact List.mem_cons_of_mem _ (List.mem_append_left _ hp)⟩
          refine wpAny_mono ((hsu a oe5 cls d (cp5 ++ (X.pn ++ pins)) (fun u s2 => ∃ a2 B2 sI2 σ2 H2 cls2 d2, u = .ref a2 ∧ AirAt X Wout s2 a2 B2 sI2 pins σ2 H2 cls2 d2) hz5 ⟨_, hd5⟩ (hot _) fun u s2 y => air_unsuite ok sub y).run [] _ _ H' _ (S5 _) (hyes rfl a x.na)) (fun f s6 hsp => ?_) (fun e6 s6 z => ?_)
          · cases f with
            | next =>
              obtain ⟨σ6, H6, S6, q6⟩ := hsp
              exact ⟨_, _, inv_unsuiteY S6 ok sub, q6⟩
            | brk =>
              obtain ⟨σ6, H6, S6, q6⟩ := hsp
              exact ⟨_, _, inv_unsuiteY S6 ok sub, q6⟩
            | cont =>
              obtain ⟨σ6, H6, S6, q6⟩ := hsp
              exact ⟨_, _, inv_unsuiteY S6 ok sub, q6⟩
            | ret u =>
              obtain ⟨v6, σ6, H6, S6, r6, q6⟩ := hsp
              exact ⟨_, _, _, inv_unsuiteY S6 ok sub, r6, q6⟩
          · obtain ⟨a2, B2, sI2, σ2, H2, cls2, d2, rfl, y⟩ := z
            show wpAny _ _ (noteFrame (.ref a2) X.env) _ _ _
            refine air_note hs hf hfr y fun h7 hh7 up7 => ?_
            exact air_back hf hh7 (fun h8 hh8 up8 => tk (.ref a2) { s6 with heap := h8 } ⟨a2, B2, sI2, pins, σ2, H2, cls2, d2, rfl, ⟨y.inv, y.low, (y.up.trans up7).trans up8, .inr (.inr (by rw [hs]; exact hh8)), y.na, y.os, y.ag, y.w⟩⟩) _
        | false =>
          show wpAny _ X.A (handleBy (.ref a) X.env hds2) _ _ _
          exact ih (hno rfl) h4 fl4 up4
      | as_ hc hN hi hln hsu r ih =>
        rename_i ty n i cs ts b₀ suite pos' hds2 l2
        intro w h3 fl3 up3
        obtain ⟨b, hb1, hyes, hno⟩ := w
        obtain ⟨oe3, vs3, T3, oT3, cp3, hz3, hd3, hl3, J3, pn3, _⟩ := air_mid (s3 := { s' with heap := h3 }) hs hf hex J x.low up3 (.of_fly fl3) x.na x.os x.ag
        have S3 : Inv (X.suite a ((a, oe3) :: (X.pn ++ pins))) [] σ' H' { s' with heap := h3 } := J3.suite (pn3 (a, oe3) (by simp)).1 hd3 x.na (pn3 (a, oe3) (by simp)).2.2.1 (pn3 (a, oe3) (by simp)).2.2.2.1
        refine wpAny_handleBy_cons (codeAny_handlers_test ?_) (by intro q; cases q)
        have LT : PySem.W.Looks (model X.prog X.w) h3 (typeOf (.ref a)) cls := fun A Q E s k q => wpAny_typeOf_ref (k _ _ (pn3 (a, oe3) (by simp)).1) (by rw [hz3.1]; exact q)
        refine hc a _ _ { s' with heap := h3 } σ' H' cls b _ _ S3 LT hb1 fun v h4 k4 LM => LM.here ?_
        have fl4 := flying_keeps k4 fl3
        have up4 := upTo_keeps up3 k4
        cases b with
        | true =>
          refine codeAny_handlers_suite_as ?_
          refine HandSPX.lands_againZ fl4 fun h5 fl5 up5 => ?_
          obtain ⟨oe5, vs5, T5, oT5, cp5, hz5, hd5, ⟨l5, hl5⟩, J5, pn5, _⟩ := air_mid (s3 := { s' with heap := h5 }) hs hf hex J x.low (up4.trans up5) (.of_fly fl5) x.na x.os x.ag
          have sub : ∀ p ∈ X.pn ++ pins, p ∈ (a, oe5) :: (cp5 ++ (X.pn ++ pins)) := fun p hp => List.mem_cons_of_mem _ (List.mem_append_right _ hp)
          have S5 : ∀ xe, Inv (suiteY X a ((a, oe5) :: (cp5 ++ (X.pn ++ pins))) xe) [] σ' H' { s' with heap := h5 } := fun xe => inv_suiteY J5 fun p hp => by
            rcases List.mem_cons.mp hp with rfl | hp
            · exact pn5 _ (by simp)
            rcases List.mem_append.mp hp with hp | hp
            · exact pn5 _ (by simp [hp])
            · exact J5.pin p hp
          have hot : ∀ xe, HotK (suiteY X a ((a, oe5) :: (cp5 ++ (X.pn ++ pins))) xe) := fun xe => ⟨a, l5, rfl, hl5.more fun p hp => by
            rcases List.mem_cons.mp hp with rfl | hp
            · exact List.mem_cons_self
            · exact List.mem_cons_of_mem _ (List.mem_append_left _ hp)⟩
          refine store_ok (X := suiteY X a ((a, oe5) :: (cp5 ++ (X.pn ++ pins))) (fun u s2 => ∃ a2 B2 sI2 σ2 H2 cls2 d2, u = .ref a2 ∧ AirAt X (wUn (some i) Wout) s2 a2 B2 sI2 pins σ2 H2 cls2 d2)) (v := .ref a) (S5 _) hN hi (.inl hln) rfl (fun s6 S6 => ?_) (.inr hln)
          refine wpAny_mono ((hsu a oe5 cls d (cp5 ++ (X.pn ++ pins)) (fun u s2 => ∃ a2 B2 sI2 σ2 H2 cls2 d2, u = .ref a2 ∧ AirAt X (wUn (some i) Wout) s2 a2 B2 sI2 pins σ2 H2 cls2 d2) hz5 ⟨_, hd5⟩ (hot _) fun u s2 y => air_unsuite ok sub y).run [] s6 _ H' _ S6 (hyes rfl a x.na)) (fun f s7 hsp => ?_) (fun e7 s7 z => ?_)
          · have end_ : ∀ {σ6 : L2.St} {H6 : Hp} {Q : Shared → Prop}, Inv (suiteY X a ((a, oe5) :: (cp5 ++ (X.pn ++ pins))) (fun u s2 => ∃ a2 B2 sI2 σ2 H2 cls2 d2, u = .ref a2 ∧ AirAt X (wUn (some i) Wout) s2 a2 B2 sI2 pins σ2 H2 cls2 d2)) [] σ6 H6 s7 → (∀ s8, Inv X pins (σ6.set i none) H6 s8 → Q s8) →
                wpAny (model X.prog X.w) X.A (do bindName X.env n .none; unbindBehindTheSuite X.env n pos') (fun _ s8 => Q s8) X.xe s7 := fun {σ6 H6 Q} S6 hq => gone_ok (inv_unsuiteY S6 ok sub) hN hi hln hq
            cases f with
            | next =>
              obtain ⟨σ6, H6, S6, q6⟩ := hsp
              exact end_ S6 fun s7 J7 => ⟨_, _, J7, q6⟩
            | brk =>
              obtain ⟨σ6, H6, S6, q6⟩ := hsp
              exact end_ S6 fun s7 J7 => ⟨_, _, J7, q6⟩
            | cont =>
              obtain ⟨σ6, H6, S6, q6⟩ := hsp
              exact end_ S6 fun s7 J7 => ⟨_, _, J7, q6⟩
            | ret u =>
              obtain ⟨v6, σ6, H6, S6, r6, q6⟩ := hsp
              exact end_ S6 fun s7 J7 => ⟨_, _, _, J7, r6, q6⟩
          · obtain ⟨a2, B2, sI2, σ2, H2, cls2, d2, rfl, y⟩ := z
            show wpAny _ _ (noteFrame (.ref a2) X.env) _ _ _
            refine air_note hs hf hfr y fun h8 hh8 up8 => ?_
            obtain ⟨oe8, vs8, T8, oT8, cp8, hz8, hd8, _, J8, pn8, back8⟩ := air_mid (s3 := { s7 with heap := h8 }) hs hf hex y.inv y.low (y.up.trans up8) (.of_held hh8) y.na y.os y.ag
            have P8 : Inv X (((a2, oe8) :: (T8, oT8) :: cp8) ++ pins) σ2 H2 { s7 with heap := h8 } := J8.pins_of fun p hp => by
              rcases List.mem_append.mp hp with hp | hp
              · exact pn8 p hp
              · exact J8.pin p (List.mem_append_right _ hp)
            refine gone_ok P8 hN hi hln fun s9 P9 => ?_
            obtain ⟨B9, sI9, J9, low9, up9, tr9, na9, os9, ag9⟩ := back8 _ _ s9 (P9.pins_of fun p hp => P9.pin p (List.mem_append_right _ (List.mem_append_right _ hp))) fun p hp => by
              have := P9.pin p (List.mem_append_right _ (List.mem_append_left _ hp))
              exact ⟨this.1, this.2.1⟩
            have hh9 := tr9.held
            have last : ∀ h10 : Heap, HandSPX.HeldZ B9 (X.env :: X.outer) a2 (Zk B9 H2 cls2 d2) X.env.locals h10 → s9.heap.UpToSlots h10 → notedBy (model X.prog X.w) (X.A.mark (some (.ref a))) X.env (cameBackBy (model X.prog X.w) X.A X.env X.xe) (.ref a2) { s9 with heap := h10 } := fun h10 hh10 up10 => by
              show wpAny _ _ (noteFrame (.ref a2) X.env) _ _ _
              refine HandSPX.againZ hf hh10.2.2.2 ?_
              exact air_back hf hh10 (fun h11 hh11 up11 => tk (.ref a2) { s9 with heap := h11 } ⟨a2, B9, sI9, pins, _, H2, cls2, d2, rfl, ⟨J9, low9, (up9.trans up10).trans up11, .inr (.inr (by rw [hs]; exact hh11)), na9, os9, ag9, y.w⟩⟩) _
            obtain ⟨oe9, vs9, T9, oT9, ts9, ea9, hz9, hd9, hv9, _⟩ := hh9.2.2.2
            unfold PySem.passOn
            refine wpAny_bind (wpAny_field ea9 hd9 hv9 ?_)
            rw [if_neg (show ¬ ((Value.ref T9 == Value.none) = true) from by simp)]
            have fin : wpAny (model X.prog X.w) (X.A.mark (some (.ref a))) (setFlight (.ref a2) X.env.frame) (fun _ s4 => wpAny (model X.prog X.w) (X.A.mark (some (.ref a))) (throw (.ref a2) : Sem Flow) (fun _ _ => False) (notedBy (model X.prog X.w) (X.A.mark (some (.ref a))) X.env (cameBackBy (model X.prog X.w) X.A X.env X.xe)) s4) (notedBy (model X.prog X.w) (X.A.mark (some (.ref a))) X.env (cameBackBy (model X.prog X.w) X.A X.env X.xe)) s9 := by
              rw [hf]
              exact HandSPX.setFlight_onZ hh9 fun h10 hh10 up10 => wpAny_throw (last h10 hh10 up10)
            first
              | exact wpAny_bind (wpAny_pure (wpAny_bind fin))
              | exact wpAny_bind fin
        | false =>
          show wpAny _ X.A (handleBy (.ref a) X.env hds2) _ _ _
          exact ih (hno rfl) h4 fl4 up4
    exact go hh x.w h3 fl3 ((x.up.trans up1).trans up3)
  · cases f with
    | next =>
      obtain ⟨σ', H', J', q⟩ := hsp
      exact wpAny_execs_nil ⟨σ', H', J'.ofTry ok, q⟩
    | brk =>
      obtain ⟨σ', H', J', q⟩ := hsp
      exact ⟨σ', H', J'.ofTry ok, q⟩
    | cont =>
      obtain ⟨σ', H', J', q⟩ := hsp
      exact ⟨σ', H', J'.ofTry ok, q⟩
    | ret u =>
      obtain ⟨v, σ', H', J', r, q⟩ := hsp
      exact ⟨v, σ', H', J'.ofTry ok, r, q⟩
end
end MV
namespace MV
open PySem PySem.Spec PyProof.Rows L2
section
variable {X : Cx} {body : List Stmt} {h₀ : ExceptHandler} {hds : List ExceptHandler} {l : List ClauseK} {pos : Pos} {tb : WX → TS} {Wout : WX} {f₀ : Stmt} {fs : List Stmt} {tf : TS}
theorem ps_try_K (hs : X.stack = X.env :: X.outer) (hf : X.env.frame = some X.env.locals) (hex : X.ex = []) (tk : Takes X Wout)
    (hb : ∀ (W : WX) (pn : List (Addr × Obj)) (xe : Value → Shared → Prop), Takes (X.tr pn xe) W → PassesOwn (model X.prog X.w) X.A X.env xe → PSs (X.tr pn xe) body (tb W))
    (hh : HdK X Wout (h₀ :: hds) l) : PS X (.Try body (h₀ :: hds) [] [] pos) (fun D σ H => tb (wManyK X.K Wout D l) D σ H) :=
  ⟨fun pins s σ H D I h => wpAny_Try_except (try_core hs hf hex tk hb hh pins s σ H D I h)⟩
end
end MV
namespace MV
open PySem PySem.Spec PyProof.Rows L2
/-- a clause: the names of its classes, the slot of its name, its suite by the exception's addresses and class -/
structure MCl where
  cs : List Str
  i : Option Nat
  s : Addr → Addr → Str → MS
/-- sub x y: whether the class x is a subclass of y (of the program's exceptions) -/
def ndAs (i : Nat) (E : Nd) : Nd := ⟨fun ρ M => E.nx (ρ.set i none) M, E.rt, fun ρ M => E.bk (ρ.set i none) M, fun ρ M => E.ct (ρ.set i none) M, E.ex⟩
def mCatch (sub : Str → Str → Option Bool) (E : Nd) : List MCl → Exn → Ev → Mem → Prop
  | [], x, ρ, M => E.ex x ρ M
  | c :: r, x, ρ, M => (∀ y ∈ c.cs, (sub x.c y).isSome = true) ∧ if (c.cs.any fun y => sub x.c y == some true) = true then (∀ a dd, match c.i with
      | none => c.s a dd x.c ⟨E.nx, E.rt, E.bk, E.ct, E.ex⟩ ρ M
      | some i => c.s a dd x.c ⟨(ndAs i E).nx, E.rt, (ndAs i E).bk, (ndAs i E).ct, fun y ρ M => E.ex y (ρ.set i none) M⟩ (ρ.set i (some (.exn a dd x.c x.ns x.ds))) M) else mCatch sub E r x ρ M
def mTry (sub : Str → Str → Option Bool) (b : MS) (cl : List MCl) : MS := fun E ρ M => b ⟨E.nx, E.rt, E.bk, E.ct, mCatch sub E cl⟩ ρ M
/-- e.f of the caught exception -/
def mXf (a dd : Addr) (c : Str) (i : Nat) (f : Str) : ME := fun ρ M Q _ => match ρ[i]? with
  | some (some (.exn a' dd' c' ns ds)) => (a' = a ∧ dd' = dd ∧ c' = c) ∧ match (ns.zip ds).lookup f with
    | some d => Q d M
    | none => False
  | _ => False
/-- what the head tells of the exceptions -/
def XOk (K : PySem.W.Frag) (fl : List Str) (c : Str) : Prop := XfC K (He.ga K c) ∧ ∀ f ∈ fl, PySem.W.findIn K (.ref (He.ga K c)) f = some none
structure XcN (K : PySem.W.Frag) (sub : Str → Str → Option Bool) (fl : List Str) : Prop where
  exm : ∀ x y b, sub x y = some b → PySem.W.exmOne K (.ref (He.ga K x)) (.ref (He.ga K y)) = some b
  xf : ∀ x y b, sub x y = some b → XOk K fl x
theorem exm_all {K : PySem.W.Frag} {sub : Str → Str → Option Bool} {fl : List Str} (xc : XcN K sub fl) {x : Str} : ∀ {ys : List Str}, (∀ y ∈ ys, (sub x y).isSome = true) → PySem.W.exmAny K (.ref (He.ga K x)) (ys.map fun y => .ref (He.ga K y)) = some (ys.any fun y => sub x y == some true)
  | [], _ => rfl
  | y :: ys, h => by
    obtain ⟨b, hb⟩ := Option.isSome_iff_exists.mp (h y (by simp))
    have ih := exm_all xc (x := x) (ys := ys) fun z hz => h z (by simp [hz])
    simp only [List.map_cons, PySem.W.exmAny, xc.exm x y b hb, ih, List.any_cons, hb]
    cases b <;> simp
def SuiteM (X : Cx) (W : WX) (fl : List Str) (sts : List Stmt) (s : Addr → Addr → Str → MS) : Prop :=
  ∀ (a : Addr) (oe : Obj) (cls : Value) (d : Option Addr) (pn : List (Addr × Obj)) (xe : Value → Shared → Prop) (dd : Addr) (c : Str), Zc cls d oe → (∃ vs, oe.data = .fields vs) → HotK (suiteY X a ((a, oe) :: pn) xe) → Takes (suiteY X a ((a, oe) :: pn) xe) W →
    cls = .ref (He.ga X.K c) → d = some dd → XOk X.K fl c → QSs (suiteY X a ((a, oe) :: pn) xe) W sts (s a dd c)
inductive HdM (X : Cx) (W : WX) (fl : List Str) : List ExceptHandler → List MCl → Prop
  | nil : HdM X W fl [] []
  | one {ty : Expr} {c0 : Str} {cs : List Str} {s : Addr → Addr → Str → MS} {b₀ : Stmt} {suite : List Stmt} {pos' : Pos} {hds : List ExceptHandler} {l : List MCl} (hc : TyOk X ty ((c0 :: cs).map fun y => .ref (He.ga X.K y)))
      (hsu : SuiteM X (wUn none W) fl (b₀ :: suite) s) (r : HdM X W fl hds l) : HdM X W fl (.ExceptHandler (some ty) none (b₀ :: suite) pos' :: hds) (⟨c0 :: cs, none, s⟩ :: l)
  | as_ {ty : Expr} {n : Str} {i : Nat} {c0 : Str} {cs : List Str} {s : Addr → Addr → Str → MS} {b₀ : Stmt} {suite : List Stmt} {pos' : Pos} {hds : List ExceptHandler} {l : List MCl} (hc : TyOk X ty ((c0 :: cs).map fun y => .ref (He.ga X.K y))) (hN : X.N.Nodup) (hi : X.N[i]? = some n) (hln : X.env.kindOf n = some .local)
      (hsu : SuiteM X (wUn (some i) W) fl (b₀ :: suite) s) (r : HdM X W fl hds l) : HdM X W fl (.ExceptHandler (some ty) (some n) (b₀ :: suite) pos' :: hds) (⟨c0 :: cs, some i, s⟩ :: l)
def clTs (K : PySem.W.Frag) (W : WX) (fl : List Str) (s : Addr → Addr → Str → MS) : Addr → Value → Option Addr → TS := fun a cls d D σ H => ∃ dd c, cls = .ref (He.ga K c) ∧ d = some dd ∧ XOk K fl c ∧ lfS K W (s a dd c) D σ H
def clA (K : PySem.W.Frag) (W : WX) (fl : List Str) (m : MCl) : ClauseK := (m.cs.map fun y => .ref (He.ga K y), m.i, clTs K (wUn m.i W) fl m.s)
section
variable {X : Cx} {W : WX} {body : List Stmt} {h₀ : ExceptHandler} {hds : List ExceptHandler} {cl : List MCl} {pos : Pos} {mb : MS} {sub : Str → Str → Option Bool} {fl : List Str}
theorem SuiteM.ok {s : Addr → Addr → Str → MS} {sts : List Stmt} (h : SuiteM X W fl sts s) : SuiteOk X W sts (clTs X.K W fl s) := fun a oe cls d pn xe hz hf hot tk => ⟨fun pins s' σ H D I ⟨dd, c, e1, e2, hx, q⟩ => (h a oe cls d pn xe dd c hz hf hot tk e1 e2 hx).run pins s' σ H D I q⟩
theorem HdM.hdA (h : HdM X W fl hds cl) : HdK X W hds (cl.map (clA X.K W fl)) := by
  induction h with
  | nil => exact .nil
  | one hc hsu r ih => exact .one hc hsu.ok ih
  | as_ hc hN hi hln hsu r ih => exact .as_ hc hN hi hln hsu.ok ih
theorem catch_ok {K : PySem.W.Frag} (xc : XcN K sub fl) {E : Nd} {D : Ends} : ∀ {cl : List MCl} {as : List Addr} {H : Hp} {M : Mem} {ρ : Ev} {σ : L2.St} {x : Exn} {cls : Value} {d : Option Addr}, (∀ m ∈ cl, m.cs ≠ []) → NdOk K W as H E D → RepM K as H M → RelS K as H ρ σ → RelX K as H x cls d → mCatch sub E cl x ρ M → wManyK K W D (cl.map (clA K W fl)) cls d σ H
  | [], as, H, M, ρ, σ, x, cls, d, _, hE, r, rs, rx, h => hE.ex _ _ _ h as H σ cls d .refl r rs rx
  | m :: cl, as, H, M, ρ, σ, x, cls, d, hne, hE, r, rs, rx, h => by
    obtain ⟨h1, h2⟩ := h
    obtain ⟨e1, dd, xs, e2, hx, hl⟩ := id rx
    have hx0 : XOk K fl x.c := by
      obtain ⟨y, ys, ey⟩ := List.exists_cons_of_ne_nil (hne m (by simp))
      obtain ⟨b, hb⟩ := Option.isSome_iff_exists.mp (h1 y (by rw [ey]; simp))
      exact xc.xf _ _ _ hb
    refine ⟨_, by rw [e1]; exact exm_all xc h1, fun hb a ha => ?_, fun hb => ?_⟩
    · rw [if_pos hb] at h2
      have h3 := h2 a dd
      show match m.i with
        | none => clTs K (wUn m.i W) fl m.s a cls d D σ H
        | some i => clTs K (wUn m.i W) fl m.s a cls d (endsK i D) (σ.set i (some (.ref a))) H
      cases em : m.i with
      | none =>
        rw [em] at h3
        exact ⟨dd, x.c, e1, e2, hx0, as, M, ρ, _, r, rs, h3, ⟨hE.nx, hE.rt, hE.bk, hE.ct, hE.ex⟩⟩
      | some i =>
        rw [em] at h3
        have rs2 : RelS K as H (ρ.set i (some (.exn a dd x.c x.ns x.ds))) (σ.set i (some (.ref a))) := rs.set (.exn hx hl)
        refine ⟨dd, x.c, e1, e2, hx0, as, M, _, _, r, rs2, h3, ⟨fun ρ' M' q as' H' σ' e r' rs' => ?_, hE.rt, fun ρ' M' q as' H' σ' e r' rs' => ?_, fun ρ' M' q as' H' σ' e r' rs' => ?_, fun y ρ' M' q as' H' σ' c' d' e r' rs' ry => ?_⟩⟩
        · exact hE.nx _ _ q as' H' _ e r' rs'.unset
        · exact hE.bk _ _ q as' H' _ e r' rs'.unset
        · exact hE.ct _ _ q as' H' _ e r' rs'.unset
        · exact hE.ex _ _ _ q as' H' _ c' d' e r' rs'.unset ry
    · rw [if_neg (by rw [hb]; exact Bool.false_ne_true)] at h2
      exact catch_ok xc (fun m hm => hne m (by simp [hm])) hE r rs rx h2
theorem HdM.ne (h : HdM X W fl hds cl) : ∀ m ∈ cl, m.cs ≠ [] := by
  induction h with
  | nil => intro m hm; cases hm
  | one hc hsu r ih =>
    intro m hm
    rcases List.mem_cons.mp hm with z | z
    · rw [z]; simp
    · exact ih m z
  | as_ hc hN hi hln hsu r ih =>
    intro m hm
    rcases List.mem_cons.mp hm with z | z
    · rw [z]; simp
    · exact ih m z
theorem qs_try (hs : X.stack = X.env :: X.outer) (hf : X.env.frame = some X.env.locals) (hex : X.ex = []) (xc : XcN X.K sub fl) (tk : Takes X W)
    (hb : ∀ (W' : WX) (pn : List (Addr × Obj)) (xe : Value → Shared → Prop), Takes (X.tr pn xe) W' → PassesOwn (model X.prog X.w) X.A X.env xe → QSs (X.tr pn xe) W' body mb)
    (hh : HdM X W fl (h₀ :: hds) cl) : QS X W (.Try body (h₀ :: hds) [] [] pos) (mTry sub mb cl) :=
  PSi (ps_try_K (tb := fun W' => lfS X.K W' mb) hs hf hex tk hb hh.hdA) fun D σ H ⟨as, M, ρ, E, r, rs, h, hE⟩ =>
    ⟨as, M, ρ, _, r, rs, h, ⟨hE.nx, hE.rt, hE.bk, hE.ct, fun x ρ' M' q as' H' σ' cls d e r' rs' rx => catch_ok xc hh.ne (hE.mono e) r' rs' rx q⟩⟩
theorem zip_look {K : PySem.W.Frag} {as : List Addr} {H : Hp} {f : Str} {d : D} : ∀ {ns : List Str} {ds : List D} {xs : List V}, RelL K as H ds xs → (ns.zip ds).lookup f = some d → ∃ v, (ns.zip xs).lookup f = some v ∧ Rel K as H d v
  | [], _, _, _, e => by simp at e
  | n :: ns, _, _, .nil, e => by simp at e
  | n :: ns, _, _, .cons h r, e => by
    simp only [List.zip_cons_cons, List.lookup_cons] at e ⊢
    cases q : (f == n) with
    | true => rw [q] at e; cases e; exact ⟨_, rfl, h⟩
    | false => rw [q] at e; exact zip_look r e
theorem qe_xf {a dd : Addr} {c : Str} {oe : Obj} {cls : Value} {d : Option Addr} {pn : List (Addr × Obj)} {xe : Value → Shared → Prop} {n f : Str} {i : Nat} {p : Pos} (hz : Zc cls d oe) (hf : ∃ vs, oe.data = .fields vs) (e1 : cls = .ref (He.ga X.K c)) (e2 : d = some dd) (hx : XOk X.K fl c) (hfl : f ∈ fl) (hN : X.N[i]? = some n) (hv : Vis X.env.scope n)
    (hd : (n == ("__debug__" : Str)) = false := by decide) (hcd : (n == ("__classdict__" : Str)) = false := by decide) (hb : attributeBase (.Name n p) f X.env (eval (.Name n p) X.env) = eval (.Name n p) X.env := by rfl) : QE (suiteY X a ((a, oe) :: pn) xe) W (.Attribute (.Name n p) f pos) (mXf a dd c i f) :=
  PEi (PE.nox (X := suiteY X a ((a, oe) :: pn) xe) (DW.pe_xfA hz hf (pe_var (X := X.suite a ((a, oe) :: pn)) hN hv hd hcd) hb)) fun σ H Q ⟨as, M, ρ, Q', X', r, rs, h, hq, _⟩ => by
    unfold mXf at h
    split at h
    · rename_i a' dd' c' ns ds eρ
      obtain ⟨⟨rfl, rfl, rfl⟩, h⟩ := h
      obtain ⟨v, ev, rv⟩ := rs.2 i _ eρ
      cases rv with
      | exn h1 h2 =>
        split at h
        · rename_i d0 el
          obtain ⟨w, ew, rw'⟩ := zip_look h2 el
          exact ⟨_, e1, hx.1, hx.2 f hfl, _, ev, rfl, e1, _, _, w, e2, h1, ew, hq _ _ h as H _ .refl r rw'⟩
        · exact h.elim
    · exact h.elim
end
inductive Src where
  | arg (j : Nat)
  | word (s : Str)
def Src.v (ws : List V) : Src → V
  | .arg j => ws.getD j .non
  | .word s => .str s
def Src.d (ds : List D) : Src → D
  | .arg j => ds.getD j .non
  | .word s => .str s
def flV (sp : List (Str × Src)) (ws : List V) : List (Str × V) := sp.map fun p => (p.1, p.2.v ws)
/-- what the __init__ of an exception promises: its fields -/
def spIn (K : PySem.W.Frag) (n : Nat) (sp : List (Str × Src)) : Sp := fun vs H Q _ => ∃ a ws, vs = .ref a :: ws ∧ ws.length = n ∧ DW.spInitAt K a H Q (flV sp ws)
def mRaise (x : Str) (n : Nat) (sp : List (Str × Src)) (ma : MA) : MS := fun E ρ M => ma ρ M (fun ds M1 => ds.length = n ∧ E.ex ⟨x, sp.map (·.1), sp.map fun p => p.2.d ds⟩ ρ M1) (fun y M1 => E.ex y ρ M1)
section
variable {X : Cx} {W : WX} {x : Str} {e : Expr} {es : List Expr} {ma : MA} {n k : Nat} {sp : List (Str × Src)} {fs ps : List Str} {p pos pos' : Pos}
theorem src_rel {K : PySem.W.Frag} {as : List Addr} {H : Hp} {ds : List D} {ws : List V} (r : RelL K as H ds ws) : ∀ s : Src, Rel K as H (s.d ds) (s.v ws)
  | .arg j => by
    simp only [Src.d, Src.v, List.getD_eq_getElem?_getD]
    cases h : ds[j]? with
    | none =>
      have : ws[j]? = none := by
        rw [List.getElem?_eq_none_iff] at h ⊢
        rw [← r.len]; exact h
      rw [this]; exact .non
    | some d =>
      obtain ⟨v, e, rv⟩ := r.get h
      rw [e]; exact rv
  | .word s => .str s
theorem zip_flV (sp : List (Str × Src)) (ws : List V) : (sp.map (·.1)).zip (sp.map fun p => p.2.v ws) = flV sp ws := by
  induction sp with
  | nil => rfl
  | cons p sp ih => simp [flV, ih]
theorem srcs_rel {K : PySem.W.Frag} {as : List Addr} {H : Hp} {ds : List D} {ws : List V} (r : RelL K as H ds ws) : ∀ sp : List (Str × Src), RelL K as H (sp.map fun p => p.2.d ds) (sp.map fun p => p.2.v ws)
  | [] => .nil
  | p :: sp => .cons (src_rel r p.2) (srcs_rel r sp)
theorem mk_in {K : PySem.W.Frag} {mg : Str → Option Value} {H : Hp} {QX : XK} {vs : List V} (c : DW.ExcX K mg x fs) (hl : vs.length = n) (hn : n ≤ 1000) (hfl : ∀ f ∈ sp.map (·.1), f ∈ fs) (q : ∀ d, H d = none → QX (.ref (He.ga K x)) (some d) (upd H d (.xd (flV sp vs)))) :
    vs.length ≤ 1000 ∧ ∀ a, H a = none → spIn K n sp (.ref a :: (vs ++ [])) (upd H a (exo a (He.ga K x) none))
      (fun v H2 => v = .non ∧ ∃ (d : Addr) (fl : List (Str × V)), H2 a = some (exo a (He.ga K x) (some d)) ∧ H2 d = some (exd d fl) ∧ H d = none ∧ QX (.ref (He.ga K x)) (some d) (upd (del H2 a) d (.xd fl))) (fun _ _ _ => False) := by
  refine ⟨by omega, fun a ha => ?_⟩
  rw [List.append_nil]
  refine ⟨a, vs, rfl, hl, _, upd_same, c.oex, fun f hf => c.no f (hfl f (by simpa [flV] using hf)), fun dx hdx hne => ⟨rfl, dx, flV sp vs, upd_same, ?_, ?_, ?_⟩⟩
  · rw [upd_ne hne, upd_same]
  · rw [upd_ne hne] at hdx; exact hdx
  · rw [upd_ne hne] at hdx
    rw [DW.mk_heap ha hne]
    exact q dx hdx
theorem mk_end1 {sp : List (Str × Src)} {De : Ends} {E : Nd} {as : List Addr} {H : Hp} {σ : L2.St} {ρ : Ev} {M1 : Mem} {as1 : List Addr} {H1 : Hp} {ds : List D} {vs : List V} (hE : NdOk X.K W as H E De) (h1 : E.ex ⟨x, sp.map (·.1), sp.map fun p => p.2.d ds⟩ ρ M1) (e1 : Ext X.K as H as1 H1) (r1 : RepM X.K as1 H1 M1) (rs1 : RelS X.K as1 H1 ρ σ) (rv : RelL X.K as1 H1 ds vs) {d : Addr} (hd : H1 d = none) :
    W (.ref (He.ga X.K x)) (some d) σ (upd H1 d (.xd (flV sp vs))) := by
  have e2 : Ext X.K as1 H1 as1 (upd H1 d (.xd (flV sp vs))) := ext_new hd
  exact hE.ex _ _ _ h1 as1 _ σ _ _ (e1.trans e2) (r1.laid hd) (rs1.up e2) ⟨rfl, d, _, rfl, by rw [upd_same, ← zip_flV], srcs_rel (rv.up e2) sp⟩
theorem qs_raise (hc : X.calm = true) (tk : Takes X W) (c : DW.ExcX X.K X.mg x fs) (F : FnMU X.prog X.w X.K X.mg X.base k x "__init__" ps (spIn X.K n sp)) (hr : Room (k + 1) X.A) (hg : Gl X x) (ha : QA X W (e :: es) ma) (hn : n ≤ 1000) (hfl : ∀ f ∈ sp.map (·.1), f ∈ fs) (hdb : (x == ("__debug__" : Str)) = false := by decide)
    (he : starEach (e :: es) X.env = (false, eval e X.env) :: starEach es X.env := by rfl) (hpl : (backTo pos (starEach es X.env)).any (·.1) = false := by rfl) : QS X W (.Raise (some (.Call (.Name x p) (e :: es) [] pos)) none pos') (mRaise x n sp ma) :=
  PSi (ps_raiseK hc tk (pmk_xU c F (L2H.roomH_of hr) hg ha hdb he hpl)) fun D σ H ⟨as, M, ρ, E, r, rs, h, hE⟩ => by
    refine lfA_bind r rs h (exS hE rs) fun ds M1 as1 H1 vs h1 e1 r1 rs1 rv => ?_
    exact mk_in (H := H1) (QX := fun cls d H' => W cls d σ H') c (by rw [← rv.len]; exact h1.1) hn hfl fun d hd => mk_end1 hE h1.2 e1 r1 rs1 rv hd
end
theorem fn_law {P : Program} {w : World} {K : PySem.W.Frag} {mg : Str → Option Value} {base : Heap} {k : Nat} {f : Addr} {fd : FuncData} {ps : List Str} {sp : Sp} (F : FnOk P w K mg base (CX P w) k f fd ps sp) : FnOk P w K mg base CX0 k f fd ps (fun vs H Q _ => sp vs H Q E0) where
  len := fun vs H Q E h => F.len vs H Q E0 h
  run := fun A outer s H args us vs Q E hr e b r h => codeAny_mono (F.run A outer s H args us vs Q E0 hr e b r h) fun r s' q => by
    cases r with
    | error e => obtain ⟨_, _, _, _, _, _, _, _, _, _, _, _, z⟩ := q; exact z.elim
    | ok fl => cases fl <;> exact q
/-- the law's start -/
theorem law_st {K : PySem.W.Frag} {w : WF} (hw : ∀ ns : List Int, ns.length ≤ 63 → w [.kl (ns.map .int)] [] (fun d _ => d = .bl true) (fun _ _ => False)) (H : Hp) (a : Addr) (ns : List Int) (hl : ns.length ≤ 63) (hO : Only H) (hS : SqL K H a (ns.map V.int)) :
    spM K 1 w [.ref a] H (fun v _ => v = .bl true) E0 := by
  have hR : RdL K H a (ns.map V.int) := by
    rcases hS with (h | h) | h
    · rcases hO a with z | ⟨o, xs, z⟩
      · rw [z] at h; cases h
      · rw [z] at h; cases h
    · exact .inl h
    · exact .inr h
  have hL : ∀ ns : List Int, RelL K [] H (ns.map .int) (ns.map V.int) := fun ns => by
    induction ns with
    | nil => exact .nil
    | cons i ns ih => exact .cons (.int i) ih
  refine ⟨[], [], [.kl (ns.map .int)], _, _, rfl, ⟨rfl, by simp, fun n b o h1 h2 => by simp at h1⟩, .cons (.kl hR (hL ns)) .nil, hw ns hl, fun d M' q as' H' v _ _ rv => ?_, fun _ _ q => q.elim⟩
  subst q
  cases rv
  rfl
end MV
namespace MV
open PySem PySem.Spec PyProof.Rows L2
section
variable {X : Cx} {W : WX}
theorem qv (i : Nat) {x : Str} {pos : Pos} (hN : X.N[i]? = some x := by rfl) (hv : Vis X.env.scope x := by first | exact Or.inl rfl | exact Or.inr (Or.inl rfl) | exact Or.inr (Or.inr rfl)) (hd : (x == ("__debug__" : Str)) = false := by decide)
    (hcd : (x == ("__classdict__" : Str)) = false := by decide) : QE X W (.Name x pos) (mVar i) := qe_var hN hv hd hcd
theorem units65 {k : Nat} {A : Around} (r : Room k A) : A.units + 65 < cLine := by have := r.un; omega
theorem units1 {k : Nat} {A : Around} (r : Room k A) : A.units + 1 < cLine := by have := r.un; omega
end
theorem call_listA {X : Cx} (hc : X.calm = true) : CallR X (.type "list") (rListA X.K) := CallR_or call_list_of (call_list_dK hc)
/-- every parameter is given -/
theorem dbn_all {K : PySem.W.Frag} {fd : FuncData} {ps : List Str} (h : Binds K fd ps []) : DBn K fd ps ps.length [] (fun ds _ => ds) :=
  ⟨⟨fun us _ => us, fun vs _ => vs, ⟨fun s us ws X l1 _ => by
    have := h s us X (by simp [l1])
    simpa using this, fun r _ => r⟩, fun as H ds es vs zs _ _ r _ => r⟩⟩
theorem relL_app {K : PySem.W.Frag} {as : List Addr} {H : Hp} {ds es : List D} {vs ws : List V} (h : RelL K as H ds vs) (h' : RelL K as H es ws) : RelL K as H (ds ++ es) (vs ++ ws) := h.app h'
end MV
namespace MV
open PySem PySem.Spec PyProof.Rows L2
def tyD (x : D) (M : Mem) : Option String := match x with
  | .non => some "NoneType"
  | .bl _ => some "bool"
  | .int _ => some "int"
  | .str _ => some "str"
  | .tup _ => some "tuple"
  | .ref n => match M[n]? with
    | some (.lst _) => some "list"
    | some (.dct false _) => some "dict"
    | _ => none
  | _ => none
/-- of the five types: is t a u? -/
def subTy (t u : String) : Bool := t == u || (t == "bool" && u == "int")
def oIsi : OA := fun xs M Q => match xs with
  | [x, .ty u] => match tyD x M with
    | some t => (["int", "str", "tuple", "list", "bool", "dict"].contains u = true) ∧ Q (.bl (subTy t u)) M
    | none => match x with
      | .ref n => match M[n]? with
        | some (.ins _ _) => False
        | _ => False
      | _ => False
  | _ => False
def mDict0 : ME := fun _ M Q _ => Q (.ref M.length) (M ++ [.dct false []])
section
variable {X : Cx} {W : WX} {pos : Pos}
theorem qe_dict0 : QE X W (.Dict [] [] pos) mDict0 := PEi pe_dnewK fun σ H Q ⟨as, M, ρ, Q', X', r, rs, h, hq, hx⟩ => fun p hp => new_obj (o := .dct false []) r hp ⟨[], .nil, upd_same⟩ h hq
inductive QPs (X : Cx) (W : WX) (pos : Pos) : List (Option Expr) → List Expr → List (ME × ME) → Prop where
  | nil : QPs X W pos [] [] []
  | cons {k v : Expr} {ks : List (Option Expr)} {vs : List Expr} {mk mv : ME} {trs : List (ME × ME)} (hk : QE X W k mk) (hv : QE X W v mv) (hr : QPs X W pos ks vs trs) : QPs X W pos (some k :: ks) (v :: vs) ((mk, mv) :: trs)
end
end MV
namespace MV
open PySem PySem.Spec PyProof.Rows L2
def pick {α : Type} (l : List α) (is : List Nat) : List α := is.filterMap (l[·]?)
theorem vals_pick {xs : List V} {us : List Value} (r : Vals xs us) : ∀ is : List Nat, Vals (pick xs is) (pick us is)
  | [] => .nil
  | i :: is => by
    have t := vals_pick r is
    unfold pick at t ⊢
    cases e : xs[i]? with
    | none => simpa [List.filterMap_cons, e, r.none_of e] using t
    | some x =>
      obtain ⟨u, eu, ru⟩ := r.get e
      simpa [List.filterMap_cons, e, eu] using Paired.cons ru t
theorem relL_pick {K : PySem.W.Frag} {as : List Addr} {H : Hp} {ds : List D} {vs : List V} (r : RelL K as H ds vs) : ∀ is : List Nat, RelL K as H (pick ds is) (pick vs is)
  | [] => .nil
  | i :: is => by
    have t := relL_pick r is
    unfold pick at t ⊢
    cases e : ds[i]? with
    | none =>
      have ev : vs[i]? = none := by
        have := r.len
        simp at e ⊢; omega
      simpa [List.filterMap_cons, e, ev] using t
    | some x =>
      obtain ⟨u, eu, ru⟩ := r.get e
      simpa [List.filterMap_cons, e, eu] using RelL.cons ru t
theorem vals_pick3 {is : List Nat} {vs mz zs : List V} {us mv ws : List Value} (a : Vals vs us) (b : Vals mz mv) (c : Vals zs ws) : Vals (pick (vs ++ mz ++ zs) is) (pick (us ++ mv ++ ws) is) := vals_pick ((a.append b).append c) is
theorem kbindsE {K : PySem.W.Frag} {x qual : Str} {params : Arguments} {body : List Stmt} {scope : Scope} {f : Addr} {fd : FuncData} {ps : List Str} (F : FunD K x qual params body scope [] [] f fd) (n : Nat) (ks : List Str) (is : List Nat)
    (h : ∀ (kV doc pm : Value) (an : Option Addr) (cdv ct : Value) (us ws : List Value), us.length = n → ws.length = ks.length → bindArgs (PySem.W.fnOf x qual params body scope .none kV doc pm an cdv ct) ⟨us, ks.zip ws⟩ = pure (ps.zip (pick (us ++ [] ++ ws) is))) : KBn K fd ps n ks (fun us ws => pick (us ++ [] ++ ws) is) (fun vs zs => pick (vs ++ [] ++ zs) is) := by
  obtain ⟨oc, od, dV, kV, doc, pm, an, cdv, ct, osl, rfl, lk, hcd, hD, hK⟩ := F.ex
  rcases hD with ⟨_, rfl⟩ | ⟨e, _⟩
  · exact ⟨fun s us ws _ l1 l2 => .of_eq (h kV doc pm an cdv ct us ws l1 l2), fun a c => vals_pick3 a .nil c⟩
  · exact absurd rfl e
theorem dbn_kw {K : PySem.W.Frag} {fd : FuncData} {ps ks : List Str} {n : Nat} {is : List Nat} {mv : List Value} {mz : List V} {md : List D} {gD : List D → List D → List D} (hb : KBn K fd ps n ks (fun us ws => pick (us ++ mv ++ ws) is) (fun vs zs => pick (vs ++ mz ++ zs) is))
    (hm : ∀ as H, RelL K as H md mz) (he : ∀ ds es : List D, ds.length = n → es.length = ks.length → gD ds es = pick (ds ++ md ++ es) is) : DBn K fd ps n ks gD :=
  ⟨⟨_, _, hb, fun as H ds es vs zs l1 l2 r1 r2 => by
    rw [he ds es l1 l2]
    exact relL_pick ((r1.app (hm as H)).app r2) is⟩⟩
theorem dbn_dfl {K : PySem.W.Frag} {fd : FuncData} {ps : List Str} {n : Nat} {dv : List Value} {dz : List V} {gD : List D → List D → List D} (hb : Binds K fd ps dv) (hd : Vals dz dv) (hl : n + dz.length = ps.length)
    (hr : ∀ as H (ds : List D) (vs : List V), ds.length = n → RelL K as H ds vs → RelL K as H (gD ds []) (vs ++ dz)) : DBn K fd ps n [] gD :=
  ⟨⟨fun us _ => us ++ dv, fun vs _ => vs ++ dz, ⟨fun s us ws X l1 _ => by
    have := hb s us X (by rw [List.length_append, ← hd.length, l1, hl])
    simpa using this, fun r _ => r.append hd⟩, fun as H ds es vs zs l1 l2 r _ => by
    cases es with
    | nil => exact hr as H ds vs l1 r
    | cons e es => simp at l2⟩⟩
/-- the keyword-only default k of the def at f, if it is an object -/
def kwdAt (f : Str × Option Str) (k : Str) (K : PySem.W.Frag) : Addr := match K.lookup (He.fAd K f) with
  | some ⟨_, _, .func fd, _⟩ => (match fd.kwdefaults with
    | .ref T => (match PySem.W.nsIn K T k with
      | some (some (.ref a)) => a
      | _ => 0)
    | _ => 0)
  | _ => 0
mutual
/-- d stands in K as u -/
def datAt (K : PySem.W.Frag) : Nat → D → Value → Bool
  | _, .non, .none => true
  | _, .bl b, .bool c => b == c
  | _, .int i, .int j _ => i == j
  | _, .str x, .str y _ => x == y
  | k + 1, .tup ds, .ref a => match K.lookup a with
    | some ⟨.type "tuple", _, .seq its _, _⟩ => !hdS ds && decide (its.size ≤ sizeLine) && datL K k ds its.toList
    | _ => false
  | _, _, _ => false
def datL (K : PySem.W.Frag) : Nat → List D → List Value → Bool
  | _, [], [] => true
  | k, d :: ds, u :: us => datAt K k d u && datL K k ds us
  | _, _, _ => false
end
theorem datAt_v {K : PySem.W.Frag} : ∀ (k : Nat) (d : D) (u : Value), datAt K k d u = true → ∃ v, RelV v u ∧ ∀ as H, Rel K as H d v := by
  intro k
  induction k with
  | zero =>
    intro d u h
    unfold datAt at h
    split at h
    · exact ⟨.non, rfl, fun _ _ => .non⟩
    · exact ⟨.bl _, rfl, fun _ _ => by rw [eq_of_beq h]; exact .bl _⟩
    · exact ⟨.int _, ⟨_, rfl⟩, fun _ _ => by rw [eq_of_beq h]; exact .int _⟩
    · exact ⟨.str _, ⟨_, rfl⟩, fun _ _ => by rw [eq_of_beq h]; exact .str _⟩
    · cases ‹0 = _ + 1›
    · cases h
  | succ k ih =>
    have ihl : ∀ (ds : List D) (us : List Value), datL K k ds us = true → ∃ vs, Vals vs us ∧ ∀ as H, RelL K as H ds vs := by
      intro ds
      induction ds with
      | nil => intro us h; cases us with
        | nil => exact ⟨[], .nil, fun _ _ => .nil⟩
        | cons u us => simp [datL] at h
      | cons d ds ihd => intro us h; cases us with
        | nil => simp [datL] at h
        | cons u us =>
          simp only [datL, Bool.and_eq_true] at h
          obtain ⟨v, r1, r2⟩ := ih d u h.1
          obtain ⟨vs, q1, q2⟩ := ihd us h.2
          exact ⟨v :: vs, .cons r1 q1, fun as H => .cons (r2 as H) (q2 as H)⟩
    intro d u h
    unfold datAt at h
    split at h
    · exact ⟨.non, rfl, fun _ _ => .non⟩
    · exact ⟨.bl _, rfl, fun _ _ => by rw [eq_of_beq h]; exact .bl _⟩
    · exact ⟨.int _, ⟨_, rfl⟩, fun _ _ => by rw [eq_of_beq h]; exact .int _⟩
    · exact ⟨.str _, ⟨_, rfl⟩, fun _ _ => by rw [eq_of_beq h]; exact .str _⟩
    · rename_i k' ds a ek
      cases ek
      split at h
      · rename_i od its n osl e
        simp only [Bool.and_eq_true, decide_eq_true_eq] at h
        obtain ⟨vs, q1, q2⟩ := ihl ds _ h.2
        exact ⟨.ref a, rfl, fun as H => .tup ⟨.inr ⟨_, its, n, e, rfl, rfl, h.1.2, q1⟩, fun z => by rw [z] at h; exact absurd h.1.1 (by decide)⟩ (q2 as H)⟩
      · cases h
    · cases h
theorem datAt_ok {K : PySem.W.Frag} {d : D} {a : Addr} {as : List Addr} {H : Hp} (h : datAt K 20 d (.ref a) = true) : Rel K as H d (.ref a) := by
  obtain ⟨v, r, q⟩ := datAt_v 20 d _ h
  have e : v = .ref a := by
    have := r.abs
    simpa [absV] using this.symm
  rw [← e]; exact q as H
end MV
namespace MV
open PySem PySem.Spec PyProof.Rows L2
def mLcO (guard : Mem → Prop) (T : Tg) (tt : MT) (mi1 : MI) (T1 : Tg) (tt1 : MT) (me : ME) (ρ : Ev) (vs1 : List Nat) (n : Nat) (Q : Mem → Prop) : List D → Mem → Prop
  | [], M => guard M ∧ Q M
  | d :: ds, M => guard M ∧ T.mg d ρ M fun ρ2 => tt ρ2 M (fun b M3 => if b = true then mi1 ρ2 M3 (fun items1 guard1 M4 => mLcL guard1 T1 tt1 me (wipeE ρ2 vs1) n (fun M5 => mLcO guard T tt mi1 T1 tt1 me ρ vs1 n Q ds M5) items1 M4) noX else mLcO guard T tt mi1 T1 tt1 me ρ vs1 n Q ds M3) noX
def mLc2 (mi : MI) (T : Tg) (tt : MT) (mi1 : MI) (T1 : Tg) (tt1 : MT) (me : ME) (vs vs1 : List Nat) : ME := fun ρ M Q X => mi ρ M (fun items guard M1 => mLcO guard T tt mi1 T1 tt1 me (wipeE ρ vs) vs1 M1.length (fun M2 => Q (.ref M1.length) M2) items (M1 ++ [.lst []])) X
theorem wipe_wipe (vs : List Nat) (τ : L2.St) : L2.wipe (L2.wipe τ vs) vs = L2.wipe τ vs := by
  apply List.ext_getElem?
  intro j
  by_cases hj : j ∈ vs
  · have key : ∀ (us : List Nat) (τ : L2.St), j ∈ us → (L2.wipe τ us)[j]? = (if j < τ.length then some none else none) := fun us τ hj => by
      induction us with
      | nil => cases hj
      | cons u us ih =>
        show ((L2.wipe τ us).set u none)[j]? = _
        by_cases hu : u = j
        · subst hu
          by_cases hl : u < τ.length
          · rw [List.getElem?_set_self (by rw [wipe_length]; exact hl), if_pos hl]
          · rw [List.getElem?_eq_none_iff.mpr (by rw [List.length_set, wipe_length]; omega), if_neg hl]
        · rw [List.getElem?_set_ne hu]
          exact ih (by rcases List.mem_cons.mp hj with z | z; exact absurd z.symm hu; exact z)
    rw [key vs _ hj, key vs _ hj, wipe_length]
  · rw [wipe_out hj]
section
variable {K : PySem.W.Frag}
theorem lc_in {as1 : List Addr} {H1 : Hp} {M1 : Mem} {J : It} {items : List D} {guard : Mem → Prop} {T : Tg} {tt : MT} {me : ME} {ρ : Ev} {σ : L2.St} {vs : List Nat} {n : Nat} {D : Addr} {NM : Mem → Prop} {Nx : Hp → Prop} (hT : ∀ i ∈ T.slots, i ∈ vs)
    (ok : ItOk K as1 H1 J items guard) (r1 : RepM K as1 H1 M1) (rs : RelS K as1 H1 ρ σ) (nD : as1[n]? = some D) (h : mLcL guard T tt me (wipeE ρ vs) n NM items M1) (hN : ∀ as' H' M', Ext K as1 H1 as' H' → RepM K as' H' M' → NM M' → Nx H') :
    ∃ W : Nat → Nat → Hp → Prop, (∃ m, W 0 m H1) ∧ ∀ i m H, W i m H →
      (J.stop i H ∧ Nx H) ∨ (J.go i H ∧ ∃ Nx1 : Hp → Prop, (∀ H', Nx1 H' → ∃ k', k' < m ∧ W (i + 1) k' H') ∧ ∀ x H', J.yld i H x H' → T.rd K x (L2.wipe σ vs) H' fun σ3 H5 => L2.wipe σ3 vs = L2.wipe σ vs ∧ lfT K W0 tt σ3 H5 fun b H6 =>
        if b = true then lf K W0 me σ3 H6 fun y H7 => ∃ acc, H7 D = some (.lst acc) ∧ acc.length < sizeLine ∧ Nx1 (upd H7 D (.lst (acc ++ [y]))) else Nx1 H6) := by
  refine ⟨fun i m H' => ∃ as' M', Ext K as1 H1 as' H' ∧ RepM K as' H' M' ∧ i + m = items.length ∧ mLcL guard T tt me (wipeE ρ vs) n NM (items.drop i) M', ⟨items.length, _, _, .refl, r1, by simp, h⟩, ?_⟩
  rintro i m H' ⟨as', M', e', r', hm, h'⟩
  have nD' := pre_get e'.pre nD
  by_cases hl : i < items.length
  · right
    rw [drop_cons hl] at h'
    obtain ⟨hgd, h'⟩ := h'
    obtain ⟨_, ok2⟩ := ok as' H' M' i e' r' hgd
    obtain ⟨go, yld⟩ := ok2 _ (List.getElem?_eq_getElem hl)
    refine ⟨go, fun H2 => ∃ as2 M2, Ext K as1 H1 as2 H2 ∧ RepM K as2 H2 M2 ∧ mLcL guard T tt me (wipeE ρ vs) n NM (items.drop (i + 1)) M2, fun H2 ⟨as2, M2, a, b, c⟩ => ⟨m - 1, by omega, as2, M2, a, b, by omega, c⟩, fun x H2 y => ?_⟩
    obtain ⟨e3, r3, rx⟩ := yld x H2 y
    have e4 := e'.trans e3
    have rs3 : RelS K as' H2 (wipeE ρ vs) (L2.wipe σ vs) := (rs.up e4).wipe vs
    refine T.keep hT (fun σ2 H2' ew q => ⟨ew.trans (wipe_wipe vs σ), q⟩) (T.sim r3 rs3 rx h' fun ρ4 σ4 h4 rs4 => ?_)
    refine lfT_bind r3 rs4 h4 noX_ok fun b M3 as3 H3 h5 e5 r5 rs5 => ?_
    cases b with
    | true =>
      rw [if_pos rfl] at h5 ⊢
      refine lf_bind r5 rs5 h5 noX_ok fun dy M4 as4 H4 y h6 e6 r6 rs6 ry => ?_
      split at h6
      · rename_i acc ea
        have n4 := pre_get (e4.trans (e5.trans e6)).pre nD
        obtain ⟨ys, g1, g2⟩ := at_lst r6 n4 ea
        obtain ⟨e7, r7⟩ := put_lst r6 n4 g1 (g2.app (.cons ry .nil))
        exact ⟨ys, g1, by rw [← g2.len]; exact Nat.lt_of_lt_of_le h6.1 (by decide), as4, _, (e4.trans (e5.trans e6)).trans e7, r7, h6.2⟩
      · exact h6.elim
    | false =>
      rw [if_neg Bool.false_ne_true] at h5 ⊢
      exact ⟨as3, M3, e4.trans e5, r5, h5⟩
  · left
    have hi' : i = items.length := by omega
    rw [List.drop_eq_nil_of_le (by omega)] at h'
    exact ⟨(ok as' H' M' i e' r' h'.1).1 hi', hN as' H' M' e' r' h'.2⟩
theorem lf_lc2 {W : WX} {mi mi1 : MI} {T T1 : Tg} {tt tt1 : MT} {me : ME} {vs vs1 : List Nat} (hT : ∀ i ∈ T.slots, i ∈ vs) (hT1 : ∀ i ∈ T1.slots, i ∈ vs1) {σ : L2.St} {H : Hp} {Q : VK} (h : lf K W (mLc2 mi T tt mi1 T1 tt1 me vs vs1) σ H Q) :
    tLc2 (lfI K W mi) (T.rd K) (lfT K W0 tt) (lfI K W0 mi1) (T1.rd K) (lfT K W0 tt1) (lf K W0 me) vs vs1 σ H Q := by
  obtain ⟨as, M, ρ, Q', X', r, rs, h, hq, hx⟩ := h
  refine ⟨as, M, ρ, _, X', r, rs, h, fun items guard M1 as1 H1 J h1 e1 r1 ok D hD => ?_, hx⟩
  have rD : RepM K (as1 ++ [D]) (upd H1 D (.lst [])) (M1 ++ [.lst []]) := r1.new (o := .lst []) hD ⟨[], upd_same, .nil⟩
  have eD : Ext K as1 H1 (as1 ++ [D]) (upd H1 D (.lst [])) := (ext_new hD).trans ext_app
  have nD : (as1 ++ [D])[M1.length]? = some D := by rw [← r1.len]; exact app_at
  refine ⟨fun i m H' => ∃ as' M', Ext K (as1 ++ [D]) (upd H1 D (.lst [])) as' H' ∧ RepM K as' H' M' ∧ i + m = items.length ∧ mLcO guard T tt mi1 T1 tt1 me (wipeE ρ vs) vs1 M1.length (fun M2 => Q' (.ref M1.length) M2) (items.drop i) M', ⟨items.length, _, _, .refl, rD, by simp, h1⟩, ?_⟩
  rintro i m H' ⟨as', M', e', r', hm, h'⟩
  have e2 := eD.trans e'
  have nD' := pre_get e'.pre nD
  by_cases hl : i < items.length
  · right
    rw [drop_cons hl] at h'
    obtain ⟨hgd, h'⟩ := h'
    obtain ⟨_, ok2⟩ := ok as' H' M' i e2 r' hgd
    obtain ⟨go, yld⟩ := ok2 _ (List.getElem?_eq_getElem hl)
    refine ⟨go, fun H2 => ∃ as2 M2, Ext K (as1 ++ [D]) (upd H1 D (.lst [])) as2 H2 ∧ RepM K as2 H2 M2 ∧ mLcO guard T tt mi1 T1 tt1 me (wipeE ρ vs) vs1 M1.length (fun M2 => Q' (.ref M1.length) M2) (items.drop (i + 1)) M2, fun H2 ⟨as2, M2, a, b, c⟩ => ⟨m - 1, by omega, as2, M2, a, b, by omega, c⟩, fun x H2 y => ?_⟩
    obtain ⟨e3, r3, rx⟩ := yld x H2 y
    have e4 := e'.trans e3
    have rs3 : RelS K as' H2 (wipeE ρ vs) (L2.wipe σ vs) := (rs.up (e1.trans (e2.trans e3))).wipe vs
    refine T.keep hT (fun σ2 H2' ew q => ⟨ew.trans (wipe_wipe vs σ), q⟩) (T.sim r3 rs3 rx h' fun ρ4 σ4 h4 rs4 => ?_)
    refine lfT_bind r3 rs4 h4 noX_ok fun b M3 as3 H3 h5 e5 r5 rs5 => ?_
    cases b with
    | true =>
      rw [if_pos rfl] at h5 ⊢
      refine ⟨as3, M3, ρ4, _, _, r5, rs5, h5, fun items1 guard1 M4 as4 H4 J1 h6 e6 r6 ok1 => ?_, noX_ok⟩
      exact lc_in hT1 ok1 r6 (rs5.up e6) (pre_get (e4.trans (e5.trans e6)).pre nD) h6 fun as5 H5 M5 e7 r7 h7 => ⟨as5, M5, (e4.trans (e5.trans e6)).trans e7, r7, h7⟩
    | false =>
      rw [if_neg Bool.false_ne_true] at h5 ⊢
      exact ⟨as3, M3, e4.trans e5, r5, h5⟩
  · left
    have hi' : i = items.length := by omega
    rw [List.drop_eq_nil_of_le (by omega)] at h'
    exact ⟨(ok as' H' M' i e2 r' h'.1).1 hi', hq _ _ h'.2 as' H' _ (e1.trans e2) r' (.ref nD')⟩
end
section
variable {X : Cx} {W : WX} {elt tg iter tg1 iter1 : Expr} {ifs ifs1 : List Expr} {scope : Scope} {own : List (Str × Nat)} {vs1 : List Nat} {pos spos : Pos} {mi mi1 : MI} {T T1 : Tg} {tt tt1 : MT} {me : ME}
theorem qe_lc2 (hc : X.calm = true) (hN : X.N.Nodup) (hi : QI X W tg iter mi) (ok : BlkOk X.N X.env.scope scope own) (hv : ∀ i ∈ vs1, i ∈ own.map (·.2))
    (hg : ∀ (s : Shared) (H : Hp) (C : Addr) (cl : List (Str × Addr)) (fp : List Addr), QG (X.blk s H scope (compEnvC scope cl C X.env) fp) tg T) (ht : ∀ (s : Shared) (H : Hp) (C : Addr) (cl : List (Str × Addr)) (fp : List Addr), QTs (X.blk s H scope (compEnvC scope cl C X.env) fp) W0 ifs tt)
    (hi1 : ∀ (s : Shared) (H : Hp) (C : Addr) (cl : List (Str × Addr)) (fp : List Addr), QI (X.blk s H scope (compEnvC scope cl C X.env) fp) W0 tg1 iter1 mi1)
    (hg1 : ∀ (s : Shared) (H : Hp) (C : Addr) (cl : List (Str × Addr)) (fp : List Addr), QG (X.blk s H scope (compEnvC scope cl C X.env) fp) tg1 T1) (ht1 : ∀ (s : Shared) (H : Hp) (C : Addr) (cl : List (Str × Addr)) (fp : List Addr), QTs (X.blk s H scope (compEnvC scope cl C X.env) fp) W0 ifs1 tt1)
    (he : ∀ (s : Shared) (H : Hp) (C : Addr) (cl : List (Str × Addr)) (fp : List Addr), QE (X.blk s H scope (compEnvC scope cl C X.env) fp) W0 elt me) (hT : ∀ i ∈ T.slots, i ∈ own.map (·.2)) (hT1 : ∀ i ∈ T1.slots, i ∈ vs1) (hs : ∀ x, foldedSetIterable iter X.env x = pure x := by intro _; rfl) (hs1 : ∀ env x, foldedSetIterable iter1 env x = pure x := by intro _ _; rfl) :
    QE X W (.ListComp elt [⟨tg, iter, ifs, 0⟩, ⟨tg1, iter1, ifs1, 0⟩] scope pos) (mLc2 mi T tt mi1 T1 tt1 me (own.map (·.2)) vs1) :=
  PEi (pe_lc2 (g := T.rd X.K) (tt := lfT X.K W0 tt) (wi1 := lfI X.K W0 mi1) (g1 := T1.rd X.K) (tt1 := lfT X.K W0 tt1) (te := lf X.K W0 me) hc hN hi ok hv hg ht hi1 hg1 ht1 he hs hs1) fun σ H Q h => lf_lc2 hT hT1 h
end
theorem xok_of {K : PySem.W.Frag} {x : Str} {fs : List Str} (h : DW.excXB K x fs = true) : XOk K fs x := by
  have e := DW.excXB_ok (mg := fun _ => some (.ref (He.ga K x))) (x := x) rfl h
  exact ⟨e.xf, fun f hf => e.no f hf⟩
/-- the table sub is the head's -/
def XP (K : PySem.W.Frag) (fl : List Str) (sub : Str → Str → Option Bool) : Prop := ∀ x y b, sub x y = some b → PySem.W.exmOne K (.ref (He.ga K x)) (.ref (He.ga K y)) = some b ∧ XOk K fl x
theorem xcn_mk {K : PySem.W.Frag} {fl : List Str} {sub : Str → Str → Option Bool} (h : XP K fl sub) : XcN K sub fl := ⟨fun x y b e => (h x y b e).1, fun x y b e => (h x y b e).2⟩
end MV
namespace MV
open PySem PySem.Spec PyProof.Rows L2
section
variable {X : Cx} {W : WX} {c x : Str} {e : Expr} {es : List Expr} {p pos : Pos} {ma : MA} {k : Nat} {ps : List Str} {w : WF} {gD : List D → List D → List D} {f : Addr} {gV : List V → List V → List V}
end
end MV
namespace MV
open PySem PySem.Spec PyProof.Rows L2
def mDcL (guard : Mem → Prop) (T : Tg) (tt : MT) (mk mv : ME) (ρ : Ev) (n : Nat) (Q : Mem → Prop) : List D → Mem → Prop
  | [], M => guard M ∧ Q M
  | d :: ds, M => guard M ∧ T.mg d ρ M fun ρ2 => tt ρ2 M (fun b M3 => if b = true then mk ρ2 M3 (fun y M4 => mv ρ2 M4 (fun z M5 => match M5[n]? with
      | some (.dct false acc) => match keyOf y with
        | some k => acc.length < 16000000 ∧ mDcL guard T tt mk mv ρ n Q ds (M5.set n (.dct false (dput acc k z)))
        | none => False
      | _ => False) noX) noX else mDcL guard T tt mk mv ρ n Q ds M3) noX
def mDc (mi : MI) (T : Tg) (tt : MT) (mk mv : ME) (vs : List Nat) : ME := fun ρ M Q X => mi ρ M (fun items guard M1 => mDcL guard T tt mk mv (wipeE ρ vs) M1.length (fun M2 => Q (.ref M1.length) M2) items (M1 ++ [.dct false []])) X
section
variable {K : PySem.W.Frag} {as : List Addr} {H : Hp} {M : Mem}
theorem lf_dc {W : WX} {mi : MI} {T : Tg} {tt : MT} {mk mv : ME} {vs : List Nat} (hT : ∀ i ∈ T.slots, i ∈ vs) {σ : L2.St} {H : Hp} {Q : VK} (h : lf K W (mDc mi T tt mk mv vs) σ H Q) : tDc (lfI K W mi) (T.rd K) (lfT K W0 tt) (lf K W0 mk) (lf K W0 mv) vs σ H Q := by
  obtain ⟨as, M, ρ, Q', X', r, rs, h, hq, hx⟩ := h
  refine ⟨as, M, ρ, _, X', r, rs, h, fun items guard M1 as1 H1 J h1 e1 r1 ok D hD => ?_, hx⟩
  have rD : RepM K (as1 ++ [D]) (upd H1 D (.dK [])) (M1 ++ [.dct false []]) := r1.new (o := .dct false []) hD ⟨[], .nil, upd_same⟩
  have eD : Ext K as1 H1 (as1 ++ [D]) (upd H1 D (.dK [])) := (ext_new hD).trans ext_app
  have nD : (as1 ++ [D])[M1.length]? = some D := by rw [← r1.len]; exact app_at
  refine ⟨fun i m H' => ∃ as' M', Ext K (as1 ++ [D]) (upd H1 D (.dK [])) as' H' ∧ RepM K as' H' M' ∧ i + m = items.length ∧ mDcL guard T tt mk mv (wipeE ρ vs) M1.length (fun M2 => Q' (.ref M1.length) M2) (items.drop i) M', ⟨items.length, _, _, .refl, rD, by simp, h1⟩, ?_⟩
  rintro i m H' ⟨as', M', e', r', hm, h'⟩
  have e2 := eD.trans e'
  have nD' := pre_get e'.pre nD
  by_cases hl : i < items.length
  · right
    rw [drop_cons hl] at h'
    obtain ⟨hgd, h'⟩ := h'
    obtain ⟨_, ok2⟩ := ok as' H' M' i e2 r' hgd
    obtain ⟨go, yld⟩ := ok2 _ (List.getElem?_eq_getElem hl)
    refine ⟨go, fun H2 => ∃ as2 M2, Ext K (as1 ++ [D]) (upd H1 D (.dK [])) as2 H2 ∧ RepM K as2 H2 M2 ∧ mDcL guard T tt mk mv (wipeE ρ vs) M1.length (fun M2 => Q' (.ref M1.length) M2) (items.drop (i + 1)) M2, fun H2 ⟨as2, M2, a, b, c⟩ => ⟨m - 1, by omega, as2, M2, a, b, by omega, c⟩, fun x H2 y => ?_⟩
    obtain ⟨e3, r3, rx⟩ := yld x H2 y
    have e4 := e'.trans e3
    have rs3 : RelS K as' H2 (wipeE ρ vs) (L2.wipe σ vs) := (rs.up (e1.trans (e2.trans e3))).wipe vs
    refine T.keep hT (fun σ2 H2' ew q => ⟨?_, q⟩) (T.sim r3 rs3 rx h' fun ρ4 σ4 h4 rs4 => ?_)
    · rw [ew]
      exact wipe_wipe vs σ
    · refine lfT_bind r3 rs4 h4 noX_ok fun b M3 as3 H3 h5 e5 r5 rs5 => ?_
      cases b with
      | true =>
        rw [if_pos rfl] at h5 ⊢
        refine lf_bind r5 rs5 h5 noX_ok fun dy M4 as4 H4 y h6 e6 r6 rs6 ry => ?_
        refine lf_bind r6 rs6 h6 noX_ok fun dz M5 as5 H5 z h7 e7 r7 rs7 rz => ?_
        split at h7
        · rename_i acc ea
          split at h7
          · rename_i k ek
            have e8 := e4.trans (e5.trans (e6.trans e7))
            have n5 := pre_get e8.pre nD
            obtain ⟨ks, g2, g1⟩ := at_dK r7 n5 ea
            obtain ⟨e9, r9⟩ := put_dct r7 n5 g1 (g2.put k rz)
            exact ⟨ks, k, keyOf_ok (ry.up e7) ek, g1, by rw [← g2.len]; exact Nat.lt_of_lt_of_le h7.1 (by decide), as5, _, e8.trans e9, r9, h7.2⟩
          · exact h7.elim
        · exact h7.elim
      | false =>
        rw [if_neg Bool.false_ne_true] at h5 ⊢
        exact ⟨as3, M3, e4.trans e5, r5, h5⟩
  · left
    have hi' : i = items.length := by omega
    rw [List.drop_eq_nil_of_le (by omega)] at h'
    exact ⟨(ok as' H' M' i e2 r' h'.1).1 hi', hq _ _ h'.2 as' H' _ (e1.trans e2) r' (.ref nD')⟩
end
section
variable {X : Cx} {W : WX} {kx vx tg iter : Expr} {ifs : List Expr} {scope : Scope} {own : List (Str × Nat)} {pos spos : Pos} {mi : MI} {T : Tg} {tt : MT} {mk mv : ME}
end
end MV
namespace MV
open PySem PySem.Spec PyProof.Rows L2
def tabSub (ys : List Str) (rows : List (Str × List Bool)) (x y : Str) : Option Bool := (rows.find? fun r => decide (r.1 = x)).bind fun r => ((ys.zip r.2).find? fun e => decide (e.1 = y)).map (·.2)
/-- the numbers worked out first -/
def frL : List Nat → (List Nat → Bool) → Bool
  | [], k => k []
  | n :: r, k => HandSHeadRun.frNat n fun n => frL r fun r => k (n :: r)
theorem frL_eq : ∀ (l : List Nat) (k : List Nat → Bool), frL l k = k l
  | [], _ => rfl
  | n :: r, k => by
    show HandSHeadRun.frNat n (fun n => frL r fun r => k (n :: r)) = _
    rw [HandSHeadRun.frNat_eq, frL_eq r]
def exmA (K : PySem.W.Frag) (x y : Nat) (b : Bool) : Bool := decide (PySem.W.exmOne K (.ref x) (.ref y) = some b)
def tabOk (K : PySem.W.Frag) (fl : List Str) (ys : List Str) (rows : List (Str × List Bool)) : Bool := frL (ys.map fun y => He.ga K y) fun bs => rows.all fun r => DW.excXB K r.1 fl && frL [He.ga K r.1] fun ax => (bs.zip r.2).all fun e => exmA K (ax.getD 0 0) e.1 e.2
theorem xcn_tab {K : PySem.W.Frag} {fl : List Str} {ys : List Str} {rows : List (Str × List Bool)} (h : tabOk K fl ys rows = true) : XcN K (tabSub ys rows) fl := xcn_mk fun x y b e => by
  unfold tabOk at h
  rw [frL_eq] at h
  unfold tabSub at e
  cases hf : rows.find? fun r => decide (r.1 = x) with
  | none => rw [hf] at e; cases e
  | some r =>
    rw [hf] at e
    have hm := List.mem_of_find?_eq_some hf
    have hx : r.1 = x := of_decide_eq_true (List.find?_some (p := fun r : Str × List Bool => decide (r.1 = x)) hf)
    subst hx
    have hr := List.all_eq_true.mp h r hm
    rw [Bool.and_eq_true, frL_eq] at hr
    refine ⟨?_, xok_of hr.1⟩
    replace e : ((ys.zip r.2).find? fun e => decide (e.1 = y)).map (·.2) = some b := e
    cases hz : (ys.zip r.2).find? fun e => decide (e.1 = y) with
    | none => rw [hz] at e; cases e
    | some z =>
      rw [hz] at e
      have hy : z.1 = y := of_decide_eq_true (List.find?_some (p := fun e : Str × Bool => decide (e.1 = y)) hz)
      have hb : z.2 = b := by injection e
      subst hy; subst hb
      have hzm := List.mem_of_find?_eq_some hz
      have hm2 : (He.ga K z.1, z.2) ∈ (ys.map fun y => He.ga K y).zip r.2 := by
        have : (ys.map fun y => He.ga K y).zip r.2 = (ys.zip r.2).map fun e => (He.ga K e.1, e.2) := by
          have h2 := List.zip_map_left (f := fun y => He.ga K y) (l₁ := ys) (l₂ := r.2)
          rw [h2]; rfl
        rw [this]
        exact List.mem_map.mpr ⟨z, hzm, rfl⟩
      exact of_decide_eq_true (List.all_eq_true.mp hr.2 _ hm2)
end MV
namespace MV
open PySem PySem.Spec PyProof.Rows L2
section
variable {K : PySem.W.Frag}
end
end MV
namespace MV
open PySem PySem.Spec PyProof.Rows L2
def Itz3 (K : PySem.W.Frag) (a b c : Addr) : It :=
  ⟨fun i H => ∃ (xs ys zs : List V) (x y u : V), SqL K H a xs ∧ SqL K H b ys ∧ SqL K H c zs ∧ xs[i]? = some x ∧ ys[i]? = some y ∧ zs[i]? = some u,
    fun i H v H' => ∃ T x y u, v = .ref T ∧ H T = none ∧ H' = upd H T (.tup [x, y, u]) ∧ (∀ xs, SqL K H a xs → xs[i]? = some x) ∧ (∀ ys, SqL K H b ys → ys[i]? = some y) ∧ ∀ zs, SqL K H c zs → zs[i]? = some u,
    fun i H => ∃ xs ys zs : List V, SqL K H a xs ∧ SqL K H b ys ∧ SqL K H c zs ∧ i ≤ xs.length ∧ i ≤ ys.length ∧ i ≤ zs.length ∧ (i = xs.length ∨ i = ys.length ∨ i = zs.length)⟩
theorem turn_zip3 {P : Program} {w : World} {K : PySem.W.Frag} {elts : List Expr} {kk : Nat} {tpos : Pos} {a b c z TI TO i1 i2 i3 : Addr} (D : ZipSep3 z TI TO i1 i2 i3 [i1, a] [i2, b] [i3, c]) (na : a ≠ i1) (nb : b ≠ i2) (nc : c ≠ i3) :
    Turn P w K (.Tuple elts kk tpos) (Itz3 K a b c) [z, TI, TO, i1, i2, i3] z (fun i h => IsZip h z TI TO .none ∧ IsTupOf3 h TI (.ref i1) (.ref i2) (.ref i3) ∧ (∃ x y u, IsTupOf3 h TO x y u) ∧ h.IsListIter i1 a i ∧ h.IsListIter i2 b i ∧ h.IsListIter i3 c i) where
  mem := by simp
  obj := fun i h st c hc => by
    obtain ⟨hz, hTI, ⟨x, y, u, hTO⟩, ⟨o1, e1, _, d1⟩, ⟨o2, e2, _, d2⟩, ⟨o3, e3, _, d3⟩⟩ := st
    have e' : c = z ∨ c = TI ∨ c = TO ∨ c = i1 ∨ c = i2 ∨ c = i3 := by simpa using hc
    rcases e' with q | q | q | q | q | q
    · rw [q]; exact ⟨_, hz, fun v q => nomatch q⟩
    · rw [q]; exact ⟨_, hTI, fun v q => nomatch q⟩
    · rw [q]; exact ⟨_, hTO, fun v q => nomatch q⟩
    · rw [q]; exact ⟨o1, e1, fun v q => by rw [d1] at q; cases q⟩
    · rw [q]; exact ⟨o2, e2, fun v q => by rw [d2] at q; cases q⟩
    · rw [q]; exact ⟨o3, e3, fun v q => by rw [d3] at q; cases q⟩
  keep := fun i h h' st k => by
    obtain ⟨hz, hTI, ⟨x, y, u, hTO⟩, h1, h2, h3⟩ := st
    exact ⟨k z (by simp) _ hz, k TI (by simp) _ hTI, ⟨x, y, u, k TO (by simp) _ hTO⟩, h1.at fun o q => k i1 (by simp) o q, h2.at fun o q => k i2 (by simp) o q, h3.at fun o q => k i3 (by simp) o q⟩
  item := by
    intro X hP hw hK hc i pins s σ H E I hf st hg
    subst hP hw hK
    obtain ⟨hz, hTI, ⟨x0, y0, u0, hTO⟩, h1, h2, h3⟩ := st
    obtain ⟨xs, ys, zs, x, y, u, hqx, hqy, hqz, hx, hy, hu⟩ := hg
    obtain ⟨its, rv, p, _⟩ := I.list hqx
    obtain ⟨its2, rv2, p2, _⟩ := I.list hqy
    obtain ⟨its3, rv3, p3, _⟩ := I.list hqz
    obtain ⟨w1, hw1, rw1⟩ := rv.get hx
    obtain ⟨w2, hw2, rw2⟩ := rv2.get hy
    obtain ⟨w3, hw3, rw3⟩ := rv3.get hu
    have hzl : z < s.heap.objs.size := Heap.lt_size hz
    have hh : X.A.in1.handled = none := I.ok.hd hc
    have D1 := Draws.list (prog := X.prog) (w := X.w) hh i1 a na its.toArray
    have D2 := Draws.list (prog := X.prog) (w := X.w) hh i2 b nb its2.toArray
    have D3 := Draws.list (prog := X.prog) (w := X.w) hh i3 c nc its3.toArray
    refine wpAny_pyNext_zipD3_item D D1 D2 D3 hz hTI hTO ⟨h1, p.isList⟩ ⟨h2, p2.isList⟩ ⟨h3, p3.isList⟩ (i := i) (by have := (List.getElem?_eq_some_iff.mp hw1).1; simpa using this) (by have := (List.getElem?_eq_some_iff.mp hw2).1; simpa using this) (by have := (List.getElem?_eq_some_iff.mp hw3).1; simpa using this) fun x1 x2 x3 h' tk q1 q2 q3 z' TO' t1 t2 t3 hT hsz hk => ?_
    have ex1 : x1 = w1 := by have : its[i]? = some x1 := by simpa using q1
                             rw [hw1] at this; cases this; rfl
    have ex2 : x2 = w2 := by have : its2[i]? = some x2 := by simpa using q2
                             rw [hw2] at this; cases this; rfl
    have ex3 : x3 = w3 := by have : its3[i]? = some x3 := by simpa using q3
                             rw [hw3] at this; cases this; rfl
    subst ex1 ex2 ex3
    refine ⟨_, rfl, wpAny_letOwnedTupleGo_zip (s := { s with heap := h', toks := tk }) z' fun h'' z'' sb => ?_⟩
    have hT2 : h''.get? s.heap.objs.size = some { cls := .type "tuple", data := .seq #[x1, x2, x3] } := (sb.2 _ (Nat.ne_of_gt hzl)).trans hT
    have new : ObjOk X.prog X.w (upd H s.heap.objs.size (.tup [x, y, u])) h'' s.heap.objs.size (.tup [x, y, u]) :=
      ⟨by show 3 ≤ sizeLine; decide, [x1, x2, x3], .cons rw1 (.cons rw2 (.cons rw3 .nil)), ⟨_, hT2, rfl, _, rfl⟩⟩
    have I1 : Inv X pins σ (upd H s.heap.objs.size (.tup [x, y, u])) { s with heap := h'', toks := tk } :=
      I.turnedNew (t' := tk) (ch := [z, TI, TO, i1, i2, i3]) (fun c o hb q => (sb.2 c (fun q' => hb (by simp [q']))).trans (hk c o (fun q' => hb (by simp [q'])) (fun q' => hb (by simp [q'])) (fun q' => hb (by simp [q'])) (fun q' => hb (by simp [q'])) (fun q' => hb (by simp [q'])) q)) hf (Nat.le_refl _) new
    refine ⟨.ref s.heap.objs.size, _, I1, rfl, ⟨_, x, y, u, rfl, I.hok.fresh (Nat.le_refl _), rfl, fun l hl => by rw [I.list_inj hl hqx]; exact hx, fun l hl => by rw [I.list_inj hl hqy]; exact hy, fun l hl => by rw [I.list_inj hl hqz]; exact hu⟩, ⟨z'', ?_, ⟨x1, x2, x3, ?_⟩, ?_, ?_, ?_⟩, fun c hcm => ?_⟩
    · exact (sb.2 _ D.TIz).trans (hk _ _ D.TIz D.TITO D.TIi1 D.TIi2 D.TIi3 hTI)
    · exact (sb.2 _ D.TOz).trans TO'
    · exact t1.1.at fun o q => (sb.2 _ (Ne.symm D.zi1)).trans q
    · exact t2.1.at fun o q => (sb.2 _ (Ne.symm D.zi2)).trans q
    · exact t3.1.at fun o q => (sb.2 _ (Ne.symm D.zi3)).trans q
    · have hlt : c < s.heap.objs.size := by
        have e' : c = z ∨ c = TI ∨ c = TO ∨ c = i1 ∨ c = i2 ∨ c = i3 := by simpa using hcm
        rcases e' with q | q | q | q | q | q
        · rw [q]; exact hzl
        · rw [q]; exact Heap.lt_size hTI
        · rw [q]; exact Heap.lt_size hTO
        · rw [q]; obtain ⟨_, e1, _⟩ := h1; exact Heap.lt_size e1
        · rw [q]; obtain ⟨_, e2, _⟩ := h2; exact Heap.lt_size e2
        · rw [q]; obtain ⟨_, e3, _⟩ := h3; exact Heap.lt_size e3
      rw [upd_ne (Nat.ne_of_lt hlt)]
      exact (hf c hcm).1
  done := by
    intro X hP hw hK hc i pins s σ H E I hf st hg
    subst hP hw hK
    obtain ⟨hz, hTI, ⟨x0, y0, u0, hTO⟩, h1, h2, h3⟩ := st
    obtain ⟨xs, ys, zs, hqx, hqy, hqz, le1, le2, le3, hend⟩ := hg
    obtain ⟨its, rv, p, _⟩ := I.list hqx
    obtain ⟨its2, rv2, p2, _⟩ := I.list hqy
    obtain ⟨its3, rv3, p3, _⟩ := I.list hqz
    have l1 := rv.length
    have l2 := rv2.length
    have l3 := rv3.length
    have hh : X.A.in1.handled = none := I.ok.hd hc
    have D1 := Draws.list (prog := X.prog) (w := X.w) hh i1 a na its.toArray
    have D2 := Draws.list (prog := X.prog) (w := X.w) hh i2 b nb its2.toArray
    have D3 := Draws.list (prog := X.prog) (w := X.w) hh i3 c nc its3.toArray
    exact wpAny_pyNext_zipD3_end D D1 D2 D3 hz hTI hTO ⟨h1, p.isList⟩ ⟨h2, p2.isList⟩ ⟨h3, p3.isList⟩ (i := i) (by simp; omega) (by simp; omega) (by simp; omega) (by simp; omega) fun h' tk hk => ⟨rfl, I.turnedL (t' := tk) (ch := [z, TI, TO, i1, i2, i3]) (fun c o hb q =>
      hk c o (fun q' => hb (by simp [q'])) (fun q' => hb (by simp [q'])) (fun q' => hb (by simp [q'])) (fun q' => hb (by simp [q'])) (fun q' => hb (by simp [q'])) q) hf⟩
  self := fun A i s Q E st h => wpAny_pyIter_zip st.1 h
def iZip3 (K : PySem.W.Frag) (ta : TA) : TI := fun σ H R => ta σ H fun vs H1 => ∃ a b c xs ys zs, vs = [.ref a, .ref b, .ref c] ∧ SqL K H1 a xs ∧ SqL K H1 b ys ∧ SqL K H1 c zs ∧ R (Itz3 K a b c) H1
theorem pi_zip3 {X : Cx} {e e2 e3 : Expr} {ta : TA} {p pos tpos : Pos} {elts : List Expr} {kk : Nat} (hg : Gl X "zip") (hm : X.mg "zip" = none) (ha : PA X [e, e2, e3] ta)
    (hs : starEach [e, e2, e3] X.env = (false, eval e X.env) :: starEach [e2, e3] X.env := by rfl) (hpl : (backTo pos (starEach [e2, e3] X.env)).any (·.1) = false := by rfl) :
    PI X (.Tuple elts kk tpos) (.Call (.Name "zip" p) [e, e2, e3] [] pos) (iZip3 X.K ta) := by
  refine ⟨fun pins s σ H R I h => ?_⟩
  refine Call_ (ld_blt I hg hm PyProof.Rows.boot_zip (PyProof.Rows.callWith_type1 (thn (ha.run pos pins s σ H _ I h) fun us s1 ⟨vs, H1, I1, r1, q1⟩ => ?_) hs hpl))
  obtain ⟨a, b, c, xs, ys, zs, ex, hqx, hqy, hqz, q⟩ := q1
  subst ex
  cases r1 with
  | cons r rr =>
    cases rr with
    | cons r' rr =>
      cases rr with
      | cons r'' rr =>
      cases rr
      cases r
      cases r'
      cases r''
      obtain ⟨its, rv, p1, _⟩ := I1.list hqx
      obtain ⟨its2, rv2, p2, _⟩ := I1.list hqy
      obtain ⟨its3, rv3, p3, _⟩ := I1.list hqz
      have la : a < s1.heap.objs.size := p1.lt
      have lb : b < s1.heap.objs.size := p2.lt
      have lc : c < s1.heap.objs.size := p3.lt
      refine zip_begins3 (begins_list a its.toArray) (begins_list b its2.toArray) (begins_list c its3.toArray) p1.isList p2.isList p3.isList fun h' hz hTI hTO h1 h2 h3 hsz hk => wpAny_pyIter_zip hz ?_
      have I2 : Inv X pins σ H1 { s1 with heap := h' } := I1.kept (t' := s1.toks) hk
      have S := zip_sep3 (N := s1.heap.objs.size) (fp1 := [a]) (fp2 := [b]) (fp3 := [c]) (by simpa using la) (by simpa using lb) (by simpa using lc)
      refine ⟨s1.heap.objs.size + 5, [s1.heap.objs.size + 5, s1.heap.objs.size + 3, s1.heap.objs.size + 4, s1.heap.objs.size, s1.heap.objs.size + 1, s1.heap.objs.size + 2], _, _, H1, rfl, I2, turn_zip3 S (Nat.ne_of_lt la) (Nat.ne_of_lt (Nat.lt_of_lt_of_le lb (Nat.le_add_right _ _))) (Nat.ne_of_lt (Nat.lt_of_lt_of_le lc (Nat.le_add_right _ _))), ⟨hz, hTI, ⟨_, _, _, hTO⟩, ⟨_, h1, rfl, rfl⟩, ⟨_, h2, rfl, rfl⟩, ⟨_, h3, rfl, rfl⟩⟩, fun c hcm => ?_, q⟩
      have e' : c = s1.heap.objs.size + 5 ∨ c = s1.heap.objs.size + 3 ∨ c = s1.heap.objs.size + 4 ∨ c = s1.heap.objs.size ∨ c = s1.heap.objs.size + 1 ∨ c = s1.heap.objs.size + 2 := by simpa using hcm
      have hle : s1.heap.objs.size ≤ c := by
        rcases e' with z | z | z | z | z | z
        · rw [z]; exact Nat.le_add_right _ _
        · rw [z]; exact Nat.le_add_right _ _
        · rw [z]; exact Nat.le_add_right _ _
        · rw [z]; exact Nat.le_refl _
        · rw [z]; exact Nat.le_add_right _ _
        · rw [z]; exact Nat.le_add_right _ _
      exact I1.fpOk hle (I1.hok.fresh hle)
def zipD3 (xs ys zs : List D) : List D := ((xs.zip ys).zip zs).map fun p => .tup [p.1.1, p.1.2, p.2]
def mIZip3 (ma : MA) : MI := fun ρ M k X => ma ρ M (fun ds M1 => match ds with
  | [.ref l, .ref m, .ref n] => match M1[l]?, M1[m]?, M1[n]? with
    | some (.lst xs), some (.lst ys), some (.lst zs) => k (zipD3 xs ys zs) (fun M => M[l]? = some (.lst xs) ∧ M[m]? = some (.lst ys) ∧ M[n]? = some (.lst zs)) M1
    | _, _, _ => False
  | _ => False) X
theorem zipD3_get {xs ys zs : List D} {i : Nat} {d : D} (h : (zipD3 xs ys zs)[i]? = some d) : ∃ a b c, xs[i]? = some a ∧ ys[i]? = some b ∧ zs[i]? = some c ∧ d = .tup [a, b, c] := by
  simp only [zipD3, List.getElem?_map] at h
  cases e : ((xs.zip ys).zip zs)[i]? with
  | none => rw [e] at h; cases h
  | some p =>
    rw [e] at h
    obtain ⟨h1, h2⟩ := List.getElem?_zip_eq_some.mp e
    obtain ⟨h3, h4⟩ := List.getElem?_zip_eq_some.mp h1
    simp at h
    exact ⟨p.1.1, p.1.2, p.2, h3, h4, h2, h.symm⟩
theorem new_trip {K : PySem.W.Frag} {as : List Addr} {H : Hp} {M : Mem} {T : Addr} {d1 d2 d3 : D} {v1 v2 v3 : V} (r : RepM K as H M) (hT : H T = none) (r1 : Rel K as H d1 v1) (r2 : Rel K as H d2 v2) (r3 : Rel K as H d3 v3) :
    Ext K as H as (upd H T (.tup [v1, v2, v3])) ∧ RepM K as (upd H T (.tup [v1, v2, v3])) M ∧ Rel K as (upd H T (.tup [v1, v2, v3])) (.tup [d1, d2, d3]) (.ref T) :=
  ⟨ext_new hT, r.laid hT, .tup Tq.new (.cons (r1.up (ext_new hT)) (.cons (r2.up (ext_new hT)) (.cons (r3.up (ext_new hT)) .nil)))⟩
theorem qi_zip3 {X : Cx} {W : WX} {e e2 e3 : Expr} {ma : MA} {p tpos pos : Pos} {elts : List Expr} {kk : Nat} (hg : Gl X "zip") (hm : X.mg "zip" = none) (ha : QA X W [e, e2, e3] ma)
    (hs : starEach [e, e2, e3] X.env = (false, eval e X.env) :: starEach [e2, e3] X.env := by rfl) (hpl : (backTo pos (starEach [e2, e3] X.env)).any (·.1) = false := by rfl) : QI X W (.Tuple elts kk tpos) (.Call (.Name "zip" p) [e, e2, e3] [] pos) (mIZip3 ma) :=
  PIi (pi_zip3 hg hm ha hs hpl) fun σ H R ⟨as, M, ρ, k, X', r, rs, h, hq, hx⟩ => by
    refine lfA_bind r rs h hx fun ds M1 as1 H1 vs h1 e1 r1 rs1 rv => ?_
    split at h1
    · cases rv with
      | cons rx rv =>
      cases rv with
      | cons ry rv =>
      cases rv with
      | cons rz rv =>
      cases rv
      cases rx with
      | ref hl =>
      cases ry with
      | ref hm' =>
      cases rz with
      | ref hn =>
          split at h1
          · rename_i xs ys zs ex ey ez
            obtain ⟨as_, h2, h3⟩ := at_lst r1 hl ex
            obtain ⟨bs, h4, h5⟩ := at_lst r1 hm' ey
            obtain ⟨cs, h4', h5'⟩ := at_lst r1 hn ez
            refine ⟨_, _, _, as_, bs, cs, rfl, SqL.of h2, SqL.of h4, SqL.of h4', hq _ _ M1 as1 H1 _ h1 e1 r1 fun as' H' M' i e r g => ?_⟩
            obtain ⟨us, h6, h7⟩ := at_lst r (pre_get e.pre hl) g.1
            obtain ⟨ws, h8, h9⟩ := at_lst r (pre_get e.pre hm') g.2.1
            obtain ⟨ts, h10, h11⟩ := at_lst r (pre_get e.pre hn) g.2.2
            refine ⟨fun hi => ⟨us, ws, ts, SqL.of h6, SqL.of h8, SqL.of h10, ?_⟩, fun d hd => ?_⟩
            · simp [zipD3] at hi
              rw [← h7.len, ← h9.len, ← h11.len]; omega
            · obtain ⟨a, b, c, ha, hb, hc, rfl⟩ := zipD3_get hd
              obtain ⟨va, hva, ra⟩ := h7.get ha
              obtain ⟨vb, hvb, rb⟩ := h9.get hb
              obtain ⟨vc, hvc, rc⟩ := h11.get hc
              refine ⟨⟨us, ws, ts, va, vb, vc, SqL.of h6, SqL.of h8, SqL.of h10, hva, hvb, hvc⟩, fun x H2 ⟨T, y1, y2, y3, ex, hT, eH, z1, z2, z3⟩ => ?_⟩
              have e3 := z1 us (SqL.of h6)
              have e4 := z2 ws (SqL.of h8)
              have e5 := z3 ts (SqL.of h10)
              rw [hva] at e3; rw [hvb] at e4; rw [hvc] at e5; cases e3; cases e4; cases e5
              subst ex eH
              exact new_trip r hT ra rb rc
          · exact h1.elim
    · exact h1.elim
end MV
namespace MV
open PySem PySem.Spec PyProof.Rows L2
theorem list_extend_tup (l : Addr) (items : Array Value) (n : Nat) (b : Addr) (items2 : Array Value) (n2 : Nat) (dd : Option Addr) (sl : Array (Option Value)) (hs0 : ¬(!items.isEmpty && Builtin.List.listTooLong (items.size + items2.size)) = true) (hs1 : items.size ≤ sizeLine) (hs2 : items.size + items2.size ≤ sizeLine + 1) :
    Meets (Builtin.«list.extend» ⟨[.ref l, .ref b], []⟩) (fun _ R s => s.heap.get? l = some { cls := .type "list", dict := none, data := .seq items n, slots := #[] } ∧ s.heap.get? b = some { cls := .type "tuple", dict := dd, data := .seq items2 n2, slots := sl } ∧ R (.ok (.ret Value.none)) { s with heap := s.heap.update l (Obj.mapSeq fun x => x ++ items2), toks := s.toks }) :=
  .of_wp fun prog w A R s h => by
    obtain ⟨hp, g, d, tk, os⟩ := s; obtain ⟨hl, hb, h⟩ := h; have f1 := AutoSeq1.idx_int; have f2 := AutoSeq1.sub_tuple_tuple; have f3 := AutoSeq1.sub_list_list; have f4 := AutoSeq1.sub_tuple_list; have f5 := AutoSeq1.sub_list_tuple;
    have hz' : (items ++ items2).size ≤ sizeLine + 1 := by rw [Array.size_append]; exact hs2
    wp_walk using (wpAny_updateSeq hl rfl (hz := hs1) (_hz' := hz')), wpAny_loadPart' hl, wpAny_loadPart' hb; exact ⟨_, rfl, h⟩
def rExtendT (K : PySem.W.Frag) : V → List V → Hp → VK → Prop := fun x vs H Q => ∃ l b xs zs, x = .ref l ∧ vs = [.ref b] ∧ H l = some (.lst xs) ∧ SqT K H b zs ∧ xs.length + zs.length ≤ sizeLine ∧ Q .non (upd H l (.lst (xs ++ zs)))
section
variable {X : Cx}
theorem mt_extendT : MtM X "list.extend" (rExtendT X.K) := by
  intro pins s σ H x vs v us Q I rx rv h
  obtain ⟨l, b, xs, zs, rfl, rfl, hH, hB, hz, q⟩ := h
  cases rx
  obtain ⟨u, rfl, ru⟩ := rv.one
  cases ru
  obtain ⟨z, its, n, r, hl, e⟩ := I.lstM hH
  obtain ⟨its2, r2, ⟨⟨cls, dd, dat, sl⟩, e2, ec, n2, ed⟩, z2⟩ := I.tuple hB
  dsimp only at ec ed
  subst ec ed
  have hl2 := r2.length
  have hsz : its.toArray.size + its2.toArray.size ≤ sizeLine := by rw [List.size_toArray, List.size_toArray]; omega
  have hlong : ¬ (!its.toArray.isEmpty && Builtin.List.listTooLong (its.toArray.size + its2.toArray.size)) = true := by
    rw [notLongL hsz, Bool.and_false]
    exact Bool.false_ne_true
  refine call_meets F.slot_list_extend ⟨_, e, rfl⟩ F.entry_list_extend (F.args_list_extend_2 _ _)
    (list_extend_tup l its.toArray n b its2.toArray n2 dd sl hlong (by rw [List.size_toArray]; omega) (by omega)) ⟨e, e2, ?_⟩
  refine ⟨.non, _, I.lset (its' := its ++ its2) hH e (by simp) (r.append r2) ?_, rfl, q⟩
  rw [List.length_append]
  omega
end
def omExtendT : OM := fun x ds M Q => match x, ds with
  | .ref n, [.tup k] => match M[n]? with
    | some (.lst l) => l.length + k.length ≤ 16000000 ∧ Q .non (M.set n (.lst (l ++ k)))
    | _ => False
  | _, _ => False
theorem sim_extendT {K : PySem.W.Frag} : SimM K (rExtendT K) omExtendT := fun as H M dx ds x vs k Q rp rx rv h hk => by
  unfold omExtendT at h
  split at h
  · obtain ⟨v, rfl, r1⟩ := rv.one
    cases rx with
    | ref hn =>
      cases r1 with
      | tup hs hl =>
        split at h
        · rename_i l e1
          obtain ⟨xs, g1, g2⟩ := at_lst rp hn e1
          obtain ⟨e7, r7⟩ := put_lst rp hn g1 (g2.app hl)
          exact ⟨_, _, xs, _, rfl, rfl, g1, hs.1, by rw [← g2.len, ← hl.len]; exact Nat.le_trans h.1 (by decide), hk _ _ h.2 as _ _ e7 r7 .non⟩
        · exact h.elim
  · exact h.elim
theorem o_extendT {n : Nat} {l k : List D} {M : Mem} {Q : DK} (e : M[n]? = some (.lst l)) (hz : l.length + k.length ≤ 16000000) (h : Q .non (M.set n (.lst (l ++ k)))) : omExtendT (.ref n) [.tup k] M Q := by
  unfold omExtendT
  dsimp only
  rw [e]
  exact ⟨hz, h⟩
end MV
namespace MV
open PySem PySem.Spec PyProof.Rows L2
section
variable {X : Cx}
theorem ps_setDc {i : Nat} {y : Str} {py : Pos} {kx vx tg iter : Expr} {ifs : List Expr} {scope : Scope} {own : List (Str × Nat)} {pos spos : Pos} {wi : TI} {g : TG} {tt : TT} {tk tv : TE} (hc : X.calm = true) (hN : X.N.Nodup) (hy : X.N[i]? = some y) (hyl : X.env.scope.names.lookup y = some .local)
    (hsw : swapsWith (.DictComp kx vx [⟨tg, iter, ifs, 0⟩] scope pos) (some (.Name y py)) spos.line X.env = pure true) (hi : PI X tg iter wi) (ok : BlkOk X.N X.env.scope scope own)
    (hg : ∀ (s : Shared) (H : Hp) (C : Addr) (cl : List (Str × Addr)) (fp : List Addr), PG (X.blk s H scope (compEnvC scope cl C X.env) fp) tg g) (ht : ∀ (s : Shared) (H : Hp) (C : Addr) (cl : List (Str × Addr)) (fp : List Addr), PTs (X.blk s H scope (compEnvC scope cl C X.env) fp) ifs tt)
    (hk : ∀ (s : Shared) (H : Hp) (C : Addr) (cl : List (Str × Addr)) (fp : List Addr), PE (X.blk s H scope (compEnvC scope cl C X.env) fp) kx tk)
    (he : ∀ (s : Shared) (H : Hp) (C : Addr) (cl : List (Str × Addr)) (fp : List Addr), PE (X.blk s H scope (compEnvC scope cl C X.env) fp) vx tv) (hs : ∀ x, foldedSetIterable iter X.env x = pure x := by intro _; rfl) :
    PS X (.Assign [.Name y py] (.DictComp kx vx [⟨tg, iter, ifs, 0⟩] scope pos) spos) (tAsg (tDc wi g tt tk tv (own.map (·.2))) (gName i)) := by
  refine ⟨fun pins s σ H D I h => ?_⟩
  rw [exec_Assign_Name_used _ _ _ _ hsw]
  refine wpAny_bind (wpAny_standAt (wpAny_bind ?_))
  show wpAny _ X.A (do let _ ← comprehension (.DictComp kx vx [⟨tg, iter, ifs, 0⟩] scope pos) scope X.env (firstIterPos [⟨tg, iter, ifs, 0⟩] pos) newDict false (eval iter X.env) (some (assign (.Name y py) X.env))) _ _ s
  have h : tDc wi g tt tk tv (own.map (·.2)) σ H (fun x H1 => gName i x σ H1 D.nx) := h
  refine wpAny_bind (thn (dc_core (Qf := fun _ s' => SP X pins D .next s') hc hN I hi ok hg ht hk he hs h fun L C s' m H' I' q hn f => ?_) fun _ s' hq => wpAny_pure (wpAny_pure hq))
  show wpAny _ _ (assign (.Name y py) X.env (.ref L)) _ _ _
  refine wpAny_assign_Name (store_ok2 (v := V.ref L) I' hN hy (.inl hyl) rfl (fun s2 I2 ⟨a, sb, ha⟩ => ?_) (.inr hyl))
  obtain ⟨f0, f1, f2, f3, f4, f5⟩ := f
  have haC : C ≠ a := by
    rcases ha with z | z
    · rw [z]; exact f1
    · exact fun e => f4 y a z e.symm
  refine ⟨m, hn.sameBut sb haC, fun h3 sb3 => ?_⟩
  exact ⟨_, H', I2.turned (t' := s2.toks) (fun b o hb e => (sb3.2 b hb).trans e) f0 f1 f3 f4 f5, q⟩
end
section
variable {X : Cx} {W : WX} {kx vx tg iter : Expr} {ifs : List Expr} {scope : Scope} {own : List (Str × Nat)} {pos spos : Pos} {mi : MI} {T : Tg} {tt : MT} {mk mv : ME}
theorem qs_setDc {i : Nat} {y : Str} {py : Pos} (hc : X.calm = true) (hN : X.N.Nodup) (hy : X.N[i]? = some y) (hyl : X.env.scope.names.lookup y = some .local)
    (hsw : swapsWith (.DictComp kx vx [⟨tg, iter, ifs, 0⟩] scope pos) (some (.Name y py)) spos.line X.env = pure true) (hi : QI X W tg iter mi) (ok : BlkOk X.N X.env.scope scope own)
    (hg : ∀ (s : Shared) (H : Hp) (C : Addr) (cl : List (Str × Addr)) (fp : List Addr), QG (X.blk s H scope (compEnvC scope cl C X.env) fp) tg T) (ht : ∀ (s : Shared) (H : Hp) (C : Addr) (cl : List (Str × Addr)) (fp : List Addr), QTs (X.blk s H scope (compEnvC scope cl C X.env) fp) W0 ifs tt)
    (hk : ∀ (s : Shared) (H : Hp) (C : Addr) (cl : List (Str × Addr)) (fp : List Addr), QE (X.blk s H scope (compEnvC scope cl C X.env) fp) W0 kx mk)
    (he : ∀ (s : Shared) (H : Hp) (C : Addr) (cl : List (Str × Addr)) (fp : List Addr), QE (X.blk s H scope (compEnvC scope cl C X.env) fp) W0 vx mv) (hT : ∀ i ∈ T.slots, i ∈ own.map (·.2)) (hs : ∀ x, foldedSetIterable iter X.env x = pure x := by intro _; rfl) :
    QS X W (.Assign [.Name y py] (.DictComp kx vx [⟨tg, iter, ifs, 0⟩] scope pos) spos) (mSet i (mDc mi T tt mk mv (own.map (·.2)))) := PSi (ps_setDc (g := T.rd X.K) (tt := lfT X.K W0 tt) (tk := lf X.K W0 mk) (tv := lf X.K W0 mv) hc hN hy hyl hsw hi ok hg ht hk he hs) fun D σ H ⟨as, M, ρ, E, r, rs, h, hE⟩ => by
  have h : mDc mi T tt mk mv (own.map (·.2)) ρ M (fun d M1 => E.nx (ρ.set i (some d)) M1) (fun x M1 => E.ex x ρ M1) := h
  exact lf_dc hT (lf_bind (k := fun d M1 => E.nx (ρ.set i (some d)) M1) (X' := fun x M1 => E.ex x ρ M1) r rs h (exS hE rs) fun d M1 as1 H1 v h1 e1 r1 rs1 rv => hE.nx _ _ h1 as1 H1 _ e1 r1 (rs1.set rv))
theorem sw_trueD {gs : List Comprehension} {py : Pos} {y : Str} {l : Nat} {env : Env} (hk : env.scope.kind = .function) (hy : env.scope.names.lookup y = some .local) (hl : (py.line == pos.line) = true)
    (ha : (scope.names.any fun (n, k) => n == y && (k == .local || k == .cell)) = false) : swapsWith (.DictComp kx vx gs scope pos) (some (.Name y py)) l env = pure true := by
  have ky : env.kindOf y = some .local := hy
  have hb : env.blockKind = .function := by unfold Env.blockKind; rw [hk]; rfl
  unfold swapsWith
  simp only [hb, ky, ha, Expr.pos, hl]
  rfl
end
end MV
namespace MV
open PySem PySem.Spec PyProof.Rows L2
section
variable {X : Cx} {o : Expr} {f : Str} {pos : Pos}
def gFld (K : PySem.W.Frag) (to : TE) (f : Str) : TG := fun v σ H Q => to σ H fun x H1 => ∃ a C dx fs, x = .ref a ∧ H1 a = some (.ins C dx fs) ∧ Cls K C ∧ NoAttr K C f ∧ fs.length < 1000 ∧ Q σ (upd H1 a (.ins C dx (putF f v fs)))
theorem pg_fld {to : TE} (ho : PE X o to) : PG X (.Attribute o f pos) (gFld X.K to f) := by
  refine ⟨fun pins s σ H v u Q I r h => ?_⟩
  refine PySem.W.kas_attr (thn (ho.run pins s σ H _ I h) fun ov s1 ⟨x, H1, I1, rx, a, C, dx, fs, ex, ea, c, n, l, q⟩ => ?_)
  subst ex
  obtain rfl : ov = Value.ref a := rx
  exact setattr_ok I1 ea c n l r fun s3 I3 => ⟨σ, _, I3, q⟩
def gFlds (K : PySem.W.Frag) (i : Nat) : List Str → TGs
  | [] => gNil
  | f :: r => gCons (gFld K (tVar i) f) (gFlds K i r)
theorem qgf_nil {i : Nat} : PGs X [] (gFlds X.K i []) := pgs_nil
theorem qgf_cons (i : Nat) {x : Str} {pos' : Pos} {es : List Expr} {r : List Str} (h : PGs X es (gFlds X.K i r)) (hN : X.N[i]? = some x := by rfl) (hv : Vis X.env.scope x := by first | exact Or.inl rfl | exact Or.inr (Or.inl rfl) | exact Or.inr (Or.inr rfl)) (hd : (x == ("__debug__" : Str)) = false := by decide) (hcd : (x == ("__classdict__" : Str)) = false := by decide)
    (hs : (assignEach (.Attribute (.Name x pos') f pos :: es) X.env).map (·.2) = assign (.Attribute (.Name x pos') f pos) X.env :: (assignEach es X.env).map (·.2) := by rfl) : PGs X (.Attribute (.Name x pos') f pos :: es) (gFlds X.K i (f :: r)) :=
  pgs_cons (pg_fld (pe_var hN hv hd hcd)) h hs
end
def putFs (cs : List Str) (n : Nat) : List Str → List D → Mem → (Mem → Prop) → Prop
  | [], [], M, k => k M
  | f :: r, d :: ds, M, k => match M[n]? with
    | some (.ins c fs) => c ∈ cs ∧ fs.length < 100 ∧ putFs cs n r ds (M.set n (.ins c (putD f d fs))) k
    | _ => False
  | _, _, _, _ => False
def mAsgF (cs : List Str) (i : Nat) (fns : List Str) (me : ME) : MS := fun E ρ M => me ρ M (fun d M1 => match d with
  | .tup ds => match ρ[i]? with
    | some (some (.ref n)) => ds.length = fns.length ∧ putFs cs n fns ds M1 fun M2 => E.nx ρ M2
    | _ => False
  | _ => False) (fun x M1 => E.ex x ρ M1)
theorem putFs_sim {K : PySem.W.Frag} {cs all : List Str} (c : ClsN K cs all) {i n : Nat} {ρ : Ev} {N : Mem → Prop} {Q : L2.St → Hp → Prop} {as : List Addr} {σ : L2.St} : ∀ (fns : List Str) (ds : List D) (vs : List V) (H : Hp) (M : Mem), (∀ f ∈ fns, f ∈ all) → RepM K as H M → RelS K as H ρ σ → RelL K as H ds vs → ρ[i]? = some (some (.ref n)) →
    putFs cs n fns ds M N → (∀ M' H', N M' → Ext K as H as H' → RepM K as H' M' → RelS K as H' ρ σ → Q σ H') → gFlds K i fns vs σ H Q
  | [], [], vs, H, M, hf, r, rs, rl, hi, h, hq => by
    cases rl
    exact ⟨rfl, hq M H h .refl r rs⟩
  | f :: fns, d :: ds, vs, H, M, hf, r, rs, rl, hi, h, hq => by
    cases rl with
    | cons rd rr =>
      rename_i v vs
      obtain ⟨w, e2, rw'⟩ := rs.2 i _ hi
      cases rw' with
      | ref hn =>
        rename_i a
        unfold putFs at h
        split at h
        · rename_i cc fs em
          obtain ⟨hc, hl, h⟩ := h
          obtain ⟨dx, ys, g1, g2⟩ := at_ins r hn em
          refine ⟨v, vs, rfl, .ref a, e2, a, He.ga K cc, dx, ys, rfl, g1, c.cls cc hc, c.no cc hc f (hf f (by simp)), by rw [← g2.len]; omega, ?_⟩
          have e3 := ext_put (u := .ins (He.ga K cc) dx (L2.putF f v ys)) r hn (nfrz_ins g1)
          have r3 : RepM K as _ (M.set n (.ins cc (putD f d fs))) := r.put hn (nfrz_ins g1) ⟨dx, _, upd_same, (g2.putF f rd).up e3⟩
          exact putFs_sim c fns ds vs _ _ (fun g hg => hf g (List.mem_cons_of_mem _ hg)) r3 (rs.up e3) (rr.up e3) hi h fun M' H' a b e f => hq M' H' a (e3.trans b) e f
        · exact h.elim
  | [], _ :: _, _, _, _, _, _, _, _, _, h, _ => h.elim
  | _ :: _, [], _, _, _, _, _, _, _, _, h, _ => h.elim
section
variable {X : Cx} {W : WX} {e : Expr} {es : List Expr} {me : ME} {pos pos' : Pos} {cs all fns : List Str} {i : Nat} {k : Nat}
theorem qs_asgF (c : ClsN X.K cs all) (hf : ∀ f ∈ fns, f ∈ all) (hc : X.calm = true ∨ HotK X) (he : QE X W e me) (hg : PGs X es (gFlds X.K i fns)) (hn : (assignEach es X.env).length = fns.length := by rfl) (hst : (assignEach es X.env).findIdx? (·.1) = none := by rfl)
    (hs : swapsWithSole [.Tuple es k pos'] e pos.line X.env = pure false := by rfl) (hw : swappedStores [.Tuple es k pos'] e X.env = pure none := by rfl)
    (h1 : (assignEach [.Tuple es k pos'] X.env).map (·.2) = [assign (.Tuple es k pos') X.env] := by rfl) : QS X W (.Assign [.Tuple es k pos'] e pos) (mAsgF cs i fns me) := PSi (ps_asg he (pg_tupC hc hg hn hst) hs hw h1) fun D σ H ⟨as, M, ρ, E, r, rs, h, hE⟩ => by
  refine lf_bind r rs h (exS hE rs) fun d M1 as1 H1 v h1 e1 r1 rs1 rv => ?_
  cases rv <;> first | exact h1.elim | skip
  rename_i a xs ds hq hl
  dsimp only at h1
  split at h1
  · rename_i n hi
    obtain ⟨hlen, h1⟩ := h1
    exact ⟨a, xs, rfl, hq.1, by rw [← hl.len]; exact hlen, putFs_sim c fns ds xs H1 M1 hf r1 rs1 hl hi h1 fun M' H' a b e f => hE.nx _ _ a as1 H' σ (e1.trans b) e f⟩
  · exact h1.elim
end
end MV
namespace MV
open PySem PySem.Spec PyProof.Rows L2
def bts : List String := ["NoneType", "bool", "int", "str", "tuple", "list", "dict"]
def ownTB (K : PySem.W.Frag) (d : Str) : Bool := decide (PySem.W.findIn K (.ref (He.ga K d)) "__class__" = some (some (.builtin "object.__class__"))) &&
  (decide (PySem.W.specialIn K (.builtin "object.__class__") "__get__" = some (some (.builtin "getset_descriptor.__get__"))) && (decide (PySem.W.takesIn K (.builtin "object.__class__") = some true) && decide (PySem.W.mroIn K (He.ga K d) (.type "object") = some true)))
inductive TyK where
  | b (t : String)
  | c (d : Str)
def TyK.v (K : PySem.W.Frag) : TyK → Value
  | .b t => .type t
  | .c d => .ref (He.ga K d)
def TyK.ok (cs : List Str) : TyK → Prop
  | .b t => t ∈ bts
  | .c d => d ∈ cs
def TyK.is (c : Str) : TyK → Bool
  | .b _ => false
  | .c d => decide (d = c)
structure OwnC (K : PySem.W.Frag) (cs : List Str) (c : Str) : Prop where
  kit : ∀ t : TyK, t.ok cs → PySem.W.kitOne K (t.v K) (.ref (He.ga K c)) = some (t.is c)
  nf : ∀ t : TyK, t.ok cs → PySem.W.notFirst K (He.ga K c) (t.v K) = true
  ot : ∀ d ∈ cs, ownTB K d = true
section
variable {X : Cx} {W : WX} {c : Str} {k : Nat} {ps : List Str} {w : WF} {gD : List D → List D → List D} {f : Addr} {gV : List V → List V → List V}
end
end MV
namespace MV
open PySem PySem.Spec PyProof.Rows L2
section
variable {X : Cx} {pins : List (Addr × Obj)} {σ : L2.St} {H : Hp} {s : Shared}
end
section
variable {X : Cx}
end
section
variable {P : Program} {w : World} {K : PySem.W.Frag} {d : Addr} {o : Obj} {es : Array DictEntry} {ep : Nat}
end
end MV
namespace MV
open PySem PySem.Spec PyProof.Rows L2
section
variable {K : PySem.W.Frag} {as : List Addr} {H : Hp} {M : Mem}
end
section
variable {X : Cx} {W : WX} {e : Expr} {me : ME} {pos : Pos}
end
section
variable {X : Cx} {W : WX}
end
section
variable {X : Cx} {W : WX} {e : Expr} {me : ME}
end
section
variable {K : PySem.W.Frag} {as : List Addr} {H : Hp} {M : Mem}
end
section
variable {X : Cx} {W : WX} {kx vx tg iter : Expr} {ifs : List Expr} {scope : Scope} {own : List (Str × Nat)} {pos spos : Pos} {mi : MI} {T : Tg} {tt : MT} {mk mv : ME}
end
section
variable {X : Cx}
end
section
variable {X : Cx} {W : WX} {kx vx tg iter : Expr} {ifs : List Expr} {scope : Scope} {own : List (Str × Nat)} {pos spos : Pos} {mi : MI} {T : Tg} {tt : MT} {mk mv : ME}
end
section
variable {X : Cx} {W : WX} {st : Stmt} {e : Expr}
end
end MV
namespace MV
open PySem PySem.Spec PyProof.Rows L2
end MV
namespace MV
open PySem PySem.Spec PyProof.Rows L2
section
variable {X : Cx} {W : WX} {e o1 i1 o2 i2 : Expr} {me mo1 mi1 mo2 mi2 : ME} {pos p0 p1 p2 : Pos} {k : Nat}
end
end MV
namespace MV
open PySem PySem.Spec PyProof.Rows L2
section
variable {prog : Program} {w : World} {A : Around} {E : Value → Shared → Prop} {s : Shared}
end
section
variable {X : Cx}
end
section
variable {X : Cx} {W : WX} {e : Expr} {me : ME} {pos : Pos}
end
end MV
namespace MV
open PySem PySem.Spec PyProof.Rows L2
theorem DpAll.len {K : PySem.W.Frag} {H : Hp} : ∀ {xs : List V} {ds : List PyData}, DpAll K H xs ds → xs.length = ds.length
  | _, _, .nil => rfl
  | _, _, .cons _ r => by simp only [List.length_cons, DpAll.len r]
end MV
namespace MV
open PySem PySem.Spec PyProof.Rows L2
end MV
namespace MV
open PySem PySem.Spec PyProof.Rows L2
section
variable {M : Model} {prog : Program} {w : World} {A : Around} {E : Value → Shared → Prop} {s : Shared} {K : PySem.W.Frag} {x C L f : Addr} {h₀ : Heap} {mm : Str → Option Value} {ox : Obj} {od : Option Obj} {b tb : Value}
end
structure OwnN (K : PySem.W.Frag) (c : Str) : Prop where
  ne : PySem.W.findIn K (.ref (He.ga K c)) "__ne__" = some (some (.builtin "object.__ne__"))
  mro : PySem.W.mroIn K (He.ga K c) (.type "object") = some true
section
variable {X : Cx} {W : WX} {c : Str} {k : Nat} {ps : List Str} {w : WF} {gD : List D → List D → List D} {f : Addr} {gV : List V → List V → List V}
end
end MV
namespace MV
open PySem PySem.Spec PyProof.Rows L2
structure FmtO (K : PySem.W.Frag) (c : Str) : Prop where
  fm : PySem.W.findIn K (.ref (He.ga K c)) "__format__" = some (some (.builtin "object.__format__"))
  mro : PySem.W.mroIn K (He.ga K c) (.type "object") = some true
section
variable {X : Cx} {W : WX} {c x : Str} {e : Expr} {es : List Expr} {p pos : Pos} {ma : MA} {me : ME} {k : Nat} {ps : List Str} {w : WF} {gD : List D → List D → List D} {f : Addr} {gV : List V → List V → List V}
end
end MV
namespace MV
open PySem PySem.Spec PyProof.Rows L2
def mNever : MS := fun _ _ _ => False
theorem qss_never {X : Cx} {W : WX} {sts : List Stmt} : QSs X W sts mNever := ⟨fun pins s σ H D I h => by
  obtain ⟨_, _, _, _, _, _, h, _⟩ := h
  exact h.elim⟩
end MV
namespace MV
open PySem PySem.Spec PyProof.Rows L2
section
variable {X : Cx} {W : WX} {e : Expr} {es : List Expr} {me : ME} {l : Tgs} {pos pos' p : Pos} {k n : Nat}
end
/-- the table at a: the texts and what stands there -/
structure TabK (K : PySem.W.Frag) (w : World) (a : Addr) (tab : List (Str × D)) : Prop where
  d : He.dicW K a = some (He.keysIn w.params (tab.map (·.1)))
  v : ∀ p ∈ tab, ∃ u, PySem.W.nsIn K a p.1 = some (some u) ∧ ∀ as H, ∃ v, Rel K as H p.2 v ∧ RelV v u
theorem find_none {P : Params} {es : List DictEntry} : ∀ {ks : List Str}, es.map He.keyOf = He.keysIn P ks → ∀ {z : Str}, z ∉ ks → es.find? (fun e => Value.isStrOf z e.key) = none := by
  induction es with
  | nil => intros; rfl
  | cons e es ih =>
    intro ks h z hz
    cases ks with
    | nil => cases h
    | cons k ks =>
      have h' : He.keyOf e :: es.map He.keyOf = some (k, PyData.keyHash P k) :: He.keysIn P ks := h
      injection h' with h1 h2
      rw [List.find?_cons]
      have : Value.isStrOf z e.key = false := by
        unfold He.keyOf at h1
        split at h1
        · rename_i x t q
          have := (Prod.mk.inj (Option.some.inj h1)).1
          subst this
          rw [q]
          have hne : z ≠ x := fun h => hz (by simp [h])
          simp [Value.isStrOf, hne]
          try exact fun h => hne h.symm
        · cases h1
      rw [this]
      exact ih h2 fun m => hz (by simp [m])
section
variable {X : Cx} {W : WX} {x : Str} {a : Addr} {tab : List (Str × D)} {e f : Expr} {mk md : ME} {p apos cpos : Pos}
inductive TabF (P : Program) (w : World) (K : PySem.W.Frag) (mg : Str → Option Value) (base : Heap) (k n : Nat) : List (Str × WF) → Prop
  | nil : TabF P w K mg base k n []
  | cons {x : Str} {ps : List Str} {W : WF} {j : Nat} {r : List (Str × WF)} (F : Fn P w K mg base j (He.ga K x) ps W n [] (fun ds _ => ds)) (hj : j ≤ k) (hl : ps.length = n) (h : TabF P w K mg base k n r) : TabF P w K mg base k n ((x, W) :: r)
theorem TabF.at_ {P : Program} {w : World} {K : PySem.W.Frag} {mg : Str → Option Value} {base : Heap} {k n : Nat} {t : List (Str × WF)} (h : TabF P w K mg base k n t) {x : Str} {W : WF} (e : t.lookup x = some W) : ∃ ps j, Fn P w K mg base j (He.ga K x) ps W n [] (fun ds _ => ds) ∧ j ≤ k ∧ ps.length = n := by
  induction h with
  | nil => cases e
  | @cons y ps V j r F hj hl h ih =>
    rw [List.lookup_cons] at e
    cases q : (x == y) with
    | true =>
      rw [q] at e
      cases e
      have : x = y := by simpa using q
      subst this
      exact ⟨ps, j, F, hj, hl⟩
    | false => rw [q] at e; exact ih e
end
abbrev AlF : Type := He.AlD × List (Option (List (Option (Str × Int)))) × Bool
def obsKF (fa : List He.Fa) (fn : List He.DefD) (ts : List (Str × List Str)) (ex : PySem.W.Frag → Bool) (K : PySem.W.Frag) : AlF := (He.obsD fa fn K, ts.map fun t => He.dicW K (He.ga K t.1), ex K)
structure SaysF (fa : List He.Fa) (fn : List He.DefD) (ts : List (Str × List Str)) (ex : PySem.W.Frag → Bool) (w : World) (K : PySem.W.Frag) : Prop where
  d : He.SaysD fa fn K
  tb : (ts.map fun t => He.dicW K (He.ga K t.1)) = ts.map fun t => some (He.keysIn w.params t.2)
  more : ex K = true
theorem SaysF.tab {fa : List He.Fa} {fn : List He.DefD} {ts : List (Str × List Str)} {ex : PySem.W.Frag → Bool} {w : World} {K : PySem.W.Frag} (c : SaysF fa fn ts ex w K) (i : Nat) {t : Str × List Str} (h : ts[i]? = some t := by rfl) : He.dicW K (He.ga K t.1) = some (He.keysIn w.params t.2) := by
  have e : (ts.map fun t => He.dicW K (He.ga K t.1))[i]? = (ts.map fun t => some (He.keysIn w.params t.2))[i]? := by rw [c.tb]
  rw [List.getElem?_map, List.getElem?_map, h] at e
  exact Option.some.inj e
def valF (fn : List He.DefD) (ts : List (Str × List Str)) (w : World) : AlF := (He.valD fn, ts.map fun (t : Str × List Str) => some (He.keysIn w.params t.2), true)
theorem saysF_of {fa : List He.Fa} {fn : List He.DefD} {ts : List (Str × List Str)} {ex : PySem.W.Frag → Bool} {w : World} {K : PySem.W.Frag} (e : obsKF fa fn ts ex K = valF fn ts w) : SaysF fa fn ts ex w K := by
  unfold obsKF valF at e
  obtain ⟨h1, h2⟩ := Prod.mk.inj e
  obtain ⟨h2, h3⟩ := Prod.mk.inj h2
  exact ⟨h1, h2, h3⟩
end MV
namespace MV
open PySem PySem.Spec PyProof.Rows L2
section
variable {M : Model} {A : Around} {E : Value → Shared → Prop} {env : Env} {outer l : List Env} {f C a : Addr} {B : Heap} {Z : Obj → Prop} {s : Shared}
end
section
variable {X : Cx} {W : WX} {pins q : List (Addr × Obj)} {σ : L2.St} {H H₃ : Hp} {s₃ s' : Shared} {scope : Scope} {cl : List (Str × Addr)} {fp : List Addr} {xe : Value → Shared → Prop}
end
section
variable {X : Cx} {W : WX} {wi : TI} {g : TG} {tt : TT} {te : WX → TE} {elt tg iter : Expr} {ifs : List Expr} {scope : Scope} {own : List (Str × Nat)} {pos pos' : Pos}
end
section
variable {K : PySem.W.Frag} {as : List Addr} {H : Hp} {M : Mem}
end
section
variable {X : Cx} {W : WX} {elt tg iter : Expr} {ifs : List Expr} {scope : Scope} {own : List (Str × Nat)} {pos spos : Pos}
variable {mi : MI} {T : Tg} {tt : MT} {me : ME}
end
end MV
namespace MV
open PySem PySem.Spec PyProof.Rows L2
section
variable {K : PySem.W.Frag}
end
end MV
namespace MV
open PySem PySem.Spec PyProof.Rows L2 PySem.Builtin PySem.Builtin.Str
section
variable {X : Cx} {o : Expr} {to ta : TE} {y z : Str} {j k l : Nat} {c0 c1 c2 apos pos p p' : Pos}
end
section
variable {X : Cx} {W : WX} {a o : Expr} {ma mo : ME} {y z : Str} {j k l n : Nat} {c0 c1 c2 c3 apos cpos rpos p pos : Pos} {op : CmpOp} {r : R2} {oc : OP} {i : Int} {B : List Stmt} {mb : MS}
end
end MV
namespace MV
open PySem PySem.Spec PyProof.Rows L2
section
variable {pg : Program} {wd : World} {Ar : Around} {Rz : Result → Shared → Prop} {y0 : Shared} {kx vx ta ia tb ib : Expr} {fa fb : List Expr} {sc : Scope} {po : Pos} {itr : Value} {D : Addr} {ev : Env}
end
section
variable {X : Cx}
end
section
variable {K : PySem.W.Frag}
end
section
variable {X : Cx} {W : WX} {kx vx tg iter tg1 iter1 : Expr} {ifs ifs1 : List Expr} {scope : Scope} {own : List (Str × Nat)} {vs1 : List Nat} {pos spos : Pos} {mi mi1 : MI} {T T1 : Tg} {tt tt1 : MT} {mk mv : ME}
end
end MV
namespace MV
open PySem PySem.Spec PyProof.Rows L2
end MV
namespace MV
open PySem PySem.Spec PyProof.Rows L2
section
variable {X : Cx} {W : WX} {tg : Expr} {e e2 e3 : Expr}
end
end MV
namespace MV
open PySem PySem.Spec PyProof.Rows L2
end MV
namespace MV
open PySem PySem.Spec PyProof.Rows L2
end MV
namespace MV
open PySem PySem.Spec PyProof.Rows L2
section
variable {X : Cx} {W : WX} {e : Expr} {me : ME}
end
end MV
namespace MV
open PySem PySem.Spec PyProof.Rows L2
def refsIn (g : Addr → Option Obj) (n : Addr) : List Addr := match g n with
  | some ⟨_, _, .dict es _, _⟩ => es.toList.filterMap fun e => match e.val with | .ref a => some a | _ => none
  | _ => []
def codesIn (g : Addr → Option Obj) (l : List Addr) : List Addr := l.filterMap fun a => match g a with
  | some ⟨_, _, .func fd, _⟩ => (match fd.code with | .ref c => some c | _ => none)
  | _ => none
def asG (g : Addr → Option Obj) (n : Nat) : List Addr :=
  let m := refsIn g mainGlobals
  let cs := m.filterMap fun a => match g a with | some ⟨_, _, .cls cd, _⟩ => some cd.ns | _ => none
  let ms := cs.flatMap (refsIn g)
  mainGlobals :: (m ++ cs ++ ms ++ codesIn g m ++ codesIn g ms ++ DW.asE g n)
def obsG (n : Nat) (fa : List He.Fa) (fn : List He.DefD) (ts : List (Str × List Str)) (ex : PySem.W.Frag → Bool) (g : Addr → Option Obj) : AlF := obsKF fa fn ts ex (He.frG g (asG g n))
def hookG (n : Nat) (fa : List He.Fa) (fn : List He.DefD) (ts : List (Str × List Str)) (ex : PySem.W.Frag → Bool) : PySem.W.Hook where
  α := AlF
  obs := fun s => obsG n fa fn ts ex s.heap.get?
  val := fun w => valF fn ts w
  says := fun w h => ∃ K : PySem.W.Frag, K.In h ∧ SaysF fa fn ts ex w K
  of := fun _ _ e => ⟨_, He.frG_in, saysF_of e⟩
  keeps := fun _ _ _ ⟨K, hK, c⟩ k => ⟨K, PySem.W.Frag.In.keeps hK k, c⟩
theorem obsG_eq {n : Nat} {fa : List He.Fa} {fn : List He.DefD} {ts : List (Str × List Str)} {ex : PySem.W.Frag → Bool} {g : Addr → Option Obj} {s : Shared} (h : ∀ a, g a = s.heap.get? a) : obsG n fa fn ts ex g = (hookG n fa fn ts ex).obs s := by
  have e : g = s.heap.get? := funext h
  rw [e]
  rfl
end MV
namespace MV
open PySem PySem.W PySem.Spec PyProof.Rows L2
def sm3 (_ _ : Nat) (u : Unit) : Sem Unit := .pure u
def g0H : PySem.Ctx := ⟨.builtin "a" ⟨[], []⟩, none, none, [], none⟩
def a0H : Around := { depth := g0H.code.weight, units := g0H.units }
theorem g0H_in : g0H.In a0H := ⟨rfl, by show frameCount [] + g0H.code.weight ≤ g0H.code.weight; rw [show frameCount [] = 0 from rfl, Nat.zero_add]; exact Nat.le_refl _, fun l h => (by cases h), fun g h => (by cases h), Nat.le_refl _⟩
def cmpH (M : Model) (_ _ : Nat) (C : Bool → Shared → Prop) (s : Shared) : Prop := wpAny M a0H (sm3 0 0 ()) (fun _ s' => C true s') (fun _ _ => False) s
def trH {α : Type} (o : Option α) (f : α → (α → KasT (Option α)) → KasT (Option α)) : KasT (Option α) := match o with
  | some s => f s fun b => .ask 0 0 fun _ => .ret (some b)
  | none => .ret none
def qoH {α : Type} (Q : α → Prop) (b : Option α) (_ : Shared) : Prop := ∃ a, b = some a ∧ Q a
/-- o comes to an a of which Q holds -/
def After {α : Type} (M : Model) (s : Shared) (o : Option α) (f : α → (α → KasT (Option α)) → KasT (Option α)) (Q : α → Prop) : Prop := KasT.kasWp (cmpH M) (trH o f) (qoH Q) s
section
variable {α : Type} {M : Model} {s : Shared} {o : Option α} {f : α → (α → KasT (Option α)) → KasT (Option α)} {Q : α → Prop}
theorem after_at {a : α} (h : Q a) : wpAny M a0H (sm3 0 0 ()) (fun _ s' => KasNext (cmpH M) (fun _ => KasT.ret (some a)) (qoH Q) true s') (fun _ _ => False) s := wpAny_pure ⟨a, rfl, h⟩
theorem after_of (hf : ∀ a k, f a k = k a) (h : After M s o f Q) : ∃ a, o = some a ∧ Q a := by
  cases o with
  | none =>
    obtain ⟨a, e, _⟩ := (show ∃ a, (none : Option α) = some a ∧ Q a from h)
    cases e
  | some a =>
    have h1 : KasT.kasWp (cmpH M) (f a fun b => .ask 0 0 fun _ => .ret (some b)) (qoH Q) s := h
    rw [hf] at h1
    have h2 : ∃ b, some a = some b ∧ Q b := h1 g0H default g0H_in
    obtain ⟨b, e, q⟩ := h2
    cases e
    exact ⟨a, rfl, q⟩
end
def frV {α : Type} (v : Value) (k : Value → α) : α := match v with
  | .ref a => HandSHeadRun.frNat a fun a => k (.ref a)
  | v => k v
theorem frV_eq {α : Type} (v : Value) (k : Value → α) : frV v k = k v := by
  cases v with
  | ref a => exact HandSHeadRun.frNat_eq a fun a => k (.ref a)
  | _ => rfl
def frVs {α : Type} (l : List Value) (k : List Value → α) : α := match l with
  | [] => k []
  | v :: r => frV v fun v => frVs r fun r => k (v :: r)
theorem frVs_eq {α : Type} : ∀ (l : List Value) (k : List Value → α), frVs l k = k l
  | [], _ => rfl
  | v :: r, k => by
    show frV v (fun v => frVs r fun r => k (v :: r)) = _
    rw [frV_eq, frVs_eq r]
def frEn {α : Type} (e : DictEntry) (k : DictEntry → α) : α := match e with
  | ⟨h, key, val⟩ => frV key fun key => frV val fun val => k ⟨h, key, val⟩
theorem frEn_eq {α : Type} (e : DictEntry) (k : DictEntry → α) : frEn e k = k e := by
  obtain ⟨h, key, val⟩ := e
  show frV key (fun key => frV val fun val => k ⟨h, key, val⟩) = _
  rw [frV_eq, frV_eq]
def frEs {α : Type} (l : List DictEntry) (k : List DictEntry → α) : α := match l with
  | [] => k []
  | v :: r => frEn v fun v => frEs r fun r => k (v :: r)
theorem frEs_eq {α : Type} : ∀ (l : List DictEntry) (k : List DictEntry → α), frEs l k = k l
  | [], _ => rfl
  | v :: r, k => by
    show frEn v (fun v => frEs r fun r => k (v :: r)) = _
    rw [frEn_eq, frEs_eq r]
def frD {α : Type} (d : Data) (k : Data → α) : α := match d with
  | .dict es n => HandSHeadRun.frNat n fun n => frEs es.toList fun l => k (.dict ⟨l⟩ n)
  | .func ⟨a1, a2, a3, a4, a5, a6, a7, a8, a9, a10, a11, a12, a13, a14, a15⟩ => HandSHeadRun.frNat a6 fun a6 => frV a8 fun a8 => frV a9 fun a9 => frV a10 fun a10 => frV a11 fun a11 => frV a13 fun a13 => frV a14 fun a14 => HandSHeadRun.frNat a15 fun a15 => k (.func ⟨a1, a2, a3, a4, a5, a6, a7, a8, a9, a10, a11, a12, a13, a14, a15⟩)
  | .cls ⟨a1, a2, a3, a4, a5, a6, a7, a8, a9, a10, a11⟩ => frVs a2 fun a2 => frVs a3 fun a3 => HandSHeadRun.frNat a4 fun a4 => frVs a8 fun a8 => k (.cls ⟨a1, a2, a3, a4, a5, a6, a7, a8, a9, a10, a11⟩)
  | .fields vs => frVs vs.toList fun l => k (.fields ⟨l⟩)
  | .seq vs n => HandSHeadRun.frNat n fun n => frVs vs.toList fun l => k (.seq ⟨l⟩ n)
  | d => k d
theorem frD_eq {α : Type} (d : Data) (k : Data → α) : frD d k = k d := by
  cases d with
  | dict es n =>
    show HandSHeadRun.frNat n (fun n => frEs es.toList fun l => k (.dict ⟨l⟩ n)) = _
    rw [HandSHeadRun.frNat_eq, frEs_eq]
  | func fd =>
    obtain ⟨a1, a2, a3, a4, a5, a6, a7, a8, a9, a10, a11, a12, a13, a14, a15⟩ := fd
    show HandSHeadRun.frNat a6 (fun a6 => frV a8 fun a8 => frV a9 fun a9 => frV a10 fun a10 => frV a11 fun a11 => frV a13 fun a13 => frV a14 fun a14 => HandSHeadRun.frNat a15 fun a15 => k (.func ⟨a1, a2, a3, a4, a5, a6, a7, a8, a9, a10, a11, a12, a13, a14, a15⟩)) = _
    rw [HandSHeadRun.frNat_eq, frV_eq, frV_eq, frV_eq, frV_eq, frV_eq, frV_eq, HandSHeadRun.frNat_eq]
  | cls cd =>
    obtain ⟨a1, a2, a3, a4, a5, a6, a7, a8, a9, a10, a11⟩ := cd
    show frVs a2 (fun a2 => frVs a3 fun a3 => HandSHeadRun.frNat a4 fun a4 => frVs a8 fun a8 => k (.cls ⟨a1, a2, a3, a4, a5, a6, a7, a8, a9, a10, a11⟩)) = _
    rw [frVs_eq, frVs_eq, HandSHeadRun.frNat_eq, frVs_eq]
  | fields vs =>
    show frVs vs.toList (fun l => k (.fields ⟨l⟩)) = _
    rw [frVs_eq]
  | seq vs n =>
    show HandSHeadRun.frNat n (fun n => frVs vs.toList fun l => k (.seq ⟨l⟩ n)) = _
    rw [HandSHeadRun.frNat_eq, frVs_eq]
  | _ => rfl
def frO {α : Type} (o : Obj) (k : Obj → α) : α := match o with
  | ⟨c, d, dt, sl⟩ => frV c fun c => frD dt fun dt => k ⟨c, d, dt, sl⟩
theorem frO_eq {α : Type} (o : Obj) (k : Obj → α) : frO o k = k o := by
  obtain ⟨c, d, dt, sl⟩ := o
  show frV c (fun c => frD dt fun dt => k ⟨c, d, dt, sl⟩) = _
  rw [frV_eq, frD_eq]
def frB {α : Type} (t : PySem.W.BT) (k : PySem.W.BT → α) : α := match t with
  | .nil => k .nil
  | .node v l r => frO v fun v => frB l fun l => frB r fun r => k (.node v l r)
theorem frB_eq {α : Type} : ∀ (t : PySem.W.BT) (k : PySem.W.BT → α), frB t k = k t
  | .nil, _ => rfl
  | .node v l r, k => by
    show frO v (fun v => frB l fun l => frB r fun r => k (.node v l r)) = _
    rw [frO_eq, frB_eq l, frB_eq r]
def frK {α : Type} (l : PySem.W.Frag) (k : PySem.W.Frag → α) : α := match l with
  | [] => k []
  | (a, o) :: r => HandSHeadRun.frNat a fun a => frO o fun o => frK r fun r => k ((a, o) :: r)
theorem frK_eq {α : Type} : ∀ (l : PySem.W.Frag) (k : PySem.W.Frag → α), frK l k = k l
  | [], _ => rfl
  | (a, o) :: r, k => by
    show HandSHeadRun.frNat a (fun a => frO o fun o => frK r fun r => k ((a, o) :: r)) = _
    rw [HandSHeadRun.frNat_eq, frO_eq, frK_eq r]
def frSh {α : Type} (s : SharedT) (k : SharedT → α) : α := match s with
  | ⟨T, n, life, gens, drawn, toks, os⟩ => HandSHeadRun.frNat n fun n => HandSHeadRun.frNat toks fun toks => frB T fun T => k ⟨T, n, life, gens, drawn, toks, os⟩
theorem frSh_eq {α : Type} (s : SharedT) (k : SharedT → α) : frSh s k = k s := by
  obtain ⟨T, n, life, gens, drawn, toks, os⟩ := s
  show HandSHeadRun.frNat n (fun n => HandSHeadRun.frNat toks fun toks => frB T fun T => k ⟨T, n, life, gens, drawn, toks, os⟩) = _
  rw [HandSHeadRun.frNat_eq, HandSHeadRun.frNat_eq, frB_eq]
def frTh {α : Type} (t : Thread) (k : Thread → α) : α := match t with
  | ⟨cur, code, pos, stack⟩ => k ⟨cur, code, pos, stack⟩
theorem frTh_eq {α : Type} (t : Thread) (k : Thread → α) : frTh t k = k t := rfl
abbrev StH := SharedT → Thread → Option (SharedT × Thread)
def goM (q : StH) (m0 : Nat) (an : Option Value) : Nat → SharedT → Thread → Option (SharedT × Thread)
  | 0, s, t => some (s, t)
  | m + 1, s, t => match through t, stepOk m0 an t with
    | false, true => (match q s t with
      | some y => HandSHeadRun.frS y.1 fun z => goM q m0 an m z y.2
      | none => none)
    | _, _ => none
theorem goM_goF {q : StH} {m0 : Nat} {an : Option Value} {k : Nat} {s1 : SharedT} {t1 : Thread} : ∀ {m : Nat} {s : SharedT} {t : Thread}, goM q m0 an m s t = some (s1, t1) → HandSHeadRun.goF q m0 an (m + k) s t = HandSHeadRun.goF q m0 an k s1 t1
  | 0, s, t, h => by
    cases h
    rw [Nat.zero_add]
  | m + 1, s, t, h => by
    rw [Nat.succ_add]
    unfold goM at h
    rw [HandSHeadRun.goF]
    cases e1 : through t with
    | true => rw [e1] at h; cases h
    | false =>
      cases e2 : stepOk m0 an t with
      | false => rw [e1, e2] at h; cases h
      | true =>
        rw [e1, e2] at h
        cases e3 : q s t with
        | none => rw [e3] at h; cases h
        | some y =>
          obtain ⟨a, b⟩ := y
          rw [e3] at h
          dsimp only at h ⊢
          rw [HandSHeadRun.frS_eq] at h ⊢
          exact goM_goF h
abbrev XH := Nat × SharedT × Thread
def frX {α : Type} (x : XH) (k : XH → α) : α := match x with
  | (n, s, t) => HandSHeadRun.frNat n fun n => frTh t fun t => frSh s fun s => k (n, s, t)
theorem frX_eq {α : Type} (x : XH) (k : XH → α) : frX x k = k x := by
  obtain ⟨n, s, t⟩ := x
  show HandSHeadRun.frNat n (fun n => frTh t fun t => frSh s fun s => k (n, s, t)) = _
  rw [HandSHeadRun.frNat_eq, frTh_eq, frSh_eq]
noncomputable def bootM (q : StH) (m : Nat) (p : Program) (w : World) (os : OsState) : Option XH := match HandSHeadRun.putAll (boot_heap w.params).objs.toList .nil 0 with
  | some y => HandSHeadRun.frNat y.2 fun m0 => (goM q m0 (HandSHeadRun.bootAnn w) m (HandSHeadRun.bootT w os (y.1, m0)) (topStub p)).map fun z => (m0, z)
  | none => none
noncomputable def contM (q : StH) (w : World) (m : Nat) (x : XH) : Option XH := (goM q x.1 (HandSHeadRun.bootAnn w) m x.2.1 x.2.2).map fun z => (x.1, z)
noncomputable def contF (q : StH) (w : World) (m : Nat) (x : XH) : Option SharedT := HandSHeadRun.goF q x.1 (HandSHeadRun.bootAnn w) m x.2.1 x.2.2
theorem contM_F {q : StH} {w : World} {m k : Nat} {x y : XH} (h : contM q w m x = some y) : contF q w (m + k) x = contF q w k y := by
  unfold contM at h
  obtain ⟨z, e, rfl⟩ := Option.map_eq_some_iff.mp h
  exact goM_goF e
theorem bootM_F {q : StH} {p : Program} {w : World} {os : OsState} {m k : Nat} {y : XH} (h : bootM q m p w os = some y) : HandSHeadRun.endF q (m + k) p w os = contF q w k y := by
  unfold bootM at h
  unfold HandSHeadRun.endF
  cases e : HandSHeadRun.putAll (boot_heap w.params).objs.toList .nil 0 with
  | none => rw [e] at h; cases h
  | some r =>
    obtain ⟨t, n⟩ := r
    rw [e] at h
    dsimp only at h ⊢
    rw [HandSHeadRun.frNat_eq] at h ⊢
    obtain ⟨z, e2, rfl⟩ := Option.map_eq_some_iff.mp h
    exact goM_goF e2
def sH : Shared := {}
def mH (p : Program) (w : World) : Model := PySem.model p w
/-- what an o comes to, worked out: found by the kernel in the goal, and laid down as a definition -/
def foundH {α : Type} {o : Option α} {f : α → (α → KasT (Option α)) → KasT (Option α)} (p : Program) (w : World) (hf : ∀ a k, f a k = k a) {x : α} (h : KasT.kasWp (cmpH (mH p w)) (trH o f) (qoH fun y => y = x) sH) : {x : α // o = some x} := ⟨x, by
  obtain ⟨a, e, q⟩ := after_of (M := mH p w) (s := sH) hf h
  rw [e, q]⟩
structure FactsK (fa : List He.Fa) (fn : List He.DefD) (ts : List (Str × List Str)) (ex : PySem.W.Frag → Bool) (w : World) (K : PySem.W.Frag) : Prop where
  a : (fa.all fun f => f.ok K) = true
  b : (fn.all fun d => d.ok K) = true
  c : (fn.map fun d => He.fnW K d.at_) = fn.map He.DefD.val
  d : (ts.map fun t => He.dicW K (He.ga K t.1)) = ts.map fun t => some (He.keysIn w.params t.2)
  e : ex K = true
theorem obsKF_of {fa : List He.Fa} {fn : List He.DefD} {ts : List (Str × List Str)} {ex : PySem.W.Frag → Bool} {w : World} {K : PySem.W.Frag} (h : FactsK fa fn ts ex w K) : obsKF fa fn ts ex K = valF fn ts w := by
  unfold obsKF valF He.obsD He.valD
  rw [h.a, h.b, h.c, h.d, h.e, Bool.true_and]
def kG (S : SharedT) : PySem.W.Frag := He.frG (HandSHeadRun.getT S) (asG (HandSHeadRun.getT S) 2048)
structure FactsS (R : PySem.W.OpenRow) (q : Program) (loose : List Str) (fa : List He.Fa) (fn : List He.DefD) (ts : List (Str × List Str)) (ex : PySem.W.Frag → Bool) (w : World) (S : SharedT) : Prop where
  a : HandSHeadRun.looksF R.prog (PySem.W.boot_heap w.params) S.abs = true
  b : HandSHeadRun.seenQ q loose (importedModules R.prog.main.body) (fun s => PySem.W.xlAt q [] s && PySem.W.recOk R.toRowW.records s) S.abs = PySem.W.openGood q loose
  c : frK (kG S) (fun K => ((fa.all fun f => f.ok K), ex K)) = (true, true)
  d : frK (kG S) (fun K => ((fn.all fun d => d.ok K), (fn.map fun d => He.fnW K d.at_))) = (true, fn.map He.DefD.val)
  e : frK (kG S) (fun K => ts.map fun t => He.dicW K (He.ga K t.1)) = ts.map fun t => some (He.keysIn w.params t.2)
theorem runEq_of {R : PySem.W.OpenRow} {q : Program} {loose : List Str} {fa : List He.Fa} {fn : List He.DefD} {ts : List (Str × List Str)} {ex : PySem.W.Frag → Bool} {w : World} {M : Nat}
    (h : ∀ os, ∃ S, HandSHeadRun.endF (HandSHeadRun.stepQ (HandSHeadRun.denQ HandSHeadRun.tabQ) R.prog w) M R.prog w os = some S ∧ FactsS R q loose fa fn ts ex w S) :
    HandSHeadRun.RunEq R q (hookG 2048 fa fn ts ex) (fun s => obsG 2048 fa fn ts ex (HandSHeadRun.getT s)) M loose w := by
  intro os
  obtain ⟨S, e, f⟩ := h os
  rw [e]
  obtain ⟨fa1, fb, fc, fd, fe⟩ := f
  rw [frK_eq] at fc fd fe
  have k : FactsK fa fn ts ex w (kG S) := ⟨(Prod.mk.inj fc).1, (Prod.mk.inj fd).1, (Prod.mk.inj fd).2, fe, (Prod.mk.inj fc).2⟩
  exact congrArg some (Prod.ext fa1 (Prod.ext fb (obsKF_of k)))
end MV
namespace Prf
open PySem L2 MV
def xfl : List Str := ["word", "name", "why", "number", "said", "dial", "most", "at", "paper"]
def cfl : List Str := ["low", "high", "hours", "s_box", "t_box", "places", "roads", "laid_rows", "nodes", "needs", "arcs", "fixed", "s_span", "t_span", "loads", "prices", "four", "held", "reach_told", "bottom_told", "oblongs"]
def ccs : List Str := ["Span", "Net", "Lowered", "Oblong", "Atlas"]
def xs_WeirError : List (Str × Src) := [("word", .arg 0)]
def xs_NetError : List (Str × Src) := [("word", .arg 0)]
def xs_BadBox : List (Str × Src) := [("dial", .arg 0), ("word", .word "bad box")]
def xs_BadHours : List (Str × Src) := [("number", .arg 0), ("word", .word "bad hours")]
def xs_FormError : List (Str × Src) := [("word", .arg 0)]
def xs_BadName : List (Str × Src) := [("name", .arg 0), ("word", .word "bad name")]
def xs_BadRungs : List (Str × Src) := [("name", .arg 0), ("word", .word "bad rungs")]
def xs_BadTakes : List (Str × Src) := [("number", .arg 0), ("word", .word "bad takes")]
def xs_Below : List (Str × Src) := [("name", .arg 0), ("word", .word "below")]
def xs_Falls : List (Str × Src) := [("name", .arg 0), ("word", .word "falls")]
def xs_NoPlace : List (Str × Src) := [("name", .arg 0), ("word", .word "no place")]
def xs_NoRoad : List (Str × Src) := [("name", .arg 0), ("word", .word "no road")]
def xs_Taken : List (Str × Src) := [("name", .arg 0), ("word", .word "taken")]
def xs_TooFar : List (Str × Src) := [("number", .arg 0), ("word", .word "too far")]
def xs_TooGreat : List (Str × Src) := [("number", .arg 0), ("word", .word "too great")]
def xs_TooMany : List (Str × Src) := [("most", .arg 0), ("word", .word "too many")]
def xys : List Str := (["TooGreat"] : List Str)
def xtab : List (Str × List Bool) := ([("BadBox", [false]), ("BadHours", [false]), ("BadName", [false]), ("BadRungs", [false]), ("BadTakes", [false]), ("Below", [false]), ("Falls", [false]), ("NoPlace", [false]), ("NoRoad", [false]), ("Taken", [false]), ("TooFar", [false]), ("TooGreat", [true]), ("TooMany", [false])] : List (Str × List Bool))
def xsub : Str → Str → Option Bool := tabSub xys xtab
def N_Lfeed : List Str := ["_law_script"]
def m_Lfeed : MS :=
  (mRet (mCB oLst (mCons (mCB oList1 (mCons (mSl (mVar 0) mNoPart (mPart (mC (.int 63)))) mNil)) (mCons (mC (.int 0)) (mCons (mC (.int 0)) (mCons (mC (.int 1)) mNil))))))
def w_Lfeed : WF := wOf N_Lfeed m_Lfeed
def N_check_number : List Str := ["number", "far"]
def m_check_number : MS :=
  (mIfS (mNot (mB (mChain oLe oLe (mUn oNeg (mVar 1)) (mVar 0) (mVar 1)))) (mRaise "TooFar" 1 xs_TooFar (mCons (mVar 0) mNil)) mNext)
def w_check_number : WF := wOf N_check_number m_check_number
def N_check_box : List Str := ["dial", "pair", "far"]
def m_check_box : MS :=
  (mSeq (mDrop (mCall w_check_number 2 0 (fun ds _ => ds) (mArgsP (mCons (mOp oIx (mVar 1) (mC (.int 0))) (mCons (mVar 2) mNil)))))
    (mSeq (mDrop (mCall w_check_number 2 0 (fun ds _ => ds) (mArgsP (mCons (mOp oIx (mVar 1) (mC (.int 1))) (mCons (mVar 2) mNil)))))
    (mIfS (mB (mOp oGt (mOp oIx (mVar 1) (mC (.int 0))) (mOp oIx (mVar 1) (mC (.int 1))))) (mRaise "BadBox" 1 xs_BadBox (mCons (mVar 0) mNil)) mNext)))
def w_check_box : WF := wOf N_check_box m_check_box
def N_Net_UinitU : List Str := ["self", "hours", "s_box", "t_box"]
def m_Net_UinitU : MS :=
  (mSeq (mIfS (mNot (mB (mChain oLe oLe (mC (.int 1)) (mVar 1) (mC (.int 6))))) (mRaise "BadHours" 1 xs_BadHours (mCons (mVar 1) mNil)) mNext)
    (mSeq (mDrop (mCall w_check_box 3 0 (fun ds _ => ds) (mArgsP (mCons (mC (.str "s")) (mCons (mVar 2) (mCons (mC (.int 1000000)) mNil))))))
    (mSeq (mDrop (mCall w_check_box 3 0 (fun ds _ => ds) (mArgsP (mCons (mC (.str "t")) (mCons (mVar 3) (mCons (mC (.int 1000000)) mNil))))))
    (mSeq (mSetFld ccs (mVar 0) (mVar 1) "hours")
    (mSeq (mSetFld ccs (mVar 0) (mVar 2) "s_box")
    (mSeq (mSetFld ccs (mVar 0) (mVar 3) "t_box")
    (mSeq (mSetFld ccs (mVar 0) mDict0 "places")
    (mSetFld ccs (mVar 0) mDict0 "roads"))))))))
def w_Net_UinitU : WF := wOf N_Net_UinitU m_Net_UinitU
def N_Ldraw : List Str := ["_law_feed_here", "_law_many", "_law_got", "_law_cell", "_law_spread"]
def m_Ldraw : MS :=
  (mSeq (mIfS (mB (mOp oGt (mOp oIx (mVar 0) (mC (.int 2))) (mC (.int 0)))) (mSeq (mSet 2 (mOp oMod (mOp oIx (mVar 0) (mC (.int 2))) (mVar 1)))
    (mSeq (mSetIx (mOp oDiv (mOp oIx (mVar 0) (mC (.int 2))) (mVar 1)) (mVar 0) (mC (.int 2)))
    (mRet (mVar 2)))) mNext)
    (mSeq (mSet 3 (mC (.int 0)))
    (mSeq (mIfS (mB (mOp oLt (mOp oIx (mVar 0) (mC (.int 1))) (mCB oLen (mCons (mOp oIx (mVar 0) (mC (.int 0))) mNil)))) (mSeq (mSet 3 (mOp oIx (mOp oIx (mVar 0) (mC (.int 0))) (mOp oIx (mVar 0) (mC (.int 1)))))
    (mSetIx (mOp oAdd (mOp oIx (mVar 0) (mC (.int 1))) (mC (.int 1))) (mVar 0) (mC (.int 1)))) mNext)
    (mSeq (mIfS (mB (mOp oGe (mVar 3) (mC (.int 1000000000000000000)))) (mSeq (mSetIx (mOp oDiv (mVar 3) (mVar 1)) (mVar 0) (mC (.int 2)))
    (mRet (mOp oMod (mVar 3) (mVar 1)))) mNext)
    (mSeq (mSetIx (mOp oMod (mOp oAdd (mOp oAdd (mOp oMul (mOp oIx (mVar 0) (mC (.int 3))) (mC (.int 48271))) (mOp oMod (mVar 3) (mC (.int 1000003)))) (mC (.int 11))) (mC (.int 2147483647))) (mVar 0) (mC (.int 3)))
    (mSeq (mSet 4 (mOp oIx (mCB oLst (mCons (mOp oIx (mVar 0) (mC (.int 3))) (mCons (mOp oPow (mOp oIx (mVar 0) (mC (.int 3))) (mC (.int 4))) mNil))) (mCB oInt1 (mCons (mOp oGt (mVar 1) (mC (.int 100000))) mNil))))
    (mRet (mOp oMod (mOp oAdd (mOp oDiv (mVar 4) (mC (.int 16))) (mVar 3)) (mVar 1)))))))))
def w_Ldraw : WF := wOf N_Ldraw m_Ldraw
def N_Lnames : List Str := ["_law_feed_here", "_law_many", "_law_signs", "_law_found", "_law_k", "_law_name", "_law_j"]
def m_Lnames : MS :=
  (mSeq (mSet 2 (mC (.str "abcdefghijklmnopqrstuvwxyz0123456789")))
    (mSeq (mSet 3 (mCB oLst mNil))
    (mSeq (mFor (mIRng1 (mCons (mVar 1) mNil)) (.nm 4) (mSeq (mSet 5 (mOp oIx (mVar 2) (mCall w_Ldraw 2 0 (fun ds _ => ds) (mArgsP (mCons (mVar 0) (mCons (mC (.int 26)) mNil))))))
    (mSeq (mFor (mIRng1 (mCons (mCall w_Ldraw 2 0 (fun ds _ => ds) (mArgsP (mCons (mVar 0) (mCons (mC (.int 4)) mNil)))) mNil)) (.nm 6) (mSet 5 (mOp oAdd (mVar 5) (mOp oIx (mVar 2) (mCall w_Ldraw 2 0 (fun ds _ => ds) (mArgsP (mCons (mVar 0) (mCons (mC (.int 36)) mNil))))))))
    (mSeq (mIfS (mB (mOp oIn (mVar 5) (mVar 3))) (mSet 5 (mOp oAdd (mC (.str "qqqqqqq")) (mOp oIx (mVar 2) (mOp oMod (mVar 4) (mC (.int 36)))))) mNext)
    (mDrop (mBM "list" omAppend (mVar 3) (mCons (mVar 5) mNil)))))))
    (mRet (mVar 3)))))
def w_Lnames : WF := wOf N_Lnames m_Lnames
def N_check_name : List Str := ["name", "sign"]
def m_check_name : MS :=
  (mSeq (mIfS (mOr (mNot (mB (mChain oLe oLe (mC (.int 1)) (mCB oLen (mCons (mVar 0) mNil)) (mC (.int 8))))) (mB (mOp oNotIn (mOp oIx (mVar 0) (mC (.int 0))) (mC (.str "abcdefghijklmnopqrstuvwxyz"))))) (mRaise "BadName" 1 xs_BadName (mCons (mVar 0) mNil)) mNext)
    (mFor (mISeq (mVar 0)) (.nm 1) (mIfS (mB (mOp oNotIn (mVar 1) (mC (.str "abcdefghijklmnopqrstuvwxyz0123456789")))) (mRaise "BadName" 1 xs_BadName (mCons (mVar 0) mNil)) mNext)))
def w_check_name : WF := wOf N_check_name m_check_name
def N_Net_fresh : List Str := ["self", "name"]
def m_Net_fresh : MS :=
  (mSeq (mDrop (mCall w_check_name 1 0 (fun ds _ => ds) (mArgsP (mCons (mVar 1) mNil))))
    (mIfS (mOr (mB (mOp oIn (mVar 1) (mFld ccs (mVar 0) "places"))) (mB (mOp oIn (mVar 1) (mFld ccs (mVar 0) "roads")))) (mRaise "Taken" 1 xs_Taken (mCons (mVar 1) mNil)) mNext))
def w_Net_fresh : WF := wOf N_Net_fresh m_Net_fresh
def N_Net_set_place : List Str := ["self", "name", "told", "places"]
def m_Net_set_place : MS :=
  (mSeq (mSet 3 (mCB oDict1 (mCons (mFld ccs (mVar 0) "places") mNil)))
    (mSeq (mSetIx (mVar 2) (mVar 3) (mVar 1))
    (mSetFld ccs (mVar 0) (mVar 3) "places")))
def w_Net_set_place : WF := wOf N_Net_set_place m_Net_set_place
def N_Net_place : List Str := ["self", "name", "hour"]
def m_Net_place : MS :=
  (mSeq (mDrop (mMeth "Net" "fresh" w_Net_fresh 2 0 (fun ds _ => ds) (mVar 0) (mArgsP (mCons (mVar 1) mNil))))
    (mSeq (mIfS (mB (mOp oGe (mCB oLen (mCons (mFld ccs (mVar 0) "places") mNil)) (mC (.int 12)))) (mRaise "TooMany" 1 xs_TooMany (mCons (mC (.int 12)) mNil)) mNext)
    (mDrop (mMeth "Net" "set_place" w_Net_set_place 3 0 (fun ds _ => ds) (mVar 0) (mArgsP (mCons (mVar 1) (mCons (mCB oTup (mCons (mC .non) (mCons (mCB oTup (mCons (mC (.int 0)) (mCons (mC (.int 0)) mNil))) (mCons (mCB oTup (mCons (mC (.int 0)) (mCons (mC (.int 0)) mNil))) (mCons (mCB oTuple1 (mCons (mLc (mIRng1 (mCons (mFld ccs (mVar 0) "hours") mNil)) (.nm 2) mYes (mCB oTup (mCons (mC (.int 0)) (mCons (mC (.int 0)) mNil))) [2]) mNil)) mNil))))) mNil)))))))
def w_Net_place : WF := wOf N_Net_place m_Net_place
def N_Net_known : List Str := ["self", "name"]
def m_Net_known : MS :=
  (mSeq (mIfS (mB (mOp oNotIn (mVar 1) (mFld ccs (mVar 0) "places"))) (mRaise "NoPlace" 1 xs_NoPlace (mCons (mVar 1) mNil)) mNext)
    (mRet (mOp oIx (mFld ccs (mVar 0) "places") (mVar 1))))
def w_Net_known : WF := wOf N_Net_known m_Net_known
def N_check_move : List Str := ["move", "far"]
def m_check_move : MS :=
  (mSeq (mDrop (mCall w_check_number 2 0 (fun ds _ => ds) (mArgsP (mCons (mOp oIx (mVar 0) (mC (.int 0))) (mCons (mVar 1) mNil)))))
    (mDrop (mCall w_check_number 2 0 (fun ds _ => ds) (mArgsP (mCons (mOp oIx (mVar 0) (mC (.int 1))) (mCons (mVar 1) mNil))))))
def w_check_move : WF := wOf N_check_move m_check_move
def N_sinks : List Str := ["move", "pair"]
def m_sinks : MS :=
  (mRet (mOrV (mOp oLt (mOp oAdd (mOp oIx (mVar 0) (mC (.int 0))) (mOp oMul (mOp oIx (mVar 0) (mC (.int 1))) (mOp oIx (mVar 1) (mC (.int 0))))) (mC (.int 0))) (mOp oLt (mOp oAdd (mOp oIx (mVar 0) (mC (.int 0))) (mOp oMul (mOp oIx (mVar 0) (mC (.int 1))) (mOp oIx (mVar 1) (mC (.int 1))))) (mC (.int 0)))))
def w_sinks : WF := wOf N_sinks m_sinks
def N_check_room : List Str := ["name", "room", "s_box"]
def m_check_room : MS :=
  (mIfS (mTru (mCall w_sinks 2 0 (fun ds _ => ds) (mArgsP (mCons (mVar 1) (mCons (mVar 2) mNil))))) (mRaise "Below" 1 xs_Below (mCons (mVar 0) mNil)) mNext)
def w_check_room : WF := wOf N_check_room m_check_room
def N_check_rising : List Str := ["name", "rungs", "t_box", "k", "here", "ahead"]
def m_check_rising : MS :=
  (mFor (mIRng2 (mCons (mC (.int 1)) (mCons (mCB oLen (mCons (mVar 1) mNil)) mNil))) (.nm 3) (mSeq (mPar 4 5 (mCons (mOp oIx (mOp oIx (mVar 1) (mVar 3)) (mC (.int 1))) (mCons (mOp oIx (mOp oIx (mVar 1) (mOp oSub (mVar 3) (mC (.int 1)))) (mC (.int 1))) mNil)))
    (mIfS (mTru (mCall w_sinks 2 0 (fun ds _ => ds) (mArgsP (mCons (mCB oTup (mCons (mOp oSub (mOp oIx (mVar 4) (mC (.int 0))) (mOp oIx (mVar 5) (mC (.int 0)))) (mCons (mOp oSub (mOp oIx (mVar 4) (mC (.int 1))) (mOp oIx (mVar 5) (mC (.int 1)))) mNil))) (mCons (mVar 2) mNil))))) (mRaise "Falls" 1 xs_Falls (mCons (mVar 0) mNil)) mNext)))
def w_check_rising : WF := wOf N_check_rising m_check_rising
def N_check_rungs : List Str := ["name", "rungs", "s_box", "t_box", "most", "far", "room", "price"]
def m_check_rungs : MS :=
  (mSeq (mIfS (mNot (mB (mChain oLe oLe (mC (.int 1)) (mCB oLen (mCons (mVar 1) mNil)) (mVar 4)))) (mRaise "BadRungs" 1 xs_BadRungs (mCons (mVar 0) mNil)) mNext)
    (mSeq (mFor (mISeq (mSl (mVar 1) mNoPart (mPart (mUn oNeg (mC (.int 1)))))) (.tp 2 (.cons (.nm 6) (.cons (.nm 7) .nil))) (mIfS (mB (mOp oIs (mVar 6) (mC .non))) (mRaise "BadRungs" 1 xs_BadRungs (mCons (mVar 0) mNil)) mNext))
    (mSeq (mFor (mISeq (mVar 1)) (.tp 2 (.cons (.nm 6) (.cons (.nm 7) .nil))) (mSeq (mIfS (mB (mOp oIsNot (mVar 6) (mC .non))) (mDrop (mCall w_check_move 2 0 (fun ds _ => ds) (mArgsP (mCons (mVar 6) (mCons (mVar 5) mNil))))) mNext)
    (mSeq (mDrop (mCall w_check_move 2 0 (fun ds _ => ds) (mArgsP (mCons (mVar 7) (mCons (mVar 5) mNil)))))
    (mIfS (mB (mOp oIsNot (mVar 6) (mC .non))) (mDrop (mCall w_check_room 3 0 (fun ds _ => ds) (mArgsP (mCons (mVar 0) (mCons (mVar 6) (mCons (mVar 2) mNil)))))) mNext))))
    (mDrop (mCall w_check_rising 3 0 (fun ds _ => ds) (mArgsP (mCons (mVar 0) (mCons (mVar 1) (mCons (mVar 3) mNil)))))))))
def w_check_rungs : WF := wOf N_check_rungs m_check_rungs
def N_Net_set_road : List Str := ["self", "name", "told", "roads"]
def m_Net_set_road : MS :=
  (mSeq (mIfS (mNot (mB (mChain oLe oLe (mC (.int 0)) (mOp oIx (mVar 2) (mC (.int 2))) (mC (.int 9))))) (mRaise "BadTakes" 1 xs_BadTakes (mCons (mOp oIx (mVar 2) (mC (.int 2))) mNil)) mNext)
    (mSeq (mDrop (mCall w_check_move 2 0 (fun ds _ => ds) (mArgsP (mCons (mOp oIx (mVar 2) (mC (.int 3))) (mCons (mC (.int 1000000)) mNil)))))
    (mSeq (mDrop (mCall w_check_room 3 0 (fun ds _ => ds) (mArgsP (mCons (mVar 1) (mCons (mOp oIx (mVar 2) (mC (.int 3))) (mCons (mFld ccs (mVar 0) "s_box") mNil))))))
    (mSeq (mDrop (mCall w_check_rungs 4 2 (fun ds es => [ds.getD 0 .non, ds.getD 1 .non, ds.getD 2 .non, ds.getD 3 .non, es.getD 0 .non, es.getD 1 .non]) (mArgsPK (mCons (mVar 1) (mCons (mOp oIx (mVar 2) (mC (.int 4))) (mCons (mFld ccs (mVar 0) "s_box") (mCons (mFld ccs (mVar 0) "t_box") mNil)))) (mCons (mC (.int 4)) (mCons (mC (.int 1000000)) mNil)))))
    (mSeq (mSet 3 (mCB oDict1 (mCons (mFld ccs (mVar 0) "roads") mNil)))
    (mSeq (mSetIx (mVar 2) (mVar 3) (mVar 1))
    (mSetFld ccs (mVar 0) (mVar 3) "roads")))))))
def w_Net_set_road : WF := wOf N_Net_set_road m_Net_set_road
def N_Net_road : List Str := ["self", "name", "start", "end", "takes", "floor", "rungs"]
def m_Net_road : MS :=
  (mSeq (mDrop (mMeth "Net" "fresh" w_Net_fresh 2 0 (fun ds _ => ds) (mVar 0) (mArgsP (mCons (mVar 1) mNil))))
    (mSeq (mDrop (mMeth "Net" "known" w_Net_known 2 0 (fun ds _ => ds) (mVar 0) (mArgsP (mCons (mVar 2) mNil))))
    (mSeq (mDrop (mMeth "Net" "known" w_Net_known 2 0 (fun ds _ => ds) (mVar 0) (mArgsP (mCons (mVar 3) mNil))))
    (mSeq (mIfS (mB (mOp oGe (mCB oLen (mCons (mFld ccs (mVar 0) "roads") mNil)) (mC (.int 24)))) (mRaise "TooMany" 1 xs_TooMany (mCons (mC (.int 24)) mNil)) mNext)
    (mDrop (mMeth "Net" "set_road" w_Net_set_road 3 0 (fun ds _ => ds) (mVar 0) (mArgsP (mCons (mVar 1) (mCons (mCB oTup (mCons (mVar 2) (mCons (mVar 3) (mCons (mVar 4) (mCons (mVar 5) (mCons (mVar 6) mNil)))))) mNil)))))))))
def w_Net_road : WF := wOf N_Net_road m_Net_road
def N_Net_through : List Str := ["self", "place", "room", "told"]
def m_Net_through : MS :=
  (mSeq (mSet 3 (mMeth "Net" "known" w_Net_known 2 0 (fun ds _ => ds) (mVar 0) (mArgsP (mCons (mVar 1) mNil))))
    (mSeq (mIfS (mB (mOp oIsNot (mVar 2) (mC .non))) (mSeq (mDrop (mCall w_check_move 2 0 (fun ds _ => ds) (mArgsP (mCons (mVar 2) (mCons (mC (.int 1000000)) mNil)))))
    (mDrop (mCall w_check_room 3 0 (fun ds _ => ds) (mArgsP (mCons (mVar 1) (mCons (mVar 2) (mCons (mFld ccs (mVar 0) "s_box") mNil))))))) mNext)
    (mDrop (mMeth "Net" "set_place" w_Net_set_place 3 0 (fun ds _ => ds) (mVar 0) (mArgsP (mCons (mVar 1) (mCons (mOp oAdd (mCB oTup (mCons (mVar 2) mNil)) (mSl (mVar 3) (mPart (mC (.int 1))) mNoPart)) mNil)))))))
def w_Net_through : WF := wOf N_Net_through m_Net_through
def N_Net_place_names : List Str := ["self"]
def m_Net_place_names : MS :=
  (mRet (mCB oList1 (mCons (mFld ccs (mVar 0) "places") mNil)))
def w_Net_place_names : WF := wOf N_Net_place_names m_Net_place_names
def N_Net_place_told : List Str := ["self", "name"]
def m_Net_place_told : MS :=
  (mRet (mMeth "Net" "known" w_Net_known 2 0 (fun ds _ => ds) (mVar 0) (mArgsP (mCons (mVar 1) mNil))))
def w_Net_place_told : WF := wOf N_Net_place_told m_Net_place_told
def N_Net_road_names : List Str := ["self"]
def m_Net_road_names : MS :=
  (mRet (mCB oList1 (mCons (mFld ccs (mVar 0) "roads") mNil)))
def w_Net_road_names : WF := wOf N_Net_road_names m_Net_road_names
def N_Net_road_told : List Str := ["self", "name"]
def m_Net_road_told : MS :=
  (mSeq (mIfS (mB (mOp oNotIn (mVar 1) (mFld ccs (mVar 0) "roads"))) (mRaise "NoRoad" 1 xs_NoRoad (mCons (mVar 1) mNil)) mNext)
    (mRet (mOp oIx (mFld ccs (mVar 0) "roads") (mVar 1))))
def w_Net_road_told : WF := wOf N_Net_road_told m_Net_road_told
def N_Net_spots : List Str := ["self", "name", "hour"]
def m_Net_spots : MS :=
  (mLock (mRet (mLc2 (mISeq (mFld ccs (mVar 0) "places")) (.nm 1) mYes (mIRng2 (mCons (mC (.int 1)) (mCons (mOp oAdd (mFld ccs (mVar 0) "hours") (mC (.int 1))) mNil))) (.nm 2) mYes (mCB oTup (mCons (mVar 1) (mCons (mVar 2) mNil))) [1, 2] [2])))
def w_Net_spots : WF := wOf N_Net_spots m_Net_spots
def N_unrolled : List Str := ["net", "hours", "names", "base", "k", "name", "wants", "rooms", "told", "hour", "arcs", "start", "end", "takes", "floor", "rungs", "at"]
def m_unrolled : MS :=
  (mSeq (mSet 1 (mFld ccs (mVar 0) "hours"))
    (mSeq (mSet 2 (mMeth "Net" "place_names" w_Net_place_names 1 0 (fun ds _ => ds) (mVar 0) mArgs0))
    (mSeq (mSet 3 (mDc (mIEnumL (mCons (mVar 2) mNil)) (.tp 2 (.cons (.nm 4) (.cons (.nm 5) .nil))) mYes (mVar 5) (mOp oSub (mOp oMul (mVar 4) (mVar 1)) (mC (.int 1))) [4, 5]))
    (mSeq (mSet 6 (mCB oLst mNil))
    (mSeq (mSet 7 (mCB oLst mNil))
    (mSeq (mFor (mISeq (mVar 2)) (.nm 5) (mSeq (mSet 8 (mMeth "Net" "place_told" w_Net_place_told 2 0 (fun ds _ => ds) (mVar 0) (mArgsP (mCons (mVar 5) mNil))))
    (mSeq (mDrop (mBM "list" omExtendT (mVar 6) (mCons (mOp oIx (mVar 8) (mC (.int 3))) mNil)))
    (mDrop (mBM "list" omExtend (mVar 7) (mCons (mLc (mIRng1 (mCons (mVar 1) mNil)) (.nm 9) mYes (mOp oIx (mVar 8) (mC (.int 0))) [9]) mNil))))))
    (mSeq (mSet 10 (mCB oLst mNil))
    (mSeq (mFor (mISeq (mMeth "Net" "road_names" w_Net_road_names 1 0 (fun ds _ => ds) (mVar 0) mArgs0)) (.nm 5) (mSeq (mAsg (mMeth "Net" "road_told" w_Net_road_told 2 0 (fun ds _ => ds) (mVar 0) (mArgsP (mCons (mVar 5) mNil))) (.tp 5 (.cons (.nm 11) (.cons (.nm 12) (.cons (.nm 13) (.cons (.nm 14) (.cons (.nm 15) .nil)))))))
    (mFor (mIRng2 (mCons (mC (.int 1)) (mCons (mOp oAdd (mOp oSub (mVar 1) (mVar 13)) (mC (.int 1))) mNil))) (.nm 9) (mDrop (mBM "list" omAppend (mVar 10) (mCons (mCB oTup (mCons (mVar 5) (mCons (mVar 9) (mCons (mOp oAdd (mOp oIx (mVar 3) (mVar 11)) (mVar 9)) (mCons (mOp oAdd (mOp oAdd (mOp oIx (mVar 3) (mVar 12)) (mVar 9)) (mVar 13)) (mCons (mVar 14) (mCons (mVar 15) mNil))))))) mNil))))))
    (mSeq (mFor (mISeq (mVar 2)) (.nm 5) (mSeq (mSet 8 (mMeth "Net" "place_told" w_Net_place_told 2 0 (fun ds _ => ds) (mVar 0) (mArgsP (mCons (mVar 5) mNil))))
    (mIfS (mB (mOp oNe (mOp oIx (mVar 8) (mC (.int 1))) (mCB oTup (mCons (mC (.int 0)) (mCons (mC (.int 0)) mNil))))) (mFor (mIRng2 (mCons (mC (.int 1)) (mCons (mVar 1) mNil))) (.nm 9) (mSeq (mSet 16 (mOp oAdd (mOp oIx (mVar 3) (mVar 5)) (mVar 9)))
    (mDrop (mBM "list" omAppend (mVar 10) (mCons (mCB oTup (mCons (mVar 5) (mCons (mVar 9) (mCons (mVar 16) (mCons (mOp oAdd (mVar 16) (mC (.int 1))) (mCons (mCB oTup (mCons (mC (.int 0)) (mCons (mC (.int 0)) mNil))) (mCons (mCB oTup (mCons (mCB oTup (mCons (mOp oIx (mVar 8) (mC (.int 1))) (mCons (mOp oIx (mVar 8) (mC (.int 2))) mNil))) mNil)) mNil))))))) mNil))))) mNext)))
    (mRet (mCB oTup (mCons (mMeth "Net" "spots" w_Net_spots 1 0 (fun ds _ => ds) (mVar 0) mArgs0) (mCons (mVar 6) (mCons (mVar 7) (mCons (mVar 10) mNil)))))))))))))))
def w_unrolled : WF := wOf N_unrolled m_unrolled
def N_doored : List Str := ["spots", "wants", "rooms", "arcs", "nodes", "needs", "door", "hall", "passages", "want", "room", "place", "hour", "found", "name", "tail", "head", "floor", "rungs"]
def m_doored : MS :=
  (mSeq (mSet 4 (mCB oLst mNil))
    (mSeq (mSet 5 (mCB oLst mNil))
    (mSeq (mSet 6 (mCB oLst mNil))
    (mSeq (mSet 7 (mCB oLst mNil))
    (mSeq (mSet 8 (mCB oLst mNil))
    (mSeq (mFor (mIZip3 (mCons (mVar 0) (mCons (mVar 1) (mCons (mVar 2) mNil)))) (.tp 3 (.cons (.tp 2 (.cons (.nm 11) (.cons (.nm 12) .nil))) (.cons (.nm 9) (.cons (.nm 10) .nil)))) (mSeq (mDrop (mBM "list" omAppend (mVar 6) (mCons (mCB oLen (mCons (mVar 4) mNil)) mNil)))
    (mSeq (mIfS (mB (mOp oIs (mVar 10) (mC .non))) (mDrop (mBM "list" omAppend (mVar 4) (mCons (mCB oTup (mCons (mVar 11) (mCons (mVar 12) (mCons (mC (.str "both")) mNil)))) mNil))) (mSeq (mDrop (mBM "list" omAppend (mVar 8) (mCons (mCB oTup (mCons (mC (.str "")) (mCons (mVar 12) (mCons (mCB oLen (mCons (mVar 4) mNil)) (mCons (mOp oAdd (mCB oLen (mCons (mVar 4) mNil)) (mC (.int 1))) (mCons (mCB oTup (mCons (mC (.int 0)) (mCons (mC (.int 0)) mNil))) (mCons (mCB oTup (mCons (mCB oTup (mCons (mVar 10) (mCons (mCB oTup (mCons (mC (.int 0)) (mCons (mC (.int 0)) mNil))) mNil))) mNil)) mNil))))))) mNil)))
    (mSeq (mDrop (mBM "list" omAppend (mVar 4) (mCons (mCB oTup (mCons (mVar 11) (mCons (mVar 12) (mCons (mC (.str "door")) mNil)))) mNil)))
    (mSeq (mDrop (mBM "list" omAppend (mVar 5) (mCons (mCB oTup (mCons (mC (.int 0)) (mCons (mC (.int 0)) mNil))) mNil)))
    (mDrop (mBM "list" omAppend (mVar 4) (mCons (mCB oTup (mCons (mVar 11) (mCons (mVar 12) (mCons (mC (.str "hall")) mNil)))) mNil)))))))
    (mSeq (mDrop (mBM "list" omAppend (mVar 7) (mCons (mOp oSub (mCB oLen (mCons (mVar 4) mNil)) (mC (.int 1))) mNil)))
    (mDrop (mBM "list" omAppend (mVar 5) (mCons (mVar 9) mNil)))))))
    (mSeq (mSet 13 (mLc (mISeq (mVar 3)) (.tp 6 (.cons (.nm 14) (.cons (.nm 12) (.cons (.nm 15) (.cons (.nm 16) (.cons (.nm 17) (.cons (.nm 18) .nil))))))) mYes (mCB oTup (mCons (mVar 14) (mCons (mVar 12) (mCons (mOp oIx (mVar 7) (mVar 15)) (mCons (mOp oIx (mVar 6) (mVar 16)) (mCons (mVar 17) (mCons (mVar 18) mNil))))))) [14, 12, 15, 16, 17, 18]))
    (mSeq (mDrop (mBM "list" omExtend (mVar 13) (mCons (mVar 8) mNil)))
    (mRet (mCB oTup (mCons (mVar 4) (mCons (mVar 5) (mCons (mVar 13) mNil)))))))))))))
def w_doored : WF := wOf N_doored m_doored
def N_laid : List Str := ["arcs", "rows", "name", "hour", "tail", "head", "floor", "rungs", "k", "under", "room", "price"]
def m_laid : MS :=
  (mSeq (mSet 1 (mCB oLst mNil))
    (mSeq (mFor (mISeq (mVar 0)) (.tp 6 (.cons (.nm 2) (.cons (.nm 3) (.cons (.nm 4) (.cons (.nm 5) (.cons (.nm 6) (.cons (.nm 7) .nil))))))) (mFor (mIEnumT (mCons (mVar 7) mNil)) (.tp 2 (.cons (.nm 8) (.cons (.tp 2 (.cons (.nm 10) (.cons (.nm 11) .nil))) .nil))) (mSeq (mSet 9 (mIf (mB (mOp oEq (mVar 8) (mC (.int 0)))) (mVar 6) (mCB oTup (mCons (mC (.int 0)) (mCons (mC (.int 0)) mNil)))))
    (mDrop (mBM "list" omAppend (mVar 1) (mCons (mCB oTup (mCons (mVar 2) (mCons (mVar 3) (mCons (mOp oAdd (mVar 8) (mC (.int 1))) (mCons (mVar 4) (mCons (mVar 5) (mCons (mVar 9) (mCons (mVar 10) (mCons (mVar 11) mNil))))))))) mNil))))))
    (mRet (mVar 1))))
def w_laid : WF := wOf N_laid m_laid
def N_take : List Str := ["m", "n"]
def m_take : MS :=
  (mRet (mCB oTup (mCons (mOp oSub (mOp oIx (mVar 0) (mC (.int 0))) (mOp oIx (mVar 1) (mC (.int 0)))) (mCons (mOp oSub (mOp oIx (mVar 0) (mC (.int 1))) (mOp oIx (mVar 1) (mC (.int 1)))) mNil))))
def w_take : WF := wOf N_take m_take
def N_add : List Str := ["m", "n"]
def m_add : MS :=
  (mRet (mCB oTup (mCons (mOp oAdd (mOp oIx (mVar 0) (mC (.int 0))) (mOp oIx (mVar 1) (mC (.int 0)))) (mCons (mOp oAdd (mOp oIx (mVar 0) (mC (.int 1))) (mOp oIx (mVar 1) (mC (.int 1)))) mNil))))
def w_add : WF := wOf N_add m_add
def N_summed : List Str := ["four", "other"]
def m_summed : MS :=
  (mRet (mCB oTup (mCons (mOp oAdd (mOp oIx (mVar 0) (mC (.int 0))) (mOp oIx (mVar 1) (mC (.int 0)))) (mCons (mOp oAdd (mOp oIx (mVar 0) (mC (.int 1))) (mOp oIx (mVar 1) (mC (.int 1)))) (mCons (mOp oAdd (mOp oIx (mVar 0) (mC (.int 2))) (mOp oIx (mVar 1) (mC (.int 2)))) (mCons (mOp oAdd (mOp oIx (mVar 0) (mC (.int 3))) (mOp oIx (mVar 1) (mC (.int 3)))) mNil))))))
def w_summed : WF := wOf N_summed m_summed
def N_product : List Str := ["m", "n"]
def m_product : MS :=
  (mRet (mCB oTup (mCons (mOp oMul (mOp oIx (mVar 0) (mC (.int 0))) (mOp oIx (mVar 1) (mC (.int 0)))) (mCons (mOp oMul (mOp oIx (mVar 0) (mC (.int 1))) (mOp oIx (mVar 1) (mC (.int 0)))) (mCons (mOp oMul (mOp oIx (mVar 0) (mC (.int 0))) (mOp oIx (mVar 1) (mC (.int 1)))) (mCons (mOp oMul (mOp oIx (mVar 0) (mC (.int 1))) (mOp oIx (mVar 1) (mC (.int 1)))) mNil))))))
def w_product : WF := wOf N_product m_product
def N_sunk : List Str := ["wants", "rows", "needs", "fixed", "plain", "name", "hour", "rung", "tail", "head", "floor", "room", "price"]
def m_sunk : MS :=
  (mSeq (mSet 2 (mCB oList1 (mCons (mVar 0) mNil)))
    (mSeq (mSet 3 (mCB oTup (mCons (mC (.int 0)) (mCons (mC (.int 0)) (mCons (mC (.int 0)) (mCons (mC (.int 0)) mNil))))))
    (mSeq (mSet 4 (mCB oLst mNil))
    (mSeq (mFor (mISeq (mVar 1)) (.tp 8 (.cons (.nm 5) (.cons (.nm 6) (.cons (.nm 7) (.cons (.nm 8) (.cons (.nm 9) (.cons (.nm 10) (.cons (.nm 11) (.cons (.nm 12) .nil))))))))) (mSeq (mSetIx (mCall w_take 2 0 (fun ds _ => ds) (mArgsP (mCons (mOp oIx (mVar 2) (mVar 9)) (mCons (mVar 10) mNil)))) (mVar 2) (mVar 9))
    (mSeq (mSetIx (mCall w_add 2 0 (fun ds _ => ds) (mArgsP (mCons (mOp oIx (mVar 2) (mVar 8)) (mCons (mVar 10) mNil)))) (mVar 2) (mVar 8))
    (mSeq (mSet 3 (mCall w_summed 2 0 (fun ds _ => ds) (mArgsP (mCons (mVar 3) (mCons (mCall w_product 2 0 (fun ds _ => ds) (mArgsP (mCons (mVar 10) (mCons (mVar 12) mNil)))) mNil)))))
    (mDrop (mBM "list" omAppend (mVar 4) (mCons (mCB oTup (mCons (mVar 8) (mCons (mVar 9) (mCons (mVar 11) (mCons (mVar 12) mNil))))) mNil)))))))
    (mRet (mCB oTup (mCons (mVar 2) (mCons (mVar 4) (mCons (mVar 3) mNil)))))))))
def w_sunk : WF := wOf N_sunk m_sunk
def N_Lowered_UinitU : List Str := ["self", "net", "spots", "wants", "rooms", "arcs", "nodes"]
def m_Lowered_UinitU : MS :=
  (mSeq (mAsg (mCall w_unrolled 1 0 (fun ds _ => ds) (mArgsP (mCons (mVar 1) mNil))) (.tp 4 (.cons (.nm 2) (.cons (.nm 3) (.cons (.nm 4) (.cons (.nm 5) .nil))))))
    (mSeq (mAsg (mCall w_doored 4 0 (fun ds _ => ds) (mArgsP (mCons (mVar 2) (mCons (mVar 3) (mCons (mVar 4) (mCons (mVar 5) mNil)))))) (.tp 3 (.cons (.nm 6) (.cons (.nm 3) (.cons (.nm 5) .nil)))))
    (mSeq (mSetFld ccs (mVar 0) (mCall w_laid 1 0 (fun ds _ => ds) (mArgsP (mCons (mVar 5) mNil))) "laid_rows")
    (mSeq (mIfS (mB (mOp oGt (mCB oLen (mCons (mFld ccs (mVar 0) "laid_rows") mNil)) (mC (.int 96)))) (mRaise "TooGreat" 1 xs_TooGreat (mCons (mCB oLen (mCons (mFld ccs (mVar 0) "laid_rows") mNil)) mNil)) mNext)
    (mSeq (mSetFld ccs (mVar 0) (mVar 6) "nodes")
    (mAsgF ccs 0 ["needs", "arcs", "fixed"] (mCall w_sunk 2 0 (fun ds _ => ds) (mArgsP (mCons (mVar 3) (mCons (mFld ccs (mVar 0) "laid_rows") mNil))))))))))
def w_Lowered_UinitU : WF := wOf N_Lowered_UinitU m_Lowered_UinitU
def N_reach : List Str := ["net", "plain", "barred_at"]
def m_reach : MS :=
  (mSeq (mSet 1 (mMake "Lowered" w_Lowered_UinitU 2 0 (fun ds _ => ds) (mArgsP (mCons (mVar 0) mNil))))
    mNever)
def w_reach : WF := wOf N_reach m_reach
def N_bottom : List Str := ["net", "plain", "barred_at"]
def m_bottom : MS :=
  (mSeq (mSet 1 (mMake "Lowered" w_Lowered_UinitU 2 0 (fun ds _ => ds) (mArgsP (mCons (mVar 0) mNil))))
    mNever)
def w_bottom : WF := wOf N_bottom m_bottom
def N_Atlas_UinitU : List Str := ["self", "net", "plain", "s_span", "t_span", "loads", "heights", "four"]
def m_Atlas_UinitU : MS :=
  (mSeq (mSet 2 (mMake "Lowered" w_Lowered_UinitU 2 0 (fun ds _ => ds) (mArgsP (mCons (mVar 1) mNil))))
    mNever)
def w_Atlas_UinitU : WF := wOf N_Atlas_UinitU m_Atlas_UinitU
def N_Ltried : List Str := ["_law_net", "_law_got", "_law_way", "e"]
def m_Ltried : MS :=
  (mSeq (mSet 1 (mCB oLst mNil))
    (mSeq (mFor (mIRng1 (mCons (mC (.int 4)) mNil)) (.nm 2) (mTry xsub (mSeq (mIfS (mB (mOp oEq (mVar 2) (mC (.int 0)))) (mDrop (mMake "Lowered" w_Lowered_UinitU 2 0 (fun ds _ => ds) (mArgsP (mCons (mVar 0) mNil)))) mNext)
    (mSeq (mIfS (mB (mOp oEq (mVar 2) (mC (.int 1)))) (mDrop (mCall w_reach 1 0 (fun ds _ => ds) (mArgsP (mCons (mVar 0) mNil)))) mNext)
    (mSeq (mIfS (mB (mOp oEq (mVar 2) (mC (.int 2)))) (mDrop (mCall w_bottom 1 0 (fun ds _ => ds) (mArgsP (mCons (mVar 0) mNil)))) mNext)
    (mIfS (mB (mOp oEq (mVar 2) (mC (.int 3)))) (mDrop (mMake "Atlas" w_Atlas_UinitU 2 0 (fun ds _ => ds) (mArgsP (mCons (mVar 0) mNil)))) mNext)))) [⟨["TooGreat"], some 3, fun a dd c => (mDrop (mBM "list" omAppend (mVar 1) (mCons (mCB oTup (mCons (mXf a dd c 3 "word") (mCons (mXf a dd c 3 "number") mNil))) mNil)))⟩]))
    (mRet (mVar 1))))
def w_Ltried : WF := wOf N_Ltried m_Ltried
def N_law : List Str := ["_law_script", "_law_feed_here", "_law_net", "_law_names_here", "_law_many", "_law_name", "_law_count", "_law_less_at", "_law_k", "_law_ladder", "_law_ends", "_law_j", "_law_way"]
def m_law : MS :=
  (mSeq (mSet 1 (mCall w_Lfeed 1 0 (fun ds _ => ds) (mArgsP (mCons (mVar 0) mNil))))
    (mSeq (mSet 2 (mMake "Net" w_Net_UinitU 1 0 (fun ds es => [ds.getD 0 .non, (.int 1), (.tup [(.int 0), (.int 0)]), (.tup [(.int 0), (.int 0)])]) mArgs0))
    (mSeq (mSet 3 (mCall w_Lnames 2 0 (fun ds _ => ds) (mArgsP (mCons (mVar 1) (mCons (mC (.int 28)) mNil)))))
    (mSeq (mSet 4 (mOp oAdd (mC (.int 1)) (mCall w_Ldraw 2 0 (fun ds _ => ds) (mArgsP (mCons (mVar 1) (mCons (mC (.int 3)) mNil))))))
    (mSeq (mFor (mISeq (mSl (mVar 3) mNoPart (mPart (mVar 4)))) (.nm 5) (mDrop (mMeth "Net" "place" w_Net_place 2 0 (fun ds _ => ds) (mVar 2) (mArgsP (mCons (mVar 5) mNil)))))
    (mSeq (mSet 6 (mC (.int 96)))
    (mSeq (mSet 7 (mCall w_Ldraw 2 0 (fun ds _ => ds) (mArgsP (mCons (mVar 1) (mCons (mC (.int 72)) mNil)))))
    (mSeq (mFor (mIRng1 (mCons (mC (.int 24)) mNil)) (.nm 8) (mSeq (mSet 9 (mLc (mIRng1 (mCons (mC (.int 4)) mNil)) (.nm 11) mYes (mCB oTup (mCons (mCB oTup (mCons (mOp oAdd (mVar 8) (mVar 11)) (mCons (mC (.int 0)) mNil))) (mCons (mCB oTup (mCons (mVar 11) (mCons (mC (.int 0)) mNil))) mNil))) [11]))
    (mSeq (mIfS (mB (mOp oEq (mVar 8) (mVar 7))) (mSeq (mDrop (mBM "list" omPop (mVar 9) mNil))
    (mSet 6 (mOp oSub (mVar 6) (mC (.int 1))))) mNext)
    (mSeq (mSet 10 (mCB oTup (mCons (mOp oIx (mVar 3) (mCall w_Ldraw 2 0 (fun ds _ => ds) (mArgsP (mCons (mVar 1) (mCons (mVar 4) mNil))))) (mCons (mOp oIx (mVar 3) (mCall w_Ldraw 2 0 (fun ds _ => ds) (mArgsP (mCons (mVar 1) (mCons (mVar 4) mNil))))) mNil))))
    (mDrop (mMeth "Net" "road" w_Net_road 4 1 (fun ds es => [ds.getD 0 .non, ds.getD 1 .non, ds.getD 2 .non, ds.getD 3 .non, (.int 0), (.tup [(.int 0), (.int 0)]), es.getD 0 .non]) (mVar 2) (mArgsPK (mCons (mOp oIx (mVar 3) (mOp oAdd (mVar 4) (mVar 8))) (mCons (mOp oIx (mVar 10) (mC (.int 0))) (mCons (mOp oIx (mVar 10) (mC (.int 1))) mNil))) (mCons (mCB oTuple1 (mCons (mVar 9) mNil)) mNil))))))))
    (mSeq (mFor (mISeq (mSl (mVar 3) mNoPart (mPart (mCall w_Ldraw 2 0 (fun ds _ => ds) (mArgsP (mCons (mVar 1) (mCons (mOp oAdd (mVar 4) (mC (.int 1))) mNil))))))) (.nm 5) (mSeq (mDrop (mMeth "Net" "through" w_Net_through 3 0 (fun ds _ => ds) (mVar 2) (mArgsP (mCons (mVar 5) (mCons (mCB oTup (mCons (mCall w_Ldraw 2 0 (fun ds _ => ds) (mArgsP (mCons (mVar 1) (mCons (mC (.int 9)) mNil)))) (mCons (mC (.int 0)) mNil))) mNil)))))
    (mSet 6 (mOp oAdd (mVar 6) (mC (.int 1))))))
    (mSeq (mIfS (mB (mOp oGt (mVar 6) (mC (.int 96)))) (mRet (mOp oEq (mCall w_Ltried 1 0 (fun ds _ => ds) (mArgsP (mCons (mVar 2) mNil))) (mLc (mIRng1 (mCons (mC (.int 4)) mNil)) (.nm 12) mYes (mCB oTup (mCons (mC (.str "too great")) (mCons (mVar 6) mNil))) [12]))) mNext)
    (mRet (mOp oEq (mCB oLen (mCons (mFld ccs (mMake "Lowered" w_Lowered_UinitU 2 0 (fun ds _ => ds) (mArgsP (mCons (mVar 2) mNil))) "arcs") mNil)) (mVar 6)))))))))))))
def w_law : WF := wOf N_law m_law
end Prf
namespace Prf
open PySem L2 MV
def topS (i : Nat) : Stmt := PySem.Challenge.pw_dialweir_k31_too_great.main.body.getD i (.Pass ⟨0, 0, 0, 0⟩)
abbrev s_Lfeed : Stmt := topS 138
abbrev s_check_number : Stmt := topS 59
abbrev s_check_box : Stmt := topS 61
abbrev s_Net_UinitU : Stmt := inClass (topS 93) 0
abbrev s_Ldraw : Stmt := topS 139
abbrev s_Lnames : Stmt := topS 140
abbrev s_check_name : Stmt := topS 58
abbrev s_Net_fresh : Stmt := inClass (topS 93) 1
abbrev s_Net_set_place : Stmt := inClass (topS 93) 3
abbrev s_Net_place : Stmt := inClass (topS 93) 4
abbrev s_Net_known : Stmt := inClass (topS 93) 2
abbrev s_check_move : Stmt := topS 60
abbrev s_sinks : Stmt := topS 62
abbrev s_check_room : Stmt := topS 63
abbrev s_check_rising : Stmt := topS 64
abbrev s_check_rungs : Stmt := topS 65
abbrev s_Net_set_road : Stmt := inClass (topS 93) 8
abbrev s_Net_road : Stmt := inClass (topS 93) 9
abbrev s_Net_through : Stmt := inClass (topS 93) 6
abbrev s_Net_place_names : Stmt := inClass (topS 93) 14
abbrev s_Net_place_told : Stmt := inClass (topS 93) 16
abbrev s_Net_road_names : Stmt := inClass (topS 93) 15
abbrev s_Net_road_told : Stmt := inClass (topS 93) 17
abbrev s_Net_spots : Stmt := inClass (topS 93) 18
abbrev s_unrolled : Stmt := topS 95
abbrev s_doored : Stmt := topS 96
abbrev s_laid : Stmt := topS 97
abbrev s_take : Stmt := topS 45
abbrev s_add : Stmt := topS 44
abbrev s_summed : Stmt := topS 99
abbrev s_product : Stmt := topS 49
abbrev s_sunk : Stmt := topS 98
abbrev s_Lowered_UinitU : Stmt := inClass (topS 100) 0
abbrev s_reach : Stmt := topS 130
abbrev s_bottom : Stmt := topS 132
abbrev s_Atlas_UinitU : Stmt := inClass (topS 136) 0
abbrev s_Ltried : Stmt := topS 141
abbrev s_law : Stmt := topS 142
abbrev si0_WeirError : Stmt := inClass (topS 2) 0
abbrev si0_NetError : Stmt := inClass (topS 9) 0
abbrev si0_BadBox : Stmt := inClass (topS 11) 0
abbrev si0_BadHours : Stmt := inClass (topS 10) 0
abbrev si0_FormError : Stmt := inClass (topS 3) 0
abbrev si0_BadName : Stmt := inClass (topS 4) 0
abbrev si0_BadRungs : Stmt := inClass (topS 23) 0
abbrev si0_BadTakes : Stmt := inClass (topS 24) 0
abbrev si0_Below : Stmt := inClass (topS 21) 0
abbrev si0_Falls : Stmt := inClass (topS 22) 0
abbrev si0_NoPlace : Stmt := inClass (topS 16) 0
abbrev si0_NoRoad : Stmt := inClass (topS 17) 0
abbrev si0_Taken : Stmt := inClass (topS 15) 0
abbrev si0_TooFar : Stmt := inClass (topS 12) 0
abbrev si0_TooGreat : Stmt := inClass (topS 14) 0
abbrev si0_TooMany : Stmt := inClass (topS 13) 0
def dd_Lfeed : He.DefD := ⟨("_law_feed", none), "_law_feed", "_law_feed", defArgs s_Lfeed, defBody s_Lfeed, defScope s_Lfeed, [], []⟩
def dd_check_number : He.DefD := ⟨("check_number", none), "check_number", "check_number", defArgs s_check_number, defBody s_check_number, defScope s_check_number, [], []⟩
def dd_check_box : He.DefD := ⟨("check_box", none), "check_box", "check_box", defArgs s_check_box, defBody s_check_box, defScope s_check_box, [], []⟩
def dd_Net_UinitU : He.DefD := ⟨("Net", some "__init__"), "__init__", "Net.__init__", defArgs s_Net_UinitU, defBody s_Net_UinitU, defScope s_Net_UinitU, [], [("hours", .int 1), ("s_box", .adr (kwdAt ("Net", some "__init__") "s_box")), ("t_box", .adr (kwdAt ("Net", some "__init__") "t_box"))]⟩
def dd_Ldraw : He.DefD := ⟨("_law_draw", none), "_law_draw", "_law_draw", defArgs s_Ldraw, defBody s_Ldraw, defScope s_Ldraw, [], []⟩
def dd_Lnames : He.DefD := ⟨("_law_names", none), "_law_names", "_law_names", defArgs s_Lnames, defBody s_Lnames, defScope s_Lnames, [], []⟩
def dd_check_name : He.DefD := ⟨("check_name", none), "check_name", "check_name", defArgs s_check_name, defBody s_check_name, defScope s_check_name, [], []⟩
def dd_Net_fresh : He.DefD := ⟨("Net", some "fresh"), "fresh", "Net.fresh", defArgs s_Net_fresh, defBody s_Net_fresh, defScope s_Net_fresh, [], []⟩
def dd_Net_set_place : He.DefD := ⟨("Net", some "set_place"), "set_place", "Net.set_place", defArgs s_Net_set_place, defBody s_Net_set_place, defScope s_Net_set_place, [], []⟩
def dd_Net_place : He.DefD := ⟨("Net", some "place"), "place", "Net.place", defArgs s_Net_place, defBody s_Net_place, defScope s_Net_place, [], []⟩
def dd_Net_known : He.DefD := ⟨("Net", some "known"), "known", "Net.known", defArgs s_Net_known, defBody s_Net_known, defScope s_Net_known, [], []⟩
def dd_check_move : He.DefD := ⟨("check_move", none), "check_move", "check_move", defArgs s_check_move, defBody s_check_move, defScope s_check_move, [], []⟩
def dd_sinks : He.DefD := ⟨("sinks", none), "sinks", "sinks", defArgs s_sinks, defBody s_sinks, defScope s_sinks, [], []⟩
def dd_check_room : He.DefD := ⟨("check_room", none), "check_room", "check_room", defArgs s_check_room, defBody s_check_room, defScope s_check_room, [], []⟩
def dd_check_rising : He.DefD := ⟨("check_rising", none), "check_rising", "check_rising", defArgs s_check_rising, defBody s_check_rising, defScope s_check_rising, [], []⟩
def dd_check_rungs : He.DefD := ⟨("check_rungs", none), "check_rungs", "check_rungs", defArgs s_check_rungs, defBody s_check_rungs, defScope s_check_rungs, [], []⟩
def dd_Net_set_road : He.DefD := ⟨("Net", some "set_road"), "set_road", "Net.set_road", defArgs s_Net_set_road, defBody s_Net_set_road, defScope s_Net_set_road, [], []⟩
def dd_Net_road : He.DefD := ⟨("Net", some "road"), "road", "Net.road", defArgs s_Net_road, defBody s_Net_road, defScope s_Net_road, [], [("takes", .int 0), ("floor", .adr (kwdAt ("Net", some "road") "floor")), ("rungs", .glo "OPEN_RUNG")]⟩
def dd_Net_through : He.DefD := ⟨("Net", some "through"), "through", "Net.through", defArgs s_Net_through, defBody s_Net_through, defScope s_Net_through, [.non], []⟩
def dd_Net_place_names : He.DefD := ⟨("Net", some "place_names"), "place_names", "Net.place_names", defArgs s_Net_place_names, defBody s_Net_place_names, defScope s_Net_place_names, [], []⟩
def dd_Net_place_told : He.DefD := ⟨("Net", some "place_told"), "place_told", "Net.place_told", defArgs s_Net_place_told, defBody s_Net_place_told, defScope s_Net_place_told, [], []⟩
def dd_Net_road_names : He.DefD := ⟨("Net", some "road_names"), "road_names", "Net.road_names", defArgs s_Net_road_names, defBody s_Net_road_names, defScope s_Net_road_names, [], []⟩
def dd_Net_road_told : He.DefD := ⟨("Net", some "road_told"), "road_told", "Net.road_told", defArgs s_Net_road_told, defBody s_Net_road_told, defScope s_Net_road_told, [], []⟩
def dd_Net_spots : He.DefD := ⟨("Net", some "spots"), "spots", "Net.spots", defArgs s_Net_spots, defBody s_Net_spots, defScope s_Net_spots, [], []⟩
def dd_unrolled : He.DefD := ⟨("unrolled", none), "unrolled", "unrolled", defArgs s_unrolled, defBody s_unrolled, defScope s_unrolled, [], []⟩
def dd_doored : He.DefD := ⟨("doored", none), "doored", "doored", defArgs s_doored, defBody s_doored, defScope s_doored, [], []⟩
def dd_laid : He.DefD := ⟨("laid", none), "laid", "laid", defArgs s_laid, defBody s_laid, defScope s_laid, [], []⟩
def dd_take : He.DefD := ⟨("take", none), "take", "take", defArgs s_take, defBody s_take, defScope s_take, [], []⟩
def dd_add : He.DefD := ⟨("add", none), "add", "add", defArgs s_add, defBody s_add, defScope s_add, [], []⟩
def dd_summed : He.DefD := ⟨("summed", none), "summed", "summed", defArgs s_summed, defBody s_summed, defScope s_summed, [], []⟩
def dd_product : He.DefD := ⟨("product", none), "product", "product", defArgs s_product, defBody s_product, defScope s_product, [], []⟩
def dd_sunk : He.DefD := ⟨("sunk", none), "sunk", "sunk", defArgs s_sunk, defBody s_sunk, defScope s_sunk, [], []⟩
def dd_Lowered_UinitU : He.DefD := ⟨("Lowered", some "__init__"), "__init__", "Lowered.__init__", defArgs s_Lowered_UinitU, defBody s_Lowered_UinitU, defScope s_Lowered_UinitU, [], []⟩
def dd_reach : He.DefD := ⟨("reach_atlas", none), "reach", "reach", defArgs s_reach, defBody s_reach, defScope s_reach, [], []⟩
def dd_bottom : He.DefD := ⟨("bottom_atlas", none), "bottom", "bottom", defArgs s_bottom, defBody s_bottom, defScope s_bottom, [], []⟩
def dd_Atlas_UinitU : He.DefD := ⟨("Atlas", some "__init__"), "__init__", "Atlas.__init__", defArgs s_Atlas_UinitU, defBody s_Atlas_UinitU, defScope s_Atlas_UinitU, [], []⟩
def dd_Ltried : He.DefD := ⟨("_law_tried", none), "_law_tried", "_law_tried", defArgs s_Ltried, defBody s_Ltried, defScope s_Ltried, [], []⟩
def dd_law : He.DefD := ⟨("law", none), "law", "law", defArgs s_law, defBody s_law, defScope s_law, [], []⟩
def ddi_WeirError : He.DefD := ⟨("WeirError", some "__init__"), "__init__", "WeirError.__init__", defArgs si0_WeirError, defBody si0_WeirError, defScope si0_WeirError, [], []⟩
def ddi_NetError : He.DefD := ⟨("NetError", some "__init__"), "__init__", "NetError.__init__", defArgs si0_NetError, defBody si0_NetError, defScope si0_NetError, [], []⟩
def ddi_BadBox : He.DefD := ⟨("BadBox", some "__init__"), "__init__", "BadBox.__init__", defArgs si0_BadBox, defBody si0_BadBox, defScope si0_BadBox, [], []⟩
def ddi_BadHours : He.DefD := ⟨("BadHours", some "__init__"), "__init__", "BadHours.__init__", defArgs si0_BadHours, defBody si0_BadHours, defScope si0_BadHours, [], []⟩
def ddi_FormError : He.DefD := ⟨("FormError", some "__init__"), "__init__", "FormError.__init__", defArgs si0_FormError, defBody si0_FormError, defScope si0_FormError, [], []⟩
def ddi_BadName : He.DefD := ⟨("BadName", some "__init__"), "__init__", "BadName.__init__", defArgs si0_BadName, defBody si0_BadName, defScope si0_BadName, [], []⟩
def ddi_BadRungs : He.DefD := ⟨("BadRungs", some "__init__"), "__init__", "BadRungs.__init__", defArgs si0_BadRungs, defBody si0_BadRungs, defScope si0_BadRungs, [], []⟩
def ddi_BadTakes : He.DefD := ⟨("BadTakes", some "__init__"), "__init__", "BadTakes.__init__", defArgs si0_BadTakes, defBody si0_BadTakes, defScope si0_BadTakes, [], []⟩
def ddi_Below : He.DefD := ⟨("Below", some "__init__"), "__init__", "Below.__init__", defArgs si0_Below, defBody si0_Below, defScope si0_Below, [], []⟩
def ddi_Falls : He.DefD := ⟨("Falls", some "__init__"), "__init__", "Falls.__init__", defArgs si0_Falls, defBody si0_Falls, defScope si0_Falls, [], []⟩
def ddi_NoPlace : He.DefD := ⟨("NoPlace", some "__init__"), "__init__", "NoPlace.__init__", defArgs si0_NoPlace, defBody si0_NoPlace, defScope si0_NoPlace, [], []⟩
def ddi_NoRoad : He.DefD := ⟨("NoRoad", some "__init__"), "__init__", "NoRoad.__init__", defArgs si0_NoRoad, defBody si0_NoRoad, defScope si0_NoRoad, [], []⟩
def ddi_Taken : He.DefD := ⟨("Taken", some "__init__"), "__init__", "Taken.__init__", defArgs si0_Taken, defBody si0_Taken, defScope si0_Taken, [], []⟩
def ddi_TooFar : He.DefD := ⟨("TooFar", some "__init__"), "__init__", "TooFar.__init__", defArgs si0_TooFar, defBody si0_TooFar, defScope si0_TooFar, [], []⟩
def ddi_TooGreat : He.DefD := ⟨("TooGreat", some "__init__"), "__init__", "TooGreat.__init__", defArgs si0_TooGreat, defBody si0_TooGreat, defScope si0_TooGreat, [], []⟩
def ddi_TooMany : He.DefD := ⟨("TooMany", some "__init__"), "__init__", "TooMany.__init__", defArgs si0_TooMany, defBody si0_TooMany, defScope si0_TooMany, [], []⟩
def fnA : List He.DefD := ([dd_Lfeed, dd_check_number, dd_check_box, dd_Net_UinitU, dd_Ldraw, dd_Lnames, dd_check_name, dd_Net_fresh, dd_Net_set_place, dd_Net_place, dd_Net_known, dd_check_move, dd_sinks, dd_check_room, dd_check_rising, dd_check_rungs, dd_Net_set_road, dd_Net_road, dd_Net_through, dd_Net_place_names, dd_Net_place_told, dd_Net_road_names, dd_Net_road_told, dd_Net_spots, dd_unrolled] : List He.DefD) ++ ([dd_doored, dd_laid, dd_take, dd_add, dd_summed, dd_product, dd_sunk, dd_Lowered_UinitU, dd_reach, dd_bottom, dd_Atlas_UinitU, dd_Ltried, dd_law, ddi_WeirError, ddi_NetError, ddi_BadBox, ddi_BadHours, ddi_FormError, ddi_BadName, ddi_BadRungs, ddi_BadTakes, ddi_Below, ddi_Falls] : List He.DefD)
def fnB : List He.DefD := ([ddi_NoPlace, ddi_NoRoad, ddi_Taken, ddi_TooFar, ddi_TooGreat, ddi_TooMany] : List He.DefD)
def fnL : List He.DefD := fnA ++ (fnB)
def faA : List He.Fa := ([.glo "_law_feed", .glo "check_number", .glo "check_box", .glo "_law_draw", .glo "_law_names", .glo "check_name", .glo "check_move", .glo "sinks", .glo "check_room", .glo "check_rising", .glo "check_rungs", .glo "unrolled", .glo "doored", .glo "laid", .glo "take", .glo "add", .glo "summed", .glo "product", .glo "sunk", .glo "reach_atlas", .glo "bottom_atlas", .glo "_law_tried", .glo "law", .free "dict", .free "enumerate"] : List He.Fa) ++ ([.free "int", .free "len", .free "list", .free "range", .free "tuple", .free "zip", .free "ValueError", .str "FIRST" "abcdefghijklmnopqrstuvwxyz", .str "LATER" "abcdefghijklmnopqrstuvwxyz0123456789", .int "MOST" 1000000, .int "MOST_ARCS" 96, .int "MOST_HOURS" 6, .int "MOST_PLACES" 12, .int "MOST_ROADS" 24, .int "MOST_RUNGS" 4, .int "MOST_SIGNS" 8, .int "MOST_TAKES" 9, .meth "Net" "fresh", .meth "Net" "known", .meth "Net" "place", .meth "Net" "place_names", .meth "Net" "place_told", .meth "Net" "road", .meth "Net" "road_names", .meth "Net" "road_told"] : List He.Fa) ++ ([.meth "Net" "set_place", .meth "Net" "set_road", .meth "Net" "spots", .meth "Net" "through", .glo "Atlas", .mkr "Atlas", .glo "Lowered", .mkr "Lowered", .glo "Net", .mkr "Net", .cls "Span", .cls "Net", .cls "Lowered", .cls "Oblong", .cls "Atlas", .cls "Span", .cls "Net", .cls "Lowered", .cls "Oblong", .cls "Atlas", .noat "Span" "low", .noat "Span" "high", .noat "Span" "hours", .noat "Span" "s_box", .noat "Span" "t_box"] : List He.Fa) ++ ([.noat "Span" "places", .noat "Span" "roads", .noat "Span" "laid_rows", .noat "Span" "nodes", .noat "Span" "needs", .noat "Span" "arcs", .noat "Span" "fixed", .noat "Span" "s_span", .noat "Span" "t_span", .noat "Span" "loads", .noat "Span" "prices", .noat "Span" "four", .noat "Span" "held", .noat "Span" "reach_told", .noat "Span" "bottom_told", .noat "Span" "oblongs", .noat "Net" "low", .noat "Net" "high", .noat "Net" "hours", .noat "Net" "s_box", .noat "Net" "t_box"] : List He.Fa)
def faB : List He.Fa := ([.noat "Net" "places", .noat "Net" "roads", .noat "Net" "laid_rows", .noat "Net" "nodes", .noat "Net" "needs", .noat "Net" "arcs", .noat "Net" "fixed", .noat "Net" "s_span", .noat "Net" "t_span", .noat "Net" "loads", .noat "Net" "prices", .noat "Net" "four", .noat "Net" "held", .noat "Net" "reach_told", .noat "Net" "bottom_told", .noat "Net" "oblongs", .noat "Lowered" "low", .noat "Lowered" "high", .noat "Lowered" "hours", .noat "Lowered" "s_box", .noat "Lowered" "t_box", .noat "Lowered" "places", .noat "Lowered" "roads", .noat "Lowered" "laid_rows", .noat "Lowered" "nodes"] : List He.Fa) ++ ([.noat "Lowered" "needs", .noat "Lowered" "arcs", .noat "Lowered" "fixed", .noat "Lowered" "s_span", .noat "Lowered" "t_span", .noat "Lowered" "loads", .noat "Lowered" "prices", .noat "Lowered" "four", .noat "Lowered" "held", .noat "Lowered" "reach_told", .noat "Lowered" "bottom_told", .noat "Lowered" "oblongs", .noat "Oblong" "low", .noat "Oblong" "high", .noat "Oblong" "hours", .noat "Oblong" "s_box", .noat "Oblong" "t_box", .noat "Oblong" "places", .noat "Oblong" "roads", .noat "Oblong" "laid_rows", .noat "Oblong" "nodes", .noat "Oblong" "needs", .noat "Oblong" "arcs", .noat "Oblong" "fixed", .noat "Oblong" "s_span"] : List He.Fa) ++ ([.noat "Oblong" "t_span", .noat "Oblong" "loads", .noat "Oblong" "prices", .noat "Oblong" "four", .noat "Oblong" "held", .noat "Oblong" "reach_told", .noat "Oblong" "bottom_told", .noat "Oblong" "oblongs", .noat "Atlas" "low", .noat "Atlas" "high", .noat "Atlas" "hours", .noat "Atlas" "s_box", .noat "Atlas" "t_box", .noat "Atlas" "places", .noat "Atlas" "roads", .noat "Atlas" "laid_rows", .noat "Atlas" "nodes", .noat "Atlas" "needs", .noat "Atlas" "arcs", .noat "Atlas" "fixed", .noat "Atlas" "s_span", .noat "Atlas" "t_span", .noat "Atlas" "loads", .noat "Atlas" "prices", .noat "Atlas" "four"] : List He.Fa) ++ ([.noat "Atlas" "held", .noat "Atlas" "reach_told", .noat "Atlas" "bottom_told", .noat "Atlas" "oblongs", .glo "WeirError", .glo "NetError", .glo "BadBox", .glo "BadHours", .glo "FormError", .glo "BadName", .glo "BadRungs", .glo "BadTakes", .glo "Below", .glo "Falls", .glo "NoPlace", .glo "NoRoad", .glo "Taken", .glo "TooFar", .glo "TooGreat", .glo "TooMany"] : List He.Fa)
def faL : List He.Fa := faA ++ (faB)
def exA (K : PySem.W.Frag) : List Bool := ([DW.excXB K "WeirError" xfl, DW.excXB K "NetError" xfl, DW.excXB K "BadBox" xfl, DW.excXB K "BadHours" xfl, DW.excXB K "FormError" xfl, DW.excXB K "BadName" xfl, DW.excXB K "BadRungs" xfl, DW.excXB K "BadTakes" xfl, DW.excXB K "Below" xfl, DW.excXB K "Falls" xfl, DW.excXB K "NoPlace" xfl, DW.excXB K "NoRoad" xfl, DW.excXB K "Taken" xfl, DW.excXB K "TooFar" xfl, DW.excXB K "TooGreat" xfl, DW.excXB K "TooMany" xfl, tabOk K xfl xys xtab, DW.veB K, datAt K 20 (.tup [(.int 0), (.int 0)]) (.ref ((kwdAt ("Net", some "__init__") "s_box") K)), datAt K 20 (.tup [(.int 0), (.int 0)]) (.ref ((kwdAt ("Net", some "__init__") "t_box") K)), datAt K 20 (.tup [(.int 0), (.int 0)]) (.ref ((kwdAt ("Net", some "road") "floor") K)), datAt K 20 (.tup [(.tup [.non, (.tup [(.int 0), (.int 0)])])]) (.ref (He.ga K "OPEN_RUNG"))] : List Bool)
def exL (K : PySem.W.Frag) : List Bool := exA K
def tsL : List (Str × List Str) := []
abbrev R : PySem.W.OpenRow := PySem.W.OpenLaw.row PySem.Challenge.rw_dialweir_k31_too_great
abbrev hk : PySem.W.Hook := hookG 2048 faL fnL tsL (fun K => DW.allT (exL K))
def ob (s : PySem.W.SharedT) : AlF := obsG 2048 faL fnL tsL (fun K => DW.allT (exL K)) (HandSHeadRun.getT s)
theorem ob_eq (s : PySem.W.SharedT) : ob s = hk.obs s.abs := obsG_eq (HandSHeadRun.getT_eq s)
def looseL : List Str := (["_wall", "WeirError", "FormError", "BadName", "BadRow", "BadWord", "NoFraction", "BadSpan", "NetError", "BadHours", "BadBox", "TooFar", "TooMany", "TooGreat", "Taken", "NoPlace", "NoRoad", "NoName", "NoHour", "InUse", "Below", "Falls", "BadRungs", "BadTakes", "DialError"] : List Str) ++ (["Outside", "Barred", "NoBottom", "PaperError", "BadSet", "BadRing", "FIGURES", "common", "frac", "plus", "times", "before", "whole", "shown", "Span", "MOST_FIGURES", "add", "take", "turned", "value", "nought", "product", "four_at", "written", "read_whole"] : List Str) ++ (["read_move", "FIRST", "LATER", "MOST_SIGNS", "check_name", "check_number", "check_move", "check_box", "sinks", "check_room", "check_rising", "check_rungs", "fit_road", "read_room", "room_word", "read_rung", "do_place", "do_through", "do_store", "do_want", "do_road", "do_strike", "do_box", "PLAIN", "DEEDS"] : List Str) ++ (["do_row", "place_rows", "road_row", "text_of", "MOST", "MOST_HOURS", "MOST_PLACES", "MOST_ROADS", "MOST_RUNGS", "MOST_TAKES", "MOST_ARCS", "OPEN_RUNG", "Net", "unrolled", "doored", "laid", "sunk", "summed", "Lowered", "doors_of", "NOUGHT", "rank", "left_links", "reached", "push"] : List Str) ++ (["ends_put", "bar", "step_price", "settled", "open_links", "ring_at", "first_loads", "tight_links", "best", "narrowed", "load_end", "price_end", "covered", "full_top", "door_numbers", "set_lack", "ring_price", "Oblong", "reach", "reach_atlas", "bottom", "bottom_atlas", "copied", "fresh_paper", "Atlas"] : List Str) ++ (["_law_feed", "_law_draw", "_law_names", "_law_tried"] : List Str)
abbrev mM : Nat := 5000 + (5000 + (16000))
abbrev qV : Program := PySem.W.view R.prog [142]
abbrev wF (w : World) : World := w.withFollow "special-get-raises" false
noncomputable abbrev qF (w : World) : StH := HandSHeadRun.stepQ (HandSHeadRun.denQ HandSHeadRun.tabQ) R.prog (wF w)
abbrev wT (w : World) : World := w.withFollow "special-get-raises" true
noncomputable abbrev qT (w : World) : StH := HandSHeadRun.stepQ (HandSHeadRun.denQ HandSHeadRun.tabQ) R.prog (wT w)
noncomputable def hx1 (w : World) (os : OsState) : {x : XH // bootM (qF w) 5000 R.prog (wF w) os = some x} := by
  apply foundH R.prog w frX_eq
  kat_step
  refine after_at ?_
  exact rfl
noncomputable def hx2 (w : World) (os : OsState) : {x : XH // contM (qF w) (wF w) 5000 (hx1 w os).1 = some x} := by
  apply foundH R.prog w frX_eq
  kat_step
  refine after_at ?_
  exact rfl
noncomputable def hxe (w : World) (os : OsState) : {x : PySem.W.SharedT // contF (qF w) (wF w) 16000 (hx2 w os).1 = some x} := by
  apply foundH R.prog w frSh_eq
  kat_step
  refine after_at ?_
  exact rfl
noncomputable abbrev hS (w : World) (os : OsState) : PySem.W.SharedT := (hxe w os).1
theorem hr_1 (w : World) (os : OsState) : bootM (qT w) 5000 R.prog (wT w) os = some (hx1 w os).1 := by kernel_rfl
theorem hr_2 (w : World) (os : OsState) : contM (qT w) (wT w) 5000 (hx1 w os).1 = some (hx2 w os).1 := by kernel_rfl
theorem hr_e (w : World) (os : OsState) : contF (qT w) (wT w) 16000 (hx2 w os).1 = some (hS w os) := by kernel_rfl
theorem hF_a (w : World) (os : OsState) : HandSHeadRun.looksF R.prog (PySem.W.boot_heap (wF w).params) (hS w os).abs = true := by kernel_rfl
theorem hT_a (w : World) (os : OsState) : HandSHeadRun.looksF R.prog (PySem.W.boot_heap (wT w).params) (hS w os).abs = true := by kernel_rfl
theorem h_b (w : World) (os : OsState) : HandSHeadRun.seenQ qV looseL (importedModules R.prog.main.body) (fun s => PySem.W.xlAt qV [] s && PySem.W.recOk R.toRowW.records s) (hS w os).abs = PySem.W.openGood qV looseL := by kernel_rfl
theorem h_c (w : World) (os : OsState) : frK (kG (hS w os)) (fun K => ((faL.all fun f => f.ok K), DW.allT (exL K))) = (true, true) := by kernel_rfl
theorem h_d (w : World) (os : OsState) : frK (kG (hS w os)) (fun K => ((fnL.all fun d => d.ok K), (fnL.map fun d => He.fnW K d.at_))) = (true, fnL.map He.DefD.val) := by kernel_rfl
theorem hF_e (w : World) (os : OsState) : frK (kG (hS w os)) (fun K => tsL.map fun t => He.dicW K (He.ga K t.1)) = tsL.map fun t => some (He.keysIn (wF w).params t.2) := by kernel_rfl
theorem hT_e (w : World) (os : OsState) : frK (kG (hS w os)) (fun K => tsL.map fun t => He.dicW K (He.ga K t.1)) = tsL.map fun t => some (He.keysIn (wT w).params t.2) := by kernel_rfl
theorem run_F (w : World) : HandSHeadRun.RunEq R qV hk ob mM looseL (wF w) :=
  runEq_of fun os => ⟨hS w os, (bootM_F ((hx1 w os).2)).trans (((contM_F ((hx2 w os).2)).trans ((hxe w os).2))), hF_a w os, h_b w os, h_c w os, h_d w os, hF_e w os⟩
theorem run_T (w : World) : HandSHeadRun.RunEq R qV hk ob mM looseL (wT w) :=
  runEq_of fun os => ⟨hS w os, (bootM_F (hr_1 w os)).trans (((contM_F (hr_2 w os)).trans (hr_e w os))), hT_a w os, h_b w os, h_c w os, h_d w os, hT_e w os⟩
theorem run (w : World) : HandSHeadRun.RunEq R qV hk ob mM looseL w := PySem.W.byRow2 "special-get-raises" (P := fun w => HandSHeadRun.RunEq R qV hk ob mM looseL w) run_F run_T w
end Prf
namespace Prf
open PySem L2 MV
structure Tx (w : World) (K : PySem.W.Frag) (mg : Str → Option Value) : Prop where
  g_Lfeed : mg "_law_feed" = some (.ref (He.ga K "_law_feed"))
  d_Lfeed : ∃ fd, FunD K "_law_feed" "_law_feed" (defArgs s_Lfeed) (defBody s_Lfeed) (defScope s_Lfeed) [] [] (He.ga K "_law_feed") fd
  g_check_number : mg "check_number" = some (.ref (He.ga K "check_number"))
  d_check_number : ∃ fd, FunD K "check_number" "check_number" (defArgs s_check_number) (defBody s_check_number) (defScope s_check_number) [] [] (He.ga K "check_number") fd
  g_check_box : mg "check_box" = some (.ref (He.ga K "check_box"))
  d_check_box : ∃ fd, FunD K "check_box" "check_box" (defArgs s_check_box) (defBody s_check_box) (defScope s_check_box) [] [] (He.ga K "check_box") fd
  d_Net_UinitU : ∃ fd, FunD K "__init__" "Net.__init__" (defArgs s_Net_UinitU) (defBody s_Net_UinitU) (defScope s_Net_UinitU) [] [("hours", (.int 1)), ("s_box", (.ref ((kwdAt ("Net", some "__init__") "s_box") K))), ("t_box", (.ref ((kwdAt ("Net", some "__init__") "t_box") K)))] (He.ma K (He.ga K "Net") "__init__") fd
  g_Ldraw : mg "_law_draw" = some (.ref (He.ga K "_law_draw"))
  d_Ldraw : ∃ fd, FunD K "_law_draw" "_law_draw" (defArgs s_Ldraw) (defBody s_Ldraw) (defScope s_Ldraw) [] [] (He.ga K "_law_draw") fd
  g_Lnames : mg "_law_names" = some (.ref (He.ga K "_law_names"))
  d_Lnames : ∃ fd, FunD K "_law_names" "_law_names" (defArgs s_Lnames) (defBody s_Lnames) (defScope s_Lnames) [] [] (He.ga K "_law_names") fd
  g_check_name : mg "check_name" = some (.ref (He.ga K "check_name"))
  d_check_name : ∃ fd, FunD K "check_name" "check_name" (defArgs s_check_name) (defBody s_check_name) (defScope s_check_name) [] [] (He.ga K "check_name") fd
  d_Net_fresh : ∃ fd, FunD K "fresh" "Net.fresh" (defArgs s_Net_fresh) (defBody s_Net_fresh) (defScope s_Net_fresh) [] [] (He.ma K (He.ga K "Net") "fresh") fd
  d_Net_set_place : ∃ fd, FunD K "set_place" "Net.set_place" (defArgs s_Net_set_place) (defBody s_Net_set_place) (defScope s_Net_set_place) [] [] (He.ma K (He.ga K "Net") "set_place") fd
  d_Net_place : ∃ fd, FunD K "place" "Net.place" (defArgs s_Net_place) (defBody s_Net_place) (defScope s_Net_place) [] [] (He.ma K (He.ga K "Net") "place") fd
  d_Net_known : ∃ fd, FunD K "known" "Net.known" (defArgs s_Net_known) (defBody s_Net_known) (defScope s_Net_known) [] [] (He.ma K (He.ga K "Net") "known") fd
  g_check_move : mg "check_move" = some (.ref (He.ga K "check_move"))
  d_check_move : ∃ fd, FunD K "check_move" "check_move" (defArgs s_check_move) (defBody s_check_move) (defScope s_check_move) [] [] (He.ga K "check_move") fd
  g_sinks : mg "sinks" = some (.ref (He.ga K "sinks"))
  d_sinks : ∃ fd, FunD K "sinks" "sinks" (defArgs s_sinks) (defBody s_sinks) (defScope s_sinks) [] [] (He.ga K "sinks") fd
  g_check_room : mg "check_room" = some (.ref (He.ga K "check_room"))
  d_check_room : ∃ fd, FunD K "check_room" "check_room" (defArgs s_check_room) (defBody s_check_room) (defScope s_check_room) [] [] (He.ga K "check_room") fd
  g_check_rising : mg "check_rising" = some (.ref (He.ga K "check_rising"))
  d_check_rising : ∃ fd, FunD K "check_rising" "check_rising" (defArgs s_check_rising) (defBody s_check_rising) (defScope s_check_rising) [] [] (He.ga K "check_rising") fd
  g_check_rungs : mg "check_rungs" = some (.ref (He.ga K "check_rungs"))
  d_check_rungs : ∃ fd, FunD K "check_rungs" "check_rungs" (defArgs s_check_rungs) (defBody s_check_rungs) (defScope s_check_rungs) [] [] (He.ga K "check_rungs") fd
  d_Net_set_road : ∃ fd, FunD K "set_road" "Net.set_road" (defArgs s_Net_set_road) (defBody s_Net_set_road) (defScope s_Net_set_road) [] [] (He.ma K (He.ga K "Net") "set_road") fd
  d_Net_road : ∃ fd, FunD K "road" "Net.road" (defArgs s_Net_road) (defBody s_Net_road) (defScope s_Net_road) [] [("takes", (.int 0)), ("floor", (.ref ((kwdAt ("Net", some "road") "floor") K))), ("rungs", (.ref (He.ga K "OPEN_RUNG")))] (He.ma K (He.ga K "Net") "road") fd
  d_Net_through : ∃ fd, FunD K "through" "Net.through" (defArgs s_Net_through) (defBody s_Net_through) (defScope s_Net_through) [.non] [] (He.ma K (He.ga K "Net") "through") fd
  d_Net_place_names : ∃ fd, FunD K "place_names" "Net.place_names" (defArgs s_Net_place_names) (defBody s_Net_place_names) (defScope s_Net_place_names) [] [] (He.ma K (He.ga K "Net") "place_names") fd
  d_Net_place_told : ∃ fd, FunD K "place_told" "Net.place_told" (defArgs s_Net_place_told) (defBody s_Net_place_told) (defScope s_Net_place_told) [] [] (He.ma K (He.ga K "Net") "place_told") fd
  d_Net_road_names : ∃ fd, FunD K "road_names" "Net.road_names" (defArgs s_Net_road_names) (defBody s_Net_road_names) (defScope s_Net_road_names) [] [] (He.ma K (He.ga K "Net") "road_names") fd
  d_Net_road_told : ∃ fd, FunD K "road_told" "Net.road_told" (defArgs s_Net_road_told) (defBody s_Net_road_told) (defScope s_Net_road_told) [] [] (He.ma K (He.ga K "Net") "road_told") fd
  d_Net_spots : ∃ fd, FunD K "spots" "Net.spots" (defArgs s_Net_spots) (defBody s_Net_spots) (defScope s_Net_spots) [] [] (He.ma K (He.ga K "Net") "spots") fd
  g_unrolled : mg "unrolled" = some (.ref (He.ga K "unrolled"))
  d_unrolled : ∃ fd, FunD K "unrolled" "unrolled" (defArgs s_unrolled) (defBody s_unrolled) (defScope s_unrolled) [] [] (He.ga K "unrolled") fd
  g_doored : mg "doored" = some (.ref (He.ga K "doored"))
  d_doored : ∃ fd, FunD K "doored" "doored" (defArgs s_doored) (defBody s_doored) (defScope s_doored) [] [] (He.ga K "doored") fd
  g_laid : mg "laid" = some (.ref (He.ga K "laid"))
  d_laid : ∃ fd, FunD K "laid" "laid" (defArgs s_laid) (defBody s_laid) (defScope s_laid) [] [] (He.ga K "laid") fd
  g_take : mg "take" = some (.ref (He.ga K "take"))
  d_take : ∃ fd, FunD K "take" "take" (defArgs s_take) (defBody s_take) (defScope s_take) [] [] (He.ga K "take") fd
  g_add : mg "add" = some (.ref (He.ga K "add"))
  d_add : ∃ fd, FunD K "add" "add" (defArgs s_add) (defBody s_add) (defScope s_add) [] [] (He.ga K "add") fd
  g_summed : mg "summed" = some (.ref (He.ga K "summed"))
  d_summed : ∃ fd, FunD K "summed" "summed" (defArgs s_summed) (defBody s_summed) (defScope s_summed) [] [] (He.ga K "summed") fd
  g_product : mg "product" = some (.ref (He.ga K "product"))
  d_product : ∃ fd, FunD K "product" "product" (defArgs s_product) (defBody s_product) (defScope s_product) [] [] (He.ga K "product") fd
  g_sunk : mg "sunk" = some (.ref (He.ga K "sunk"))
  d_sunk : ∃ fd, FunD K "sunk" "sunk" (defArgs s_sunk) (defBody s_sunk) (defScope s_sunk) [] [] (He.ga K "sunk") fd
  d_Lowered_UinitU : ∃ fd, FunD K "__init__" "Lowered.__init__" (defArgs s_Lowered_UinitU) (defBody s_Lowered_UinitU) (defScope s_Lowered_UinitU) [] [] (He.ma K (He.ga K "Lowered") "__init__") fd
  g_reach_atlas : mg "reach_atlas" = some (.ref (He.ga K "reach_atlas"))
  d_reach : ∃ fd, FunD K "reach" "reach" (defArgs s_reach) (defBody s_reach) (defScope s_reach) [] [] (He.ga K "reach_atlas") fd
  g_bottom_atlas : mg "bottom_atlas" = some (.ref (He.ga K "bottom_atlas"))
  d_bottom : ∃ fd, FunD K "bottom" "bottom" (defArgs s_bottom) (defBody s_bottom) (defScope s_bottom) [] [] (He.ga K "bottom_atlas") fd
  d_Atlas_UinitU : ∃ fd, FunD K "__init__" "Atlas.__init__" (defArgs s_Atlas_UinitU) (defBody s_Atlas_UinitU) (defScope s_Atlas_UinitU) [] [] (He.ma K (He.ga K "Atlas") "__init__") fd
  g_Ltried : mg "_law_tried" = some (.ref (He.ga K "_law_tried"))
  d_Ltried : ∃ fd, FunD K "_law_tried" "_law_tried" (defArgs s_Ltried) (defBody s_Ltried) (defScope s_Ltried) [] [] (He.ga K "_law_tried") fd
  g_law : mg "law" = some (.ref (He.ga K "law"))
  d_law : ∃ fd, FunD K "law" "law" (defArgs s_law) (defBody s_law) (defScope s_law) [] [] (He.ga K "law") fd
  di_WeirError : ∃ fd, FunD K "__init__" "WeirError.__init__" (defArgs si0_WeirError) (defBody si0_WeirError) (defScope si0_WeirError) [] [] (He.ma K (He.ga K "WeirError") "__init__") fd
  di_NetError : ∃ fd, FunD K "__init__" "NetError.__init__" (defArgs si0_NetError) (defBody si0_NetError) (defScope si0_NetError) [] [] (He.ma K (He.ga K "NetError") "__init__") fd
  di_BadBox : ∃ fd, FunD K "__init__" "BadBox.__init__" (defArgs si0_BadBox) (defBody si0_BadBox) (defScope si0_BadBox) [] [] (He.ma K (He.ga K "BadBox") "__init__") fd
  di_BadHours : ∃ fd, FunD K "__init__" "BadHours.__init__" (defArgs si0_BadHours) (defBody si0_BadHours) (defScope si0_BadHours) [] [] (He.ma K (He.ga K "BadHours") "__init__") fd
  di_FormError : ∃ fd, FunD K "__init__" "FormError.__init__" (defArgs si0_FormError) (defBody si0_FormError) (defScope si0_FormError) [] [] (He.ma K (He.ga K "FormError") "__init__") fd
  di_BadName : ∃ fd, FunD K "__init__" "BadName.__init__" (defArgs si0_BadName) (defBody si0_BadName) (defScope si0_BadName) [] [] (He.ma K (He.ga K "BadName") "__init__") fd
  di_BadRungs : ∃ fd, FunD K "__init__" "BadRungs.__init__" (defArgs si0_BadRungs) (defBody si0_BadRungs) (defScope si0_BadRungs) [] [] (He.ma K (He.ga K "BadRungs") "__init__") fd
  di_BadTakes : ∃ fd, FunD K "__init__" "BadTakes.__init__" (defArgs si0_BadTakes) (defBody si0_BadTakes) (defScope si0_BadTakes) [] [] (He.ma K (He.ga K "BadTakes") "__init__") fd
  di_Below : ∃ fd, FunD K "__init__" "Below.__init__" (defArgs si0_Below) (defBody si0_Below) (defScope si0_Below) [] [] (He.ma K (He.ga K "Below") "__init__") fd
  di_Falls : ∃ fd, FunD K "__init__" "Falls.__init__" (defArgs si0_Falls) (defBody si0_Falls) (defScope si0_Falls) [] [] (He.ma K (He.ga K "Falls") "__init__") fd
  di_NoPlace : ∃ fd, FunD K "__init__" "NoPlace.__init__" (defArgs si0_NoPlace) (defBody si0_NoPlace) (defScope si0_NoPlace) [] [] (He.ma K (He.ga K "NoPlace") "__init__") fd
  di_NoRoad : ∃ fd, FunD K "__init__" "NoRoad.__init__" (defArgs si0_NoRoad) (defBody si0_NoRoad) (defScope si0_NoRoad) [] [] (He.ma K (He.ga K "NoRoad") "__init__") fd
  di_Taken : ∃ fd, FunD K "__init__" "Taken.__init__" (defArgs si0_Taken) (defBody si0_Taken) (defScope si0_Taken) [] [] (He.ma K (He.ga K "Taken") "__init__") fd
  di_TooFar : ∃ fd, FunD K "__init__" "TooFar.__init__" (defArgs si0_TooFar) (defBody si0_TooFar) (defScope si0_TooFar) [] [] (He.ma K (He.ga K "TooFar") "__init__") fd
  di_TooGreat : ∃ fd, FunD K "__init__" "TooGreat.__init__" (defArgs si0_TooGreat) (defBody si0_TooGreat) (defScope si0_TooGreat) [] [] (He.ma K (He.ga K "TooGreat") "__init__") fd
  di_TooMany : ∃ fd, FunD K "__init__" "TooMany.__init__" (defArgs si0_TooMany) (defBody si0_TooMany) (defScope si0_TooMany) [] [] (He.ma K (He.ga K "TooMany") "__init__") fd
  m_dict : mg "dict" = none
  m_enumerate : mg "enumerate" = none
  m_int : mg "int" = none
  m_len : mg "len" = none
  m_list : mg "list" = none
  m_range : mg "range" = none
  m_tuple : mg "tuple" = none
  m_zip : mg "zip" = none
  m_ValueError : mg "ValueError" = none
  c_FIRST : ∃ t, mg "FIRST" = some (.str "abcdefghijklmnopqrstuvwxyz" t)
  c_LATER : ∃ t, mg "LATER" = some (.str "abcdefghijklmnopqrstuvwxyz0123456789" t)
  c_MOST : ∃ t, mg "MOST" = some (.int 1000000 t)
  c_MOST_ARCS : ∃ t, mg "MOST_ARCS" = some (.int 96 t)
  c_MOST_HOURS : ∃ t, mg "MOST_HOURS" = some (.int 6 t)
  c_MOST_PLACES : ∃ t, mg "MOST_PLACES" = some (.int 12 t)
  c_MOST_ROADS : ∃ t, mg "MOST_ROADS" = some (.int 24 t)
  c_MOST_RUNGS : ∃ t, mg "MOST_RUNGS" = some (.int 4 t)
  c_MOST_SIGNS : ∃ t, mg "MOST_SIGNS" = some (.int 8 t)
  c_MOST_TAKES : ∃ t, mg "MOST_TAKES" = some (.int 9 t)
  me_Net_fresh : Meth K (He.ga K "Net") "fresh" (He.ma K (He.ga K "Net") "fresh")
  me_Net_known : Meth K (He.ga K "Net") "known" (He.ma K (He.ga K "Net") "known")
  me_Net_place : Meth K (He.ga K "Net") "place" (He.ma K (He.ga K "Net") "place")
  me_Net_place_names : Meth K (He.ga K "Net") "place_names" (He.ma K (He.ga K "Net") "place_names")
  me_Net_place_told : Meth K (He.ga K "Net") "place_told" (He.ma K (He.ga K "Net") "place_told")
  me_Net_road : Meth K (He.ga K "Net") "road" (He.ma K (He.ga K "Net") "road")
  me_Net_road_names : Meth K (He.ga K "Net") "road_names" (He.ma K (He.ga K "Net") "road_names")
  me_Net_road_told : Meth K (He.ga K "Net") "road_told" (He.ma K (He.ga K "Net") "road_told")
  me_Net_set_place : Meth K (He.ga K "Net") "set_place" (He.ma K (He.ga K "Net") "set_place")
  me_Net_set_road : Meth K (He.ga K "Net") "set_road" (He.ma K (He.ga K "Net") "set_road")
  me_Net_spots : Meth K (He.ga K "Net") "spots" (He.ma K (He.ga K "Net") "spots")
  me_Net_through : Meth K (He.ga K "Net") "through" (He.ma K (He.ga K "Net") "through")
  g_Atlas : mg "Atlas" = some (.ref (He.ga K "Atlas"))
  mk_Atlas : Mk K (He.ga K "Atlas") (He.ma K (He.ga K "Atlas") "__init__")
  g_Lowered : mg "Lowered" = some (.ref (He.ga K "Lowered"))
  mk_Lowered : Mk K (He.ga K "Lowered") (He.ma K (He.ga K "Lowered") "__init__")
  g_Net : mg "Net" = some (.ref (He.ga K "Net"))
  mk_Net : Mk K (He.ga K "Net") (He.ma K (He.ga K "Net") "__init__")
  cl_Span : Cls K (He.ga K "Span")
  cl_Net : Cls K (He.ga K "Net")
  cl_Lowered : Cls K (He.ga K "Lowered")
  cl_Oblong : Cls K (He.ga K "Oblong")
  cl_Atlas : Cls K (He.ga K "Atlas")
  cn : ClsN K ccs cfl
  x_WeirError : DW.ExcX K mg "WeirError" xfl
  x_NetError : DW.ExcX K mg "NetError" xfl
  x_BadBox : DW.ExcX K mg "BadBox" xfl
  x_BadHours : DW.ExcX K mg "BadHours" xfl
  x_FormError : DW.ExcX K mg "FormError" xfl
  x_BadName : DW.ExcX K mg "BadName" xfl
  x_BadRungs : DW.ExcX K mg "BadRungs" xfl
  x_BadTakes : DW.ExcX K mg "BadTakes" xfl
  x_Below : DW.ExcX K mg "Below" xfl
  x_Falls : DW.ExcX K mg "Falls" xfl
  x_NoPlace : DW.ExcX K mg "NoPlace" xfl
  x_NoRoad : DW.ExcX K mg "NoRoad" xfl
  x_Taken : DW.ExcX K mg "Taken" xfl
  x_TooFar : DW.ExcX K mg "TooFar" xfl
  x_TooGreat : DW.ExcX K mg "TooGreat" xfl
  x_TooMany : DW.ExcX K mg "TooMany" xfl
  xc : XcN K xsub xfl
  ve : PySem.W.findCls K (.type "ValueError") (.type "type") "__init__" = some (.val (.builtin "ValueError.__init__"))
  dk_Net_UinitU_s_box : ∀ as H, Rel K as H (.tup [(.int 0), (.int 0)]) (.ref ((kwdAt ("Net", some "__init__") "s_box") K))
  dk_Net_UinitU_t_box : ∀ as H, Rel K as H (.tup [(.int 0), (.int 0)]) (.ref ((kwdAt ("Net", some "__init__") "t_box") K))
  dk_Net_road_floor : ∀ as H, Rel K as H (.tup [(.int 0), (.int 0)]) (.ref ((kwdAt ("Net", some "road") "floor") K))
  dk_Net_road_rungs : ∀ as H, Rel K as H (.tup [(.tup [.non, (.tup [(.int 0), (.int 0)])])]) (.ref (He.ga K "OPEN_RUNG"))
abbrev si_WeirError : Stmt := inClass (topS 2) 0
theorem sci_WeirError : FnScope ["self", "word"] ["self", "word"] (defScope si_WeirError) := ⟨rfl, rfl, rfl, by decide +kernel, rfl, by decide +kernel, by decide +kernel⟩
def ti_WeirError (K : PySem.W.Frag) : TS :=
  (tSeq (tDrop (tVeI K (tCons (tVar 0) (tCons (tVar 1) tNil)))) (tOst K "word" (tVar 0) (tVar 1)))
theorem pui_WeirError (K : PySem.W.Frag) (vs : List V) (H : Hp) (Q : VK) (E : XK) (h : spIn K 1 xs_WeirError vs H Q E) : ti_WeirError K ⟨fun _ H' => Q .non H', Q, fun _ _ => False, fun _ _ => False⟩ (start ["self", "word"] vs) H := by
  obtain ⟨a, ws, rfl, hl, C, ha, hC, hn, k⟩ := h
  match ws, hl with
  | [w0], _ =>
    show ti_WeirError K _ [some (.ref a), some w0] H
    refine ⟨_, rfl, _, rfl, a, C, _, rfl, Nat.le_of_ble_eq_true rfl, hC, ha, ?_⟩
    exact ⟨_, rfl, _, rfl, a, C, rfl, hC, hn "word" (by simp [flV, xs_WeirError]), .inl ⟨ha, k⟩⟩
theorem oki_WeirError {P : Program} {w : World} {K : PySem.W.Frag} {mg : Str → Option Value} {base : Heap} (T : Tx w K mg) : FnMU P w K mg base 1 "WeirError" "__init__" ["self", "word"] (spIn K 1 xs_WeirError) := by
  obtain ⟨fd, F⟩ := T.di_WeirError
  refine ⟨fd, F.okU sci_WeirError (fun vs H Q E h => by obtain ⟨a, ws, rfl, hl, _⟩ := h; simp [hl]) (fun cdv A outer s H vs Q E hr h => ⟨ti_WeirError K, PSs.nox ?_, pui_WeirError K vs H Q E h⟩), FunD.bindsN F (ps := ["self", "word"]) fun _ _ _ _ _ _ us hl => match us, hl with | [_, _], _ => rfl⟩
  exact (pss_cons (ps_expr (pe_veinit (by rfl) T.m_ValueError T.ve (pa_cons (pv 0) (pa_cons (pv 1) pa_nil)))) (pss_one (ps_ost (pv 0) (pv 1))))
abbrev si_NetError : Stmt := inClass (topS 9) 0
theorem sci_NetError : FnScope ["self", "word"] ["self", "word"] (defScope si_NetError) := ⟨rfl, rfl, rfl, by decide +kernel, rfl, by decide +kernel, by decide +kernel⟩
def ti_NetError (K : PySem.W.Frag) : TS :=
  (tDrop (tCall (spIn K 1 xs_WeirError) [] E0 (tCons (tVar 0) (tCons (tVar 1) tNil))))
theorem pui_NetError (K : PySem.W.Frag) (vs : List V) (H : Hp) (Q : VK) (E : XK) (h : spIn K 1 xs_NetError vs H Q E) : ti_NetError K ⟨fun _ H' => Q .non H', Q, fun _ _ => False, fun _ _ => False⟩ (start ["self", "word"] vs) H := by
  obtain ⟨a, ws, rfl, hl, C, ha, hC, hn, k⟩ := h
  match ws, hl with
  | [w0], _ =>
    show ti_NetError K _ [some (.ref a), some w0] H
    refine ⟨_, rfl, _, rfl, a, [w0], rfl, rfl, C, ha, hC, fun f hf => hn f ?_, fun dx hdx hne => ?_⟩
    · simp [flV, xs_NetError, xs_WeirError] at hf ⊢; simp [hf]
    · exact k dx hdx hne
theorem oki_NetError {P : Program} {w : World} {K : PySem.W.Frag} {mg : Str → Option Value} {base : Heap} (T : Tx w K mg)
    (G_WeirError_init : FnMU P w K mg base 1 "WeirError" "__init__" ["self", "word"] (spIn K 1 xs_WeirError)) : FnMU P w K mg base 2 "NetError" "__init__" ["self", "word"] (spIn K 1 xs_NetError) := by
  obtain ⟨fd, F⟩ := T.di_NetError
  refine ⟨fd, F.okU sci_NetError (fun vs H Q E h => by obtain ⟨a, ws, rfl, hl, _⟩ := h; simp [hl]) (fun cdv A outer s H vs Q E hr h => ⟨ti_NetError K, PSs.nox ?_, pui_NetError K vs H Q E h⟩), FunD.bindsN F (ps := ["self", "word"]) fun _ _ _ _ _ _ us hl => match us, hl with | [_, _], _ => rfl⟩
  exact (pss_one (ps_expr (pe_initU T.x_WeirError G_WeirError_init (hr.mono (by decide)) (by rfl) (pa_cons (pv 0) (pa_cons (pv 1) pa_nil)))) )
abbrev si_BadBox : Stmt := inClass (topS 11) 0
theorem sci_BadBox : FnScope ["self", "dial"] ["self", "dial"] (defScope si_BadBox) := ⟨rfl, rfl, rfl, by decide +kernel, rfl, by decide +kernel, by decide +kernel⟩
def ti_BadBox (K : PySem.W.Frag) : TS :=
  (tSeq (tDrop (tCall (spIn K 1 xs_NetError) [] E0 (tCons (tVar 0) (tCons (tC (.str "bad box")) tNil)))) (tOst K "dial" (tVar 0) (tVar 1)))
theorem pui_BadBox (K : PySem.W.Frag) (vs : List V) (H : Hp) (Q : VK) (E : XK) (h : spIn K 1 xs_BadBox vs H Q E) : ti_BadBox K ⟨fun _ H' => Q .non H', Q, fun _ _ => False, fun _ _ => False⟩ (start ["self", "dial"] vs) H := by
  obtain ⟨a, ws, rfl, hl, C, ha, hC, hn, k⟩ := h
  match ws, hl with
  | [w0], _ =>
    show ti_BadBox K _ [some (.ref a), some w0] H
    refine ⟨_, rfl, a, [.str "bad box"], rfl, rfl, C, ha, hC, fun f hf => hn f ?_, fun dx hdx hne => ?_⟩
    · simp [flV, xs_BadBox, xs_NetError] at hf ⊢; simp [hf]
    · have hA0 : (upd (upd H dx (exd dx (flV xs_NetError [.str "bad box"]))) a (exo a C (some dx))) a = some (exo a C (some dx)) := by
        exact upd_same
      have hD0 : (upd (upd H dx (exd dx (flV xs_NetError [.str "bad box"]))) a (exo a C (some dx))) dx = some (exd dx (flV xs_NetError [.str "bad box"])) := by
        rw [upd_ne hne, upd_same]
      refine ⟨_, rfl, _, rfl, a, C, rfl, hC, hn "dial" (by simp [flV, xs_BadBox]), .inr ⟨dx, _, hA0, hD0, by simp [flV, xs_NetError], ?_⟩⟩
      have e : upd (upd (upd H dx (exd dx (flV xs_NetError [.str "bad box"]))) a (exo a C (some dx))) dx (exd dx (("dial", w0) :: flV xs_NetError [.str "bad box"])) = upd (upd H dx (exd dx (flV xs_BadBox [w0]))) a (exo a C (some dx)) := by
        funext y; by_cases h1 : y = dx
        · subst h1; rw [upd_same, upd_ne hne, upd_same]; rfl
        · by_cases h2 : y = a
          · subst h2; simp only [upd, if_neg h1, if_true]
          · simp only [upd, if_neg h1, if_neg h2]
      rw [e]; exact k dx hdx hne
theorem oki_BadBox {P : Program} {w : World} {K : PySem.W.Frag} {mg : Str → Option Value} {base : Heap} (T : Tx w K mg)
    (G_NetError_init : FnMU P w K mg base 2 "NetError" "__init__" ["self", "word"] (spIn K 1 xs_NetError)) : FnMU P w K mg base 3 "BadBox" "__init__" ["self", "dial"] (spIn K 1 xs_BadBox) := by
  obtain ⟨fd, F⟩ := T.di_BadBox
  refine ⟨fd, F.okU sci_BadBox (fun vs H Q E h => by obtain ⟨a, ws, rfl, hl, _⟩ := h; simp [hl]) (fun cdv A outer s H vs Q E hr h => ⟨ti_BadBox K, PSs.nox ?_, pui_BadBox K vs H Q E h⟩), FunD.bindsN F (ps := ["self", "dial"]) fun _ _ _ _ _ _ us hl => match us, hl with | [_, _], _ => rfl⟩
  exact (pss_cons (ps_expr (pe_initU T.x_NetError G_NetError_init (hr.mono (by decide)) (by rfl) (pa_cons (pv 0) (pa_cons pe_str pa_nil)))) (pss_one (ps_ost (pv 0) (pv 1))))
abbrev si_BadHours : Stmt := inClass (topS 10) 0
theorem sci_BadHours : FnScope ["self", "number"] ["self", "number"] (defScope si_BadHours) := ⟨rfl, rfl, rfl, by decide +kernel, rfl, by decide +kernel, by decide +kernel⟩
def ti_BadHours (K : PySem.W.Frag) : TS :=
  (tSeq (tDrop (tCall (spIn K 1 xs_NetError) [] E0 (tCons (tVar 0) (tCons (tC (.str "bad hours")) tNil)))) (tOst K "number" (tVar 0) (tVar 1)))
theorem pui_BadHours (K : PySem.W.Frag) (vs : List V) (H : Hp) (Q : VK) (E : XK) (h : spIn K 1 xs_BadHours vs H Q E) : ti_BadHours K ⟨fun _ H' => Q .non H', Q, fun _ _ => False, fun _ _ => False⟩ (start ["self", "number"] vs) H := by
  obtain ⟨a, ws, rfl, hl, C, ha, hC, hn, k⟩ := h
  match ws, hl with
  | [w0], _ =>
    show ti_BadHours K _ [some (.ref a), some w0] H
    refine ⟨_, rfl, a, [.str "bad hours"], rfl, rfl, C, ha, hC, fun f hf => hn f ?_, fun dx hdx hne => ?_⟩
    · simp [flV, xs_BadHours, xs_NetError] at hf ⊢; simp [hf]
    · have hA0 : (upd (upd H dx (exd dx (flV xs_NetError [.str "bad hours"]))) a (exo a C (some dx))) a = some (exo a C (some dx)) := by
        exact upd_same
      have hD0 : (upd (upd H dx (exd dx (flV xs_NetError [.str "bad hours"]))) a (exo a C (some dx))) dx = some (exd dx (flV xs_NetError [.str "bad hours"])) := by
        rw [upd_ne hne, upd_same]
      refine ⟨_, rfl, _, rfl, a, C, rfl, hC, hn "number" (by simp [flV, xs_BadHours]), .inr ⟨dx, _, hA0, hD0, by simp [flV, xs_NetError], ?_⟩⟩
      have e : upd (upd (upd H dx (exd dx (flV xs_NetError [.str "bad hours"]))) a (exo a C (some dx))) dx (exd dx (("number", w0) :: flV xs_NetError [.str "bad hours"])) = upd (upd H dx (exd dx (flV xs_BadHours [w0]))) a (exo a C (some dx)) := by
        funext y; by_cases h1 : y = dx
        · subst h1; rw [upd_same, upd_ne hne, upd_same]; rfl
        · by_cases h2 : y = a
          · subst h2; simp only [upd, if_neg h1, if_true]
          · simp only [upd, if_neg h1, if_neg h2]
      rw [e]; exact k dx hdx hne
theorem oki_BadHours {P : Program} {w : World} {K : PySem.W.Frag} {mg : Str → Option Value} {base : Heap} (T : Tx w K mg)
    (G_NetError_init : FnMU P w K mg base 2 "NetError" "__init__" ["self", "word"] (spIn K 1 xs_NetError)) : FnMU P w K mg base 3 "BadHours" "__init__" ["self", "number"] (spIn K 1 xs_BadHours) := by
  obtain ⟨fd, F⟩ := T.di_BadHours
  refine ⟨fd, F.okU sci_BadHours (fun vs H Q E h => by obtain ⟨a, ws, rfl, hl, _⟩ := h; simp [hl]) (fun cdv A outer s H vs Q E hr h => ⟨ti_BadHours K, PSs.nox ?_, pui_BadHours K vs H Q E h⟩), FunD.bindsN F (ps := ["self", "number"]) fun _ _ _ _ _ _ us hl => match us, hl with | [_, _], _ => rfl⟩
  exact (pss_cons (ps_expr (pe_initU T.x_NetError G_NetError_init (hr.mono (by decide)) (by rfl) (pa_cons (pv 0) (pa_cons pe_str pa_nil)))) (pss_one (ps_ost (pv 0) (pv 1))))
abbrev si_FormError : Stmt := inClass (topS 3) 0
theorem sci_FormError : FnScope ["self", "word"] ["self", "word"] (defScope si_FormError) := ⟨rfl, rfl, rfl, by decide +kernel, rfl, by decide +kernel, by decide +kernel⟩
def ti_FormError (K : PySem.W.Frag) : TS :=
  (tDrop (tCall (spIn K 1 xs_WeirError) [] E0 (tCons (tVar 0) (tCons (tVar 1) tNil))))
theorem pui_FormError (K : PySem.W.Frag) (vs : List V) (H : Hp) (Q : VK) (E : XK) (h : spIn K 1 xs_FormError vs H Q E) : ti_FormError K ⟨fun _ H' => Q .non H', Q, fun _ _ => False, fun _ _ => False⟩ (start ["self", "word"] vs) H := by
  obtain ⟨a, ws, rfl, hl, C, ha, hC, hn, k⟩ := h
  match ws, hl with
  | [w0], _ =>
    show ti_FormError K _ [some (.ref a), some w0] H
    refine ⟨_, rfl, _, rfl, a, [w0], rfl, rfl, C, ha, hC, fun f hf => hn f ?_, fun dx hdx hne => ?_⟩
    · simp [flV, xs_FormError, xs_WeirError] at hf ⊢; simp [hf]
    · exact k dx hdx hne
theorem oki_FormError {P : Program} {w : World} {K : PySem.W.Frag} {mg : Str → Option Value} {base : Heap} (T : Tx w K mg)
    (G_WeirError_init : FnMU P w K mg base 1 "WeirError" "__init__" ["self", "word"] (spIn K 1 xs_WeirError)) : FnMU P w K mg base 2 "FormError" "__init__" ["self", "word"] (spIn K 1 xs_FormError) := by
  obtain ⟨fd, F⟩ := T.di_FormError
  refine ⟨fd, F.okU sci_FormError (fun vs H Q E h => by obtain ⟨a, ws, rfl, hl, _⟩ := h; simp [hl]) (fun cdv A outer s H vs Q E hr h => ⟨ti_FormError K, PSs.nox ?_, pui_FormError K vs H Q E h⟩), FunD.bindsN F (ps := ["self", "word"]) fun _ _ _ _ _ _ us hl => match us, hl with | [_, _], _ => rfl⟩
  exact (pss_one (ps_expr (pe_initU T.x_WeirError G_WeirError_init (hr.mono (by decide)) (by rfl) (pa_cons (pv 0) (pa_cons (pv 1) pa_nil)))) )
abbrev si_BadName : Stmt := inClass (topS 4) 0
theorem sci_BadName : FnScope ["self", "name"] ["self", "name"] (defScope si_BadName) := ⟨rfl, rfl, rfl, by decide +kernel, rfl, by decide +kernel, by decide +kernel⟩
def ti_BadName (K : PySem.W.Frag) : TS :=
  (tSeq (tDrop (tCall (spIn K 1 xs_FormError) [] E0 (tCons (tVar 0) (tCons (tC (.str "bad name")) tNil)))) (tOst K "name" (tVar 0) (tVar 1)))
theorem pui_BadName (K : PySem.W.Frag) (vs : List V) (H : Hp) (Q : VK) (E : XK) (h : spIn K 1 xs_BadName vs H Q E) : ti_BadName K ⟨fun _ H' => Q .non H', Q, fun _ _ => False, fun _ _ => False⟩ (start ["self", "name"] vs) H := by
  obtain ⟨a, ws, rfl, hl, C, ha, hC, hn, k⟩ := h
  match ws, hl with
  | [w0], _ =>
    show ti_BadName K _ [some (.ref a), some w0] H
    refine ⟨_, rfl, a, [.str "bad name"], rfl, rfl, C, ha, hC, fun f hf => hn f ?_, fun dx hdx hne => ?_⟩
    · simp [flV, xs_BadName, xs_FormError] at hf ⊢; simp [hf]
    · have hA0 : (upd (upd H dx (exd dx (flV xs_FormError [.str "bad name"]))) a (exo a C (some dx))) a = some (exo a C (some dx)) := by
        exact upd_same
      have hD0 : (upd (upd H dx (exd dx (flV xs_FormError [.str "bad name"]))) a (exo a C (some dx))) dx = some (exd dx (flV xs_FormError [.str "bad name"])) := by
        rw [upd_ne hne, upd_same]
      refine ⟨_, rfl, _, rfl, a, C, rfl, hC, hn "name" (by simp [flV, xs_BadName]), .inr ⟨dx, _, hA0, hD0, by simp [flV, xs_FormError], ?_⟩⟩
      have e : upd (upd (upd H dx (exd dx (flV xs_FormError [.str "bad name"]))) a (exo a C (some dx))) dx (exd dx (("name", w0) :: flV xs_FormError [.str "bad name"])) = upd (upd H dx (exd dx (flV xs_BadName [w0]))) a (exo a C (some dx)) := by
        funext y; by_cases h1 : y = dx
        · subst h1; rw [upd_same, upd_ne hne, upd_same]; rfl
        · by_cases h2 : y = a
          · subst h2; simp only [upd, if_neg h1, if_true]
          · simp only [upd, if_neg h1, if_neg h2]
      rw [e]; exact k dx hdx hne
theorem oki_BadName {P : Program} {w : World} {K : PySem.W.Frag} {mg : Str → Option Value} {base : Heap} (T : Tx w K mg)
    (G_FormError_init : FnMU P w K mg base 2 "FormError" "__init__" ["self", "word"] (spIn K 1 xs_FormError)) : FnMU P w K mg base 3 "BadName" "__init__" ["self", "name"] (spIn K 1 xs_BadName) := by
  obtain ⟨fd, F⟩ := T.di_BadName
  refine ⟨fd, F.okU sci_BadName (fun vs H Q E h => by obtain ⟨a, ws, rfl, hl, _⟩ := h; simp [hl]) (fun cdv A outer s H vs Q E hr h => ⟨ti_BadName K, PSs.nox ?_, pui_BadName K vs H Q E h⟩), FunD.bindsN F (ps := ["self", "name"]) fun _ _ _ _ _ _ us hl => match us, hl with | [_, _], _ => rfl⟩
  exact (pss_cons (ps_expr (pe_initU T.x_FormError G_FormError_init (hr.mono (by decide)) (by rfl) (pa_cons (pv 0) (pa_cons pe_str pa_nil)))) (pss_one (ps_ost (pv 0) (pv 1))))
abbrev si_BadRungs : Stmt := inClass (topS 23) 0
theorem sci_BadRungs : FnScope ["self", "name"] ["self", "name"] (defScope si_BadRungs) := ⟨rfl, rfl, rfl, by decide +kernel, rfl, by decide +kernel, by decide +kernel⟩
def ti_BadRungs (K : PySem.W.Frag) : TS :=
  (tSeq (tDrop (tCall (spIn K 1 xs_NetError) [] E0 (tCons (tVar 0) (tCons (tC (.str "bad rungs")) tNil)))) (tOst K "name" (tVar 0) (tVar 1)))
theorem pui_BadRungs (K : PySem.W.Frag) (vs : List V) (H : Hp) (Q : VK) (E : XK) (h : spIn K 1 xs_BadRungs vs H Q E) : ti_BadRungs K ⟨fun _ H' => Q .non H', Q, fun _ _ => False, fun _ _ => False⟩ (start ["self", "name"] vs) H := by
  obtain ⟨a, ws, rfl, hl, C, ha, hC, hn, k⟩ := h
  match ws, hl with
  | [w0], _ =>
    show ti_BadRungs K _ [some (.ref a), some w0] H
    refine ⟨_, rfl, a, [.str "bad rungs"], rfl, rfl, C, ha, hC, fun f hf => hn f ?_, fun dx hdx hne => ?_⟩
    · simp [flV, xs_BadRungs, xs_NetError] at hf ⊢; simp [hf]
    · have hA0 : (upd (upd H dx (exd dx (flV xs_NetError [.str "bad rungs"]))) a (exo a C (some dx))) a = some (exo a C (some dx)) := by
        exact upd_same
      have hD0 : (upd (upd H dx (exd dx (flV xs_NetError [.str "bad rungs"]))) a (exo a C (some dx))) dx = some (exd dx (flV xs_NetError [.str "bad rungs"])) := by
        rw [upd_ne hne, upd_same]
      refine ⟨_, rfl, _, rfl, a, C, rfl, hC, hn "name" (by simp [flV, xs_BadRungs]), .inr ⟨dx, _, hA0, hD0, by simp [flV, xs_NetError], ?_⟩⟩
      have e : upd (upd (upd H dx (exd dx (flV xs_NetError [.str "bad rungs"]))) a (exo a C (some dx))) dx (exd dx (("name", w0) :: flV xs_NetError [.str "bad rungs"])) = upd (upd H dx (exd dx (flV xs_BadRungs [w0]))) a (exo a C (some dx)) := by
        funext y; by_cases h1 : y = dx
        · subst h1; rw [upd_same, upd_ne hne, upd_same]; rfl
        · by_cases h2 : y = a
          · subst h2; simp only [upd, if_neg h1, if_true]
          · simp only [upd, if_neg h1, if_neg h2]
      rw [e]; exact k dx hdx hne
theorem oki_BadRungs {P : Program} {w : World} {K : PySem.W.Frag} {mg : Str → Option Value} {base : Heap} (T : Tx w K mg)
    (G_NetError_init : FnMU P w K mg base 2 "NetError" "__init__" ["self", "word"] (spIn K 1 xs_NetError)) : FnMU P w K mg base 3 "BadRungs" "__init__" ["self", "name"] (spIn K 1 xs_BadRungs) := by
  obtain ⟨fd, F⟩ := T.di_BadRungs
  refine ⟨fd, F.okU sci_BadRungs (fun vs H Q E h => by obtain ⟨a, ws, rfl, hl, _⟩ := h; simp [hl]) (fun cdv A outer s H vs Q E hr h => ⟨ti_BadRungs K, PSs.nox ?_, pui_BadRungs K vs H Q E h⟩), FunD.bindsN F (ps := ["self", "name"]) fun _ _ _ _ _ _ us hl => match us, hl with | [_, _], _ => rfl⟩
  exact (pss_cons (ps_expr (pe_initU T.x_NetError G_NetError_init (hr.mono (by decide)) (by rfl) (pa_cons (pv 0) (pa_cons pe_str pa_nil)))) (pss_one (ps_ost (pv 0) (pv 1))))
abbrev si_BadTakes : Stmt := inClass (topS 24) 0
theorem sci_BadTakes : FnScope ["self", "number"] ["self", "number"] (defScope si_BadTakes) := ⟨rfl, rfl, rfl, by decide +kernel, rfl, by decide +kernel, by decide +kernel⟩
def ti_BadTakes (K : PySem.W.Frag) : TS :=
  (tSeq (tDrop (tCall (spIn K 1 xs_NetError) [] E0 (tCons (tVar 0) (tCons (tC (.str "bad takes")) tNil)))) (tOst K "number" (tVar 0) (tVar 1)))
theorem pui_BadTakes (K : PySem.W.Frag) (vs : List V) (H : Hp) (Q : VK) (E : XK) (h : spIn K 1 xs_BadTakes vs H Q E) : ti_BadTakes K ⟨fun _ H' => Q .non H', Q, fun _ _ => False, fun _ _ => False⟩ (start ["self", "number"] vs) H := by
  obtain ⟨a, ws, rfl, hl, C, ha, hC, hn, k⟩ := h
  match ws, hl with
  | [w0], _ =>
    show ti_BadTakes K _ [some (.ref a), some w0] H
    refine ⟨_, rfl, a, [.str "bad takes"], rfl, rfl, C, ha, hC, fun f hf => hn f ?_, fun dx hdx hne => ?_⟩
    · simp [flV, xs_BadTakes, xs_NetError] at hf ⊢; simp [hf]
    · have hA0 : (upd (upd H dx (exd dx (flV xs_NetError [.str "bad takes"]))) a (exo a C (some dx))) a = some (exo a C (some dx)) := by
        exact upd_same
      have hD0 : (upd (upd H dx (exd dx (flV xs_NetError [.str "bad takes"]))) a (exo a C (some dx))) dx = some (exd dx (flV xs_NetError [.str "bad takes"])) := by
        rw [upd_ne hne, upd_same]
      refine ⟨_, rfl, _, rfl, a, C, rfl, hC, hn "number" (by simp [flV, xs_BadTakes]), .inr ⟨dx, _, hA0, hD0, by simp [flV, xs_NetError], ?_⟩⟩
      have e : upd (upd (upd H dx (exd dx (flV xs_NetError [.str "bad takes"]))) a (exo a C (some dx))) dx (exd dx (("number", w0) :: flV xs_NetError [.str "bad takes"])) = upd (upd H dx (exd dx (flV xs_BadTakes [w0]))) a (exo a C (some dx)) := by
        funext y; by_cases h1 : y = dx
        · subst h1; rw [upd_same, upd_ne hne, upd_same]; rfl
        · by_cases h2 : y = a
          · subst h2; simp only [upd, if_neg h1, if_true]
          · simp only [upd, if_neg h1, if_neg h2]
      rw [e]; exact k dx hdx hne
theorem oki_BadTakes {P : Program} {w : World} {K : PySem.W.Frag} {mg : Str → Option Value} {base : Heap} (T : Tx w K mg)
    (G_NetError_init : FnMU P w K mg base 2 "NetError" "__init__" ["self", "word"] (spIn K 1 xs_NetError)) : FnMU P w K mg base 3 "BadTakes" "__init__" ["self", "number"] (spIn K 1 xs_BadTakes) := by
  obtain ⟨fd, F⟩ := T.di_BadTakes
  refine ⟨fd, F.okU sci_BadTakes (fun vs H Q E h => by obtain ⟨a, ws, rfl, hl, _⟩ := h; simp [hl]) (fun cdv A outer s H vs Q E hr h => ⟨ti_BadTakes K, PSs.nox ?_, pui_BadTakes K vs H Q E h⟩), FunD.bindsN F (ps := ["self", "number"]) fun _ _ _ _ _ _ us hl => match us, hl with | [_, _], _ => rfl⟩
  exact (pss_cons (ps_expr (pe_initU T.x_NetError G_NetError_init (hr.mono (by decide)) (by rfl) (pa_cons (pv 0) (pa_cons pe_str pa_nil)))) (pss_one (ps_ost (pv 0) (pv 1))))
abbrev si_Below : Stmt := inClass (topS 21) 0
theorem sci_Below : FnScope ["self", "name"] ["self", "name"] (defScope si_Below) := ⟨rfl, rfl, rfl, by decide +kernel, rfl, by decide +kernel, by decide +kernel⟩
def ti_Below (K : PySem.W.Frag) : TS :=
  (tSeq (tDrop (tCall (spIn K 1 xs_NetError) [] E0 (tCons (tVar 0) (tCons (tC (.str "below")) tNil)))) (tOst K "name" (tVar 0) (tVar 1)))
theorem pui_Below (K : PySem.W.Frag) (vs : List V) (H : Hp) (Q : VK) (E : XK) (h : spIn K 1 xs_Below vs H Q E) : ti_Below K ⟨fun _ H' => Q .non H', Q, fun _ _ => False, fun _ _ => False⟩ (start ["self", "name"] vs) H := by
  obtain ⟨a, ws, rfl, hl, C, ha, hC, hn, k⟩ := h
  match ws, hl with
  | [w0], _ =>
    show ti_Below K _ [some (.ref a), some w0] H
    refine ⟨_, rfl, a, [.str "below"], rfl, rfl, C, ha, hC, fun f hf => hn f ?_, fun dx hdx hne => ?_⟩
    · simp [flV, xs_Below, xs_NetError] at hf ⊢; simp [hf]
    · have hA0 : (upd (upd H dx (exd dx (flV xs_NetError [.str "below"]))) a (exo a C (some dx))) a = some (exo a C (some dx)) := by
        exact upd_same
      have hD0 : (upd (upd H dx (exd dx (flV xs_NetError [.str "below"]))) a (exo a C (some dx))) dx = some (exd dx (flV xs_NetError [.str "below"])) := by
        rw [upd_ne hne, upd_same]
      refine ⟨_, rfl, _, rfl, a, C, rfl, hC, hn "name" (by simp [flV, xs_Below]), .inr ⟨dx, _, hA0, hD0, by simp [flV, xs_NetError], ?_⟩⟩
      have e : upd (upd (upd H dx (exd dx (flV xs_NetError [.str "below"]))) a (exo a C (some dx))) dx (exd dx (("name", w0) :: flV xs_NetError [.str "below"])) = upd (upd H dx (exd dx (flV xs_Below [w0]))) a (exo a C (some dx)) := by
        funext y; by_cases h1 : y = dx
        · subst h1; rw [upd_same, upd_ne hne, upd_same]; rfl
        · by_cases h2 : y = a
          · subst h2; simp only [upd, if_neg h1, if_true]
          · simp only [upd, if_neg h1, if_neg h2]
      rw [e]; exact k dx hdx hne
theorem oki_Below {P : Program} {w : World} {K : PySem.W.Frag} {mg : Str → Option Value} {base : Heap} (T : Tx w K mg)
    (G_NetError_init : FnMU P w K mg base 2 "NetError" "__init__" ["self", "word"] (spIn K 1 xs_NetError)) : FnMU P w K mg base 3 "Below" "__init__" ["self", "name"] (spIn K 1 xs_Below) := by
  obtain ⟨fd, F⟩ := T.di_Below
  refine ⟨fd, F.okU sci_Below (fun vs H Q E h => by obtain ⟨a, ws, rfl, hl, _⟩ := h; simp [hl]) (fun cdv A outer s H vs Q E hr h => ⟨ti_Below K, PSs.nox ?_, pui_Below K vs H Q E h⟩), FunD.bindsN F (ps := ["self", "name"]) fun _ _ _ _ _ _ us hl => match us, hl with | [_, _], _ => rfl⟩
  exact (pss_cons (ps_expr (pe_initU T.x_NetError G_NetError_init (hr.mono (by decide)) (by rfl) (pa_cons (pv 0) (pa_cons pe_str pa_nil)))) (pss_one (ps_ost (pv 0) (pv 1))))
abbrev si_Falls : Stmt := inClass (topS 22) 0
theorem sci_Falls : FnScope ["self", "name"] ["self", "name"] (defScope si_Falls) := ⟨rfl, rfl, rfl, by decide +kernel, rfl, by decide +kernel, by decide +kernel⟩
def ti_Falls (K : PySem.W.Frag) : TS :=
  (tSeq (tDrop (tCall (spIn K 1 xs_NetError) [] E0 (tCons (tVar 0) (tCons (tC (.str "falls")) tNil)))) (tOst K "name" (tVar 0) (tVar 1)))
theorem pui_Falls (K : PySem.W.Frag) (vs : List V) (H : Hp) (Q : VK) (E : XK) (h : spIn K 1 xs_Falls vs H Q E) : ti_Falls K ⟨fun _ H' => Q .non H', Q, fun _ _ => False, fun _ _ => False⟩ (start ["self", "name"] vs) H := by
  obtain ⟨a, ws, rfl, hl, C, ha, hC, hn, k⟩ := h
  match ws, hl with
  | [w0], _ =>
    show ti_Falls K _ [some (.ref a), some w0] H
    refine ⟨_, rfl, a, [.str "falls"], rfl, rfl, C, ha, hC, fun f hf => hn f ?_, fun dx hdx hne => ?_⟩
    · simp [flV, xs_Falls, xs_NetError] at hf ⊢; simp [hf]
    · have hA0 : (upd (upd H dx (exd dx (flV xs_NetError [.str "falls"]))) a (exo a C (some dx))) a = some (exo a C (some dx)) := by
        exact upd_same
      have hD0 : (upd (upd H dx (exd dx (flV xs_NetError [.str "falls"]))) a (exo a C (some dx))) dx = some (exd dx (flV xs_NetError [.str "falls"])) := by
        rw [upd_ne hne, upd_same]
      refine ⟨_, rfl, _, rfl, a, C, rfl, hC, hn "name" (by simp [flV, xs_Falls]), .inr ⟨dx, _, hA0, hD0, by simp [flV, xs_NetError], ?_⟩⟩
      have e : upd (upd (upd H dx (exd dx (flV xs_NetError [.str "falls"]))) a (exo a C (some dx))) dx (exd dx (("name", w0) :: flV xs_NetError [.str "falls"])) = upd (upd H dx (exd dx (flV xs_Falls [w0]))) a (exo a C (some dx)) := by
        funext y; by_cases h1 : y = dx
        · subst h1; rw [upd_same, upd_ne hne, upd_same]; rfl
        · by_cases h2 : y = a
          · subst h2; simp only [upd, if_neg h1, if_true]
          · simp only [upd, if_neg h1, if_neg h2]
      rw [e]; exact k dx hdx hne
theorem oki_Falls {P : Program} {w : World} {K : PySem.W.Frag} {mg : Str → Option Value} {base : Heap} (T : Tx w K mg)
    (G_NetError_init : FnMU P w K mg base 2 "NetError" "__init__" ["self", "word"] (spIn K 1 xs_NetError)) : FnMU P w K mg base 3 "Falls" "__init__" ["self", "name"] (spIn K 1 xs_Falls) := by
  obtain ⟨fd, F⟩ := T.di_Falls
  refine ⟨fd, F.okU sci_Falls (fun vs H Q E h => by obtain ⟨a, ws, rfl, hl, _⟩ := h; simp [hl]) (fun cdv A outer s H vs Q E hr h => ⟨ti_Falls K, PSs.nox ?_, pui_Falls K vs H Q E h⟩), FunD.bindsN F (ps := ["self", "name"]) fun _ _ _ _ _ _ us hl => match us, hl with | [_, _], _ => rfl⟩
  exact (pss_cons (ps_expr (pe_initU T.x_NetError G_NetError_init (hr.mono (by decide)) (by rfl) (pa_cons (pv 0) (pa_cons pe_str pa_nil)))) (pss_one (ps_ost (pv 0) (pv 1))))
abbrev si_NoPlace : Stmt := inClass (topS 16) 0
theorem sci_NoPlace : FnScope ["self", "name"] ["self", "name"] (defScope si_NoPlace) := ⟨rfl, rfl, rfl, by decide +kernel, rfl, by decide +kernel, by decide +kernel⟩
def ti_NoPlace (K : PySem.W.Frag) : TS :=
  (tSeq (tDrop (tCall (spIn K 1 xs_NetError) [] E0 (tCons (tVar 0) (tCons (tC (.str "no place")) tNil)))) (tOst K "name" (tVar 0) (tVar 1)))
theorem pui_NoPlace (K : PySem.W.Frag) (vs : List V) (H : Hp) (Q : VK) (E : XK) (h : spIn K 1 xs_NoPlace vs H Q E) : ti_NoPlace K ⟨fun _ H' => Q .non H', Q, fun _ _ => False, fun _ _ => False⟩ (start ["self", "name"] vs) H := by
  obtain ⟨a, ws, rfl, hl, C, ha, hC, hn, k⟩ := h
  match ws, hl with
  | [w0], _ =>
    show ti_NoPlace K _ [some (.ref a), some w0] H
    refine ⟨_, rfl, a, [.str "no place"], rfl, rfl, C, ha, hC, fun f hf => hn f ?_, fun dx hdx hne => ?_⟩
    · simp [flV, xs_NoPlace, xs_NetError] at hf ⊢; simp [hf]
    · have hA0 : (upd (upd H dx (exd dx (flV xs_NetError [.str "no place"]))) a (exo a C (some dx))) a = some (exo a C (some dx)) := by
        exact upd_same
      have hD0 : (upd (upd H dx (exd dx (flV xs_NetError [.str "no place"]))) a (exo a C (some dx))) dx = some (exd dx (flV xs_NetError [.str "no place"])) := by
        rw [upd_ne hne, upd_same]
      refine ⟨_, rfl, _, rfl, a, C, rfl, hC, hn "name" (by simp [flV, xs_NoPlace]), .inr ⟨dx, _, hA0, hD0, by simp [flV, xs_NetError], ?_⟩⟩
      have e : upd (upd (upd H dx (exd dx (flV xs_NetError [.str "no place"]))) a (exo a C (some dx))) dx (exd dx (("name", w0) :: flV xs_NetError [.str "no place"])) = upd (upd H dx (exd dx (flV xs_NoPlace [w0]))) a (exo a C (some dx)) := by
        funext y; by_cases h1 : y = dx
        · subst h1; rw [upd_same, upd_ne hne, upd_same]; rfl
        · by_cases h2 : y = a
          · subst h2; simp only [upd, if_neg h1, if_true]
          · simp only [upd, if_neg h1, if_neg h2]
      rw [e]; exact k dx hdx hne
theorem oki_NoPlace {P : Program} {w : World} {K : PySem.W.Frag} {mg : Str → Option Value} {base : Heap} (T : Tx w K mg)
    (G_NetError_init : FnMU P w K mg base 2 "NetError" "__init__" ["self", "word"] (spIn K 1 xs_NetError)) : FnMU P w K mg base 3 "NoPlace" "__init__" ["self", "name"] (spIn K 1 xs_NoPlace) := by
  obtain ⟨fd, F⟩ := T.di_NoPlace
  refine ⟨fd, F.okU sci_NoPlace (fun vs H Q E h => by obtain ⟨a, ws, rfl, hl, _⟩ := h; simp [hl]) (fun cdv A outer s H vs Q E hr h => ⟨ti_NoPlace K, PSs.nox ?_, pui_NoPlace K vs H Q E h⟩), FunD.bindsN F (ps := ["self", "name"]) fun _ _ _ _ _ _ us hl => match us, hl with | [_, _], _ => rfl⟩
  exact (pss_cons (ps_expr (pe_initU T.x_NetError G_NetError_init (hr.mono (by decide)) (by rfl) (pa_cons (pv 0) (pa_cons pe_str pa_nil)))) (pss_one (ps_ost (pv 0) (pv 1))))
abbrev si_NoRoad : Stmt := inClass (topS 17) 0
theorem sci_NoRoad : FnScope ["self", "name"] ["self", "name"] (defScope si_NoRoad) := ⟨rfl, rfl, rfl, by decide +kernel, rfl, by decide +kernel, by decide +kernel⟩
def ti_NoRoad (K : PySem.W.Frag) : TS :=
  (tSeq (tDrop (tCall (spIn K 1 xs_NetError) [] E0 (tCons (tVar 0) (tCons (tC (.str "no road")) tNil)))) (tOst K "name" (tVar 0) (tVar 1)))
theorem pui_NoRoad (K : PySem.W.Frag) (vs : List V) (H : Hp) (Q : VK) (E : XK) (h : spIn K 1 xs_NoRoad vs H Q E) : ti_NoRoad K ⟨fun _ H' => Q .non H', Q, fun _ _ => False, fun _ _ => False⟩ (start ["self", "name"] vs) H := by
  obtain ⟨a, ws, rfl, hl, C, ha, hC, hn, k⟩ := h
  match ws, hl with
  | [w0], _ =>
    show ti_NoRoad K _ [some (.ref a), some w0] H
    refine ⟨_, rfl, a, [.str "no road"], rfl, rfl, C, ha, hC, fun f hf => hn f ?_, fun dx hdx hne => ?_⟩
    · simp [flV, xs_NoRoad, xs_NetError] at hf ⊢; simp [hf]
    · have hA0 : (upd (upd H dx (exd dx (flV xs_NetError [.str "no road"]))) a (exo a C (some dx))) a = some (exo a C (some dx)) := by
        exact upd_same
      have hD0 : (upd (upd H dx (exd dx (flV xs_NetError [.str "no road"]))) a (exo a C (some dx))) dx = some (exd dx (flV xs_NetError [.str "no road"])) := by
        rw [upd_ne hne, upd_same]
      refine ⟨_, rfl, _, rfl, a, C, rfl, hC, hn "name" (by simp [flV, xs_NoRoad]), .inr ⟨dx, _, hA0, hD0, by simp [flV, xs_NetError], ?_⟩⟩
      have e : upd (upd (upd H dx (exd dx (flV xs_NetError [.str "no road"]))) a (exo a C (some dx))) dx (exd dx (("name", w0) :: flV xs_NetError [.str "no road"])) = upd (upd H dx (exd dx (flV xs_NoRoad [w0]))) a (exo a C (some dx)) := by
        funext y; by_cases h1 : y = dx
        · subst h1; rw [upd_same, upd_ne hne, upd_same]; rfl
        · by_cases h2 : y = a
          · subst h2; simp only [upd, if_neg h1, if_true]
          · simp only [upd, if_neg h1, if_neg h2]
      rw [e]; exact k dx hdx hne
theorem oki_NoRoad {P : Program} {w : World} {K : PySem.W.Frag} {mg : Str → Option Value} {base : Heap} (T : Tx w K mg)
    (G_NetError_init : FnMU P w K mg base 2 "NetError" "__init__" ["self", "word"] (spIn K 1 xs_NetError)) : FnMU P w K mg base 3 "NoRoad" "__init__" ["self", "name"] (spIn K 1 xs_NoRoad) := by
  obtain ⟨fd, F⟩ := T.di_NoRoad
  refine ⟨fd, F.okU sci_NoRoad (fun vs H Q E h => by obtain ⟨a, ws, rfl, hl, _⟩ := h; simp [hl]) (fun cdv A outer s H vs Q E hr h => ⟨ti_NoRoad K, PSs.nox ?_, pui_NoRoad K vs H Q E h⟩), FunD.bindsN F (ps := ["self", "name"]) fun _ _ _ _ _ _ us hl => match us, hl with | [_, _], _ => rfl⟩
  exact (pss_cons (ps_expr (pe_initU T.x_NetError G_NetError_init (hr.mono (by decide)) (by rfl) (pa_cons (pv 0) (pa_cons pe_str pa_nil)))) (pss_one (ps_ost (pv 0) (pv 1))))
abbrev si_Taken : Stmt := inClass (topS 15) 0
theorem sci_Taken : FnScope ["self", "name"] ["self", "name"] (defScope si_Taken) := ⟨rfl, rfl, rfl, by decide +kernel, rfl, by decide +kernel, by decide +kernel⟩
def ti_Taken (K : PySem.W.Frag) : TS :=
  (tSeq (tDrop (tCall (spIn K 1 xs_NetError) [] E0 (tCons (tVar 0) (tCons (tC (.str "taken")) tNil)))) (tOst K "name" (tVar 0) (tVar 1)))
theorem pui_Taken (K : PySem.W.Frag) (vs : List V) (H : Hp) (Q : VK) (E : XK) (h : spIn K 1 xs_Taken vs H Q E) : ti_Taken K ⟨fun _ H' => Q .non H', Q, fun _ _ => False, fun _ _ => False⟩ (start ["self", "name"] vs) H := by
  obtain ⟨a, ws, rfl, hl, C, ha, hC, hn, k⟩ := h
  match ws, hl with
  | [w0], _ =>
    show ti_Taken K _ [some (.ref a), some w0] H
    refine ⟨_, rfl, a, [.str "taken"], rfl, rfl, C, ha, hC, fun f hf => hn f ?_, fun dx hdx hne => ?_⟩
    · simp [flV, xs_Taken, xs_NetError] at hf ⊢; simp [hf]
    · have hA0 : (upd (upd H dx (exd dx (flV xs_NetError [.str "taken"]))) a (exo a C (some dx))) a = some (exo a C (some dx)) := by
        exact upd_same
      have hD0 : (upd (upd H dx (exd dx (flV xs_NetError [.str "taken"]))) a (exo a C (some dx))) dx = some (exd dx (flV xs_NetError [.str "taken"])) := by
        rw [upd_ne hne, upd_same]
      refine ⟨_, rfl, _, rfl, a, C, rfl, hC, hn "name" (by simp [flV, xs_Taken]), .inr ⟨dx, _, hA0, hD0, by simp [flV, xs_NetError], ?_⟩⟩
      have e : upd (upd (upd H dx (exd dx (flV xs_NetError [.str "taken"]))) a (exo a C (some dx))) dx (exd dx (("name", w0) :: flV xs_NetError [.str "taken"])) = upd (upd H dx (exd dx (flV xs_Taken [w0]))) a (exo a C (some dx)) := by
        funext y; by_cases h1 : y = dx
        · subst h1; rw [upd_same, upd_ne hne, upd_same]; rfl
        · by_cases h2 : y = a
          · subst h2; simp only [upd, if_neg h1, if_true]
          · simp only [upd, if_neg h1, if_neg h2]
      rw [e]; exact k dx hdx hne
theorem oki_Taken {P : Program} {w : World} {K : PySem.W.Frag} {mg : Str → Option Value} {base : Heap} (T : Tx w K mg)
    (G_NetError_init : FnMU P w K mg base 2 "NetError" "__init__" ["self", "word"] (spIn K 1 xs_NetError)) : FnMU P w K mg base 3 "Taken" "__init__" ["self", "name"] (spIn K 1 xs_Taken) := by
  obtain ⟨fd, F⟩ := T.di_Taken
  refine ⟨fd, F.okU sci_Taken (fun vs H Q E h => by obtain ⟨a, ws, rfl, hl, _⟩ := h; simp [hl]) (fun cdv A outer s H vs Q E hr h => ⟨ti_Taken K, PSs.nox ?_, pui_Taken K vs H Q E h⟩), FunD.bindsN F (ps := ["self", "name"]) fun _ _ _ _ _ _ us hl => match us, hl with | [_, _], _ => rfl⟩
  exact (pss_cons (ps_expr (pe_initU T.x_NetError G_NetError_init (hr.mono (by decide)) (by rfl) (pa_cons (pv 0) (pa_cons pe_str pa_nil)))) (pss_one (ps_ost (pv 0) (pv 1))))
abbrev si_TooFar : Stmt := inClass (topS 12) 0
theorem sci_TooFar : FnScope ["self", "number"] ["self", "number"] (defScope si_TooFar) := ⟨rfl, rfl, rfl, by decide +kernel, rfl, by decide +kernel, by decide +kernel⟩
def ti_TooFar (K : PySem.W.Frag) : TS :=
  (tSeq (tDrop (tCall (spIn K 1 xs_NetError) [] E0 (tCons (tVar 0) (tCons (tC (.str "too far")) tNil)))) (tOst K "number" (tVar 0) (tVar 1)))
theorem pui_TooFar (K : PySem.W.Frag) (vs : List V) (H : Hp) (Q : VK) (E : XK) (h : spIn K 1 xs_TooFar vs H Q E) : ti_TooFar K ⟨fun _ H' => Q .non H', Q, fun _ _ => False, fun _ _ => False⟩ (start ["self", "number"] vs) H := by
  obtain ⟨a, ws, rfl, hl, C, ha, hC, hn, k⟩ := h
  match ws, hl with
  | [w0], _ =>
    show ti_TooFar K _ [some (.ref a), some w0] H
    refine ⟨_, rfl, a, [.str "too far"], rfl, rfl, C, ha, hC, fun f hf => hn f ?_, fun dx hdx hne => ?_⟩
    · simp [flV, xs_TooFar, xs_NetError] at hf ⊢; simp [hf]
    · have hA0 : (upd (upd H dx (exd dx (flV xs_NetError [.str "too far"]))) a (exo a C (some dx))) a = some (exo a C (some dx)) := by
        exact upd_same
      have hD0 : (upd (upd H dx (exd dx (flV xs_NetError [.str "too far"]))) a (exo a C (some dx))) dx = some (exd dx (flV xs_NetError [.str "too far"])) := by
        rw [upd_ne hne, upd_same]
      refine ⟨_, rfl, _, rfl, a, C, rfl, hC, hn "number" (by simp [flV, xs_TooFar]), .inr ⟨dx, _, hA0, hD0, by simp [flV, xs_NetError], ?_⟩⟩
      have e : upd (upd (upd H dx (exd dx (flV xs_NetError [.str "too far"]))) a (exo a C (some dx))) dx (exd dx (("number", w0) :: flV xs_NetError [.str "too far"])) = upd (upd H dx (exd dx (flV xs_TooFar [w0]))) a (exo a C (some dx)) := by
        funext y; by_cases h1 : y = dx
        · subst h1; rw [upd_same, upd_ne hne, upd_same]; rfl
        · by_cases h2 : y = a
          · subst h2; simp only [upd, if_neg h1, if_true]
          · simp only [upd, if_neg h1, if_neg h2]
      rw [e]; exact k dx hdx hne
theorem oki_TooFar {P : Program} {w : World} {K : PySem.W.Frag} {mg : Str → Option Value} {base : Heap} (T : Tx w K mg)
    (G_NetError_init : FnMU P w K mg base 2 "NetError" "__init__" ["self", "word"] (spIn K 1 xs_NetError)) : FnMU P w K mg base 3 "TooFar" "__init__" ["self", "number"] (spIn K 1 xs_TooFar) := by
  obtain ⟨fd, F⟩ := T.di_TooFar
  refine ⟨fd, F.okU sci_TooFar (fun vs H Q E h => by obtain ⟨a, ws, rfl, hl, _⟩ := h; simp [hl]) (fun cdv A outer s H vs Q E hr h => ⟨ti_TooFar K, PSs.nox ?_, pui_TooFar K vs H Q E h⟩), FunD.bindsN F (ps := ["self", "number"]) fun _ _ _ _ _ _ us hl => match us, hl with | [_, _], _ => rfl⟩
  exact (pss_cons (ps_expr (pe_initU T.x_NetError G_NetError_init (hr.mono (by decide)) (by rfl) (pa_cons (pv 0) (pa_cons pe_str pa_nil)))) (pss_one (ps_ost (pv 0) (pv 1))))
abbrev si_TooGreat : Stmt := inClass (topS 14) 0
theorem sci_TooGreat : FnScope ["self", "number"] ["self", "number"] (defScope si_TooGreat) := ⟨rfl, rfl, rfl, by decide +kernel, rfl, by decide +kernel, by decide +kernel⟩
def ti_TooGreat (K : PySem.W.Frag) : TS :=
  (tSeq (tDrop (tCall (spIn K 1 xs_NetError) [] E0 (tCons (tVar 0) (tCons (tC (.str "too great")) tNil)))) (tOst K "number" (tVar 0) (tVar 1)))
theorem pui_TooGreat (K : PySem.W.Frag) (vs : List V) (H : Hp) (Q : VK) (E : XK) (h : spIn K 1 xs_TooGreat vs H Q E) : ti_TooGreat K ⟨fun _ H' => Q .non H', Q, fun _ _ => False, fun _ _ => False⟩ (start ["self", "number"] vs) H := by
  obtain ⟨a, ws, rfl, hl, C, ha, hC, hn, k⟩ := h
  match ws, hl with
  | [w0], _ =>
    show ti_TooGreat K _ [some (.ref a), some w0] H
    refine ⟨_, rfl, a, [.str "too great"], rfl, rfl, C, ha, hC, fun f hf => hn f ?_, fun dx hdx hne => ?_⟩
    · simp [flV, xs_TooGreat, xs_NetError] at hf ⊢; simp [hf]
    · have hA0 : (upd (upd H dx (exd dx (flV xs_NetError [.str "too great"]))) a (exo a C (some dx))) a = some (exo a C (some dx)) := by
        exact upd_same
      have hD0 : (upd (upd H dx (exd dx (flV xs_NetError [.str "too great"]))) a (exo a C (some dx))) dx = some (exd dx (flV xs_NetError [.str "too great"])) := by
        rw [upd_ne hne, upd_same]
      refine ⟨_, rfl, _, rfl, a, C, rfl, hC, hn "number" (by simp [flV, xs_TooGreat]), .inr ⟨dx, _, hA0, hD0, by simp [flV, xs_NetError], ?_⟩⟩
      have e : upd (upd (upd H dx (exd dx (flV xs_NetError [.str "too great"]))) a (exo a C (some dx))) dx (exd dx (("number", w0) :: flV xs_NetError [.str "too great"])) = upd (upd H dx (exd dx (flV xs_TooGreat [w0]))) a (exo a C (some dx)) := by
        funext y; by_cases h1 : y = dx
        · subst h1; rw [upd_same, upd_ne hne, upd_same]; rfl
        · by_cases h2 : y = a
          · subst h2; simp only [upd, if_neg h1, if_true]
          · simp only [upd, if_neg h1, if_neg h2]
      rw [e]; exact k dx hdx hne
theorem oki_TooGreat {P : Program} {w : World} {K : PySem.W.Frag} {mg : Str → Option Value} {base : Heap} (T : Tx w K mg)
    (G_NetError_init : FnMU P w K mg base 2 "NetError" "__init__" ["self", "word"] (spIn K 1 xs_NetError)) : FnMU P w K mg base 3 "TooGreat" "__init__" ["self", "number"] (spIn K 1 xs_TooGreat) := by
  obtain ⟨fd, F⟩ := T.di_TooGreat
  refine ⟨fd, F.okU sci_TooGreat (fun vs H Q E h => by obtain ⟨a, ws, rfl, hl, _⟩ := h; simp [hl]) (fun cdv A outer s H vs Q E hr h => ⟨ti_TooGreat K, PSs.nox ?_, pui_TooGreat K vs H Q E h⟩), FunD.bindsN F (ps := ["self", "number"]) fun _ _ _ _ _ _ us hl => match us, hl with | [_, _], _ => rfl⟩
  exact (pss_cons (ps_expr (pe_initU T.x_NetError G_NetError_init (hr.mono (by decide)) (by rfl) (pa_cons (pv 0) (pa_cons pe_str pa_nil)))) (pss_one (ps_ost (pv 0) (pv 1))))
abbrev si_TooMany : Stmt := inClass (topS 13) 0
theorem sci_TooMany : FnScope ["self", "most"] ["self", "most"] (defScope si_TooMany) := ⟨rfl, rfl, rfl, by decide +kernel, rfl, by decide +kernel, by decide +kernel⟩
def ti_TooMany (K : PySem.W.Frag) : TS :=
  (tSeq (tDrop (tCall (spIn K 1 xs_NetError) [] E0 (tCons (tVar 0) (tCons (tC (.str "too many")) tNil)))) (tOst K "most" (tVar 0) (tVar 1)))
theorem pui_TooMany (K : PySem.W.Frag) (vs : List V) (H : Hp) (Q : VK) (E : XK) (h : spIn K 1 xs_TooMany vs H Q E) : ti_TooMany K ⟨fun _ H' => Q .non H', Q, fun _ _ => False, fun _ _ => False⟩ (start ["self", "most"] vs) H := by
  obtain ⟨a, ws, rfl, hl, C, ha, hC, hn, k⟩ := h
  match ws, hl with
  | [w0], _ =>
    show ti_TooMany K _ [some (.ref a), some w0] H
    refine ⟨_, rfl, a, [.str "too many"], rfl, rfl, C, ha, hC, fun f hf => hn f ?_, fun dx hdx hne => ?_⟩
    · simp [flV, xs_TooMany, xs_NetError] at hf ⊢; simp [hf]
    · have hA0 : (upd (upd H dx (exd dx (flV xs_NetError [.str "too many"]))) a (exo a C (some dx))) a = some (exo a C (some dx)) := by
        exact upd_same
      have hD0 : (upd (upd H dx (exd dx (flV xs_NetError [.str "too many"]))) a (exo a C (some dx))) dx = some (exd dx (flV xs_NetError [.str "too many"])) := by
        rw [upd_ne hne, upd_same]
      refine ⟨_, rfl, _, rfl, a, C, rfl, hC, hn "most" (by simp [flV, xs_TooMany]), .inr ⟨dx, _, hA0, hD0, by simp [flV, xs_NetError], ?_⟩⟩
      have e : upd (upd (upd H dx (exd dx (flV xs_NetError [.str "too many"]))) a (exo a C (some dx))) dx (exd dx (("most", w0) :: flV xs_NetError [.str "too many"])) = upd (upd H dx (exd dx (flV xs_TooMany [w0]))) a (exo a C (some dx)) := by
        funext y; by_cases h1 : y = dx
        · subst h1; rw [upd_same, upd_ne hne, upd_same]; rfl
        · by_cases h2 : y = a
          · subst h2; simp only [upd, if_neg h1, if_true]
          · simp only [upd, if_neg h1, if_neg h2]
      rw [e]; exact k dx hdx hne
theorem oki_TooMany {P : Program} {w : World} {K : PySem.W.Frag} {mg : Str → Option Value} {base : Heap} (T : Tx w K mg)
    (G_NetError_init : FnMU P w K mg base 2 "NetError" "__init__" ["self", "word"] (spIn K 1 xs_NetError)) : FnMU P w K mg base 3 "TooMany" "__init__" ["self", "most"] (spIn K 1 xs_TooMany) := by
  obtain ⟨fd, F⟩ := T.di_TooMany
  refine ⟨fd, F.okU sci_TooMany (fun vs H Q E h => by obtain ⟨a, ws, rfl, hl, _⟩ := h; simp [hl]) (fun cdv A outer s H vs Q E hr h => ⟨ti_TooMany K, PSs.nox ?_, pui_TooMany K vs H Q E h⟩), FunD.bindsN F (ps := ["self", "most"]) fun _ _ _ _ _ _ us hl => match us, hl with | [_, _], _ => rfl⟩
  exact (pss_cons (ps_expr (pe_initU T.x_NetError G_NetError_init (hr.mono (by decide)) (by rfl) (pa_cons (pv 0) (pa_cons pe_str pa_nil)))) (pss_one (ps_ost (pv 0) (pv 1))))
theorem sc_Lfeed : FnScope N_Lfeed ["_law_script"] (defScope s_Lfeed) := ⟨rfl, rfl, rfl, by decide +kernel, rfl, by decide +kernel, by decide +kernel⟩
theorem fk_Lfeed {P : Program} {w : World} {K : PySem.W.Frag} {mg : Str → Option Value} {base : Heap} (T : Tx w K mg) {fd : FuncData}
    (F : FunD K "_law_feed" "_law_feed" (defArgs s_Lfeed) (defBody s_Lfeed) (defScope s_Lfeed) [] [] (He.ga K "_law_feed") fd) :
    FnOk P w K mg base (MV.CX P w) 1 (He.ga K "_law_feed") fd ["_law_script"] (spM K 1 w_Lfeed) :=
  fn_ok F sc_Lfeed fun cdv A outer s H E hr tk po =>
    (qss_one (qs_ret (qe_lst (qa_cons (qe_callTy (call_listA rfl) sim_list (by rfl) T.m_list (by decide +kernel) (qa_cons (qe_slice (qv 0) qo_none (qo_some qe_int)) qa_nil)) (qa_cons qe_int (qa_cons qe_int (qa_cons qe_int qa_nil)))))))
theorem ok_Lfeed_0 {P : Program} {w : World} {K : PySem.W.Frag} {mg : Str → Option Value} {base : Heap} (T : Tx w K mg) :
    Fn P w K mg base 1 (He.ga K "_law_feed") ["_law_script"] w_Lfeed 1 [] (fun ds _ => ds) := by
  obtain ⟨fd, F⟩ := T.d_Lfeed
  refine ⟨⟨fd, fk_Lfeed T F, ?_⟩, F.kp⟩
  exact dbn_all (FunD.bindsN F (ps := ["_law_script"]) fun _ _ _ _ _ _ us hl => match us, hl with | [_], _ => rfl)
theorem sc_check_number : FnScope N_check_number ["number", "far"] (defScope s_check_number) := ⟨rfl, rfl, rfl, by decide +kernel, rfl, by decide +kernel, by decide +kernel⟩
theorem fk_check_number {P : Program} {w : World} {K : PySem.W.Frag} {mg : Str → Option Value} {base : Heap} (T : Tx w K mg)
    (G_TooFar_init : FnMU P w K mg base 3 "TooFar" "__init__" ["self", "number"] (spIn K 1 xs_TooFar)) {fd : FuncData}
    (F : FunD K "check_number" "check_number" (defArgs s_check_number) (defBody s_check_number) (defScope s_check_number) [] [] (He.ga K "check_number") fd) :
    FnOk P w K mg base (MV.CX P w) 5 (He.ga K "check_number") fd ["number", "far"] (spM K 2 w_check_number) :=
  fn_ok F sc_check_number fun cdv A outer s H E hr tk po =>
    (qss_one (qs_if (qt_not (qt_chain op_le sim_le op_le sim_le (qe_un un_neg sim_neg (qv 1)) (qv 0) (qv 1))) (qss_one (qs_raise rfl tk T.x_TooFar G_TooFar_init (hr.mono (by decide)) (by rfl) (qa_cons (qv 0) qa_nil) (by decide) (by simp [xfl, xs_TooFar]))) qss_nil))
theorem ok_check_number_0 {P : Program} {w : World} {K : PySem.W.Frag} {mg : Str → Option Value} {base : Heap} (T : Tx w K mg)
    (G_TooFar_init : FnMU P w K mg base 3 "TooFar" "__init__" ["self", "number"] (spIn K 1 xs_TooFar)) :
    Fn P w K mg base 5 (He.ga K "check_number") ["number", "far"] w_check_number 2 [] (fun ds _ => ds) := by
  obtain ⟨fd, F⟩ := T.d_check_number
  refine ⟨⟨fd, fk_check_number T G_TooFar_init F, ?_⟩, F.kp⟩
  exact dbn_all (FunD.bindsN F (ps := ["number", "far"]) fun _ _ _ _ _ _ us hl => match us, hl with | [_, _], _ => rfl)
theorem sc_check_box : FnScope N_check_box ["dial", "pair", "far"] (defScope s_check_box) := ⟨rfl, rfl, rfl, by decide +kernel, rfl, by decide +kernel, by decide +kernel⟩
theorem fk_check_box {P : Program} {w : World} {K : PySem.W.Frag} {mg : Str → Option Value} {base : Heap} (T : Tx w K mg)
    (G_BadBox_init : FnMU P w K mg base 3 "BadBox" "__init__" ["self", "dial"] (spIn K 1 xs_BadBox))
    (G_check_number_0 : Fn P w K mg base 5 (He.ga K "check_number") ["number", "far"] w_check_number 2 [] (fun ds _ => ds)) {fd : FuncData}
    (F : FunD K "check_box" "check_box" (defArgs s_check_box) (defBody s_check_box) (defScope s_check_box) [] [] (He.ga K "check_box") fd) :
    FnOk P w K mg base (MV.CX P w) 6 (He.ga K "check_box") fd ["dial", "pair", "far"] (spM K 3 w_check_box) :=
  fn_ok F sc_check_box fun cdv A outer s H E hr tk po =>
    (qss_cons (qs_expr (qe_call G_check_number_0 (hr.mono (by decide)) (by rfl) T.g_check_number tk (qcwP (qa_cons (qe_ix (ix_any (units1 hr)) sim_ix (qv 1) qe_int (fun _ _ => rfl)) (qa_cons (qv 2) qa_nil))) (by exact fun _ _ h _ => h)))
      (qss_cons (qs_expr (qe_call G_check_number_0 (hr.mono (by decide)) (by rfl) T.g_check_number tk (qcwP (qa_cons (qe_ix (ix_any (units1 hr)) sim_ix (qv 1) qe_int (fun _ _ => rfl)) (qa_cons (qv 2) qa_nil))) (by exact fun _ _ h _ => h)))
      (qss_one (qs_if (qt_cmp op_gt sim_gt (qe_ix (ix_any (units1 hr)) sim_ix (qv 1) qe_int (fun _ _ => rfl)) (qe_ix (ix_any (units1 hr)) sim_ix (qv 1) qe_int (fun _ _ => rfl)) (nomark _)) (qss_one (qs_raise rfl tk T.x_BadBox G_BadBox_init (hr.mono (by decide)) (by rfl) (qa_cons (qv 0) qa_nil) (by decide) (by simp [xfl, xs_BadBox]))) qss_nil))))
theorem ok_check_box_0 {P : Program} {w : World} {K : PySem.W.Frag} {mg : Str → Option Value} {base : Heap} (T : Tx w K mg)
    (G_BadBox_init : FnMU P w K mg base 3 "BadBox" "__init__" ["self", "dial"] (spIn K 1 xs_BadBox))
    (G_check_number_0 : Fn P w K mg base 5 (He.ga K "check_number") ["number", "far"] w_check_number 2 [] (fun ds _ => ds)) :
    Fn P w K mg base 6 (He.ga K "check_box") ["dial", "pair", "far"] w_check_box 3 [] (fun ds _ => ds) := by
  obtain ⟨fd, F⟩ := T.d_check_box
  refine ⟨⟨fd, fk_check_box T G_BadBox_init G_check_number_0 F, ?_⟩, F.kp⟩
  exact dbn_all (FunD.bindsN F (ps := ["dial", "pair", "far"]) fun _ _ _ _ _ _ us hl => match us, hl with | [_, _, _], _ => rfl)
theorem sc_Net_UinitU : FnScope N_Net_UinitU ["self", "hours", "s_box", "t_box"] (defScope s_Net_UinitU) := ⟨rfl, rfl, rfl, by decide +kernel, rfl, by decide +kernel, by decide +kernel⟩
theorem fk_Net_UinitU {P : Program} {w : World} {K : PySem.W.Frag} {mg : Str → Option Value} {base : Heap} (T : Tx w K mg)
    (G_BadHours_init : FnMU P w K mg base 3 "BadHours" "__init__" ["self", "number"] (spIn K 1 xs_BadHours))
    (G_check_box_0 : Fn P w K mg base 6 (He.ga K "check_box") ["dial", "pair", "far"] w_check_box 3 [] (fun ds _ => ds)) {fd : FuncData}
    (F : FunD K "__init__" "Net.__init__" (defArgs s_Net_UinitU) (defBody s_Net_UinitU) (defScope s_Net_UinitU) [] [("hours", (.int 1)), ("s_box", (.ref ((kwdAt ("Net", some "__init__") "s_box") K))), ("t_box", (.ref ((kwdAt ("Net", some "__init__") "t_box") K)))] (He.ma K (He.ga K "Net") "__init__") fd) :
    FnOk P w K mg base (MV.CX P w) 7 (He.ma K (He.ga K "Net") "__init__") fd ["self", "hours", "s_box", "t_box"] (spM K 4 w_Net_UinitU) :=
  fn_ok F sc_Net_UinitU fun cdv A outer s H E hr tk po =>
    (qss_cons (qs_if (qt_not (qt_chain op_le sim_le op_le sim_le qe_int (qv 1) (qe_gint (by rfl) T.c_MOST_HOURS))) (qss_one (qs_raise rfl tk T.x_BadHours G_BadHours_init (hr.mono (by decide)) (by rfl) (qa_cons (qv 1) qa_nil) (by decide) (by simp [xfl, xs_BadHours]))) qss_nil)
      (qss_cons (qs_expr (qe_call G_check_box_0 (hr.mono (by decide)) (by rfl) T.g_check_box tk (qcwP (qa_cons qe_str (qa_cons (qv 2) (qa_cons (qe_gint (by rfl) T.c_MOST) qa_nil)))) (by exact fun _ _ h _ => h)))
      (qss_cons (qs_expr (qe_call G_check_box_0 (hr.mono (by decide)) (by rfl) T.g_check_box tk (qcwP (qa_cons qe_str (qa_cons (qv 3) (qa_cons (qe_gint (by rfl) T.c_MOST) qa_nil)))) (by exact fun _ _ h _ => h)))
      (qss_cons (qs_fld T.cn (by simp [cfl]) (qv 0) (qv 1))
      (qss_cons (qs_fld T.cn (by simp [cfl]) (qv 0) (qv 2))
      (qss_cons (qs_fld T.cn (by simp [cfl]) (qv 0) (qv 3))
      (qss_cons (qs_fld T.cn (by simp [cfl]) (qv 0) qe_dict0)
      (qss_one (qs_fld T.cn (by simp [cfl]) (qv 0) qe_dict0)))))))))
theorem ok_Net_UinitU_0 {P : Program} {w : World} {K : PySem.W.Frag} {mg : Str → Option Value} {base : Heap} (T : Tx w K mg)
    (G_BadHours_init : FnMU P w K mg base 3 "BadHours" "__init__" ["self", "number"] (spIn K 1 xs_BadHours))
    (G_check_box_0 : Fn P w K mg base 6 (He.ga K "check_box") ["dial", "pair", "far"] w_check_box 3 [] (fun ds _ => ds)) :
    Fn P w K mg base 7 (He.ma K (He.ga K "Net") "__init__") ["self", "hours", "s_box", "t_box"] w_Net_UinitU 1 [] (fun ds es => [ds.getD 0 .non, (.int 1), (.tup [(.int 0), (.int 0)]), (.tup [(.int 0), (.int 0)])]) := by
  obtain ⟨fd, F⟩ := T.d_Net_UinitU
  refine ⟨⟨fd, fk_Net_UinitU T G_BadHours_init G_check_box_0 F, ?_⟩, F.kp⟩
  obtain ⟨mv, hb⟩ := FunD.kbinds0 F (ps := ["self", "hours", "s_box", "t_box"]) 1 [] [("hours", (.int 1)), ("s_box", (.ref ((kwdAt ("Net", some "__init__") "s_box") K))), ("t_box", (.ref ((kwdAt ("Net", some "__init__") "t_box") K)))] (fun us mv ws => pick (us ++ mv ++ ws) [0, 1, 2, 3]) (by simp) (by simp) vals_pick3 (fun D doc pm an cdv ct us mv ws h1 h2 h3 => match us, mv, ws, h1, h2, h3 with | [_], [_, _, _], [], _, _, _ => ⟨_, _, _, _, _, _, rfl, rfl, ⟨_, _, _, _, _, _, rfl, rfl, ⟨_, _, _, _, _, _, rfl, rfl, rfl⟩⟩⟩)
  exact dbn_kw (md := [(.int 1), (.tup [(.int 0), (.int 0)]), (.tup [(.int 0), (.int 0)])]) hb (fun as H => (.cons (.int _) (.cons (T.dk_Net_UinitU_s_box as H) (.cons (T.dk_Net_UinitU_t_box as H) .nil)))) (fun ds es h1 h2 => match ds, es, h1, h2 with | [_], [], _, _ => rfl)
theorem sc_Ldraw : FnScope N_Ldraw ["_law_feed_here", "_law_many"] (defScope s_Ldraw) := ⟨rfl, rfl, rfl, by decide +kernel, rfl, by decide +kernel, by decide +kernel⟩
theorem fk_Ldraw {P : Program} {w : World} {K : PySem.W.Frag} {mg : Str → Option Value} {base : Heap} (T : Tx w K mg) {fd : FuncData}
    (F : FunD K "_law_draw" "_law_draw" (defArgs s_Ldraw) (defBody s_Ldraw) (defScope s_Ldraw) [] [] (He.ga K "_law_draw") fd) :
    FnOk P w K mg base (MV.CX P w) 1 (He.ga K "_law_draw") fd ["_law_feed_here", "_law_many"] (spM K 2 w_Ldraw) :=
  fn_ok F sc_Ldraw fun cdv A outer s H E hr tk po =>
    (qss_cons (qs_if (qt_cmp op_gt sim_gt (qe_ix (ix_any (units1 hr)) sim_ix (qv 0) qe_int (fun _ _ => rfl)) qe_int (nomark _)) (qss_cons (qs_set (i := 2) sc_Ldraw.nd rfl (Or.inl rfl) (qe_op op_modN sim_mod (qe_ix (ix_any (units1 hr)) sim_ix (qv 0) qe_int (fun _ _ => rfl)) (qv 1)))
      (qss_cons (qs_setIx (units1 hr) (qe_op DW.op_fdivX sim_div (qe_ix (ix_any (units1 hr)) sim_ix (qv 0) qe_int (fun _ _ => rfl)) (qv 1)) (qv 0) qe_int)
      (qss_one (qs_ret (qv 2))))) qss_nil)
      (qss_cons (qs_set (i := 3) sc_Ldraw.nd rfl (Or.inl rfl) qe_int)
      (qss_cons (qs_if (qt_cmp op_lt sim_lt (qe_ix (ix_any (units1 hr)) sim_ix (qv 0) qe_int (fun _ _ => rfl)) (qe_callB call_lenA sim_len (by rfl) T.m_len (by decide +kernel) (qa_cons (qe_ix (ix_any (units1 hr)) sim_ix (qv 0) qe_int (fun _ _ => rfl)) qa_nil)) (nomark _)) (qss_cons (qs_set (i := 3) sc_Ldraw.nd rfl (Or.inl rfl) (qe_ix (ix_any (units1 hr)) sim_ix (qe_ix (ix_any (units1 hr)) sim_ix (qv 0) qe_int (fun _ _ => rfl)) (qe_ix (ix_any (units1 hr)) sim_ix (qv 0) qe_int (fun _ _ => rfl)) (fun _ _ => rfl)))
      (qss_one (qs_setIx (units1 hr) (qe_op DW.op_plus sim_add (qe_ix (ix_any (units1 hr)) sim_ix (qv 0) qe_int (fun _ _ => rfl)) qe_int) (qv 0) qe_int))) qss_nil)
      (qss_cons (qs_if (qt_cmp op_ge sim_ge (qv 3) qe_int (nomark _)) (qss_cons (qs_setIx (units1 hr) (qe_op DW.op_fdivX sim_div (qv 3) (qv 1)) (qv 0) qe_int)
      (qss_one (qs_ret (qe_op op_modN sim_mod (qv 3) (qv 1))))) qss_nil)
      (qss_cons (qs_setIx (units1 hr) (qe_op op_modN sim_mod (qe_op DW.op_plus sim_add (qe_op DW.op_plus sim_add (qe_op op_mulA sim_mul (qe_ix (ix_any (units1 hr)) sim_ix (qv 0) qe_int (fun _ _ => rfl)) qe_int) (qe_op op_modN sim_mod (qv 3) qe_int)) qe_int) qe_int) (qv 0) qe_int)
      (qss_cons (qs_set (i := 4) sc_Ldraw.nd rfl (Or.inl rfl) (qe_ix (ix_any (units1 hr)) sim_ix (qe_lst (qa_cons (qe_ix (ix_any (units1 hr)) sim_ix (qv 0) qe_int (fun _ _ => rfl)) (qa_cons (qe_op op_pow sim_pow (qe_ix (ix_any (units1 hr)) sim_ix (qv 0) qe_int (fun _ _ => rfl)) qe_int) qa_nil))) (qe_callTy call_intA sim_int (by rfl) T.m_int (by decide +kernel) (qa_cons (qe_cmp op_gt sim_gt (qv 1) qe_int (nomark _)) qa_nil)) (fun _ _ => rfl)))
      (qss_one (qs_ret (qe_op op_modN sim_mod (qe_op DW.op_plus sim_add (qe_op DW.op_fdivX sim_div (qv 4) qe_int) (qv 3)) (qv 1))))))))))
theorem ok_Ldraw_0 {P : Program} {w : World} {K : PySem.W.Frag} {mg : Str → Option Value} {base : Heap} (T : Tx w K mg) :
    Fn P w K mg base 1 (He.ga K "_law_draw") ["_law_feed_here", "_law_many"] w_Ldraw 2 [] (fun ds _ => ds) := by
  obtain ⟨fd, F⟩ := T.d_Ldraw
  refine ⟨⟨fd, fk_Ldraw T F, ?_⟩, F.kp⟩
  exact dbn_all (FunD.bindsN F (ps := ["_law_feed_here", "_law_many"]) fun _ _ _ _ _ _ us hl => match us, hl with | [_, _], _ => rfl)
theorem sc_Lnames : FnScope N_Lnames ["_law_feed_here", "_law_many"] (defScope s_Lnames) := ⟨rfl, rfl, rfl, by decide +kernel, rfl, by decide +kernel, by decide +kernel⟩
theorem fk_Lnames {P : Program} {w : World} {K : PySem.W.Frag} {mg : Str → Option Value} {base : Heap} (T : Tx w K mg)
    (G_Ldraw_0 : Fn P w K mg base 1 (He.ga K "_law_draw") ["_law_feed_here", "_law_many"] w_Ldraw 2 [] (fun ds _ => ds)) {fd : FuncData}
    (F : FunD K "_law_names" "_law_names" (defArgs s_Lnames) (defBody s_Lnames) (defScope s_Lnames) [] [] (He.ga K "_law_names") fd) :
    FnOk P w K mg base (MV.CX P w) 2 (He.ga K "_law_names") fd ["_law_feed_here", "_law_many"] (spM K 2 w_Lnames) :=
  fn_ok F sc_Lnames fun cdv A outer s H E hr tk po =>
    (qss_cons (qs_set (i := 2) sc_Lnames.nd rfl (Or.inl rfl) qe_str)
      (qss_cons (qs_set (i := 3) sc_Lnames.nd rfl (Or.inl rfl) (qe_lst qa_nil))
      (qss_cons (qs_for po rfl (qi_range1 (by rfl) T.m_range (qa_cons (qv 1) qa_nil)) (qg_name (i := 4) sc_Lnames.nd rfl (by first | exact Or.inl rfl | exact Or.inr rfl)) (qss_cons (qs_set (i := 5) sc_Lnames.nd rfl (Or.inl rfl) (qe_ix (ix_any (units1 hr)) sim_ix (qv 2) (qe_call G_Ldraw_0 (hr.mono (by decide)) (by rfl) T.g_Ldraw tk (qcwP (qa_cons (qv 0) (qa_cons qe_int qa_nil))) (by exact fun _ _ h _ => h)) (fun _ _ => rfl)))
      (qss_cons (qs_for po rfl (qi_range1 (by rfl) T.m_range (qa_cons (qe_call G_Ldraw_0 (hr.mono (by decide)) (by rfl) T.g_Ldraw tk (qcwP (qa_cons (qv 0) (qa_cons qe_int qa_nil))) (by exact fun _ _ h _ => h)) qa_nil)) (qg_name (i := 6) sc_Lnames.nd rfl (by first | exact Or.inl rfl | exact Or.inr rfl)) (qss_one (qs_set (i := 5) sc_Lnames.nd rfl (Or.inl rfl) (qe_op DW.op_plus sim_add (qv 5) (qe_ix (ix_any (units1 hr)) sim_ix (qv 2) (qe_call G_Ldraw_0 (hr.mono (by decide)) (by rfl) T.g_Ldraw tk (qcwP (qa_cons (qv 0) (qa_cons qe_int qa_nil))) (by exact fun _ _ h _ => h)) (fun _ _ => rfl))))))
      (qss_cons (qs_if (qt_cmp (op_inA (units65 hr)) sim_in (qv 5) (qv 3) rfl) (qss_one (qs_set (i := 5) sc_Lnames.nd rfl (Or.inl rfl) (qe_op DW.op_plus sim_add qe_str (qe_ix (ix_any (units1 hr)) sim_ix (qv 2) (qe_op op_modN sim_mod (qv 4) qe_int) (fun _ _ => rfl))))) qss_nil)
      (qss_one (qs_expr (qe_bm PySem.F.plainAttrs_list PySem.F.slot_list_append PySem.F.type_list_append mt_append sim_append (qv 3) (qa_cons (qv 5) qa_nil))))))))
      (qss_one (qs_ret (qv 3))))))
theorem ok_Lnames_0 {P : Program} {w : World} {K : PySem.W.Frag} {mg : Str → Option Value} {base : Heap} (T : Tx w K mg)
    (G_Ldraw_0 : Fn P w K mg base 1 (He.ga K "_law_draw") ["_law_feed_here", "_law_many"] w_Ldraw 2 [] (fun ds _ => ds)) :
    Fn P w K mg base 2 (He.ga K "_law_names") ["_law_feed_here", "_law_many"] w_Lnames 2 [] (fun ds _ => ds) := by
  obtain ⟨fd, F⟩ := T.d_Lnames
  refine ⟨⟨fd, fk_Lnames T G_Ldraw_0 F, ?_⟩, F.kp⟩
  exact dbn_all (FunD.bindsN F (ps := ["_law_feed_here", "_law_many"]) fun _ _ _ _ _ _ us hl => match us, hl with | [_, _], _ => rfl)
theorem sc_check_name : FnScope N_check_name ["name"] (defScope s_check_name) := ⟨rfl, rfl, rfl, by decide +kernel, rfl, by decide +kernel, by decide +kernel⟩
theorem fk_check_name {P : Program} {w : World} {K : PySem.W.Frag} {mg : Str → Option Value} {base : Heap} (T : Tx w K mg)
    (G_BadName_init : FnMU P w K mg base 3 "BadName" "__init__" ["self", "name"] (spIn K 1 xs_BadName)) {fd : FuncData}
    (F : FunD K "check_name" "check_name" (defArgs s_check_name) (defBody s_check_name) (defScope s_check_name) [] [] (He.ga K "check_name") fd) :
    FnOk P w K mg base (MV.CX P w) 5 (He.ga K "check_name") fd ["name"] (spM K 1 w_check_name) :=
  fn_ok F sc_check_name fun cdv A outer s H E hr tk po =>
    (qss_cons (qs_if (PW.pt (qw_or (qt_not (qt_chain op_le sim_le op_le sim_le qe_int (qe_callB call_lenA sim_len (by rfl) T.m_len (by decide +kernel) (qa_cons (qv 0) qa_nil)) (qe_gint (by rfl) T.c_MOST_SIGNS))) (qw_or1 (qt_cmp (op_notInA (units65 hr)) sim_notin (qe_ix (ix_any (units1 hr)) sim_ix (qv 0) qe_int (fun _ _ => rfl)) (qe_gstr (by rfl) T.c_FIRST) rfl)))) (qss_one (qs_raise rfl tk T.x_BadName G_BadName_init (hr.mono (by decide)) (by rfl) (qa_cons (qv 0) qa_nil) (by decide) (by simp [xfl, xs_BadName]))) qss_nil)
      (qss_one (qs_for po rfl (qi_seq (qv 0)) (qg_name (i := 1) sc_check_name.nd rfl (by first | exact Or.inl rfl | exact Or.inr rfl)) (qss_one (qs_if (qt_cmp (op_notInA (units65 hr)) sim_notin (qv 1) (qe_gstr (by rfl) T.c_LATER) rfl) (qss_one (qs_raise rfl tk T.x_BadName G_BadName_init (hr.mono (by decide)) (by rfl) (qa_cons (qv 0) qa_nil) (by decide) (by simp [xfl, xs_BadName]))) qss_nil)))))
theorem ok_check_name_0 {P : Program} {w : World} {K : PySem.W.Frag} {mg : Str → Option Value} {base : Heap} (T : Tx w K mg)
    (G_BadName_init : FnMU P w K mg base 3 "BadName" "__init__" ["self", "name"] (spIn K 1 xs_BadName)) :
    Fn P w K mg base 5 (He.ga K "check_name") ["name"] w_check_name 1 [] (fun ds _ => ds) := by
  obtain ⟨fd, F⟩ := T.d_check_name
  refine ⟨⟨fd, fk_check_name T G_BadName_init F, ?_⟩, F.kp⟩
  exact dbn_all (FunD.bindsN F (ps := ["name"]) fun _ _ _ _ _ _ us hl => match us, hl with | [_], _ => rfl)
theorem sc_Net_fresh : FnScope N_Net_fresh ["self", "name"] (defScope s_Net_fresh) := ⟨rfl, rfl, rfl, by decide +kernel, rfl, by decide +kernel, by decide +kernel⟩
theorem fk_Net_fresh {P : Program} {w : World} {K : PySem.W.Frag} {mg : Str → Option Value} {base : Heap} (T : Tx w K mg)
    (G_Taken_init : FnMU P w K mg base 3 "Taken" "__init__" ["self", "name"] (spIn K 1 xs_Taken))
    (G_check_name_0 : Fn P w K mg base 5 (He.ga K "check_name") ["name"] w_check_name 1 [] (fun ds _ => ds)) {fd : FuncData}
    (F : FunD K "fresh" "Net.fresh" (defArgs s_Net_fresh) (defBody s_Net_fresh) (defScope s_Net_fresh) [] [] (He.ma K (He.ga K "Net") "fresh") fd) :
    FnOk P w K mg base (MV.CX P w) 6 (He.ma K (He.ga K "Net") "fresh") fd ["self", "name"] (spM K 2 w_Net_fresh) :=
  fn_ok F sc_Net_fresh fun cdv A outer s H E hr tk po =>
    (qss_cons (qs_expr (qe_call G_check_name_0 (hr.mono (by decide)) (by rfl) T.g_check_name tk (qcwP (qa_cons (qv 1) qa_nil)) (by exact fun _ _ h _ => h)))
      (qss_one (qs_if (PW.pt (qw_or (qt_cmp (op_inA (units65 hr)) sim_in (qv 1) (qe_fld T.cn (by simp [cfl]) (qv 0)) rfl) (qw_or1 (qt_cmp (op_inA (units65 hr)) sim_in (qv 1) (qe_fld T.cn (by simp [cfl]) (qv 0)) rfl)))) (qss_one (qs_raise rfl tk T.x_Taken G_Taken_init (hr.mono (by decide)) (by rfl) (qa_cons (qv 1) qa_nil) (by decide) (by simp [xfl, xs_Taken]))) qss_nil)))
theorem ok_Net_fresh_0 {P : Program} {w : World} {K : PySem.W.Frag} {mg : Str → Option Value} {base : Heap} (T : Tx w K mg)
    (G_Taken_init : FnMU P w K mg base 3 "Taken" "__init__" ["self", "name"] (spIn K 1 xs_Taken))
    (G_check_name_0 : Fn P w K mg base 5 (He.ga K "check_name") ["name"] w_check_name 1 [] (fun ds _ => ds)) :
    Fn P w K mg base 6 (He.ma K (He.ga K "Net") "fresh") ["self", "name"] w_Net_fresh 2 [] (fun ds _ => ds) := by
  obtain ⟨fd, F⟩ := T.d_Net_fresh
  refine ⟨⟨fd, fk_Net_fresh T G_Taken_init G_check_name_0 F, ?_⟩, F.kp⟩
  exact dbn_all (FunD.bindsN F (ps := ["self", "name"]) fun _ _ _ _ _ _ us hl => match us, hl with | [_, _], _ => rfl)
theorem sc_Net_set_place : FnScope N_Net_set_place ["self", "name", "told"] (defScope s_Net_set_place) := ⟨rfl, rfl, rfl, by decide +kernel, rfl, by decide +kernel, by decide +kernel⟩
theorem fk_Net_set_place {P : Program} {w : World} {K : PySem.W.Frag} {mg : Str → Option Value} {base : Heap} (T : Tx w K mg) {fd : FuncData}
    (F : FunD K "set_place" "Net.set_place" (defArgs s_Net_set_place) (defBody s_Net_set_place) (defScope s_Net_set_place) [] [] (He.ma K (He.ga K "Net") "set_place") fd) :
    FnOk P w K mg base (MV.CX P w) 1 (He.ma K (He.ga K "Net") "set_place") fd ["self", "name", "told"] (spM K 3 w_Net_set_place) :=
  fn_ok F sc_Net_set_place fun cdv A outer s H E hr tk po =>
    (qss_cons (qs_set (i := 3) sc_Net_set_place.nd rfl (Or.inl rfl) (qe_callTy call_dictD sim_dict (by rfl) T.m_dict (by decide +kernel) (qa_cons (qe_fld T.cn (by simp [cfl]) (qv 0)) qa_nil)))
      (qss_cons (qs_setIx (units1 hr) (qv 2) (qv 3) (qv 1))
      (qss_one (qs_fld T.cn (by simp [cfl]) (qv 0) (qv 3)))))
theorem ok_Net_set_place_0 {P : Program} {w : World} {K : PySem.W.Frag} {mg : Str → Option Value} {base : Heap} (T : Tx w K mg) :
    Fn P w K mg base 1 (He.ma K (He.ga K "Net") "set_place") ["self", "name", "told"] w_Net_set_place 3 [] (fun ds _ => ds) := by
  obtain ⟨fd, F⟩ := T.d_Net_set_place
  refine ⟨⟨fd, fk_Net_set_place T F, ?_⟩, F.kp⟩
  exact dbn_all (FunD.bindsN F (ps := ["self", "name", "told"]) fun _ _ _ _ _ _ us hl => match us, hl with | [_, _, _], _ => rfl)
theorem sc_Net_place : FnScope N_Net_place ["self", "name"] (defScope s_Net_place) := ⟨rfl, rfl, rfl, by decide +kernel, rfl, by decide +kernel, by decide +kernel⟩
theorem fk_Net_place {P : Program} {w : World} {K : PySem.W.Frag} {mg : Str → Option Value} {base : Heap} (T : Tx w K mg)
    (G_TooMany_init : FnMU P w K mg base 3 "TooMany" "__init__" ["self", "most"] (spIn K 1 xs_TooMany))
    (G_Net_fresh_0 : Fn P w K mg base 6 (He.ma K (He.ga K "Net") "fresh") ["self", "name"] w_Net_fresh 2 [] (fun ds _ => ds))
    (G_Net_set_place_0 : Fn P w K mg base 1 (He.ma K (He.ga K "Net") "set_place") ["self", "name", "told"] w_Net_set_place 3 [] (fun ds _ => ds)) {fd : FuncData}
    (F : FunD K "place" "Net.place" (defArgs s_Net_place) (defBody s_Net_place) (defScope s_Net_place) [] [] (He.ma K (He.ga K "Net") "place") fd) :
    FnOk P w K mg base (MV.CX P w) 7 (He.ma K (He.ga K "Net") "place") fd ["self", "name"] (spM K 2 w_Net_place) :=
  fn_ok F sc_Net_place fun cdv A outer s H E hr tk po =>
    (qss_cons (qs_expr (qe_meth (qv 0) T.cl_Net T.me_Net_fresh G_Net_fresh_0 (hr.mono (by decide)) tk (qcwP (qa_cons (qv 1) qa_nil)) (by exact fun _ _ h _ => h)))
      (qss_cons (qs_if (qt_cmp op_ge sim_ge (qe_callB call_lenA sim_len (by rfl) T.m_len (by decide +kernel) (qa_cons (qe_fld T.cn (by simp [cfl]) (qv 0)) qa_nil)) (qe_gint (by rfl) T.c_MOST_PLACES) (nomark _)) (qss_one (qs_raise rfl tk T.x_TooMany G_TooMany_init (hr.mono (by decide)) (by rfl) (qa_cons (qe_gint (by rfl) T.c_MOST_PLACES) qa_nil) (by decide) (by simp [xfl, xs_TooMany]))) qss_nil)
      (qss_one (qs_expr (qe_meth (qv 0) T.cl_Net T.me_Net_set_place G_Net_set_place_0 (hr.mono (by decide)) tk (qcwP (qa_cons (qv 1) (qa_cons (qe_tup (qa_cons qe_non (qa_cons (qe_tup (qa_cons qe_int (qa_cons qe_int qa_nil))) (qa_cons (qe_tup (qa_cons qe_int (qa_cons qe_int qa_nil))) (qa_cons (qe_callTy call_tuple_of sim_tuple (by rfl) T.m_tuple (by decide +kernel) (qa_cons (qe_lc (own := [("hour", 2)]) (T := (.nm 2)) (tt := mYes) (me := (mCB oTup (mCons (mC (.int 0)) (mCons (mC (.int 0)) mNil)))) rfl sc_Net_place.nd (qi_range1 (by rfl) T.m_range (qa_cons (qe_fld T.cn (by simp [cfl]) (qv 0)) qa_nil)) (blkOk_by (N := N_Net_place) (sc := defScope s_Net_place) (by decide +kernel)) (fun _ _ _ _ _ => (qg_name (i := 2) sc_Net_place.nd rfl (by first | exact Or.inl rfl | exact Or.inr rfl))) (fun _ _ _ _ _ => qts_nil) (fun _ _ _ _ _ => (qe_tup (qa_cons qe_int (qa_cons qe_int qa_nil)))) (by decide)) qa_nil)) qa_nil))))) qa_nil))) (by exact fun _ _ h _ => h))))))
theorem ok_Net_place_0 {P : Program} {w : World} {K : PySem.W.Frag} {mg : Str → Option Value} {base : Heap} (T : Tx w K mg)
    (G_TooMany_init : FnMU P w K mg base 3 "TooMany" "__init__" ["self", "most"] (spIn K 1 xs_TooMany))
    (G_Net_fresh_0 : Fn P w K mg base 6 (He.ma K (He.ga K "Net") "fresh") ["self", "name"] w_Net_fresh 2 [] (fun ds _ => ds))
    (G_Net_set_place_0 : Fn P w K mg base 1 (He.ma K (He.ga K "Net") "set_place") ["self", "name", "told"] w_Net_set_place 3 [] (fun ds _ => ds)) :
    Fn P w K mg base 7 (He.ma K (He.ga K "Net") "place") ["self", "name"] w_Net_place 2 [] (fun ds _ => ds) := by
  obtain ⟨fd, F⟩ := T.d_Net_place
  refine ⟨⟨fd, fk_Net_place T G_TooMany_init G_Net_fresh_0 G_Net_set_place_0 F, ?_⟩, F.kp⟩
  exact dbn_all (FunD.bindsN F (ps := ["self", "name"]) fun _ _ _ _ _ _ us hl => match us, hl with | [_, _], _ => rfl)
theorem sc_Net_known : FnScope N_Net_known ["self", "name"] (defScope s_Net_known) := ⟨rfl, rfl, rfl, by decide +kernel, rfl, by decide +kernel, by decide +kernel⟩
theorem fk_Net_known {P : Program} {w : World} {K : PySem.W.Frag} {mg : Str → Option Value} {base : Heap} (T : Tx w K mg)
    (G_NoPlace_init : FnMU P w K mg base 3 "NoPlace" "__init__" ["self", "name"] (spIn K 1 xs_NoPlace)) {fd : FuncData}
    (F : FunD K "known" "Net.known" (defArgs s_Net_known) (defBody s_Net_known) (defScope s_Net_known) [] [] (He.ma K (He.ga K "Net") "known") fd) :
    FnOk P w K mg base (MV.CX P w) 5 (He.ma K (He.ga K "Net") "known") fd ["self", "name"] (spM K 2 w_Net_known) :=
  fn_ok F sc_Net_known fun cdv A outer s H E hr tk po =>
    (qss_cons (qs_if (qt_cmp (op_notInA (units65 hr)) sim_notin (qv 1) (qe_fld T.cn (by simp [cfl]) (qv 0)) rfl) (qss_one (qs_raise rfl tk T.x_NoPlace G_NoPlace_init (hr.mono (by decide)) (by rfl) (qa_cons (qv 1) qa_nil) (by decide) (by simp [xfl, xs_NoPlace]))) qss_nil)
      (qss_one (qs_ret (qe_ix (ix_any (units1 hr)) sim_ix (qe_fld T.cn (by simp [cfl]) (qv 0)) (qv 1) (fun _ _ => rfl)))))
theorem ok_Net_known_0 {P : Program} {w : World} {K : PySem.W.Frag} {mg : Str → Option Value} {base : Heap} (T : Tx w K mg)
    (G_NoPlace_init : FnMU P w K mg base 3 "NoPlace" "__init__" ["self", "name"] (spIn K 1 xs_NoPlace)) :
    Fn P w K mg base 5 (He.ma K (He.ga K "Net") "known") ["self", "name"] w_Net_known 2 [] (fun ds _ => ds) := by
  obtain ⟨fd, F⟩ := T.d_Net_known
  refine ⟨⟨fd, fk_Net_known T G_NoPlace_init F, ?_⟩, F.kp⟩
  exact dbn_all (FunD.bindsN F (ps := ["self", "name"]) fun _ _ _ _ _ _ us hl => match us, hl with | [_, _], _ => rfl)
theorem sc_check_move : FnScope N_check_move ["move", "far"] (defScope s_check_move) := ⟨rfl, rfl, rfl, by decide +kernel, rfl, by decide +kernel, by decide +kernel⟩
theorem fk_check_move {P : Program} {w : World} {K : PySem.W.Frag} {mg : Str → Option Value} {base : Heap} (T : Tx w K mg)
    (G_check_number_0 : Fn P w K mg base 5 (He.ga K "check_number") ["number", "far"] w_check_number 2 [] (fun ds _ => ds)) {fd : FuncData}
    (F : FunD K "check_move" "check_move" (defArgs s_check_move) (defBody s_check_move) (defScope s_check_move) [] [] (He.ga K "check_move") fd) :
    FnOk P w K mg base (MV.CX P w) 6 (He.ga K "check_move") fd ["move", "far"] (spM K 2 w_check_move) :=
  fn_ok F sc_check_move fun cdv A outer s H E hr tk po =>
    (qss_cons (qs_expr (qe_call G_check_number_0 (hr.mono (by decide)) (by rfl) T.g_check_number tk (qcwP (qa_cons (qe_ix (ix_any (units1 hr)) sim_ix (qv 0) qe_int (fun _ _ => rfl)) (qa_cons (qv 1) qa_nil))) (by exact fun _ _ h _ => h)))
      (qss_one (qs_expr (qe_call G_check_number_0 (hr.mono (by decide)) (by rfl) T.g_check_number tk (qcwP (qa_cons (qe_ix (ix_any (units1 hr)) sim_ix (qv 0) qe_int (fun _ _ => rfl)) (qa_cons (qv 1) qa_nil))) (by exact fun _ _ h _ => h)))))
theorem ok_check_move_0 {P : Program} {w : World} {K : PySem.W.Frag} {mg : Str → Option Value} {base : Heap} (T : Tx w K mg)
    (G_check_number_0 : Fn P w K mg base 5 (He.ga K "check_number") ["number", "far"] w_check_number 2 [] (fun ds _ => ds)) :
    Fn P w K mg base 6 (He.ga K "check_move") ["move", "far"] w_check_move 2 [] (fun ds _ => ds) := by
  obtain ⟨fd, F⟩ := T.d_check_move
  refine ⟨⟨fd, fk_check_move T G_check_number_0 F, ?_⟩, F.kp⟩
  exact dbn_all (FunD.bindsN F (ps := ["move", "far"]) fun _ _ _ _ _ _ us hl => match us, hl with | [_, _], _ => rfl)
theorem sc_sinks : FnScope N_sinks ["move", "pair"] (defScope s_sinks) := ⟨rfl, rfl, rfl, by decide +kernel, rfl, by decide +kernel, by decide +kernel⟩
theorem fk_sinks {P : Program} {w : World} {K : PySem.W.Frag} {mg : Str → Option Value} {base : Heap} (T : Tx w K mg) {fd : FuncData}
    (F : FunD K "sinks" "sinks" (defArgs s_sinks) (defBody s_sinks) (defScope s_sinks) [] [] (He.ga K "sinks") fd) :
    FnOk P w K mg base (MV.CX P w) 1 (He.ga K "sinks") fd ["move", "pair"] (spM K 2 w_sinks) :=
  fn_ok F sc_sinks fun cdv A outer s H E hr tk po =>
    (qss_one (qs_ret (qe_or (qe_cmp op_lt sim_lt (qe_op DW.op_plus sim_add (qe_ix (ix_any (units1 hr)) sim_ix (qv 0) qe_int (fun _ _ => rfl)) (qe_op op_mulA sim_mul (qe_ix (ix_any (units1 hr)) sim_ix (qv 0) qe_int (fun _ _ => rfl)) (qe_ix (ix_any (units1 hr)) sim_ix (qv 1) qe_int (fun _ _ => rfl)))) qe_int (nomark _)) (qe_one (qe_cmp op_lt sim_lt (qe_op DW.op_plus sim_add (qe_ix (ix_any (units1 hr)) sim_ix (qv 0) qe_int (fun _ _ => rfl)) (qe_op op_mulA sim_mul (qe_ix (ix_any (units1 hr)) sim_ix (qv 0) qe_int (fun _ _ => rfl)) (qe_ix (ix_any (units1 hr)) sim_ix (qv 1) qe_int (fun _ _ => rfl)))) qe_int (nomark _))))))
theorem ok_sinks_0 {P : Program} {w : World} {K : PySem.W.Frag} {mg : Str → Option Value} {base : Heap} (T : Tx w K mg) :
    Fn P w K mg base 1 (He.ga K "sinks") ["move", "pair"] w_sinks 2 [] (fun ds _ => ds) := by
  obtain ⟨fd, F⟩ := T.d_sinks
  refine ⟨⟨fd, fk_sinks T F, ?_⟩, F.kp⟩
  exact dbn_all (FunD.bindsN F (ps := ["move", "pair"]) fun _ _ _ _ _ _ us hl => match us, hl with | [_, _], _ => rfl)
theorem sc_check_room : FnScope N_check_room ["name", "room", "s_box"] (defScope s_check_room) := ⟨rfl, rfl, rfl, by decide +kernel, rfl, by decide +kernel, by decide +kernel⟩
theorem fk_check_room {P : Program} {w : World} {K : PySem.W.Frag} {mg : Str → Option Value} {base : Heap} (T : Tx w K mg)
    (G_Below_init : FnMU P w K mg base 3 "Below" "__init__" ["self", "name"] (spIn K 1 xs_Below))
    (G_sinks_0 : Fn P w K mg base 1 (He.ga K "sinks") ["move", "pair"] w_sinks 2 [] (fun ds _ => ds)) {fd : FuncData}
    (F : FunD K "check_room" "check_room" (defArgs s_check_room) (defBody s_check_room) (defScope s_check_room) [] [] (He.ga K "check_room") fd) :
    FnOk P w K mg base (MV.CX P w) 5 (He.ga K "check_room") fd ["name", "room", "s_box"] (spM K 3 w_check_room) :=
  fn_ok F sc_check_room fun cdv A outer s H E hr tk po =>
    (qss_one (qs_if (qt_tru (qe_call G_sinks_0 (hr.mono (by decide)) (by rfl) T.g_sinks tk (qcwP (qa_cons (qv 1) (qa_cons (qv 2) qa_nil))) (by exact fun _ _ h _ => h)) (by intro _; rfl)) (qss_one (qs_raise rfl tk T.x_Below G_Below_init (hr.mono (by decide)) (by rfl) (qa_cons (qv 0) qa_nil) (by decide) (by simp [xfl, xs_Below]))) qss_nil))
theorem ok_check_room_0 {P : Program} {w : World} {K : PySem.W.Frag} {mg : Str → Option Value} {base : Heap} (T : Tx w K mg)
    (G_Below_init : FnMU P w K mg base 3 "Below" "__init__" ["self", "name"] (spIn K 1 xs_Below))
    (G_sinks_0 : Fn P w K mg base 1 (He.ga K "sinks") ["move", "pair"] w_sinks 2 [] (fun ds _ => ds)) :
    Fn P w K mg base 5 (He.ga K "check_room") ["name", "room", "s_box"] w_check_room 3 [] (fun ds _ => ds) := by
  obtain ⟨fd, F⟩ := T.d_check_room
  refine ⟨⟨fd, fk_check_room T G_Below_init G_sinks_0 F, ?_⟩, F.kp⟩
  exact dbn_all (FunD.bindsN F (ps := ["name", "room", "s_box"]) fun _ _ _ _ _ _ us hl => match us, hl with | [_, _, _], _ => rfl)
theorem sc_check_rising : FnScope N_check_rising ["name", "rungs", "t_box"] (defScope s_check_rising) := ⟨rfl, rfl, rfl, by decide +kernel, rfl, by decide +kernel, by decide +kernel⟩
theorem fk_check_rising {P : Program} {w : World} {K : PySem.W.Frag} {mg : Str → Option Value} {base : Heap} (T : Tx w K mg)
    (G_Falls_init : FnMU P w K mg base 3 "Falls" "__init__" ["self", "name"] (spIn K 1 xs_Falls))
    (G_sinks_0 : Fn P w K mg base 1 (He.ga K "sinks") ["move", "pair"] w_sinks 2 [] (fun ds _ => ds)) {fd : FuncData}
    (F : FunD K "check_rising" "check_rising" (defArgs s_check_rising) (defBody s_check_rising) (defScope s_check_rising) [] [] (He.ga K "check_rising") fd) :
    FnOk P w K mg base (MV.CX P w) 5 (He.ga K "check_rising") fd ["name", "rungs", "t_box"] (spM K 3 w_check_rising) :=
  fn_ok F sc_check_rising fun cdv A outer s H E hr tk po =>
    (qss_one (qs_for po rfl (qi_range2 (by rfl) T.m_range (qa_cons qe_int (qa_cons (qe_callB call_lenA sim_len (by rfl) T.m_len (by decide +kernel) (qa_cons (qv 1) qa_nil)) qa_nil))) (qg_name (i := 3) sc_check_rising.nd rfl (by first | exact Or.inl rfl | exact Or.inr rfl)) (qss_cons (qs_par (i := 4) (j := 5) (by rfl) sc_check_rising.nd rfl rfl (by decide) rfl rfl (qa_cons (qe_ix (ix_any (units1 hr)) sim_ix (qe_ix (ix_any (units1 hr)) sim_ix (qv 1) (qv 3) (fun _ _ => rfl)) qe_int (fun _ _ => rfl)) (qa_cons (qe_ix (ix_any (units1 hr)) sim_ix (qe_ix (ix_any (units1 hr)) sim_ix (qv 1) (qe_op op_sub sim_sub (qv 3) qe_int) (fun _ _ => rfl)) qe_int (fun _ _ => rfl)) qa_nil)) (by rfl))
      (qss_one (qs_if (qt_tru (qe_call G_sinks_0 (hr.mono (by decide)) (by rfl) T.g_sinks tk (qcwP (qa_cons (qe_tup (qa_cons (qe_op op_sub sim_sub (qe_ix (ix_any (units1 hr)) sim_ix (qv 4) qe_int (fun _ _ => rfl)) (qe_ix (ix_any (units1 hr)) sim_ix (qv 5) qe_int (fun _ _ => rfl))) (qa_cons (qe_op op_sub sim_sub (qe_ix (ix_any (units1 hr)) sim_ix (qv 4) qe_int (fun _ _ => rfl)) (qe_ix (ix_any (units1 hr)) sim_ix (qv 5) qe_int (fun _ _ => rfl))) qa_nil))) (qa_cons (qv 2) qa_nil))) (by exact fun _ _ h _ => h)) (by intro _; rfl)) (qss_one (qs_raise rfl tk T.x_Falls G_Falls_init (hr.mono (by decide)) (by rfl) (qa_cons (qv 0) qa_nil) (by decide) (by simp [xfl, xs_Falls]))) qss_nil)))))
theorem ok_check_rising_0 {P : Program} {w : World} {K : PySem.W.Frag} {mg : Str → Option Value} {base : Heap} (T : Tx w K mg)
    (G_Falls_init : FnMU P w K mg base 3 "Falls" "__init__" ["self", "name"] (spIn K 1 xs_Falls))
    (G_sinks_0 : Fn P w K mg base 1 (He.ga K "sinks") ["move", "pair"] w_sinks 2 [] (fun ds _ => ds)) :
    Fn P w K mg base 5 (He.ga K "check_rising") ["name", "rungs", "t_box"] w_check_rising 3 [] (fun ds _ => ds) := by
  obtain ⟨fd, F⟩ := T.d_check_rising
  refine ⟨⟨fd, fk_check_rising T G_Falls_init G_sinks_0 F, ?_⟩, F.kp⟩
  exact dbn_all (FunD.bindsN F (ps := ["name", "rungs", "t_box"]) fun _ _ _ _ _ _ us hl => match us, hl with | [_, _, _], _ => rfl)
theorem sc_check_rungs : FnScope N_check_rungs ["name", "rungs", "s_box", "t_box", "most", "far"] (defScope s_check_rungs) := ⟨rfl, rfl, rfl, by decide +kernel, rfl, by decide +kernel, by decide +kernel⟩
theorem fk_check_rungs {P : Program} {w : World} {K : PySem.W.Frag} {mg : Str → Option Value} {base : Heap} (T : Tx w K mg)
    (G_BadRungs_init : FnMU P w K mg base 3 "BadRungs" "__init__" ["self", "name"] (spIn K 1 xs_BadRungs))
    (G_check_move_0 : Fn P w K mg base 6 (He.ga K "check_move") ["move", "far"] w_check_move 2 [] (fun ds _ => ds))
    (G_check_rising_0 : Fn P w K mg base 5 (He.ga K "check_rising") ["name", "rungs", "t_box"] w_check_rising 3 [] (fun ds _ => ds))
    (G_check_room_0 : Fn P w K mg base 5 (He.ga K "check_room") ["name", "room", "s_box"] w_check_room 3 [] (fun ds _ => ds)) {fd : FuncData}
    (F : FunD K "check_rungs" "check_rungs" (defArgs s_check_rungs) (defBody s_check_rungs) (defScope s_check_rungs) [] [] (He.ga K "check_rungs") fd) :
    FnOk P w K mg base (MV.CX P w) 7 (He.ga K "check_rungs") fd ["name", "rungs", "s_box", "t_box", "most", "far"] (spM K 6 w_check_rungs) :=
  fn_ok F sc_check_rungs fun cdv A outer s H E hr tk po =>
    (qss_cons (qs_if (qt_not (qt_chain op_le sim_le op_le sim_le qe_int (qe_callB call_lenA sim_len (by rfl) T.m_len (by decide +kernel) (qa_cons (qv 1) qa_nil)) (qv 4))) (qss_one (qs_raise rfl tk T.x_BadRungs G_BadRungs_init (hr.mono (by decide)) (by rfl) (qa_cons (qv 0) qa_nil) (by decide) (by simp [xfl, xs_BadRungs]))) qss_nil)
      (qss_cons (qs_for po rfl (qi_seq (qe_slice (qv 1) qo_none (qo_some (qe_un un_neg sim_neg qe_int)))) (qg_tup rfl (qgs_cons (qg_name (i := 6) sc_check_rungs.nd rfl (by first | exact Or.inl rfl | exact Or.inr rfl)) (qgs_cons (qg_name (i := 7) sc_check_rungs.nd rfl (by first | exact Or.inl rfl | exact Or.inr rfl)) qgs_nil))) (qss_one (qs_if (qt_cmp op_isN1 sim_is (qv 6) qe_non (nomark _)) (qss_one (qs_raise rfl tk T.x_BadRungs G_BadRungs_init (hr.mono (by decide)) (by rfl) (qa_cons (qv 0) qa_nil) (by decide) (by simp [xfl, xs_BadRungs]))) qss_nil)))
      (qss_cons (qs_for po rfl (qi_seq (qv 1)) (qg_tup rfl (qgs_cons (qg_name (i := 6) sc_check_rungs.nd rfl (by first | exact Or.inl rfl | exact Or.inr rfl)) (qgs_cons (qg_name (i := 7) sc_check_rungs.nd rfl (by first | exact Or.inl rfl | exact Or.inr rfl)) qgs_nil))) (qss_cons (qs_if (qt_cmp op_notN1 sim_isnot (qv 6) qe_non (nomark _)) (qss_one (qs_expr (qe_call G_check_move_0 (hr.mono (by decide)) (by rfl) T.g_check_move tk (qcwP (qa_cons (qv 6) (qa_cons (qv 5) qa_nil))) (by exact fun _ _ h _ => h)))) qss_nil)
      (qss_cons (qs_expr (qe_call G_check_move_0 (hr.mono (by decide)) (by rfl) T.g_check_move tk (qcwP (qa_cons (qv 7) (qa_cons (qv 5) qa_nil))) (by exact fun _ _ h _ => h)))
      (qss_one (qs_if (qt_cmp op_notN1 sim_isnot (qv 6) qe_non (nomark _)) (qss_one (qs_expr (qe_call G_check_room_0 (hr.mono (by decide)) (by rfl) T.g_check_room tk (qcwP (qa_cons (qv 0) (qa_cons (qv 6) (qa_cons (qv 2) qa_nil)))) (by exact fun _ _ h _ => h)))) qss_nil)))))
      (qss_one (qs_expr (qe_call G_check_rising_0 (hr.mono (by decide)) (by rfl) T.g_check_rising tk (qcwP (qa_cons (qv 0) (qa_cons (qv 1) (qa_cons (qv 3) qa_nil)))) (by exact fun _ _ h _ => h)))))))
theorem ok_check_rungs_0 {P : Program} {w : World} {K : PySem.W.Frag} {mg : Str → Option Value} {base : Heap} (T : Tx w K mg)
    (G_BadRungs_init : FnMU P w K mg base 3 "BadRungs" "__init__" ["self", "name"] (spIn K 1 xs_BadRungs))
    (G_check_move_0 : Fn P w K mg base 6 (He.ga K "check_move") ["move", "far"] w_check_move 2 [] (fun ds _ => ds))
    (G_check_rising_0 : Fn P w K mg base 5 (He.ga K "check_rising") ["name", "rungs", "t_box"] w_check_rising 3 [] (fun ds _ => ds))
    (G_check_room_0 : Fn P w K mg base 5 (He.ga K "check_room") ["name", "room", "s_box"] w_check_room 3 [] (fun ds _ => ds)) :
    Fn P w K mg base 7 (He.ga K "check_rungs") ["name", "rungs", "s_box", "t_box", "most", "far"] w_check_rungs 4 ["most", "far"] (fun ds es => [ds.getD 0 .non, ds.getD 1 .non, ds.getD 2 .non, ds.getD 3 .non, es.getD 0 .non, es.getD 1 .non]) := by
  obtain ⟨fd, F⟩ := T.d_check_rungs
  refine ⟨⟨fd, fk_check_rungs T G_BadRungs_init G_check_move_0 G_check_rising_0 G_check_room_0 F, ?_⟩, F.kp⟩
  exact dbn_kw (md := []) (mz := []) (mv := []) (kbindsE F (ps := ["name", "rungs", "s_box", "t_box", "most", "far"]) 4 ["most", "far"] [0, 1, 2, 3, 4, 5] (fun kV doc pm an cdv ct us ws h1 h2 => match us, ws, h1, h2 with | [_, _, _, _], [_, _], _, _ => rfl)) (fun as H => .nil) (fun ds es h1 h2 => match ds, es, h1, h2 with | [_, _, _, _], [_, _], _, _ => rfl)
theorem sc_Net_set_road : FnScope N_Net_set_road ["self", "name", "told"] (defScope s_Net_set_road) := ⟨rfl, rfl, rfl, by decide +kernel, rfl, by decide +kernel, by decide +kernel⟩
theorem fk_Net_set_road {P : Program} {w : World} {K : PySem.W.Frag} {mg : Str → Option Value} {base : Heap} (T : Tx w K mg)
    (G_BadTakes_init : FnMU P w K mg base 3 "BadTakes" "__init__" ["self", "number"] (spIn K 1 xs_BadTakes))
    (G_check_move_0 : Fn P w K mg base 6 (He.ga K "check_move") ["move", "far"] w_check_move 2 [] (fun ds _ => ds))
    (G_check_room_0 : Fn P w K mg base 5 (He.ga K "check_room") ["name", "room", "s_box"] w_check_room 3 [] (fun ds _ => ds))
    (G_check_rungs_0 : Fn P w K mg base 7 (He.ga K "check_rungs") ["name", "rungs", "s_box", "t_box", "most", "far"] w_check_rungs 4 ["most", "far"] (fun ds es => [ds.getD 0 .non, ds.getD 1 .non, ds.getD 2 .non, ds.getD 3 .non, es.getD 0 .non, es.getD 1 .non])) {fd : FuncData}
    (F : FunD K "set_road" "Net.set_road" (defArgs s_Net_set_road) (defBody s_Net_set_road) (defScope s_Net_set_road) [] [] (He.ma K (He.ga K "Net") "set_road") fd) :
    FnOk P w K mg base (MV.CX P w) 8 (He.ma K (He.ga K "Net") "set_road") fd ["self", "name", "told"] (spM K 3 w_Net_set_road) :=
  fn_ok F sc_Net_set_road fun cdv A outer s H E hr tk po =>
    (qss_cons (qs_if (qt_not (qt_chain op_le sim_le op_le sim_le qe_int (qe_ix (ix_any (units1 hr)) sim_ix (qv 2) qe_int (fun _ _ => rfl)) (qe_gint (by rfl) T.c_MOST_TAKES))) (qss_one (qs_raise rfl tk T.x_BadTakes G_BadTakes_init (hr.mono (by decide)) (by rfl) (qa_cons (qe_ix (ix_any (units1 hr)) sim_ix (qv 2) qe_int (fun _ _ => rfl)) qa_nil) (by decide) (by simp [xfl, xs_BadTakes]))) qss_nil)
      (qss_cons (qs_expr (qe_call G_check_move_0 (hr.mono (by decide)) (by rfl) T.g_check_move tk (qcwP (qa_cons (qe_ix (ix_any (units1 hr)) sim_ix (qv 2) qe_int (fun _ _ => rfl)) (qa_cons (qe_gint (by rfl) T.c_MOST) qa_nil))) (by exact fun _ _ h _ => h)))
      (qss_cons (qs_expr (qe_call G_check_room_0 (hr.mono (by decide)) (by rfl) T.g_check_room tk (qcwP (qa_cons (qv 1) (qa_cons (qe_ix (ix_any (units1 hr)) sim_ix (qv 2) qe_int (fun _ _ => rfl)) (qa_cons (qe_fld T.cn (by simp [cfl]) (qv 0)) qa_nil)))) (by exact fun _ _ h _ => h)))
      (qss_cons (qs_expr (qe_call G_check_rungs_0 (hr.mono (by decide)) (by rfl) T.g_check_rungs tk (qcwPK (by exact (qa_cons (qv 1) (qa_cons (qe_ix (ix_any (units1 hr)) sim_ix (qv 2) qe_int (fun _ _ => rfl)) (qa_cons (qe_fld T.cn (by simp [cfl]) (qv 0)) (qa_cons (qe_fld T.cn (by simp [cfl]) (qv 0)) qa_nil))))) (by exact (qk_cons (qe_gint (by rfl) T.c_MOST_RUNGS) (qk_cons (qe_gint (by rfl) T.c_MOST) qk_nil)))) (by exact fun _ _ _ _ => rfl)))
      (qss_cons (qs_set (i := 3) sc_Net_set_road.nd rfl (Or.inl rfl) (qe_callTy call_dictD sim_dict (by rfl) T.m_dict (by decide +kernel) (qa_cons (qe_fld T.cn (by simp [cfl]) (qv 0)) qa_nil)))
      (qss_cons (qs_setIx (units1 hr) (qv 2) (qv 3) (qv 1))
      (qss_one (qs_fld T.cn (by simp [cfl]) (qv 0) (qv 3)))))))))
theorem ok_Net_set_road_0 {P : Program} {w : World} {K : PySem.W.Frag} {mg : Str → Option Value} {base : Heap} (T : Tx w K mg)
    (G_BadTakes_init : FnMU P w K mg base 3 "BadTakes" "__init__" ["self", "number"] (spIn K 1 xs_BadTakes))
    (G_check_move_0 : Fn P w K mg base 6 (He.ga K "check_move") ["move", "far"] w_check_move 2 [] (fun ds _ => ds))
    (G_check_room_0 : Fn P w K mg base 5 (He.ga K "check_room") ["name", "room", "s_box"] w_check_room 3 [] (fun ds _ => ds))
    (G_check_rungs_0 : Fn P w K mg base 7 (He.ga K "check_rungs") ["name", "rungs", "s_box", "t_box", "most", "far"] w_check_rungs 4 ["most", "far"] (fun ds es => [ds.getD 0 .non, ds.getD 1 .non, ds.getD 2 .non, ds.getD 3 .non, es.getD 0 .non, es.getD 1 .non])) :
    Fn P w K mg base 8 (He.ma K (He.ga K "Net") "set_road") ["self", "name", "told"] w_Net_set_road 3 [] (fun ds _ => ds) := by
  obtain ⟨fd, F⟩ := T.d_Net_set_road
  refine ⟨⟨fd, fk_Net_set_road T G_BadTakes_init G_check_move_0 G_check_room_0 G_check_rungs_0 F, ?_⟩, F.kp⟩
  exact dbn_all (FunD.bindsN F (ps := ["self", "name", "told"]) fun _ _ _ _ _ _ us hl => match us, hl with | [_, _, _], _ => rfl)
theorem sc_Net_road : FnScope N_Net_road ["self", "name", "start", "end", "takes", "floor", "rungs"] (defScope s_Net_road) := ⟨rfl, rfl, rfl, by decide +kernel, rfl, by decide +kernel, by decide +kernel⟩
theorem fk_Net_road {P : Program} {w : World} {K : PySem.W.Frag} {mg : Str → Option Value} {base : Heap} (T : Tx w K mg)
    (G_TooMany_init : FnMU P w K mg base 3 "TooMany" "__init__" ["self", "most"] (spIn K 1 xs_TooMany))
    (G_Net_fresh_0 : Fn P w K mg base 6 (He.ma K (He.ga K "Net") "fresh") ["self", "name"] w_Net_fresh 2 [] (fun ds _ => ds))
    (G_Net_known_0 : Fn P w K mg base 5 (He.ma K (He.ga K "Net") "known") ["self", "name"] w_Net_known 2 [] (fun ds _ => ds))
    (G_Net_set_road_0 : Fn P w K mg base 8 (He.ma K (He.ga K "Net") "set_road") ["self", "name", "told"] w_Net_set_road 3 [] (fun ds _ => ds)) {fd : FuncData}
    (F : FunD K "road" "Net.road" (defArgs s_Net_road) (defBody s_Net_road) (defScope s_Net_road) [] [("takes", (.int 0)), ("floor", (.ref ((kwdAt ("Net", some "road") "floor") K))), ("rungs", (.ref (He.ga K "OPEN_RUNG")))] (He.ma K (He.ga K "Net") "road") fd) :
    FnOk P w K mg base (MV.CX P w) 9 (He.ma K (He.ga K "Net") "road") fd ["self", "name", "start", "end", "takes", "floor", "rungs"] (spM K 7 w_Net_road) :=
  fn_ok F sc_Net_road fun cdv A outer s H E hr tk po =>
    (qss_cons (qs_expr (qe_meth (qv 0) T.cl_Net T.me_Net_fresh G_Net_fresh_0 (hr.mono (by decide)) tk (qcwP (qa_cons (qv 1) qa_nil)) (by exact fun _ _ h _ => h)))
      (qss_cons (qs_expr (qe_meth (qv 0) T.cl_Net T.me_Net_known G_Net_known_0 (hr.mono (by decide)) tk (qcwP (qa_cons (qv 2) qa_nil)) (by exact fun _ _ h _ => h)))
      (qss_cons (qs_expr (qe_meth (qv 0) T.cl_Net T.me_Net_known G_Net_known_0 (hr.mono (by decide)) tk (qcwP (qa_cons (qv 3) qa_nil)) (by exact fun _ _ h _ => h)))
      (qss_cons (qs_if (qt_cmp op_ge sim_ge (qe_callB call_lenA sim_len (by rfl) T.m_len (by decide +kernel) (qa_cons (qe_fld T.cn (by simp [cfl]) (qv 0)) qa_nil)) (qe_gint (by rfl) T.c_MOST_ROADS) (nomark _)) (qss_one (qs_raise rfl tk T.x_TooMany G_TooMany_init (hr.mono (by decide)) (by rfl) (qa_cons (qe_gint (by rfl) T.c_MOST_ROADS) qa_nil) (by decide) (by simp [xfl, xs_TooMany]))) qss_nil)
      (qss_one (qs_expr (qe_meth (qv 0) T.cl_Net T.me_Net_set_road G_Net_set_road_0 (hr.mono (by decide)) tk (qcwP (qa_cons (qv 1) (qa_cons (qe_tup (qa_cons (qv 2) (qa_cons (qv 3) (qa_cons (qv 4) (qa_cons (qv 5) (qa_cons (qv 6) qa_nil)))))) qa_nil))) (by exact fun _ _ h _ => h))))))))
theorem ok_Net_road_0 {P : Program} {w : World} {K : PySem.W.Frag} {mg : Str → Option Value} {base : Heap} (T : Tx w K mg)
    (G_TooMany_init : FnMU P w K mg base 3 "TooMany" "__init__" ["self", "most"] (spIn K 1 xs_TooMany))
    (G_Net_fresh_0 : Fn P w K mg base 6 (He.ma K (He.ga K "Net") "fresh") ["self", "name"] w_Net_fresh 2 [] (fun ds _ => ds))
    (G_Net_known_0 : Fn P w K mg base 5 (He.ma K (He.ga K "Net") "known") ["self", "name"] w_Net_known 2 [] (fun ds _ => ds))
    (G_Net_set_road_0 : Fn P w K mg base 8 (He.ma K (He.ga K "Net") "set_road") ["self", "name", "told"] w_Net_set_road 3 [] (fun ds _ => ds)) :
    Fn P w K mg base 9 (He.ma K (He.ga K "Net") "road") ["self", "name", "start", "end", "takes", "floor", "rungs"] w_Net_road 4 ["rungs"] (fun ds es => [ds.getD 0 .non, ds.getD 1 .non, ds.getD 2 .non, ds.getD 3 .non, (.int 0), (.tup [(.int 0), (.int 0)]), es.getD 0 .non]) := by
  obtain ⟨fd, F⟩ := T.d_Net_road
  refine ⟨⟨fd, fk_Net_road T G_TooMany_init G_Net_fresh_0 G_Net_known_0 G_Net_set_road_0 F, ?_⟩, F.kp⟩
  obtain ⟨mv, hb⟩ := FunD.kbinds0 F (ps := ["self", "name", "start", "end", "takes", "floor", "rungs"]) 4 ["rungs"] [("takes", (.int 0)), ("floor", (.ref ((kwdAt ("Net", some "road") "floor") K)))] (fun us mv ws => pick (us ++ mv ++ ws) [0, 1, 2, 3, 4, 5, 6]) (by simp) (by simp) vals_pick3 (fun D doc pm an cdv ct us mv ws h1 h2 h3 => match us, mv, ws, h1, h2, h3 with | [_, _, _, _], [_, _], [_], _, _, _ => ⟨_, _, _, _, _, _, rfl, rfl, ⟨_, _, _, _, _, _, rfl, rfl, rfl⟩⟩)
  exact dbn_kw (md := [(.int 0), (.tup [(.int 0), (.int 0)])]) hb (fun as H => (.cons (.int _) (.cons (T.dk_Net_road_floor as H) .nil))) (fun ds es h1 h2 => match ds, es, h1, h2 with | [_, _, _, _], [_], _, _ => rfl)
theorem sc_Net_through : FnScope N_Net_through ["self", "place", "room"] (defScope s_Net_through) := ⟨rfl, rfl, rfl, by decide +kernel, rfl, by decide +kernel, by decide +kernel⟩
theorem fk_Net_through {P : Program} {w : World} {K : PySem.W.Frag} {mg : Str → Option Value} {base : Heap} (T : Tx w K mg)
    (G_Net_known_0 : Fn P w K mg base 5 (He.ma K (He.ga K "Net") "known") ["self", "name"] w_Net_known 2 [] (fun ds _ => ds))
    (G_Net_set_place_0 : Fn P w K mg base 1 (He.ma K (He.ga K "Net") "set_place") ["self", "name", "told"] w_Net_set_place 3 [] (fun ds _ => ds))
    (G_check_move_0 : Fn P w K mg base 6 (He.ga K "check_move") ["move", "far"] w_check_move 2 [] (fun ds _ => ds))
    (G_check_room_0 : Fn P w K mg base 5 (He.ga K "check_room") ["name", "room", "s_box"] w_check_room 3 [] (fun ds _ => ds)) {fd : FuncData}
    (F : FunD K "through" "Net.through" (defArgs s_Net_through) (defBody s_Net_through) (defScope s_Net_through) [.non] [] (He.ma K (He.ga K "Net") "through") fd) :
    FnOk P w K mg base (MV.CX P w) 7 (He.ma K (He.ga K "Net") "through") fd ["self", "place", "room"] (spM K 3 w_Net_through) :=
  fn_ok F sc_Net_through fun cdv A outer s H E hr tk po =>
    (qss_cons (qs_set (i := 3) sc_Net_through.nd rfl (Or.inl rfl) (qe_meth (qv 0) T.cl_Net T.me_Net_known G_Net_known_0 (hr.mono (by decide)) tk (qcwP (qa_cons (qv 1) qa_nil)) (by exact fun _ _ h _ => h)))
      (qss_cons (qs_if (qt_cmp op_notN1 sim_isnot (qv 2) qe_non (nomark _)) (qss_cons (qs_expr (qe_call G_check_move_0 (hr.mono (by decide)) (by rfl) T.g_check_move tk (qcwP (qa_cons (qv 2) (qa_cons (qe_gint (by rfl) T.c_MOST) qa_nil))) (by exact fun _ _ h _ => h)))
      (qss_one (qs_expr (qe_call G_check_room_0 (hr.mono (by decide)) (by rfl) T.g_check_room tk (qcwP (qa_cons (qv 1) (qa_cons (qv 2) (qa_cons (qe_fld T.cn (by simp [cfl]) (qv 0)) qa_nil)))) (by exact fun _ _ h _ => h))))) qss_nil)
      (qss_one (qs_expr (qe_meth (qv 0) T.cl_Net T.me_Net_set_place G_Net_set_place_0 (hr.mono (by decide)) tk (qcwP (qa_cons (qv 1) (qa_cons (qe_op DW.op_plus sim_add (qe_tup (qa_cons (qv 2) qa_nil)) (qe_slice (qv 3) (qo_some qe_int) qo_none)) qa_nil))) (by exact fun _ _ h _ => h))))))
theorem ok_Net_through_0 {P : Program} {w : World} {K : PySem.W.Frag} {mg : Str → Option Value} {base : Heap} (T : Tx w K mg)
    (G_Net_known_0 : Fn P w K mg base 5 (He.ma K (He.ga K "Net") "known") ["self", "name"] w_Net_known 2 [] (fun ds _ => ds))
    (G_Net_set_place_0 : Fn P w K mg base 1 (He.ma K (He.ga K "Net") "set_place") ["self", "name", "told"] w_Net_set_place 3 [] (fun ds _ => ds))
    (G_check_move_0 : Fn P w K mg base 6 (He.ga K "check_move") ["move", "far"] w_check_move 2 [] (fun ds _ => ds))
    (G_check_room_0 : Fn P w K mg base 5 (He.ga K "check_room") ["name", "room", "s_box"] w_check_room 3 [] (fun ds _ => ds)) :
    Fn P w K mg base 7 (He.ma K (He.ga K "Net") "through") ["self", "place", "room"] w_Net_through 3 [] (fun ds _ => ds) := by
  obtain ⟨fd, F⟩ := T.d_Net_through
  refine ⟨⟨fd, fk_Net_through T G_Net_known_0 G_Net_set_place_0 G_check_move_0 G_check_room_0 F, ?_⟩, F.kp⟩
  obtain ⟨ds, hd, hb⟩ := FunD.binds1 F (ps := ["self", "place", "room"]) 3 1 (by simp) rfl (fun T kV doc pm an cdv ct us its h1 h2 => match us, its, h1, h2 with | [_, _, _], [_], _, _ => ⟨_, rfl, rfl⟩)
  exact dbn_dfl hb hd rfl (fun as H ds vs hl rv => match ds, hl with | [_, _, _], _ => relL_app rv .nil)
theorem sc_Net_place_names : FnScope N_Net_place_names ["self"] (defScope s_Net_place_names) := ⟨rfl, rfl, rfl, by decide +kernel, rfl, by decide +kernel, by decide +kernel⟩
theorem fk_Net_place_names {P : Program} {w : World} {K : PySem.W.Frag} {mg : Str → Option Value} {base : Heap} (T : Tx w K mg) {fd : FuncData}
    (F : FunD K "place_names" "Net.place_names" (defArgs s_Net_place_names) (defBody s_Net_place_names) (defScope s_Net_place_names) [] [] (He.ma K (He.ga K "Net") "place_names") fd) :
    FnOk P w K mg base (MV.CX P w) 1 (He.ma K (He.ga K "Net") "place_names") fd ["self"] (spM K 1 w_Net_place_names) :=
  fn_ok F sc_Net_place_names fun cdv A outer s H E hr tk po =>
    (qss_one (qs_ret (qe_callTy (call_listA rfl) sim_list (by rfl) T.m_list (by decide +kernel) (qa_cons (qe_fld T.cn (by simp [cfl]) (qv 0)) qa_nil))))
theorem ok_Net_place_names_0 {P : Program} {w : World} {K : PySem.W.Frag} {mg : Str → Option Value} {base : Heap} (T : Tx w K mg) :
    Fn P w K mg base 1 (He.ma K (He.ga K "Net") "place_names") ["self"] w_Net_place_names 1 [] (fun ds _ => ds) := by
  obtain ⟨fd, F⟩ := T.d_Net_place_names
  refine ⟨⟨fd, fk_Net_place_names T F, ?_⟩, F.kp⟩
  exact dbn_all (FunD.bindsN F (ps := ["self"]) fun _ _ _ _ _ _ us hl => match us, hl with | [_], _ => rfl)
theorem sc_Net_place_told : FnScope N_Net_place_told ["self", "name"] (defScope s_Net_place_told) := ⟨rfl, rfl, rfl, by decide +kernel, rfl, by decide +kernel, by decide +kernel⟩
theorem fk_Net_place_told {P : Program} {w : World} {K : PySem.W.Frag} {mg : Str → Option Value} {base : Heap} (T : Tx w K mg)
    (G_Net_known_0 : Fn P w K mg base 5 (He.ma K (He.ga K "Net") "known") ["self", "name"] w_Net_known 2 [] (fun ds _ => ds)) {fd : FuncData}
    (F : FunD K "place_told" "Net.place_told" (defArgs s_Net_place_told) (defBody s_Net_place_told) (defScope s_Net_place_told) [] [] (He.ma K (He.ga K "Net") "place_told") fd) :
    FnOk P w K mg base (MV.CX P w) 6 (He.ma K (He.ga K "Net") "place_told") fd ["self", "name"] (spM K 2 w_Net_place_told) :=
  fn_ok F sc_Net_place_told fun cdv A outer s H E hr tk po =>
    (qss_one (qs_ret (qe_meth (qv 0) T.cl_Net T.me_Net_known G_Net_known_0 (hr.mono (by decide)) tk (qcwP (qa_cons (qv 1) qa_nil)) (by exact fun _ _ h _ => h))))
theorem ok_Net_place_told_0 {P : Program} {w : World} {K : PySem.W.Frag} {mg : Str → Option Value} {base : Heap} (T : Tx w K mg)
    (G_Net_known_0 : Fn P w K mg base 5 (He.ma K (He.ga K "Net") "known") ["self", "name"] w_Net_known 2 [] (fun ds _ => ds)) :
    Fn P w K mg base 6 (He.ma K (He.ga K "Net") "place_told") ["self", "name"] w_Net_place_told 2 [] (fun ds _ => ds) := by
  obtain ⟨fd, F⟩ := T.d_Net_place_told
  refine ⟨⟨fd, fk_Net_place_told T G_Net_known_0 F, ?_⟩, F.kp⟩
  exact dbn_all (FunD.bindsN F (ps := ["self", "name"]) fun _ _ _ _ _ _ us hl => match us, hl with | [_, _], _ => rfl)
theorem sc_Net_road_names : FnScope N_Net_road_names ["self"] (defScope s_Net_road_names) := ⟨rfl, rfl, rfl, by decide +kernel, rfl, by decide +kernel, by decide +kernel⟩
theorem fk_Net_road_names {P : Program} {w : World} {K : PySem.W.Frag} {mg : Str → Option Value} {base : Heap} (T : Tx w K mg) {fd : FuncData}
    (F : FunD K "road_names" "Net.road_names" (defArgs s_Net_road_names) (defBody s_Net_road_names) (defScope s_Net_road_names) [] [] (He.ma K (He.ga K "Net") "road_names") fd) :
    FnOk P w K mg base (MV.CX P w) 1 (He.ma K (He.ga K "Net") "road_names") fd ["self"] (spM K 1 w_Net_road_names) :=
  fn_ok F sc_Net_road_names fun cdv A outer s H E hr tk po =>
    (qss_one (qs_ret (qe_callTy (call_listA rfl) sim_list (by rfl) T.m_list (by decide +kernel) (qa_cons (qe_fld T.cn (by simp [cfl]) (qv 0)) qa_nil))))
theorem ok_Net_road_names_0 {P : Program} {w : World} {K : PySem.W.Frag} {mg : Str → Option Value} {base : Heap} (T : Tx w K mg) :
    Fn P w K mg base 1 (He.ma K (He.ga K "Net") "road_names") ["self"] w_Net_road_names 1 [] (fun ds _ => ds) := by
  obtain ⟨fd, F⟩ := T.d_Net_road_names
  refine ⟨⟨fd, fk_Net_road_names T F, ?_⟩, F.kp⟩
  exact dbn_all (FunD.bindsN F (ps := ["self"]) fun _ _ _ _ _ _ us hl => match us, hl with | [_], _ => rfl)
theorem sc_Net_road_told : FnScope N_Net_road_told ["self", "name"] (defScope s_Net_road_told) := ⟨rfl, rfl, rfl, by decide +kernel, rfl, by decide +kernel, by decide +kernel⟩
theorem fk_Net_road_told {P : Program} {w : World} {K : PySem.W.Frag} {mg : Str → Option Value} {base : Heap} (T : Tx w K mg)
    (G_NoRoad_init : FnMU P w K mg base 3 "NoRoad" "__init__" ["self", "name"] (spIn K 1 xs_NoRoad)) {fd : FuncData}
    (F : FunD K "road_told" "Net.road_told" (defArgs s_Net_road_told) (defBody s_Net_road_told) (defScope s_Net_road_told) [] [] (He.ma K (He.ga K "Net") "road_told") fd) :
    FnOk P w K mg base (MV.CX P w) 5 (He.ma K (He.ga K "Net") "road_told") fd ["self", "name"] (spM K 2 w_Net_road_told) :=
  fn_ok F sc_Net_road_told fun cdv A outer s H E hr tk po =>
    (qss_cons (qs_if (qt_cmp (op_notInA (units65 hr)) sim_notin (qv 1) (qe_fld T.cn (by simp [cfl]) (qv 0)) rfl) (qss_one (qs_raise rfl tk T.x_NoRoad G_NoRoad_init (hr.mono (by decide)) (by rfl) (qa_cons (qv 1) qa_nil) (by decide) (by simp [xfl, xs_NoRoad]))) qss_nil)
      (qss_one (qs_ret (qe_ix (ix_any (units1 hr)) sim_ix (qe_fld T.cn (by simp [cfl]) (qv 0)) (qv 1) (fun _ _ => rfl)))))
theorem ok_Net_road_told_0 {P : Program} {w : World} {K : PySem.W.Frag} {mg : Str → Option Value} {base : Heap} (T : Tx w K mg)
    (G_NoRoad_init : FnMU P w K mg base 3 "NoRoad" "__init__" ["self", "name"] (spIn K 1 xs_NoRoad)) :
    Fn P w K mg base 5 (He.ma K (He.ga K "Net") "road_told") ["self", "name"] w_Net_road_told 2 [] (fun ds _ => ds) := by
  obtain ⟨fd, F⟩ := T.d_Net_road_told
  refine ⟨⟨fd, fk_Net_road_told T G_NoRoad_init F, ?_⟩, F.kp⟩
  exact dbn_all (FunD.bindsN F (ps := ["self", "name"]) fun _ _ _ _ _ _ us hl => match us, hl with | [_, _], _ => rfl)
theorem sc_Net_spots : FnScope N_Net_spots ["self"] (defScope s_Net_spots) := ⟨rfl, rfl, rfl, by decide +kernel, rfl, by decide +kernel, by decide +kernel⟩
theorem fk_Net_spots {P : Program} {w : World} {K : PySem.W.Frag} {mg : Str → Option Value} {base : Heap} (T : Tx w K mg) {fd : FuncData}
    (F : FunD K "spots" "Net.spots" (defArgs s_Net_spots) (defBody s_Net_spots) (defScope s_Net_spots) [] [] (He.ma K (He.ga K "Net") "spots") fd) :
    FnOk P w K mg base (MV.CX P w) 1 (He.ma K (He.ga K "Net") "spots") fd ["self"] (spM K 1 w_Net_spots) :=
  fn_ok F sc_Net_spots fun cdv A outer s H E hr tk po =>
    (qss_one (qs_lock tk fun W tk => (qs_ret (qe_lc2 (own := [("name", 1), ("hour", 2)]) (vs1 := [2]) (T := (.nm 1)) (tt := mYes) (mi1 := (mIRng2 (mCons (mC (.int 1)) (mCons (mOp oAdd (mFld ccs (mVar 0) "hours") (mC (.int 1))) mNil)))) (T1 := (.nm 2)) (tt1 := mYes) (me := (mCB oTup (mCons (mVar 1) (mCons (mVar 2) mNil)))) rfl sc_Net_spots.nd (qi_seq (qe_fld T.cn (by simp [cfl]) (qv 0))) (blkOk_by (N := N_Net_spots) (sc := defScope s_Net_spots) (by decide +kernel)) (by decide) (fun _ _ _ _ _ => (qg_name (i := 1) sc_Net_spots.nd rfl (by first | exact Or.inl rfl | exact Or.inr rfl))) (fun _ _ _ _ _ => qts_nil) (fun _ _ _ _ _ => (qi_range2 (by rfl) T.m_range (qa_cons qe_int (qa_cons (qe_op DW.op_plus sim_add (qe_fld T.cn (by simp [cfl]) (qv 0)) qe_int) qa_nil)))) (fun _ _ _ _ _ => (qg_name (i := 2) sc_Net_spots.nd rfl (by first | exact Or.inl rfl | exact Or.inr rfl))) (fun _ _ _ _ _ => qts_nil) (fun _ _ _ _ _ => (qe_tup (qa_cons (qv 1) (qa_cons (qv 2) qa_nil)))) (by decide) (by decide)))))
theorem ok_Net_spots_0 {P : Program} {w : World} {K : PySem.W.Frag} {mg : Str → Option Value} {base : Heap} (T : Tx w K mg) :
    Fn P w K mg base 1 (He.ma K (He.ga K "Net") "spots") ["self"] w_Net_spots 1 [] (fun ds _ => ds) := by
  obtain ⟨fd, F⟩ := T.d_Net_spots
  refine ⟨⟨fd, fk_Net_spots T F, ?_⟩, F.kp⟩
  exact dbn_all (FunD.bindsN F (ps := ["self"]) fun _ _ _ _ _ _ us hl => match us, hl with | [_], _ => rfl)
theorem sc_unrolled : FnScope N_unrolled ["net"] (defScope s_unrolled) := ⟨rfl, rfl, rfl, by decide +kernel, rfl, by decide +kernel, by decide +kernel⟩
theorem fk_unrolled {P : Program} {w : World} {K : PySem.W.Frag} {mg : Str → Option Value} {base : Heap} (T : Tx w K mg)
    (G_Net_place_names_0 : Fn P w K mg base 1 (He.ma K (He.ga K "Net") "place_names") ["self"] w_Net_place_names 1 [] (fun ds _ => ds))
    (G_Net_place_told_0 : Fn P w K mg base 6 (He.ma K (He.ga K "Net") "place_told") ["self", "name"] w_Net_place_told 2 [] (fun ds _ => ds))
    (G_Net_road_names_0 : Fn P w K mg base 1 (He.ma K (He.ga K "Net") "road_names") ["self"] w_Net_road_names 1 [] (fun ds _ => ds))
    (G_Net_road_told_0 : Fn P w K mg base 5 (He.ma K (He.ga K "Net") "road_told") ["self", "name"] w_Net_road_told 2 [] (fun ds _ => ds))
    (G_Net_spots_0 : Fn P w K mg base 1 (He.ma K (He.ga K "Net") "spots") ["self"] w_Net_spots 1 [] (fun ds _ => ds)) {fd : FuncData}
    (F : FunD K "unrolled" "unrolled" (defArgs s_unrolled) (defBody s_unrolled) (defScope s_unrolled) [] [] (He.ga K "unrolled") fd) :
    FnOk P w K mg base (MV.CX P w) 7 (He.ga K "unrolled") fd ["net"] (spM K 1 w_unrolled) :=
  fn_ok F sc_unrolled fun cdv A outer s H E hr tk po =>
    (qss_cons (qs_set (i := 1) sc_unrolled.nd rfl (Or.inr rfl) (qe_fld T.cn (by simp [cfl]) (qv 0)))
      (qss_cons (qs_set (i := 2) sc_unrolled.nd rfl (Or.inl rfl) (qe_meth (qv 0) T.cl_Net T.me_Net_place_names G_Net_place_names_0 (hr.mono (by decide)) tk qcw0 (by exact fun _ _ h _ => h)))
      (qss_cons (qs_setDc (i := 3) (own := [("k", 4), ("name", 5)]) (T := (.tp 2 (.cons (.nm 4) (.cons (.nm 5) .nil)))) (tt := mYes) (mk := (mVar 5)) (mv := (mOp oSub (mOp oMul (mVar 4) (mVar 1)) (mC (.int 1)))) rfl sc_unrolled.nd rfl rfl (sw_trueD rfl rfl rfl (by decide +kernel)) (qi_enumL (by rfl) T.m_enumerate (qa_cons (qv 2) qa_nil)) (blkOk_by (N := N_unrolled) (sc := defScope s_unrolled) (by decide +kernel)) (fun _ _ _ _ _ => (qg_tup rfl (qgs_cons (qg_name (i := 4) sc_unrolled.nd rfl (by first | exact Or.inl rfl | exact Or.inr rfl)) (qgs_cons (qg_name (i := 5) sc_unrolled.nd rfl (by first | exact Or.inl rfl | exact Or.inr rfl)) qgs_nil)))) (fun _ _ _ _ _ => qts_nil) (fun _ _ _ _ _ => (qv 5)) (fun _ _ _ _ _ => (qe_op op_sub sim_sub (qe_op op_mulA sim_mul (qv 4) (qv 1)) qe_int)) (by decide))
      (qss_cons (qs_set (i := 6) sc_unrolled.nd rfl (Or.inl rfl) (qe_lst qa_nil))
      (qss_cons (qs_set (i := 7) sc_unrolled.nd rfl (Or.inl rfl) (qe_lst qa_nil))
      (qss_cons (qs_for po rfl (qi_seq (qv 2)) (qg_name (i := 5) sc_unrolled.nd rfl (by first | exact Or.inl rfl | exact Or.inr rfl)) (qss_cons (qs_set (i := 8) sc_unrolled.nd rfl (Or.inr rfl) (qe_meth (qv 0) T.cl_Net T.me_Net_place_told G_Net_place_told_0 (hr.mono (by decide)) tk (qcwP (qa_cons (qv 5) qa_nil)) (by exact fun _ _ h _ => h)))
      (qss_cons (qs_expr (qe_bm PySem.F.plainAttrs_list PySem.F.slot_list_extend PySem.F.type_list_extend mt_extendT sim_extendT (qv 6) (qa_cons (qe_ix (ix_any (units1 hr)) sim_ix (qv 8) qe_int (fun _ _ => rfl)) qa_nil)))
      (qss_one (qs_expr (qe_bm PySem.F.plainAttrs_list PySem.F.slot_list_extend PySem.F.type_list_extend mt_extend sim_extend (qv 7) (qa_cons (qe_lc (own := [("hour", 9)]) (T := (.nm 9)) (tt := mYes) (me := (mOp oIx (mVar 8) (mC (.int 0)))) rfl sc_unrolled.nd (qi_range1 (by rfl) T.m_range (qa_cons (qv 1) qa_nil)) (blkOk_by (N := N_unrolled) (sc := defScope s_unrolled) (by decide +kernel)) (fun _ _ _ _ _ => (qg_name (i := 9) sc_unrolled.nd rfl (by first | exact Or.inl rfl | exact Or.inr rfl))) (fun _ _ _ _ _ => qts_nil) (fun _ _ _ _ _ => (qe_ix (ix_any (units1 hr)) sim_ix (qv 8) qe_int (fun _ _ => rfl))) (by decide)) qa_nil)))))))
      (qss_cons (qs_set (i := 10) sc_unrolled.nd rfl (Or.inl rfl) (qe_lst qa_nil))
      (qss_cons (qs_for po rfl (qi_seq (qe_meth (qv 0) T.cl_Net T.me_Net_road_names G_Net_road_names_0 (hr.mono (by decide)) tk qcw0 (by exact fun _ _ h _ => h))) (qg_name (i := 5) sc_unrolled.nd rfl (by first | exact Or.inl rfl | exact Or.inr rfl)) (qss_cons (qs_asg (qe_meth (qv 0) T.cl_Net T.me_Net_road_told G_Net_road_told_0 (hr.mono (by decide)) tk (qcwP (qa_cons (qv 5) qa_nil)) (by exact fun _ _ h _ => h)) (qg_tup rfl (qgs_cons (qg_name (i := 11) sc_unrolled.nd rfl (by first | exact Or.inl rfl | exact Or.inr rfl)) (qgs_cons (qg_name (i := 12) sc_unrolled.nd rfl (by first | exact Or.inl rfl | exact Or.inr rfl)) (qgs_cons (qg_name (i := 13) sc_unrolled.nd rfl (by first | exact Or.inl rfl | exact Or.inr rfl)) (qgs_cons (qg_name (i := 14) sc_unrolled.nd rfl (by first | exact Or.inl rfl | exact Or.inr rfl)) (qgs_cons (qg_name (i := 15) sc_unrolled.nd rfl (by first | exact Or.inl rfl | exact Or.inr rfl)) qgs_nil)))))))
      (qss_one (qs_for po rfl (qi_range2 (by rfl) T.m_range (qa_cons qe_int (qa_cons (qe_op DW.op_plus sim_add (qe_op op_sub sim_sub (qv 1) (qv 13)) qe_int) qa_nil))) (qg_name (i := 9) sc_unrolled.nd rfl (by first | exact Or.inl rfl | exact Or.inr rfl)) (qss_one (qs_expr (qe_bm PySem.F.plainAttrs_list PySem.F.slot_list_append PySem.F.type_list_append mt_append sim_append (qv 10) (qa_cons (qe_tup (qa_cons (qv 5) (qa_cons (qv 9) (qa_cons (qe_op DW.op_plus sim_add (qe_ix (ix_any (units1 hr)) sim_ix (qv 3) (qv 11) (fun _ _ => rfl)) (qv 9)) (qa_cons (qe_op DW.op_plus sim_add (qe_op DW.op_plus sim_add (qe_ix (ix_any (units1 hr)) sim_ix (qv 3) (qv 12) (fun _ _ => rfl)) (qv 9)) (qv 13)) (qa_cons (qv 14) (qa_cons (qv 15) qa_nil))))))) qa_nil))))))))
      (qss_cons (qs_for po rfl (qi_seq (qv 2)) (qg_name (i := 5) sc_unrolled.nd rfl (by first | exact Or.inl rfl | exact Or.inr rfl)) (qss_cons (qs_set (i := 8) sc_unrolled.nd rfl (Or.inr rfl) (qe_meth (qv 0) T.cl_Net T.me_Net_place_told G_Net_place_told_0 (hr.mono (by decide)) tk (qcwP (qa_cons (qv 5) qa_nil)) (by exact fun _ _ h _ => h)))
      (qss_one (qs_if (qt_cmp (DW.op_nee hr.units) sim_ne (qe_ix (ix_any (units1 hr)) sim_ix (qv 8) qe_int (fun _ _ => rfl)) (qe_tup (qa_cons qe_int (qa_cons qe_int qa_nil))) (nomark _)) (qss_one (qs_for po rfl (qi_range2 (by rfl) T.m_range (qa_cons qe_int (qa_cons (qv 1) qa_nil))) (qg_name (i := 9) sc_unrolled.nd rfl (by first | exact Or.inl rfl | exact Or.inr rfl)) (qss_cons (qs_set (i := 16) sc_unrolled.nd rfl (Or.inl rfl) (qe_op DW.op_plus sim_add (qe_ix (ix_any (units1 hr)) sim_ix (qv 3) (qv 5) (fun _ _ => rfl)) (qv 9)))
      (qss_one (qs_expr (qe_bm PySem.F.plainAttrs_list PySem.F.slot_list_append PySem.F.type_list_append mt_append sim_append (qv 10) (qa_cons (qe_tup (qa_cons (qv 5) (qa_cons (qv 9) (qa_cons (qv 16) (qa_cons (qe_op DW.op_plus sim_add (qv 16) qe_int) (qa_cons (qe_tup (qa_cons qe_int (qa_cons qe_int qa_nil))) (qa_cons (qe_tup (qa_cons (qe_tup (qa_cons (qe_ix (ix_any (units1 hr)) sim_ix (qv 8) qe_int (fun _ _ => rfl)) (qa_cons (qe_ix (ix_any (units1 hr)) sim_ix (qv 8) qe_int (fun _ _ => rfl)) qa_nil))) qa_nil)) qa_nil))))))) qa_nil))))))) qss_nil))))
      (qss_one (qs_ret (qe_tup (qa_cons (qe_meth (qv 0) T.cl_Net T.me_Net_spots G_Net_spots_0 (hr.mono (by decide)) tk qcw0 (by exact fun _ _ h _ => h)) (qa_cons (qv 6) (qa_cons (qv 7) (qa_cons (qv 10) qa_nil))))))))))))))))
theorem ok_unrolled_0 {P : Program} {w : World} {K : PySem.W.Frag} {mg : Str → Option Value} {base : Heap} (T : Tx w K mg)
    (G_Net_place_names_0 : Fn P w K mg base 1 (He.ma K (He.ga K "Net") "place_names") ["self"] w_Net_place_names 1 [] (fun ds _ => ds))
    (G_Net_place_told_0 : Fn P w K mg base 6 (He.ma K (He.ga K "Net") "place_told") ["self", "name"] w_Net_place_told 2 [] (fun ds _ => ds))
    (G_Net_road_names_0 : Fn P w K mg base 1 (He.ma K (He.ga K "Net") "road_names") ["self"] w_Net_road_names 1 [] (fun ds _ => ds))
    (G_Net_road_told_0 : Fn P w K mg base 5 (He.ma K (He.ga K "Net") "road_told") ["self", "name"] w_Net_road_told 2 [] (fun ds _ => ds))
    (G_Net_spots_0 : Fn P w K mg base 1 (He.ma K (He.ga K "Net") "spots") ["self"] w_Net_spots 1 [] (fun ds _ => ds)) :
    Fn P w K mg base 7 (He.ga K "unrolled") ["net"] w_unrolled 1 [] (fun ds _ => ds) := by
  obtain ⟨fd, F⟩ := T.d_unrolled
  refine ⟨⟨fd, fk_unrolled T G_Net_place_names_0 G_Net_place_told_0 G_Net_road_names_0 G_Net_road_told_0 G_Net_spots_0 F, ?_⟩, F.kp⟩
  exact dbn_all (FunD.bindsN F (ps := ["net"]) fun _ _ _ _ _ _ us hl => match us, hl with | [_], _ => rfl)
theorem sc_doored : FnScope N_doored ["spots", "wants", "rooms", "arcs"] (defScope s_doored) := ⟨rfl, rfl, rfl, by decide +kernel, rfl, by decide +kernel, by decide +kernel⟩
theorem fk_doored {P : Program} {w : World} {K : PySem.W.Frag} {mg : Str → Option Value} {base : Heap} (T : Tx w K mg) {fd : FuncData}
    (F : FunD K "doored" "doored" (defArgs s_doored) (defBody s_doored) (defScope s_doored) [] [] (He.ga K "doored") fd) :
    FnOk P w K mg base (MV.CX P w) 1 (He.ga K "doored") fd ["spots", "wants", "rooms", "arcs"] (spM K 4 w_doored) :=
  fn_ok F sc_doored fun cdv A outer s H E hr tk po =>
    (qss_cons (qs_set (i := 4) sc_doored.nd rfl (Or.inl rfl) (qe_lst qa_nil))
      (qss_cons (qs_set (i := 5) sc_doored.nd rfl (Or.inl rfl) (qe_lst qa_nil))
      (qss_cons (qs_set (i := 6) sc_doored.nd rfl (Or.inr rfl) (qe_lst qa_nil))
      (qss_cons (qs_set (i := 7) sc_doored.nd rfl (Or.inr rfl) (qe_lst qa_nil))
      (qss_cons (qs_set (i := 8) sc_doored.nd rfl (Or.inl rfl) (qe_lst qa_nil))
      (qss_cons (qs_for po rfl (qi_zip3 (by rfl) T.m_zip (qa_cons (qv 0) (qa_cons (qv 1) (qa_cons (qv 2) qa_nil)))) (qg_tup rfl (qgs_cons (qg_tup rfl (qgs_cons (qg_name (i := 11) sc_doored.nd rfl (by first | exact Or.inl rfl | exact Or.inr rfl)) (qgs_cons (qg_name (i := 12) sc_doored.nd rfl (by first | exact Or.inl rfl | exact Or.inr rfl)) qgs_nil))) (qgs_cons (qg_name (i := 9) sc_doored.nd rfl (by first | exact Or.inl rfl | exact Or.inr rfl)) (qgs_cons (qg_name (i := 10) sc_doored.nd rfl (by first | exact Or.inl rfl | exact Or.inr rfl)) qgs_nil)))) (qss_cons (qs_expr (qe_bm PySem.F.plainAttrs_list PySem.F.slot_list_append PySem.F.type_list_append mt_append sim_append (qv 6) (qa_cons (qe_callB call_lenA sim_len (by rfl) T.m_len (by decide +kernel) (qa_cons (qv 4) qa_nil)) qa_nil)))
      (qss_cons (qs_if (qt_cmp op_isN1 sim_is (qv 10) qe_non (nomark _)) (qss_one (qs_expr (qe_bm PySem.F.plainAttrs_list PySem.F.slot_list_append PySem.F.type_list_append mt_append sim_append (qv 4) (qa_cons (qe_tup (qa_cons (qv 11) (qa_cons (qv 12) (qa_cons qe_str qa_nil)))) qa_nil)))) (qss_cons (qs_expr (qe_bm PySem.F.plainAttrs_list PySem.F.slot_list_append PySem.F.type_list_append mt_append sim_append (qv 8) (qa_cons (qe_tup (qa_cons qe_str (qa_cons (qv 12) (qa_cons (qe_callB call_lenA sim_len (by rfl) T.m_len (by decide +kernel) (qa_cons (qv 4) qa_nil)) (qa_cons (qe_op DW.op_plus sim_add (qe_callB call_lenA sim_len (by rfl) T.m_len (by decide +kernel) (qa_cons (qv 4) qa_nil)) qe_int) (qa_cons (qe_tup (qa_cons qe_int (qa_cons qe_int qa_nil))) (qa_cons (qe_tup (qa_cons (qe_tup (qa_cons (qv 10) (qa_cons (qe_tup (qa_cons qe_int (qa_cons qe_int qa_nil))) qa_nil))) qa_nil)) qa_nil))))))) qa_nil)))
      (qss_cons (qs_expr (qe_bm PySem.F.plainAttrs_list PySem.F.slot_list_append PySem.F.type_list_append mt_append sim_append (qv 4) (qa_cons (qe_tup (qa_cons (qv 11) (qa_cons (qv 12) (qa_cons qe_str qa_nil)))) qa_nil)))
      (qss_cons (qs_expr (qe_bm PySem.F.plainAttrs_list PySem.F.slot_list_append PySem.F.type_list_append mt_append sim_append (qv 5) (qa_cons (qe_tup (qa_cons qe_int (qa_cons qe_int qa_nil))) qa_nil)))
      (qss_one (qs_expr (qe_bm PySem.F.plainAttrs_list PySem.F.slot_list_append PySem.F.type_list_append mt_append sim_append (qv 4) (qa_cons (qe_tup (qa_cons (qv 11) (qa_cons (qv 12) (qa_cons qe_str qa_nil)))) qa_nil))))))))
      (qss_cons (qs_expr (qe_bm PySem.F.plainAttrs_list PySem.F.slot_list_append PySem.F.type_list_append mt_append sim_append (qv 7) (qa_cons (qe_op op_sub sim_sub (qe_callB call_lenA sim_len (by rfl) T.m_len (by decide +kernel) (qa_cons (qv 4) qa_nil)) qe_int) qa_nil)))
      (qss_one (qs_expr (qe_bm PySem.F.plainAttrs_list PySem.F.slot_list_append PySem.F.type_list_append mt_append sim_append (qv 5) (qa_cons (qv 9) qa_nil))))))))
      (qss_cons (qs_setLc (i := 13) (own := [("name", 14), ("hour", 12), ("tail", 15), ("head", 16), ("floor", 17), ("rungs", 18)]) (T := (.tp 6 (.cons (.nm 14) (.cons (.nm 12) (.cons (.nm 15) (.cons (.nm 16) (.cons (.nm 17) (.cons (.nm 18) .nil)))))))) (tt := mYes) (me := (mCB oTup (mCons (mVar 14) (mCons (mVar 12) (mCons (mOp oIx (mVar 7) (mVar 15)) (mCons (mOp oIx (mVar 6) (mVar 16)) (mCons (mVar 17) (mCons (mVar 18) mNil)))))))) rfl sc_doored.nd rfl rfl (sw_true rfl rfl rfl (by decide +kernel)) (qi_seq (qv 3)) (blkOk_by (N := N_doored) (sc := defScope s_doored) (by decide +kernel)) (fun _ _ _ _ _ => (qg_tup rfl (qgs_cons (qg_name (i := 14) sc_doored.nd rfl (by first | exact Or.inl rfl | exact Or.inr rfl)) (qgs_cons (qg_name (i := 12) sc_doored.nd rfl (by first | exact Or.inl rfl | exact Or.inr rfl)) (qgs_cons (qg_name (i := 15) sc_doored.nd rfl (by first | exact Or.inl rfl | exact Or.inr rfl)) (qgs_cons (qg_name (i := 16) sc_doored.nd rfl (by first | exact Or.inl rfl | exact Or.inr rfl)) (qgs_cons (qg_name (i := 17) sc_doored.nd rfl (by first | exact Or.inl rfl | exact Or.inr rfl)) (qgs_cons (qg_name (i := 18) sc_doored.nd rfl (by first | exact Or.inl rfl | exact Or.inr rfl)) qgs_nil)))))))) (fun _ _ _ _ _ => qts_nil) (fun _ _ _ _ _ => (qe_tup (qa_cons (qv 14) (qa_cons (qv 12) (qa_cons (qe_ix (ix_any (units1 hr)) sim_ix (qv 7) (qv 15) (fun _ _ => rfl)) (qa_cons (qe_ix (ix_any (units1 hr)) sim_ix (qv 6) (qv 16) (fun _ _ => rfl)) (qa_cons (qv 17) (qa_cons (qv 18) qa_nil)))))))) (by decide))
      (qss_cons (qs_expr (qe_bm PySem.F.plainAttrs_list PySem.F.slot_list_extend PySem.F.type_list_extend mt_extend sim_extend (qv 13) (qa_cons (qv 8) qa_nil)))
      (qss_one (qs_ret (qe_tup (qa_cons (qv 4) (qa_cons (qv 5) (qa_cons (qv 13) qa_nil))))))))))))))
theorem ok_doored_0 {P : Program} {w : World} {K : PySem.W.Frag} {mg : Str → Option Value} {base : Heap} (T : Tx w K mg) :
    Fn P w K mg base 1 (He.ga K "doored") ["spots", "wants", "rooms", "arcs"] w_doored 4 [] (fun ds _ => ds) := by
  obtain ⟨fd, F⟩ := T.d_doored
  refine ⟨⟨fd, fk_doored T F, ?_⟩, F.kp⟩
  exact dbn_all (FunD.bindsN F (ps := ["spots", "wants", "rooms", "arcs"]) fun _ _ _ _ _ _ us hl => match us, hl with | [_, _, _, _], _ => rfl)
theorem sc_laid : FnScope N_laid ["arcs"] (defScope s_laid) := ⟨rfl, rfl, rfl, by decide +kernel, rfl, by decide +kernel, by decide +kernel⟩
theorem fk_laid {P : Program} {w : World} {K : PySem.W.Frag} {mg : Str → Option Value} {base : Heap} (T : Tx w K mg) {fd : FuncData}
    (F : FunD K "laid" "laid" (defArgs s_laid) (defBody s_laid) (defScope s_laid) [] [] (He.ga K "laid") fd) :
    FnOk P w K mg base (MV.CX P w) 1 (He.ga K "laid") fd ["arcs"] (spM K 1 w_laid) :=
  fn_ok F sc_laid fun cdv A outer s H E hr tk po =>
    (qss_cons (qs_set (i := 1) sc_laid.nd rfl (Or.inl rfl) (qe_lst qa_nil))
      (qss_cons (qs_for po rfl (qi_seq (qv 0)) (qg_tup rfl (qgs_cons (qg_name (i := 2) sc_laid.nd rfl (by first | exact Or.inl rfl | exact Or.inr rfl)) (qgs_cons (qg_name (i := 3) sc_laid.nd rfl (by first | exact Or.inl rfl | exact Or.inr rfl)) (qgs_cons (qg_name (i := 4) sc_laid.nd rfl (by first | exact Or.inl rfl | exact Or.inr rfl)) (qgs_cons (qg_name (i := 5) sc_laid.nd rfl (by first | exact Or.inl rfl | exact Or.inr rfl)) (qgs_cons (qg_name (i := 6) sc_laid.nd rfl (by first | exact Or.inl rfl | exact Or.inr rfl)) (qgs_cons (qg_name (i := 7) sc_laid.nd rfl (by first | exact Or.inl rfl | exact Or.inr rfl)) qgs_nil))))))) (qss_one (qs_for po rfl (qi_enumT (by rfl) T.m_enumerate (qa_cons (qv 7) qa_nil)) (qg_tup rfl (qgs_cons (qg_name (i := 8) sc_laid.nd rfl (by first | exact Or.inl rfl | exact Or.inr rfl)) (qgs_cons (qg_tup rfl (qgs_cons (qg_name (i := 10) sc_laid.nd rfl (by first | exact Or.inl rfl | exact Or.inr rfl)) (qgs_cons (qg_name (i := 11) sc_laid.nd rfl (by first | exact Or.inl rfl | exact Or.inr rfl)) qgs_nil))) qgs_nil))) (qss_cons (qs_set (i := 9) sc_laid.nd rfl (Or.inl rfl) (qe_ifExp (qt_cmp (DW.op_eqq hr.units) sim_eq (qv 8) qe_int (nomark _)) (qv 6) (qe_tup (qa_cons qe_int (qa_cons qe_int qa_nil)))))
      (qss_one (qs_expr (qe_bm PySem.F.plainAttrs_list PySem.F.slot_list_append PySem.F.type_list_append mt_append sim_append (qv 1) (qa_cons (qe_tup (qa_cons (qv 2) (qa_cons (qv 3) (qa_cons (qe_op DW.op_plus sim_add (qv 8) qe_int) (qa_cons (qv 4) (qa_cons (qv 5) (qa_cons (qv 9) (qa_cons (qv 10) (qa_cons (qv 11) qa_nil))))))))) qa_nil))))))))
      (qss_one (qs_ret (qv 1)))))
theorem ok_laid_0 {P : Program} {w : World} {K : PySem.W.Frag} {mg : Str → Option Value} {base : Heap} (T : Tx w K mg) :
    Fn P w K mg base 1 (He.ga K "laid") ["arcs"] w_laid 1 [] (fun ds _ => ds) := by
  obtain ⟨fd, F⟩ := T.d_laid
  refine ⟨⟨fd, fk_laid T F, ?_⟩, F.kp⟩
  exact dbn_all (FunD.bindsN F (ps := ["arcs"]) fun _ _ _ _ _ _ us hl => match us, hl with | [_], _ => rfl)
theorem sc_take : FnScope N_take ["m", "n"] (defScope s_take) := ⟨rfl, rfl, rfl, by decide +kernel, rfl, by decide +kernel, by decide +kernel⟩
theorem fk_take {P : Program} {w : World} {K : PySem.W.Frag} {mg : Str → Option Value} {base : Heap} (T : Tx w K mg) {fd : FuncData}
    (F : FunD K "take" "take" (defArgs s_take) (defBody s_take) (defScope s_take) [] [] (He.ga K "take") fd) :
    FnOk P w K mg base (MV.CX P w) 1 (He.ga K "take") fd ["m", "n"] (spM K 2 w_take) :=
  fn_ok F sc_take fun cdv A outer s H E hr tk po =>
    (qss_one (qs_ret (qe_tup (qa_cons (qe_op op_sub sim_sub (qe_ix (ix_any (units1 hr)) sim_ix (qv 0) qe_int (fun _ _ => rfl)) (qe_ix (ix_any (units1 hr)) sim_ix (qv 1) qe_int (fun _ _ => rfl))) (qa_cons (qe_op op_sub sim_sub (qe_ix (ix_any (units1 hr)) sim_ix (qv 0) qe_int (fun _ _ => rfl)) (qe_ix (ix_any (units1 hr)) sim_ix (qv 1) qe_int (fun _ _ => rfl))) qa_nil)))))
theorem ok_take_0 {P : Program} {w : World} {K : PySem.W.Frag} {mg : Str → Option Value} {base : Heap} (T : Tx w K mg) :
    Fn P w K mg base 1 (He.ga K "take") ["m", "n"] w_take 2 [] (fun ds _ => ds) := by
  obtain ⟨fd, F⟩ := T.d_take
  refine ⟨⟨fd, fk_take T F, ?_⟩, F.kp⟩
  exact dbn_all (FunD.bindsN F (ps := ["m", "n"]) fun _ _ _ _ _ _ us hl => match us, hl with | [_, _], _ => rfl)
theorem sc_add : FnScope N_add ["m", "n"] (defScope s_add) := ⟨rfl, rfl, rfl, by decide +kernel, rfl, by decide +kernel, by decide +kernel⟩
theorem fk_add {P : Program} {w : World} {K : PySem.W.Frag} {mg : Str → Option Value} {base : Heap} (T : Tx w K mg) {fd : FuncData}
    (F : FunD K "add" "add" (defArgs s_add) (defBody s_add) (defScope s_add) [] [] (He.ga K "add") fd) :
    FnOk P w K mg base (MV.CX P w) 1 (He.ga K "add") fd ["m", "n"] (spM K 2 w_add) :=
  fn_ok F sc_add fun cdv A outer s H E hr tk po =>
    (qss_one (qs_ret (qe_tup (qa_cons (qe_op DW.op_plus sim_add (qe_ix (ix_any (units1 hr)) sim_ix (qv 0) qe_int (fun _ _ => rfl)) (qe_ix (ix_any (units1 hr)) sim_ix (qv 1) qe_int (fun _ _ => rfl))) (qa_cons (qe_op DW.op_plus sim_add (qe_ix (ix_any (units1 hr)) sim_ix (qv 0) qe_int (fun _ _ => rfl)) (qe_ix (ix_any (units1 hr)) sim_ix (qv 1) qe_int (fun _ _ => rfl))) qa_nil)))))
theorem ok_add_0 {P : Program} {w : World} {K : PySem.W.Frag} {mg : Str → Option Value} {base : Heap} (T : Tx w K mg) :
    Fn P w K mg base 1 (He.ga K "add") ["m", "n"] w_add 2 [] (fun ds _ => ds) := by
  obtain ⟨fd, F⟩ := T.d_add
  refine ⟨⟨fd, fk_add T F, ?_⟩, F.kp⟩
  exact dbn_all (FunD.bindsN F (ps := ["m", "n"]) fun _ _ _ _ _ _ us hl => match us, hl with | [_, _], _ => rfl)
theorem sc_summed : FnScope N_summed ["four", "other"] (defScope s_summed) := ⟨rfl, rfl, rfl, by decide +kernel, rfl, by decide +kernel, by decide +kernel⟩
theorem fk_summed {P : Program} {w : World} {K : PySem.W.Frag} {mg : Str → Option Value} {base : Heap} (T : Tx w K mg) {fd : FuncData}
    (F : FunD K "summed" "summed" (defArgs s_summed) (defBody s_summed) (defScope s_summed) [] [] (He.ga K "summed") fd) :
    FnOk P w K mg base (MV.CX P w) 1 (He.ga K "summed") fd ["four", "other"] (spM K 2 w_summed) :=
  fn_ok F sc_summed fun cdv A outer s H E hr tk po =>
    (qss_one (qs_ret (qe_tup (qa_cons (qe_op DW.op_plus sim_add (qe_ix (ix_any (units1 hr)) sim_ix (qv 0) qe_int (fun _ _ => rfl)) (qe_ix (ix_any (units1 hr)) sim_ix (qv 1) qe_int (fun _ _ => rfl))) (qa_cons (qe_op DW.op_plus sim_add (qe_ix (ix_any (units1 hr)) sim_ix (qv 0) qe_int (fun _ _ => rfl)) (qe_ix (ix_any (units1 hr)) sim_ix (qv 1) qe_int (fun _ _ => rfl))) (qa_cons (qe_op DW.op_plus sim_add (qe_ix (ix_any (units1 hr)) sim_ix (qv 0) qe_int (fun _ _ => rfl)) (qe_ix (ix_any (units1 hr)) sim_ix (qv 1) qe_int (fun _ _ => rfl))) (qa_cons (qe_op DW.op_plus sim_add (qe_ix (ix_any (units1 hr)) sim_ix (qv 0) qe_int (fun _ _ => rfl)) (qe_ix (ix_any (units1 hr)) sim_ix (qv 1) qe_int (fun _ _ => rfl))) qa_nil)))))))
theorem ok_summed_0 {P : Program} {w : World} {K : PySem.W.Frag} {mg : Str → Option Value} {base : Heap} (T : Tx w K mg) :
    Fn P w K mg base 1 (He.ga K "summed") ["four", "other"] w_summed 2 [] (fun ds _ => ds) := by
  obtain ⟨fd, F⟩ := T.d_summed
  refine ⟨⟨fd, fk_summed T F, ?_⟩, F.kp⟩
  exact dbn_all (FunD.bindsN F (ps := ["four", "other"]) fun _ _ _ _ _ _ us hl => match us, hl with | [_, _], _ => rfl)
theorem sc_product : FnScope N_product ["m", "n"] (defScope s_product) := ⟨rfl, rfl, rfl, by decide +kernel, rfl, by decide +kernel, by decide +kernel⟩
theorem fk_product {P : Program} {w : World} {K : PySem.W.Frag} {mg : Str → Option Value} {base : Heap} (T : Tx w K mg) {fd : FuncData}
    (F : FunD K "product" "product" (defArgs s_product) (defBody s_product) (defScope s_product) [] [] (He.ga K "product") fd) :
    FnOk P w K mg base (MV.CX P w) 1 (He.ga K "product") fd ["m", "n"] (spM K 2 w_product) :=
  fn_ok F sc_product fun cdv A outer s H E hr tk po =>
    (qss_one (qs_ret (qe_tup (qa_cons (qe_op op_mulA sim_mul (qe_ix (ix_any (units1 hr)) sim_ix (qv 0) qe_int (fun _ _ => rfl)) (qe_ix (ix_any (units1 hr)) sim_ix (qv 1) qe_int (fun _ _ => rfl))) (qa_cons (qe_op op_mulA sim_mul (qe_ix (ix_any (units1 hr)) sim_ix (qv 0) qe_int (fun _ _ => rfl)) (qe_ix (ix_any (units1 hr)) sim_ix (qv 1) qe_int (fun _ _ => rfl))) (qa_cons (qe_op op_mulA sim_mul (qe_ix (ix_any (units1 hr)) sim_ix (qv 0) qe_int (fun _ _ => rfl)) (qe_ix (ix_any (units1 hr)) sim_ix (qv 1) qe_int (fun _ _ => rfl))) (qa_cons (qe_op op_mulA sim_mul (qe_ix (ix_any (units1 hr)) sim_ix (qv 0) qe_int (fun _ _ => rfl)) (qe_ix (ix_any (units1 hr)) sim_ix (qv 1) qe_int (fun _ _ => rfl))) qa_nil)))))))
theorem ok_product_0 {P : Program} {w : World} {K : PySem.W.Frag} {mg : Str → Option Value} {base : Heap} (T : Tx w K mg) :
    Fn P w K mg base 1 (He.ga K "product") ["m", "n"] w_product 2 [] (fun ds _ => ds) := by
  obtain ⟨fd, F⟩ := T.d_product
  refine ⟨⟨fd, fk_product T F, ?_⟩, F.kp⟩
  exact dbn_all (FunD.bindsN F (ps := ["m", "n"]) fun _ _ _ _ _ _ us hl => match us, hl with | [_, _], _ => rfl)
theorem sc_sunk : FnScope N_sunk ["wants", "rows"] (defScope s_sunk) := ⟨rfl, rfl, rfl, by decide +kernel, rfl, by decide +kernel, by decide +kernel⟩
theorem fk_sunk {P : Program} {w : World} {K : PySem.W.Frag} {mg : Str → Option Value} {base : Heap} (T : Tx w K mg)
    (G_add_0 : Fn P w K mg base 1 (He.ga K "add") ["m", "n"] w_add 2 [] (fun ds _ => ds))
    (G_product_0 : Fn P w K mg base 1 (He.ga K "product") ["m", "n"] w_product 2 [] (fun ds _ => ds))
    (G_summed_0 : Fn P w K mg base 1 (He.ga K "summed") ["four", "other"] w_summed 2 [] (fun ds _ => ds))
    (G_take_0 : Fn P w K mg base 1 (He.ga K "take") ["m", "n"] w_take 2 [] (fun ds _ => ds)) {fd : FuncData}
    (F : FunD K "sunk" "sunk" (defArgs s_sunk) (defBody s_sunk) (defScope s_sunk) [] [] (He.ga K "sunk") fd) :
    FnOk P w K mg base (MV.CX P w) 2 (He.ga K "sunk") fd ["wants", "rows"] (spM K 2 w_sunk) :=
  fn_ok F sc_sunk fun cdv A outer s H E hr tk po =>
    (qss_cons (qs_set (i := 2) sc_sunk.nd rfl (Or.inl rfl) (qe_callTy (call_listA rfl) sim_list (by rfl) T.m_list (by decide +kernel) (qa_cons (qv 0) qa_nil)))
      (qss_cons (qs_set (i := 3) sc_sunk.nd rfl (Or.inl rfl) (qe_tup (qa_cons qe_int (qa_cons qe_int (qa_cons qe_int (qa_cons qe_int qa_nil))))))
      (qss_cons (qs_set (i := 4) sc_sunk.nd rfl (Or.inl rfl) (qe_lst qa_nil))
      (qss_cons (qs_for po rfl (qi_seq (qv 1)) (qg_tup rfl (qgs_cons (qg_name (i := 5) sc_sunk.nd rfl (by first | exact Or.inl rfl | exact Or.inr rfl)) (qgs_cons (qg_name (i := 6) sc_sunk.nd rfl (by first | exact Or.inl rfl | exact Or.inr rfl)) (qgs_cons (qg_name (i := 7) sc_sunk.nd rfl (by first | exact Or.inl rfl | exact Or.inr rfl)) (qgs_cons (qg_name (i := 8) sc_sunk.nd rfl (by first | exact Or.inl rfl | exact Or.inr rfl)) (qgs_cons (qg_name (i := 9) sc_sunk.nd rfl (by first | exact Or.inl rfl | exact Or.inr rfl)) (qgs_cons (qg_name (i := 10) sc_sunk.nd rfl (by first | exact Or.inl rfl | exact Or.inr rfl)) (qgs_cons (qg_name (i := 11) sc_sunk.nd rfl (by first | exact Or.inl rfl | exact Or.inr rfl)) (qgs_cons (qg_name (i := 12) sc_sunk.nd rfl (by first | exact Or.inl rfl | exact Or.inr rfl)) qgs_nil))))))))) (qss_cons (qs_setIx (units1 hr) (qe_call G_take_0 (hr.mono (by decide)) (by rfl) T.g_take tk (qcwP (qa_cons (qe_ix (ix_any (units1 hr)) sim_ix (qv 2) (qv 9) (fun _ _ => rfl)) (qa_cons (qv 10) qa_nil))) (by exact fun _ _ h _ => h)) (qv 2) (qv 9))
      (qss_cons (qs_setIx (units1 hr) (qe_call G_add_0 (hr.mono (by decide)) (by rfl) T.g_add tk (qcwP (qa_cons (qe_ix (ix_any (units1 hr)) sim_ix (qv 2) (qv 8) (fun _ _ => rfl)) (qa_cons (qv 10) qa_nil))) (by exact fun _ _ h _ => h)) (qv 2) (qv 8))
      (qss_cons (qs_set (i := 3) sc_sunk.nd rfl (Or.inl rfl) (qe_call G_summed_0 (hr.mono (by decide)) (by rfl) T.g_summed tk (qcwP (qa_cons (qv 3) (qa_cons (qe_call G_product_0 (hr.mono (by decide)) (by rfl) T.g_product tk (qcwP (qa_cons (qv 10) (qa_cons (qv 12) qa_nil))) (by exact fun _ _ h _ => h)) qa_nil))) (by exact fun _ _ h _ => h)))
      (qss_one (qs_expr (qe_bm PySem.F.plainAttrs_list PySem.F.slot_list_append PySem.F.type_list_append mt_append sim_append (qv 4) (qa_cons (qe_tup (qa_cons (qv 8) (qa_cons (qv 9) (qa_cons (qv 11) (qa_cons (qv 12) qa_nil))))) qa_nil))))))))
      (qss_one (qs_ret (qe_tup (qa_cons (qv 2) (qa_cons (qv 4) (qa_cons (qv 3) qa_nil))))))))))
theorem ok_sunk_0 {P : Program} {w : World} {K : PySem.W.Frag} {mg : Str → Option Value} {base : Heap} (T : Tx w K mg)
    (G_add_0 : Fn P w K mg base 1 (He.ga K "add") ["m", "n"] w_add 2 [] (fun ds _ => ds))
    (G_product_0 : Fn P w K mg base 1 (He.ga K "product") ["m", "n"] w_product 2 [] (fun ds _ => ds))
    (G_summed_0 : Fn P w K mg base 1 (He.ga K "summed") ["four", "other"] w_summed 2 [] (fun ds _ => ds))
    (G_take_0 : Fn P w K mg base 1 (He.ga K "take") ["m", "n"] w_take 2 [] (fun ds _ => ds)) :
    Fn P w K mg base 2 (He.ga K "sunk") ["wants", "rows"] w_sunk 2 [] (fun ds _ => ds) := by
  obtain ⟨fd, F⟩ := T.d_sunk
  refine ⟨⟨fd, fk_sunk T G_add_0 G_product_0 G_summed_0 G_take_0 F, ?_⟩, F.kp⟩
  exact dbn_all (FunD.bindsN F (ps := ["wants", "rows"]) fun _ _ _ _ _ _ us hl => match us, hl with | [_, _], _ => rfl)
theorem sc_Lowered_UinitU : FnScope N_Lowered_UinitU ["self", "net"] (defScope s_Lowered_UinitU) := ⟨rfl, rfl, rfl, by decide +kernel, rfl, by decide +kernel, by decide +kernel⟩
theorem fk_Lowered_UinitU {P : Program} {w : World} {K : PySem.W.Frag} {mg : Str → Option Value} {base : Heap} (T : Tx w K mg)
    (G_TooGreat_init : FnMU P w K mg base 3 "TooGreat" "__init__" ["self", "number"] (spIn K 1 xs_TooGreat))
    (G_doored_0 : Fn P w K mg base 1 (He.ga K "doored") ["spots", "wants", "rooms", "arcs"] w_doored 4 [] (fun ds _ => ds))
    (G_laid_0 : Fn P w K mg base 1 (He.ga K "laid") ["arcs"] w_laid 1 [] (fun ds _ => ds))
    (G_sunk_0 : Fn P w K mg base 2 (He.ga K "sunk") ["wants", "rows"] w_sunk 2 [] (fun ds _ => ds))
    (G_unrolled_0 : Fn P w K mg base 7 (He.ga K "unrolled") ["net"] w_unrolled 1 [] (fun ds _ => ds)) {fd : FuncData}
    (F : FunD K "__init__" "Lowered.__init__" (defArgs s_Lowered_UinitU) (defBody s_Lowered_UinitU) (defScope s_Lowered_UinitU) [] [] (He.ma K (He.ga K "Lowered") "__init__") fd) :
    FnOk P w K mg base (MV.CX P w) 8 (He.ma K (He.ga K "Lowered") "__init__") fd ["self", "net"] (spM K 2 w_Lowered_UinitU) :=
  fn_ok F sc_Lowered_UinitU fun cdv A outer s H E hr tk po =>
    (qss_cons (qs_asg (qe_call G_unrolled_0 (hr.mono (by decide)) (by rfl) T.g_unrolled tk (qcwP (qa_cons (qv 1) qa_nil)) (by exact fun _ _ h _ => h)) (qg_tup rfl (qgs_cons (qg_name (i := 2) sc_Lowered_UinitU.nd rfl (by first | exact Or.inl rfl | exact Or.inr rfl)) (qgs_cons (qg_name (i := 3) sc_Lowered_UinitU.nd rfl (by first | exact Or.inl rfl | exact Or.inr rfl)) (qgs_cons (qg_name (i := 4) sc_Lowered_UinitU.nd rfl (by first | exact Or.inl rfl | exact Or.inr rfl)) (qgs_cons (qg_name (i := 5) sc_Lowered_UinitU.nd rfl (by first | exact Or.inl rfl | exact Or.inr rfl)) qgs_nil))))))
      (qss_cons (qs_asg (qe_call G_doored_0 (hr.mono (by decide)) (by rfl) T.g_doored tk (qcwP (qa_cons (qv 2) (qa_cons (qv 3) (qa_cons (qv 4) (qa_cons (qv 5) qa_nil))))) (by exact fun _ _ h _ => h)) (qg_tup rfl (qgs_cons (qg_name (i := 6) sc_Lowered_UinitU.nd rfl (by first | exact Or.inl rfl | exact Or.inr rfl)) (qgs_cons (qg_name (i := 3) sc_Lowered_UinitU.nd rfl (by first | exact Or.inl rfl | exact Or.inr rfl)) (qgs_cons (qg_name (i := 5) sc_Lowered_UinitU.nd rfl (by first | exact Or.inl rfl | exact Or.inr rfl)) qgs_nil)))))
      (qss_cons (qs_fld T.cn (by simp [cfl]) (qv 0) (qe_call G_laid_0 (hr.mono (by decide)) (by rfl) T.g_laid tk (qcwP (qa_cons (qv 5) qa_nil)) (by exact fun _ _ h _ => h)))
      (qss_cons (qs_if (qt_cmp op_gt sim_gt (qe_callB call_lenA sim_len (by rfl) T.m_len (by decide +kernel) (qa_cons (qe_fld T.cn (by simp [cfl]) (qv 0)) qa_nil)) (qe_gint (by rfl) T.c_MOST_ARCS) (nomark _)) (qss_one (qs_raise rfl tk T.x_TooGreat G_TooGreat_init (hr.mono (by decide)) (by rfl) (qa_cons (qe_callB call_lenA sim_len (by rfl) T.m_len (by decide +kernel) (qa_cons (qe_fld T.cn (by simp [cfl]) (qv 0)) qa_nil)) qa_nil) (by decide) (by simp [xfl, xs_TooGreat]))) qss_nil)
      (qss_cons (qs_fld T.cn (by simp [cfl]) (qv 0) (qv 6))
      (qss_one (qs_asgF (i := 0) (fns := ["needs", "arcs", "fixed"]) T.cn (by simp [cfl]) (.inl rfl) (qe_call G_sunk_0 (hr.mono (by decide)) (by rfl) T.g_sunk tk (qcwP (qa_cons (qv 3) (qa_cons (qe_fld T.cn (by simp [cfl]) (qv 0)) qa_nil))) (by exact fun _ _ h _ => h)) (qgf_cons 0 (qgf_cons 0 (qgf_cons 0 qgf_nil))))))))))
theorem ok_Lowered_UinitU_0 {P : Program} {w : World} {K : PySem.W.Frag} {mg : Str → Option Value} {base : Heap} (T : Tx w K mg)
    (G_TooGreat_init : FnMU P w K mg base 3 "TooGreat" "__init__" ["self", "number"] (spIn K 1 xs_TooGreat))
    (G_doored_0 : Fn P w K mg base 1 (He.ga K "doored") ["spots", "wants", "rooms", "arcs"] w_doored 4 [] (fun ds _ => ds))
    (G_laid_0 : Fn P w K mg base 1 (He.ga K "laid") ["arcs"] w_laid 1 [] (fun ds _ => ds))
    (G_sunk_0 : Fn P w K mg base 2 (He.ga K "sunk") ["wants", "rows"] w_sunk 2 [] (fun ds _ => ds))
    (G_unrolled_0 : Fn P w K mg base 7 (He.ga K "unrolled") ["net"] w_unrolled 1 [] (fun ds _ => ds)) :
    Fn P w K mg base 8 (He.ma K (He.ga K "Lowered") "__init__") ["self", "net"] w_Lowered_UinitU 2 [] (fun ds _ => ds) := by
  obtain ⟨fd, F⟩ := T.d_Lowered_UinitU
  refine ⟨⟨fd, fk_Lowered_UinitU T G_TooGreat_init G_doored_0 G_laid_0 G_sunk_0 G_unrolled_0 F, ?_⟩, F.kp⟩
  exact dbn_all (FunD.bindsN F (ps := ["self", "net"]) fun _ _ _ _ _ _ us hl => match us, hl with | [_, _], _ => rfl)
theorem sc_reach : FnScope N_reach ["net"] (defScope s_reach) := ⟨rfl, rfl, rfl, by decide +kernel, rfl, by decide +kernel, by decide +kernel⟩
theorem fk_reach {P : Program} {w : World} {K : PySem.W.Frag} {mg : Str → Option Value} {base : Heap} (T : Tx w K mg)
    (G_Lowered_UinitU_0 : Fn P w K mg base 8 (He.ma K (He.ga K "Lowered") "__init__") ["self", "net"] w_Lowered_UinitU 2 [] (fun ds _ => ds)) {fd : FuncData}
    (F : FunD K "reach" "reach" (defArgs s_reach) (defBody s_reach) (defScope s_reach) [] [] (He.ga K "reach_atlas") fd) :
    FnOk P w K mg base (MV.CX P w) 10 (He.ga K "reach_atlas") fd ["net"] (spM K 1 w_reach) :=
  fn_ok F sc_reach fun cdv A outer s H E hr tk po =>
    (qss_cons (qs_set (i := 1) sc_reach.nd rfl (Or.inr rfl) (qe_make T.mk_Lowered G_Lowered_UinitU_0 (hr.mono (by decide)) (by rfl) T.g_Lowered tk (qcwP (qa_cons (qv 0) qa_nil)) (by exact fun _ _ h _ => h)))
      qss_never)
theorem ok_reach_0 {P : Program} {w : World} {K : PySem.W.Frag} {mg : Str → Option Value} {base : Heap} (T : Tx w K mg)
    (G_Lowered_UinitU_0 : Fn P w K mg base 8 (He.ma K (He.ga K "Lowered") "__init__") ["self", "net"] w_Lowered_UinitU 2 [] (fun ds _ => ds)) :
    Fn P w K mg base 10 (He.ga K "reach_atlas") ["net"] w_reach 1 [] (fun ds _ => ds) := by
  obtain ⟨fd, F⟩ := T.d_reach
  refine ⟨⟨fd, fk_reach T G_Lowered_UinitU_0 F, ?_⟩, F.kp⟩
  exact dbn_all (FunD.bindsN F (ps := ["net"]) fun _ _ _ _ _ _ us hl => match us, hl with | [_], _ => rfl)
theorem sc_bottom : FnScope N_bottom ["net"] (defScope s_bottom) := ⟨rfl, rfl, rfl, by decide +kernel, rfl, by decide +kernel, by decide +kernel⟩
theorem fk_bottom {P : Program} {w : World} {K : PySem.W.Frag} {mg : Str → Option Value} {base : Heap} (T : Tx w K mg)
    (G_Lowered_UinitU_0 : Fn P w K mg base 8 (He.ma K (He.ga K "Lowered") "__init__") ["self", "net"] w_Lowered_UinitU 2 [] (fun ds _ => ds)) {fd : FuncData}
    (F : FunD K "bottom" "bottom" (defArgs s_bottom) (defBody s_bottom) (defScope s_bottom) [] [] (He.ga K "bottom_atlas") fd) :
    FnOk P w K mg base (MV.CX P w) 10 (He.ga K "bottom_atlas") fd ["net"] (spM K 1 w_bottom) :=
  fn_ok F sc_bottom fun cdv A outer s H E hr tk po =>
    (qss_cons (qs_set (i := 1) sc_bottom.nd rfl (Or.inr rfl) (qe_make T.mk_Lowered G_Lowered_UinitU_0 (hr.mono (by decide)) (by rfl) T.g_Lowered tk (qcwP (qa_cons (qv 0) qa_nil)) (by exact fun _ _ h _ => h)))
      qss_never)
theorem ok_bottom_0 {P : Program} {w : World} {K : PySem.W.Frag} {mg : Str → Option Value} {base : Heap} (T : Tx w K mg)
    (G_Lowered_UinitU_0 : Fn P w K mg base 8 (He.ma K (He.ga K "Lowered") "__init__") ["self", "net"] w_Lowered_UinitU 2 [] (fun ds _ => ds)) :
    Fn P w K mg base 10 (He.ga K "bottom_atlas") ["net"] w_bottom 1 [] (fun ds _ => ds) := by
  obtain ⟨fd, F⟩ := T.d_bottom
  refine ⟨⟨fd, fk_bottom T G_Lowered_UinitU_0 F, ?_⟩, F.kp⟩
  exact dbn_all (FunD.bindsN F (ps := ["net"]) fun _ _ _ _ _ _ us hl => match us, hl with | [_], _ => rfl)
theorem sc_Atlas_UinitU : FnScope N_Atlas_UinitU ["self", "net"] (defScope s_Atlas_UinitU) := ⟨rfl, rfl, rfl, by decide +kernel, rfl, by decide +kernel, by decide +kernel⟩
theorem fk_Atlas_UinitU {P : Program} {w : World} {K : PySem.W.Frag} {mg : Str → Option Value} {base : Heap} (T : Tx w K mg)
    (G_Lowered_UinitU_0 : Fn P w K mg base 8 (He.ma K (He.ga K "Lowered") "__init__") ["self", "net"] w_Lowered_UinitU 2 [] (fun ds _ => ds)) {fd : FuncData}
    (F : FunD K "__init__" "Atlas.__init__" (defArgs s_Atlas_UinitU) (defBody s_Atlas_UinitU) (defScope s_Atlas_UinitU) [] [] (He.ma K (He.ga K "Atlas") "__init__") fd) :
    FnOk P w K mg base (MV.CX P w) 10 (He.ma K (He.ga K "Atlas") "__init__") fd ["self", "net"] (spM K 2 w_Atlas_UinitU) :=
  fn_ok F sc_Atlas_UinitU fun cdv A outer s H E hr tk po =>
    (qss_cons (qs_set (i := 2) sc_Atlas_UinitU.nd rfl (Or.inl rfl) (qe_make T.mk_Lowered G_Lowered_UinitU_0 (hr.mono (by decide)) (by rfl) T.g_Lowered tk (qcwP (qa_cons (qv 1) qa_nil)) (by exact fun _ _ h _ => h)))
      qss_never)
theorem ok_Atlas_UinitU_0 {P : Program} {w : World} {K : PySem.W.Frag} {mg : Str → Option Value} {base : Heap} (T : Tx w K mg)
    (G_Lowered_UinitU_0 : Fn P w K mg base 8 (He.ma K (He.ga K "Lowered") "__init__") ["self", "net"] w_Lowered_UinitU 2 [] (fun ds _ => ds)) :
    Fn P w K mg base 10 (He.ma K (He.ga K "Atlas") "__init__") ["self", "net"] w_Atlas_UinitU 2 [] (fun ds _ => ds) := by
  obtain ⟨fd, F⟩ := T.d_Atlas_UinitU
  refine ⟨⟨fd, fk_Atlas_UinitU T G_Lowered_UinitU_0 F, ?_⟩, F.kp⟩
  exact dbn_all (FunD.bindsN F (ps := ["self", "net"]) fun _ _ _ _ _ _ us hl => match us, hl with | [_, _], _ => rfl)
theorem sc_Ltried : FnScope N_Ltried ["_law_net"] (defScope s_Ltried) := ⟨rfl, rfl, rfl, by decide +kernel, rfl, by decide +kernel, by decide +kernel⟩
theorem fk_Ltried {P : Program} {w : World} {K : PySem.W.Frag} {mg : Str → Option Value} {base : Heap} (T : Tx w K mg)
    (G_Atlas_UinitU_0 : Fn P w K mg base 10 (He.ma K (He.ga K "Atlas") "__init__") ["self", "net"] w_Atlas_UinitU 2 [] (fun ds _ => ds))
    (G_Lowered_UinitU_0 : Fn P w K mg base 8 (He.ma K (He.ga K "Lowered") "__init__") ["self", "net"] w_Lowered_UinitU 2 [] (fun ds _ => ds))
    (G_bottom_0 : Fn P w K mg base 10 (He.ga K "bottom_atlas") ["net"] w_bottom 1 [] (fun ds _ => ds))
    (G_reach_0 : Fn P w K mg base 10 (He.ga K "reach_atlas") ["net"] w_reach 1 [] (fun ds _ => ds)) {fd : FuncData}
    (F : FunD K "_law_tried" "_law_tried" (defArgs s_Ltried) (defBody s_Ltried) (defScope s_Ltried) [] [] (He.ga K "_law_tried") fd) :
    FnOk P w K mg base (MV.CX P w) 12 (He.ga K "_law_tried") fd ["_law_net"] (spM K 1 w_Ltried) :=
  fn_ok F sc_Ltried fun cdv A outer s H E hr tk po =>
    (qss_cons (qs_set (i := 1) sc_Ltried.nd rfl (Or.inl rfl) (qe_lst qa_nil))
      (qss_cons (qs_for po rfl (qi_range1 (by rfl) T.m_range (qa_cons qe_int qa_nil)) (qg_name (i := 2) sc_Ltried.nd rfl (by first | exact Or.inl rfl | exact Or.inr rfl)) (qss_one (qs_try rfl rfl rfl T.xc tk (fun W pn xe tk po => (qss_cons (qs_if (qt_cmp (DW.op_eqq hr.units) sim_eq (qv 2) qe_int (nomark _)) (qss_one (qs_expr (qe_make T.mk_Lowered G_Lowered_UinitU_0 (hr.mono (by decide)) (by rfl) T.g_Lowered tk (qcwP (qa_cons (qv 0) qa_nil)) (by exact fun _ _ h _ => h)))) qss_nil)
      (qss_cons (qs_if (qt_cmp (DW.op_eqq hr.units) sim_eq (qv 2) qe_int (nomark _)) (qss_one (qs_expr (qe_call G_reach_0 (hr.mono (by decide)) (by rfl) T.g_reach_atlas tk (qcwP (qa_cons (qv 0) qa_nil)) (by exact fun _ _ h _ => h)))) qss_nil)
      (qss_cons (qs_if (qt_cmp (DW.op_eqq hr.units) sim_eq (qv 2) qe_int (nomark _)) (qss_one (qs_expr (qe_call G_bottom_0 (hr.mono (by decide)) (by rfl) T.g_bottom_atlas tk (qcwP (qa_cons (qv 0) qa_nil)) (by exact fun _ _ h _ => h)))) qss_nil)
      (qss_one (qs_if (qt_cmp (DW.op_eqq hr.units) sim_eq (qv 2) qe_int (nomark _)) (qss_one (qs_expr (qe_make T.mk_Atlas G_Atlas_UinitU_0 (hr.mono (by decide)) (by rfl) T.g_Atlas tk (qcwP (qa_cons (qv 0) qa_nil)) (by exact fun _ _ h _ => h)))) qss_nil)))))) (.as_ (i := 3) (ty_one ⟨rfl, by decide, Or.inl T.x_TooGreat.g⟩) sc_Ltried.nd rfl rfl (fun a oe cls d pn xe dd c hz hf hot tk e1 e2 hx => (qss_one (qs_expr (qe_bm PySem.F.plainAttrs_list PySem.F.slot_list_append PySem.F.type_list_append mt_append sim_append (qv 1) (qa_cons (qe_tup (qa_cons (qe_xf (i := 3) hz hf e1 e2 hx (by simp [xfl]) rfl (by first | exact Or.inl rfl | exact Or.inr (Or.inl rfl))) (qa_cons (qe_xf (i := 3) hz hf e1 e2 hx (by simp [xfl]) rfl (by first | exact Or.inl rfl | exact Or.inr (Or.inl rfl))) qa_nil))) qa_nil))))) .nil))))
      (qss_one (qs_ret (qv 1)))))
theorem ok_Ltried_0 {P : Program} {w : World} {K : PySem.W.Frag} {mg : Str → Option Value} {base : Heap} (T : Tx w K mg)
    (G_Atlas_UinitU_0 : Fn P w K mg base 10 (He.ma K (He.ga K "Atlas") "__init__") ["self", "net"] w_Atlas_UinitU 2 [] (fun ds _ => ds))
    (G_Lowered_UinitU_0 : Fn P w K mg base 8 (He.ma K (He.ga K "Lowered") "__init__") ["self", "net"] w_Lowered_UinitU 2 [] (fun ds _ => ds))
    (G_bottom_0 : Fn P w K mg base 10 (He.ga K "bottom_atlas") ["net"] w_bottom 1 [] (fun ds _ => ds))
    (G_reach_0 : Fn P w K mg base 10 (He.ga K "reach_atlas") ["net"] w_reach 1 [] (fun ds _ => ds)) :
    Fn P w K mg base 12 (He.ga K "_law_tried") ["_law_net"] w_Ltried 1 [] (fun ds _ => ds) := by
  obtain ⟨fd, F⟩ := T.d_Ltried
  refine ⟨⟨fd, fk_Ltried T G_Atlas_UinitU_0 G_Lowered_UinitU_0 G_bottom_0 G_reach_0 F, ?_⟩, F.kp⟩
  exact dbn_all (FunD.bindsN F (ps := ["_law_net"]) fun _ _ _ _ _ _ us hl => match us, hl with | [_], _ => rfl)
theorem sc_law : FnScope N_law ["_law_script"] (defScope s_law) := ⟨rfl, rfl, rfl, by decide +kernel, rfl, by decide +kernel, by decide +kernel⟩
theorem fk_law {P : Program} {w : World} {K : PySem.W.Frag} {mg : Str → Option Value} {base : Heap} (T : Tx w K mg)
    (G_Lowered_UinitU_0 : Fn P w K mg base 8 (He.ma K (He.ga K "Lowered") "__init__") ["self", "net"] w_Lowered_UinitU 2 [] (fun ds _ => ds))
    (G_Net_UinitU_0 : Fn P w K mg base 7 (He.ma K (He.ga K "Net") "__init__") ["self", "hours", "s_box", "t_box"] w_Net_UinitU 1 [] (fun ds es => [ds.getD 0 .non, (.int 1), (.tup [(.int 0), (.int 0)]), (.tup [(.int 0), (.int 0)])]))
    (G_Net_place_0 : Fn P w K mg base 7 (He.ma K (He.ga K "Net") "place") ["self", "name"] w_Net_place 2 [] (fun ds _ => ds))
    (G_Net_road_0 : Fn P w K mg base 9 (He.ma K (He.ga K "Net") "road") ["self", "name", "start", "end", "takes", "floor", "rungs"] w_Net_road 4 ["rungs"] (fun ds es => [ds.getD 0 .non, ds.getD 1 .non, ds.getD 2 .non, ds.getD 3 .non, (.int 0), (.tup [(.int 0), (.int 0)]), es.getD 0 .non]))
    (G_Net_through_0 : Fn P w K mg base 7 (He.ma K (He.ga K "Net") "through") ["self", "place", "room"] w_Net_through 3 [] (fun ds _ => ds))
    (G_Ldraw_0 : Fn P w K mg base 1 (He.ga K "_law_draw") ["_law_feed_here", "_law_many"] w_Ldraw 2 [] (fun ds _ => ds))
    (G_Lfeed_0 : Fn P w K mg base 1 (He.ga K "_law_feed") ["_law_script"] w_Lfeed 1 [] (fun ds _ => ds))
    (G_Lnames_0 : Fn P w K mg base 2 (He.ga K "_law_names") ["_law_feed_here", "_law_many"] w_Lnames 2 [] (fun ds _ => ds))
    (G_Ltried_0 : Fn P w K mg base 12 (He.ga K "_law_tried") ["_law_net"] w_Ltried 1 [] (fun ds _ => ds)) {fd : FuncData}
    (F : FunD K "law" "law" (defArgs s_law) (defBody s_law) (defScope s_law) [] [] (He.ga K "law") fd) :
    FnOk P w K mg base (MV.CX P w) 13 (He.ga K "law") fd ["_law_script"] (spM K 1 w_law) :=
  fn_ok F sc_law fun cdv A outer s H E hr tk po =>
    (qss_cons (qs_set (i := 1) sc_law.nd rfl (Or.inl rfl) (qe_call G_Lfeed_0 (hr.mono (by decide)) (by rfl) T.g_Lfeed tk (qcwP (qa_cons (qv 0) qa_nil)) (by exact fun _ _ h _ => h)))
      (qss_cons (qs_set (i := 2) sc_law.nd rfl (Or.inl rfl) (qe_make T.mk_Net G_Net_UinitU_0 (hr.mono (by decide)) (by rfl) T.g_Net tk qcw0 (by exact fun _ _ _ _ => rfl)))
      (qss_cons (qs_set (i := 3) sc_law.nd rfl (Or.inl rfl) (qe_call G_Lnames_0 (hr.mono (by decide)) (by rfl) T.g_Lnames tk (qcwP (qa_cons (qv 1) (qa_cons qe_int qa_nil))) (by exact fun _ _ h _ => h)))
      (qss_cons (qs_set (i := 4) sc_law.nd rfl (Or.inl rfl) (qe_op DW.op_plus sim_add qe_int (qe_call G_Ldraw_0 (hr.mono (by decide)) (by rfl) T.g_Ldraw tk (qcwP (qa_cons (qv 1) (qa_cons qe_int qa_nil))) (by exact fun _ _ h _ => h))))
      (qss_cons (qs_for po rfl (qi_seq (qe_slice (qv 3) qo_none (qo_some (qv 4)))) (qg_name (i := 5) sc_law.nd rfl (by first | exact Or.inl rfl | exact Or.inr rfl)) (qss_one (qs_expr (qe_meth (qv 2) T.cl_Net T.me_Net_place G_Net_place_0 (hr.mono (by decide)) tk (qcwP (qa_cons (qv 5) qa_nil)) (by exact fun _ _ h _ => h)))))
      (qss_cons (qs_set (i := 6) sc_law.nd rfl (Or.inr rfl) qe_int)
      (qss_cons (qs_set (i := 7) sc_law.nd rfl (Or.inl rfl) (qe_call G_Ldraw_0 (hr.mono (by decide)) (by rfl) T.g_Ldraw tk (qcwP (qa_cons (qv 1) (qa_cons qe_int qa_nil))) (by exact fun _ _ h _ => h)))
      (qss_cons (qs_for po rfl (qi_range1 (by rfl) T.m_range (qa_cons qe_int qa_nil)) (qg_name (i := 8) sc_law.nd rfl (by first | exact Or.inl rfl | exact Or.inr rfl)) (qss_cons (qs_setLc (i := 9) (own := [("_law_j", 11)]) (T := (.nm 11)) (tt := mYes) (me := (mCB oTup (mCons (mCB oTup (mCons (mOp oAdd (mVar 8) (mVar 11)) (mCons (mC (.int 0)) mNil))) (mCons (mCB oTup (mCons (mVar 11) (mCons (mC (.int 0)) mNil))) mNil)))) rfl sc_law.nd rfl rfl (sw_true rfl rfl rfl (by decide +kernel)) (qi_range1 (by rfl) T.m_range (qa_cons qe_int qa_nil)) (blkOk_by (N := N_law) (sc := defScope s_law) (by decide +kernel)) (fun _ _ _ _ _ => (qg_name (i := 11) sc_law.nd rfl (by first | exact Or.inl rfl | exact Or.inr rfl))) (fun _ _ _ _ _ => qts_nil) (fun _ _ _ _ _ => (qe_tup (qa_cons (qe_tup (qa_cons (qe_op DW.op_plus sim_add (qv 8) (qv 11)) (qa_cons qe_int qa_nil))) (qa_cons (qe_tup (qa_cons (qv 11) (qa_cons qe_int qa_nil))) qa_nil)))) (by decide))
      (qss_cons (qs_if (qt_cmp (DW.op_eqq hr.units) sim_eq (qv 8) (qv 7) (nomark _)) (qss_cons (qs_expr (qe_bm0 PySem.F.plainAttrs_list PySem.F.slot_list_pop PySem.F.type_list_pop mt_pop sim_pop (qv 9)))
      (qss_one (qs_set (i := 6) sc_law.nd rfl (Or.inr rfl) (qe_op op_sub sim_sub (qv 6) qe_int)))) qss_nil)
      (qss_cons (qs_set (i := 10) sc_law.nd rfl (Or.inl rfl) (qe_tup (qa_cons (qe_ix (ix_any (units1 hr)) sim_ix (qv 3) (qe_call G_Ldraw_0 (hr.mono (by decide)) (by rfl) T.g_Ldraw tk (qcwP (qa_cons (qv 1) (qa_cons (qv 4) qa_nil))) (by exact fun _ _ h _ => h)) (fun _ _ => rfl)) (qa_cons (qe_ix (ix_any (units1 hr)) sim_ix (qv 3) (qe_call G_Ldraw_0 (hr.mono (by decide)) (by rfl) T.g_Ldraw tk (qcwP (qa_cons (qv 1) (qa_cons (qv 4) qa_nil))) (by exact fun _ _ h _ => h)) (fun _ _ => rfl)) qa_nil))))
      (qss_one (qs_expr (qe_meth (qv 2) T.cl_Net T.me_Net_road G_Net_road_0 (hr.mono (by decide)) tk (qcwPK (by exact (qa_cons (qe_ix (ix_any (units1 hr)) sim_ix (qv 3) (qe_op DW.op_plus sim_add (qv 4) (qv 8)) (fun _ _ => rfl)) (qa_cons (qe_ix (ix_any (units1 hr)) sim_ix (qv 10) qe_int (fun _ _ => rfl)) (qa_cons (qe_ix (ix_any (units1 hr)) sim_ix (qv 10) qe_int (fun _ _ => rfl)) qa_nil)))) (by exact (qk_cons (qe_callTy call_tuple_of sim_tuple (by rfl) T.m_tuple (by decide +kernel) (qa_cons (qv 9) qa_nil)) qk_nil))) (by exact fun _ _ _ _ => rfl))))))))
      (qss_cons (qs_for po rfl (qi_seq (qe_slice (qv 3) qo_none (qo_some (qe_call G_Ldraw_0 (hr.mono (by decide)) (by rfl) T.g_Ldraw tk (qcwP (qa_cons (qv 1) (qa_cons (qe_op DW.op_plus sim_add (qv 4) qe_int) qa_nil))) (by exact fun _ _ h _ => h))))) (qg_name (i := 5) sc_law.nd rfl (by first | exact Or.inl rfl | exact Or.inr rfl)) (qss_cons (qs_expr (qe_meth (qv 2) T.cl_Net T.me_Net_through G_Net_through_0 (hr.mono (by decide)) tk (qcwP (qa_cons (qv 5) (qa_cons (qe_tup (qa_cons (qe_call G_Ldraw_0 (hr.mono (by decide)) (by rfl) T.g_Ldraw tk (qcwP (qa_cons (qv 1) (qa_cons qe_int qa_nil))) (by exact fun _ _ h _ => h)) (qa_cons qe_int qa_nil))) qa_nil))) (by exact fun _ _ h _ => h)))
      (qss_one (qs_set (i := 6) sc_law.nd rfl (Or.inr rfl) (qe_op DW.op_plus sim_add (qv 6) qe_int)))))
      (qss_cons (qs_if (qt_cmp op_gt sim_gt (qv 6) qe_int (nomark _)) (qss_one (qs_ret (qe_cmp (DW.op_eqq hr.units) sim_eq (qe_call G_Ltried_0 (hr.mono (by decide)) (by rfl) T.g_Ltried tk (qcwP (qa_cons (qv 2) qa_nil)) (by exact fun _ _ h _ => h)) (qe_lc (own := [("_law_way", 12)]) (T := (.nm 12)) (tt := mYes) (me := (mCB oTup (mCons (mC (.str "too great")) (mCons (mVar 6) mNil)))) rfl sc_law.nd (qi_range1 (by rfl) T.m_range (qa_cons qe_int qa_nil)) (blkOk_by (N := N_law) (sc := defScope s_law) (by decide +kernel)) (fun _ _ _ _ _ => (qg_name (i := 12) sc_law.nd rfl (by first | exact Or.inl rfl | exact Or.inr rfl))) (fun _ _ _ _ _ => qts_nil) (fun _ _ _ _ _ => (qe_tup (qa_cons qe_str (qa_cons (qv 6) qa_nil)))) (by decide)) (nomark _)))) qss_nil)
      (qss_one (qs_ret (qe_cmp (DW.op_eqq hr.units) sim_eq (qe_callB call_lenA sim_len (by rfl) T.m_len (by decide +kernel) (qa_cons (qe_fld T.cn (by simp [cfl]) (qe_make T.mk_Lowered G_Lowered_UinitU_0 (hr.mono (by decide)) (by rfl) T.g_Lowered tk (qcwP (qa_cons (qv 2) qa_nil)) (by exact fun _ _ h _ => h))) qa_nil)) (qv 6) (nomark _))))))))))))))
theorem tx_mk {w : World} {K : PySem.W.Frag} {h : Heap} {mg : Str → Option Value} (X : K.In h) (G : h.Ns mainGlobals mg) (c : SaysF faL fnL tsL (fun K => DW.allT (exL K)) w K) : Tx w K mg where
  g_Lfeed := He.glo_ok X G (c.d.fact 0 (f := .glo "_law_feed") rfl)
  d_Lfeed := c.d.def_ 0 (d := dd_Lfeed) rfl
  g_check_number := He.glo_ok X G (c.d.fact 1 (f := .glo "check_number") rfl)
  d_check_number := c.d.def_ 1 (d := dd_check_number) rfl
  g_check_box := He.glo_ok X G (c.d.fact 2 (f := .glo "check_box") rfl)
  d_check_box := c.d.def_ 2 (d := dd_check_box) rfl
  d_Net_UinitU := c.d.def_ 3 (d := dd_Net_UinitU) rfl
  g_Ldraw := He.glo_ok X G (c.d.fact 3 (f := .glo "_law_draw") rfl)
  d_Ldraw := c.d.def_ 4 (d := dd_Ldraw) rfl
  g_Lnames := He.glo_ok X G (c.d.fact 4 (f := .glo "_law_names") rfl)
  d_Lnames := c.d.def_ 5 (d := dd_Lnames) rfl
  g_check_name := He.glo_ok X G (c.d.fact 5 (f := .glo "check_name") rfl)
  d_check_name := c.d.def_ 6 (d := dd_check_name) rfl
  d_Net_fresh := c.d.def_ 7 (d := dd_Net_fresh) rfl
  d_Net_set_place := c.d.def_ 8 (d := dd_Net_set_place) rfl
  d_Net_place := c.d.def_ 9 (d := dd_Net_place) rfl
  d_Net_known := c.d.def_ 10 (d := dd_Net_known) rfl
  g_check_move := He.glo_ok X G (c.d.fact 6 (f := .glo "check_move") rfl)
  d_check_move := c.d.def_ 11 (d := dd_check_move) rfl
  g_sinks := He.glo_ok X G (c.d.fact 7 (f := .glo "sinks") rfl)
  d_sinks := c.d.def_ 12 (d := dd_sinks) rfl
  g_check_room := He.glo_ok X G (c.d.fact 8 (f := .glo "check_room") rfl)
  d_check_room := c.d.def_ 13 (d := dd_check_room) rfl
  g_check_rising := He.glo_ok X G (c.d.fact 9 (f := .glo "check_rising") rfl)
  d_check_rising := c.d.def_ 14 (d := dd_check_rising) rfl
  g_check_rungs := He.glo_ok X G (c.d.fact 10 (f := .glo "check_rungs") rfl)
  d_check_rungs := c.d.def_ 15 (d := dd_check_rungs) rfl
  d_Net_set_road := c.d.def_ 16 (d := dd_Net_set_road) rfl
  d_Net_road := c.d.def_ 17 (d := dd_Net_road) rfl
  d_Net_through := c.d.def_ 18 (d := dd_Net_through) rfl
  d_Net_place_names := c.d.def_ 19 (d := dd_Net_place_names) rfl
  d_Net_place_told := c.d.def_ 20 (d := dd_Net_place_told) rfl
  d_Net_road_names := c.d.def_ 21 (d := dd_Net_road_names) rfl
  d_Net_road_told := c.d.def_ 22 (d := dd_Net_road_told) rfl
  d_Net_spots := c.d.def_ 23 (d := dd_Net_spots) rfl
  g_unrolled := He.glo_ok X G (c.d.fact 11 (f := .glo "unrolled") rfl)
  d_unrolled := c.d.def_ 24 (d := dd_unrolled) rfl
  g_doored := He.glo_ok X G (c.d.fact 12 (f := .glo "doored") rfl)
  d_doored := c.d.def_ 25 (d := dd_doored) rfl
  g_laid := He.glo_ok X G (c.d.fact 13 (f := .glo "laid") rfl)
  d_laid := c.d.def_ 26 (d := dd_laid) rfl
  g_take := He.glo_ok X G (c.d.fact 14 (f := .glo "take") rfl)
  d_take := c.d.def_ 27 (d := dd_take) rfl
  g_add := He.glo_ok X G (c.d.fact 15 (f := .glo "add") rfl)
  d_add := c.d.def_ 28 (d := dd_add) rfl
  g_summed := He.glo_ok X G (c.d.fact 16 (f := .glo "summed") rfl)
  d_summed := c.d.def_ 29 (d := dd_summed) rfl
  g_product := He.glo_ok X G (c.d.fact 17 (f := .glo "product") rfl)
  d_product := c.d.def_ 30 (d := dd_product) rfl
  g_sunk := He.glo_ok X G (c.d.fact 18 (f := .glo "sunk") rfl)
  d_sunk := c.d.def_ 31 (d := dd_sunk) rfl
  d_Lowered_UinitU := c.d.def_ 32 (d := dd_Lowered_UinitU) rfl
  g_reach_atlas := He.glo_ok X G (c.d.fact 19 (f := .glo "reach_atlas") rfl)
  d_reach := c.d.def_ 33 (d := dd_reach) rfl
  g_bottom_atlas := He.glo_ok X G (c.d.fact 20 (f := .glo "bottom_atlas") rfl)
  d_bottom := c.d.def_ 34 (d := dd_bottom) rfl
  d_Atlas_UinitU := c.d.def_ 35 (d := dd_Atlas_UinitU) rfl
  g_Ltried := He.glo_ok X G (c.d.fact 21 (f := .glo "_law_tried") rfl)
  d_Ltried := c.d.def_ 36 (d := dd_Ltried) rfl
  g_law := He.glo_ok X G (c.d.fact 22 (f := .glo "law") rfl)
  d_law := c.d.def_ 37 (d := dd_law) rfl
  di_WeirError := c.d.def_ 38 (d := ddi_WeirError) rfl
  di_NetError := c.d.def_ 39 (d := ddi_NetError) rfl
  di_BadBox := c.d.def_ 40 (d := ddi_BadBox) rfl
  di_BadHours := c.d.def_ 41 (d := ddi_BadHours) rfl
  di_FormError := c.d.def_ 42 (d := ddi_FormError) rfl
  di_BadName := c.d.def_ 43 (d := ddi_BadName) rfl
  di_BadRungs := c.d.def_ 44 (d := ddi_BadRungs) rfl
  di_BadTakes := c.d.def_ 45 (d := ddi_BadTakes) rfl
  di_Below := c.d.def_ 46 (d := ddi_Below) rfl
  di_Falls := c.d.def_ 47 (d := ddi_Falls) rfl
  di_NoPlace := c.d.def_ 48 (d := ddi_NoPlace) rfl
  di_NoRoad := c.d.def_ 49 (d := ddi_NoRoad) rfl
  di_Taken := c.d.def_ 50 (d := ddi_Taken) rfl
  di_TooFar := c.d.def_ 51 (d := ddi_TooFar) rfl
  di_TooGreat := c.d.def_ 52 (d := ddi_TooGreat) rfl
  di_TooMany := c.d.def_ 53 (d := ddi_TooMany) rfl
  m_dict := He.free_ok X G (c.d.fact 23 (f := .free "dict") rfl)
  m_enumerate := He.free_ok X G (c.d.fact 24 (f := .free "enumerate") rfl)
  m_int := He.free_ok X G (c.d.fact 25 (f := .free "int") rfl)
  m_len := He.free_ok X G (c.d.fact 26 (f := .free "len") rfl)
  m_list := He.free_ok X G (c.d.fact 27 (f := .free "list") rfl)
  m_range := He.free_ok X G (c.d.fact 28 (f := .free "range") rfl)
  m_tuple := He.free_ok X G (c.d.fact 29 (f := .free "tuple") rfl)
  m_zip := He.free_ok X G (c.d.fact 30 (f := .free "zip") rfl)
  m_ValueError := He.free_ok X G (c.d.fact 31 (f := .free "ValueError") rfl)
  c_FIRST := He.str_ok X G (c.d.fact 32 (f := .str "FIRST" "abcdefghijklmnopqrstuvwxyz") rfl)
  c_LATER := He.str_ok X G (c.d.fact 33 (f := .str "LATER" "abcdefghijklmnopqrstuvwxyz0123456789") rfl)
  c_MOST := He.int_ok X G (c.d.fact 34 (f := .int "MOST" 1000000) rfl)
  c_MOST_ARCS := He.int_ok X G (c.d.fact 35 (f := .int "MOST_ARCS" 96) rfl)
  c_MOST_HOURS := He.int_ok X G (c.d.fact 36 (f := .int "MOST_HOURS" 6) rfl)
  c_MOST_PLACES := He.int_ok X G (c.d.fact 37 (f := .int "MOST_PLACES" 12) rfl)
  c_MOST_ROADS := He.int_ok X G (c.d.fact 38 (f := .int "MOST_ROADS" 24) rfl)
  c_MOST_RUNGS := He.int_ok X G (c.d.fact 39 (f := .int "MOST_RUNGS" 4) rfl)
  c_MOST_SIGNS := He.int_ok X G (c.d.fact 40 (f := .int "MOST_SIGNS" 8) rfl)
  c_MOST_TAKES := He.int_ok X G (c.d.fact 41 (f := .int "MOST_TAKES" 9) rfl)
  me_Net_fresh := He.meth_ok (c.d.fact 42 (f := .meth "Net" "fresh") rfl)
  me_Net_known := He.meth_ok (c.d.fact 43 (f := .meth "Net" "known") rfl)
  me_Net_place := He.meth_ok (c.d.fact 44 (f := .meth "Net" "place") rfl)
  me_Net_place_names := He.meth_ok (c.d.fact 45 (f := .meth "Net" "place_names") rfl)
  me_Net_place_told := He.meth_ok (c.d.fact 46 (f := .meth "Net" "place_told") rfl)
  me_Net_road := He.meth_ok (c.d.fact 47 (f := .meth "Net" "road") rfl)
  me_Net_road_names := He.meth_ok (c.d.fact 48 (f := .meth "Net" "road_names") rfl)
  me_Net_road_told := He.meth_ok (c.d.fact 49 (f := .meth "Net" "road_told") rfl)
  me_Net_set_place := He.meth_ok (c.d.fact 50 (f := .meth "Net" "set_place") rfl)
  me_Net_set_road := He.meth_ok (c.d.fact 51 (f := .meth "Net" "set_road") rfl)
  me_Net_spots := He.meth_ok (c.d.fact 52 (f := .meth "Net" "spots") rfl)
  me_Net_through := He.meth_ok (c.d.fact 53 (f := .meth "Net" "through") rfl)
  g_Atlas := He.glo_ok X G (c.d.fact 54 (f := .glo "Atlas") rfl)
  mk_Atlas := He.mkr_ok (c.d.fact 55 (f := .mkr "Atlas") rfl)
  g_Lowered := He.glo_ok X G (c.d.fact 56 (f := .glo "Lowered") rfl)
  mk_Lowered := He.mkr_ok (c.d.fact 57 (f := .mkr "Lowered") rfl)
  g_Net := He.glo_ok X G (c.d.fact 58 (f := .glo "Net") rfl)
  mk_Net := He.mkr_ok (c.d.fact 59 (f := .mkr "Net") rfl)
  cl_Span := He.cls_ok (c.d.fact 60 (f := .cls "Span") rfl)
  cl_Net := He.cls_ok (c.d.fact 61 (f := .cls "Net") rfl)
  cl_Lowered := He.cls_ok (c.d.fact 62 (f := .cls "Lowered") rfl)
  cl_Oblong := He.cls_ok (c.d.fact 63 (f := .cls "Oblong") rfl)
  cl_Atlas := He.cls_ok (c.d.fact 64 (f := .cls "Atlas") rfl)
  cn := ⟨by simp only [ccs, List.forall_mem_cons, List.not_mem_nil, false_implies, implies_true, and_true]; exact ⟨He.cls_ok (c.d.fact 65 (f := .cls "Span") rfl), He.cls_ok (c.d.fact 66 (f := .cls "Net") rfl), He.cls_ok (c.d.fact 67 (f := .cls "Lowered") rfl), He.cls_ok (c.d.fact 68 (f := .cls "Oblong") rfl), He.cls_ok (c.d.fact 69 (f := .cls "Atlas") rfl)⟩, by simp only [ccs, cfl, List.forall_mem_cons, List.not_mem_nil, false_implies, implies_true, and_true]; exact ⟨⟨He.noat_ok (c.d.fact 70 (f := .noat "Span" "low") rfl), He.noat_ok (c.d.fact 71 (f := .noat "Span" "high") rfl), He.noat_ok (c.d.fact 72 (f := .noat "Span" "hours") rfl), He.noat_ok (c.d.fact 73 (f := .noat "Span" "s_box") rfl), He.noat_ok (c.d.fact 74 (f := .noat "Span" "t_box") rfl), He.noat_ok (c.d.fact 75 (f := .noat "Span" "places") rfl), He.noat_ok (c.d.fact 76 (f := .noat "Span" "roads") rfl), He.noat_ok (c.d.fact 77 (f := .noat "Span" "laid_rows") rfl), He.noat_ok (c.d.fact 78 (f := .noat "Span" "nodes") rfl), He.noat_ok (c.d.fact 79 (f := .noat "Span" "needs") rfl), He.noat_ok (c.d.fact 80 (f := .noat "Span" "arcs") rfl), He.noat_ok (c.d.fact 81 (f := .noat "Span" "fixed") rfl), He.noat_ok (c.d.fact 82 (f := .noat "Span" "s_span") rfl), He.noat_ok (c.d.fact 83 (f := .noat "Span" "t_span") rfl), He.noat_ok (c.d.fact 84 (f := .noat "Span" "loads") rfl), He.noat_ok (c.d.fact 85 (f := .noat "Span" "prices") rfl), He.noat_ok (c.d.fact 86 (f := .noat "Span" "four") rfl), He.noat_ok (c.d.fact 87 (f := .noat "Span" "held") rfl), He.noat_ok (c.d.fact 88 (f := .noat "Span" "reach_told") rfl), He.noat_ok (c.d.fact 89 (f := .noat "Span" "bottom_told") rfl), He.noat_ok (c.d.fact 90 (f := .noat "Span" "oblongs") rfl)⟩, ⟨He.noat_ok (c.d.fact 91 (f := .noat "Net" "low") rfl), He.noat_ok (c.d.fact 92 (f := .noat "Net" "high") rfl), He.noat_ok (c.d.fact 93 (f := .noat "Net" "hours") rfl), He.noat_ok (c.d.fact 94 (f := .noat "Net" "s_box") rfl), He.noat_ok (c.d.fact 95 (f := .noat "Net" "t_box") rfl), He.noat_ok (c.d.fact 96 (f := .noat "Net" "places") rfl), He.noat_ok (c.d.fact 97 (f := .noat "Net" "roads") rfl), He.noat_ok (c.d.fact 98 (f := .noat "Net" "laid_rows") rfl), He.noat_ok (c.d.fact 99 (f := .noat "Net" "nodes") rfl), He.noat_ok (c.d.fact 100 (f := .noat "Net" "needs") rfl), He.noat_ok (c.d.fact 101 (f := .noat "Net" "arcs") rfl), He.noat_ok (c.d.fact 102 (f := .noat "Net" "fixed") rfl), He.noat_ok (c.d.fact 103 (f := .noat "Net" "s_span") rfl), He.noat_ok (c.d.fact 104 (f := .noat "Net" "t_span") rfl), He.noat_ok (c.d.fact 105 (f := .noat "Net" "loads") rfl), He.noat_ok (c.d.fact 106 (f := .noat "Net" "prices") rfl), He.noat_ok (c.d.fact 107 (f := .noat "Net" "four") rfl), He.noat_ok (c.d.fact 108 (f := .noat "Net" "held") rfl), He.noat_ok (c.d.fact 109 (f := .noat "Net" "reach_told") rfl), He.noat_ok (c.d.fact 110 (f := .noat "Net" "bottom_told") rfl), He.noat_ok (c.d.fact 111 (f := .noat "Net" "oblongs") rfl)⟩, ⟨He.noat_ok (c.d.fact 112 (f := .noat "Lowered" "low") rfl), He.noat_ok (c.d.fact 113 (f := .noat "Lowered" "high") rfl), He.noat_ok (c.d.fact 114 (f := .noat "Lowered" "hours") rfl), He.noat_ok (c.d.fact 115 (f := .noat "Lowered" "s_box") rfl), He.noat_ok (c.d.fact 116 (f := .noat "Lowered" "t_box") rfl), He.noat_ok (c.d.fact 117 (f := .noat "Lowered" "places") rfl), He.noat_ok (c.d.fact 118 (f := .noat "Lowered" "roads") rfl), He.noat_ok (c.d.fact 119 (f := .noat "Lowered" "laid_rows") rfl), He.noat_ok (c.d.fact 120 (f := .noat "Lowered" "nodes") rfl), He.noat_ok (c.d.fact 121 (f := .noat "Lowered" "needs") rfl), He.noat_ok (c.d.fact 122 (f := .noat "Lowered" "arcs") rfl), He.noat_ok (c.d.fact 123 (f := .noat "Lowered" "fixed") rfl), He.noat_ok (c.d.fact 124 (f := .noat "Lowered" "s_span") rfl), He.noat_ok (c.d.fact 125 (f := .noat "Lowered" "t_span") rfl), He.noat_ok (c.d.fact 126 (f := .noat "Lowered" "loads") rfl), He.noat_ok (c.d.fact 127 (f := .noat "Lowered" "prices") rfl), He.noat_ok (c.d.fact 128 (f := .noat "Lowered" "four") rfl), He.noat_ok (c.d.fact 129 (f := .noat "Lowered" "held") rfl), He.noat_ok (c.d.fact 130 (f := .noat "Lowered" "reach_told") rfl), He.noat_ok (c.d.fact 131 (f := .noat "Lowered" "bottom_told") rfl), He.noat_ok (c.d.fact 132 (f := .noat "Lowered" "oblongs") rfl)⟩, ⟨He.noat_ok (c.d.fact 133 (f := .noat "Oblong" "low") rfl), He.noat_ok (c.d.fact 134 (f := .noat "Oblong" "high") rfl), He.noat_ok (c.d.fact 135 (f := .noat "Oblong" "hours") rfl), He.noat_ok (c.d.fact 136 (f := .noat "Oblong" "s_box") rfl), He.noat_ok (c.d.fact 137 (f := .noat "Oblong" "t_box") rfl), He.noat_ok (c.d.fact 138 (f := .noat "Oblong" "places") rfl), He.noat_ok (c.d.fact 139 (f := .noat "Oblong" "roads") rfl), He.noat_ok (c.d.fact 140 (f := .noat "Oblong" "laid_rows") rfl), He.noat_ok (c.d.fact 141 (f := .noat "Oblong" "nodes") rfl), He.noat_ok (c.d.fact 142 (f := .noat "Oblong" "needs") rfl), He.noat_ok (c.d.fact 143 (f := .noat "Oblong" "arcs") rfl), He.noat_ok (c.d.fact 144 (f := .noat "Oblong" "fixed") rfl), He.noat_ok (c.d.fact 145 (f := .noat "Oblong" "s_span") rfl), He.noat_ok (c.d.fact 146 (f := .noat "Oblong" "t_span") rfl), He.noat_ok (c.d.fact 147 (f := .noat "Oblong" "loads") rfl), He.noat_ok (c.d.fact 148 (f := .noat "Oblong" "prices") rfl), He.noat_ok (c.d.fact 149 (f := .noat "Oblong" "four") rfl), He.noat_ok (c.d.fact 150 (f := .noat "Oblong" "held") rfl), He.noat_ok (c.d.fact 151 (f := .noat "Oblong" "reach_told") rfl), He.noat_ok (c.d.fact 152 (f := .noat "Oblong" "bottom_told") rfl), He.noat_ok (c.d.fact 153 (f := .noat "Oblong" "oblongs") rfl)⟩, ⟨He.noat_ok (c.d.fact 154 (f := .noat "Atlas" "low") rfl), He.noat_ok (c.d.fact 155 (f := .noat "Atlas" "high") rfl), He.noat_ok (c.d.fact 156 (f := .noat "Atlas" "hours") rfl), He.noat_ok (c.d.fact 157 (f := .noat "Atlas" "s_box") rfl), He.noat_ok (c.d.fact 158 (f := .noat "Atlas" "t_box") rfl), He.noat_ok (c.d.fact 159 (f := .noat "Atlas" "places") rfl), He.noat_ok (c.d.fact 160 (f := .noat "Atlas" "roads") rfl), He.noat_ok (c.d.fact 161 (f := .noat "Atlas" "laid_rows") rfl), He.noat_ok (c.d.fact 162 (f := .noat "Atlas" "nodes") rfl), He.noat_ok (c.d.fact 163 (f := .noat "Atlas" "needs") rfl), He.noat_ok (c.d.fact 164 (f := .noat "Atlas" "arcs") rfl), He.noat_ok (c.d.fact 165 (f := .noat "Atlas" "fixed") rfl), He.noat_ok (c.d.fact 166 (f := .noat "Atlas" "s_span") rfl), He.noat_ok (c.d.fact 167 (f := .noat "Atlas" "t_span") rfl), He.noat_ok (c.d.fact 168 (f := .noat "Atlas" "loads") rfl), He.noat_ok (c.d.fact 169 (f := .noat "Atlas" "prices") rfl), He.noat_ok (c.d.fact 170 (f := .noat "Atlas" "four") rfl), He.noat_ok (c.d.fact 171 (f := .noat "Atlas" "held") rfl), He.noat_ok (c.d.fact 172 (f := .noat "Atlas" "reach_told") rfl), He.noat_ok (c.d.fact 173 (f := .noat "Atlas" "bottom_told") rfl), He.noat_ok (c.d.fact 174 (f := .noat "Atlas" "oblongs") rfl)⟩⟩⟩
  x_WeirError := DW.excXB_ok (He.glo_ok X G (c.d.fact 175 (f := .glo "WeirError") rfl)) (DW.allT_get c.more 0 rfl)
  x_NetError := DW.excXB_ok (He.glo_ok X G (c.d.fact 176 (f := .glo "NetError") rfl)) (DW.allT_get c.more 1 rfl)
  x_BadBox := DW.excXB_ok (He.glo_ok X G (c.d.fact 177 (f := .glo "BadBox") rfl)) (DW.allT_get c.more 2 rfl)
  x_BadHours := DW.excXB_ok (He.glo_ok X G (c.d.fact 178 (f := .glo "BadHours") rfl)) (DW.allT_get c.more 3 rfl)
  x_FormError := DW.excXB_ok (He.glo_ok X G (c.d.fact 179 (f := .glo "FormError") rfl)) (DW.allT_get c.more 4 rfl)
  x_BadName := DW.excXB_ok (He.glo_ok X G (c.d.fact 180 (f := .glo "BadName") rfl)) (DW.allT_get c.more 5 rfl)
  x_BadRungs := DW.excXB_ok (He.glo_ok X G (c.d.fact 181 (f := .glo "BadRungs") rfl)) (DW.allT_get c.more 6 rfl)
  x_BadTakes := DW.excXB_ok (He.glo_ok X G (c.d.fact 182 (f := .glo "BadTakes") rfl)) (DW.allT_get c.more 7 rfl)
  x_Below := DW.excXB_ok (He.glo_ok X G (c.d.fact 183 (f := .glo "Below") rfl)) (DW.allT_get c.more 8 rfl)
  x_Falls := DW.excXB_ok (He.glo_ok X G (c.d.fact 184 (f := .glo "Falls") rfl)) (DW.allT_get c.more 9 rfl)
  x_NoPlace := DW.excXB_ok (He.glo_ok X G (c.d.fact 185 (f := .glo "NoPlace") rfl)) (DW.allT_get c.more 10 rfl)
  x_NoRoad := DW.excXB_ok (He.glo_ok X G (c.d.fact 186 (f := .glo "NoRoad") rfl)) (DW.allT_get c.more 11 rfl)
  x_Taken := DW.excXB_ok (He.glo_ok X G (c.d.fact 187 (f := .glo "Taken") rfl)) (DW.allT_get c.more 12 rfl)
  x_TooFar := DW.excXB_ok (He.glo_ok X G (c.d.fact 188 (f := .glo "TooFar") rfl)) (DW.allT_get c.more 13 rfl)
  x_TooGreat := DW.excXB_ok (He.glo_ok X G (c.d.fact 189 (f := .glo "TooGreat") rfl)) (DW.allT_get c.more 14 rfl)
  x_TooMany := DW.excXB_ok (He.glo_ok X G (c.d.fact 190 (f := .glo "TooMany") rfl)) (DW.allT_get c.more 15 rfl)
  xc := xcn_tab (DW.allT_get c.more 16 rfl)
  ve := DW.veB_ok (DW.allT_get c.more 17 rfl)
  dk_Net_UinitU_s_box := fun as H => datAt_ok (DW.allT_get c.more 18 rfl)
  dk_Net_UinitU_t_box := fun as H => datAt_ok (DW.allT_get c.more 19 rfl)
  dk_Net_road_floor := fun as H => datAt_ok (DW.allT_get c.more 20 rfl)
  dk_Net_road_rungs := fun as H => datAt_ok (DW.allT_get c.more 21 rfl)
theorem all_ok {P : Program} {w : World} {K : PySem.W.Frag} {mg : Str → Option Value} (T : Tx w K mg) (base : Heap) {fd : FuncData} (F : FunD K "law" "law" (defArgs s_law) (defBody s_law) (defScope s_law) [] [] (He.ga K "law") fd) : FnOk P w K mg base CX0 13 (He.ga K "law") fd ["_law_script"] (fun vs H Q _ => spM K 1 w_law vs H Q E0) := by
  have G_WeirError_init := oki_WeirError (P := P) (w := w) (base := base) T
  have G_NetError_init := oki_NetError (P := P) (w := w) (base := base) T G_WeirError_init
  have G_BadBox_init := oki_BadBox (P := P) (w := w) (base := base) T G_NetError_init
  have G_BadHours_init := oki_BadHours (P := P) (w := w) (base := base) T G_NetError_init
  have G_FormError_init := oki_FormError (P := P) (w := w) (base := base) T G_WeirError_init
  have G_BadName_init := oki_BadName (P := P) (w := w) (base := base) T G_FormError_init
  have G_BadRungs_init := oki_BadRungs (P := P) (w := w) (base := base) T G_NetError_init
  have G_BadTakes_init := oki_BadTakes (P := P) (w := w) (base := base) T G_NetError_init
  have G_Below_init := oki_Below (P := P) (w := w) (base := base) T G_NetError_init
  have G_Falls_init := oki_Falls (P := P) (w := w) (base := base) T G_NetError_init
  have G_NoPlace_init := oki_NoPlace (P := P) (w := w) (base := base) T G_NetError_init
  have G_NoRoad_init := oki_NoRoad (P := P) (w := w) (base := base) T G_NetError_init
  have G_Taken_init := oki_Taken (P := P) (w := w) (base := base) T G_NetError_init
  have G_TooFar_init := oki_TooFar (P := P) (w := w) (base := base) T G_NetError_init
  have G_TooGreat_init := oki_TooGreat (P := P) (w := w) (base := base) T G_NetError_init
  have G_TooMany_init := oki_TooMany (P := P) (w := w) (base := base) T G_NetError_init
  have G_Lfeed_0 := ok_Lfeed_0 (P := P) (w := w) (base := base) T
  have G_check_number_0 := ok_check_number_0 (P := P) (w := w) (base := base) T G_TooFar_init
  have G_check_box_0 := ok_check_box_0 (P := P) (w := w) (base := base) T G_BadBox_init G_check_number_0
  have G_Net_UinitU_0 := ok_Net_UinitU_0 (P := P) (w := w) (base := base) T G_BadHours_init G_check_box_0
  have G_Ldraw_0 := ok_Ldraw_0 (P := P) (w := w) (base := base) T
  have G_Lnames_0 := ok_Lnames_0 (P := P) (w := w) (base := base) T G_Ldraw_0
  have G_check_name_0 := ok_check_name_0 (P := P) (w := w) (base := base) T G_BadName_init
  have G_Net_fresh_0 := ok_Net_fresh_0 (P := P) (w := w) (base := base) T G_Taken_init G_check_name_0
  have G_Net_set_place_0 := ok_Net_set_place_0 (P := P) (w := w) (base := base) T
  have G_Net_place_0 := ok_Net_place_0 (P := P) (w := w) (base := base) T G_TooMany_init G_Net_fresh_0 G_Net_set_place_0
  have G_Net_known_0 := ok_Net_known_0 (P := P) (w := w) (base := base) T G_NoPlace_init
  have G_check_move_0 := ok_check_move_0 (P := P) (w := w) (base := base) T G_check_number_0
  have G_sinks_0 := ok_sinks_0 (P := P) (w := w) (base := base) T
  have G_check_room_0 := ok_check_room_0 (P := P) (w := w) (base := base) T G_Below_init G_sinks_0
  have G_check_rising_0 := ok_check_rising_0 (P := P) (w := w) (base := base) T G_Falls_init G_sinks_0
  have G_check_rungs_0 := ok_check_rungs_0 (P := P) (w := w) (base := base) T G_BadRungs_init G_check_move_0 G_check_rising_0 G_check_room_0
  have G_Net_set_road_0 := ok_Net_set_road_0 (P := P) (w := w) (base := base) T G_BadTakes_init G_check_move_0 G_check_room_0 G_check_rungs_0
  have G_Net_road_0 := ok_Net_road_0 (P := P) (w := w) (base := base) T G_TooMany_init G_Net_fresh_0 G_Net_known_0 G_Net_set_road_0
  have G_Net_through_0 := ok_Net_through_0 (P := P) (w := w) (base := base) T G_Net_known_0 G_Net_set_place_0 G_check_move_0 G_check_room_0
  have G_Net_place_names_0 := ok_Net_place_names_0 (P := P) (w := w) (base := base) T
  have G_Net_place_told_0 := ok_Net_place_told_0 (P := P) (w := w) (base := base) T G_Net_known_0
  have G_Net_road_names_0 := ok_Net_road_names_0 (P := P) (w := w) (base := base) T
  have G_Net_road_told_0 := ok_Net_road_told_0 (P := P) (w := w) (base := base) T G_NoRoad_init
  have G_Net_spots_0 := ok_Net_spots_0 (P := P) (w := w) (base := base) T
  have G_unrolled_0 := ok_unrolled_0 (P := P) (w := w) (base := base) T G_Net_place_names_0 G_Net_place_told_0 G_Net_road_names_0 G_Net_road_told_0 G_Net_spots_0
  have G_doored_0 := ok_doored_0 (P := P) (w := w) (base := base) T
  have G_laid_0 := ok_laid_0 (P := P) (w := w) (base := base) T
  have G_take_0 := ok_take_0 (P := P) (w := w) (base := base) T
  have G_add_0 := ok_add_0 (P := P) (w := w) (base := base) T
  have G_summed_0 := ok_summed_0 (P := P) (w := w) (base := base) T
  have G_product_0 := ok_product_0 (P := P) (w := w) (base := base) T
  have G_sunk_0 := ok_sunk_0 (P := P) (w := w) (base := base) T G_add_0 G_product_0 G_summed_0 G_take_0
  have G_Lowered_UinitU_0 := ok_Lowered_UinitU_0 (P := P) (w := w) (base := base) T G_TooGreat_init G_doored_0 G_laid_0 G_sunk_0 G_unrolled_0
  have G_reach_0 := ok_reach_0 (P := P) (w := w) (base := base) T G_Lowered_UinitU_0
  have G_bottom_0 := ok_bottom_0 (P := P) (w := w) (base := base) T G_Lowered_UinitU_0
  have G_Atlas_UinitU_0 := ok_Atlas_UinitU_0 (P := P) (w := w) (base := base) T G_Lowered_UinitU_0
  have G_Ltried_0 := ok_Ltried_0 (P := P) (w := w) (base := base) T G_Atlas_UinitU_0 G_Lowered_UinitU_0 G_bottom_0 G_reach_0
  exact fn_law (fk_law T G_Lowered_UinitU_0 G_Net_UinitU_0 G_Net_place_0 G_Net_road_0 G_Net_through_0 G_Ldraw_0 G_Lfeed_0 G_Lnames_0 G_Ltried_0 F)
end Prf
section
open PySem PySem.W PySem.Calls PyProof.Rows
theorem Prf.cw_pre (LH : ∀ ns : List Int, ns.length ≤ 63 → Prf.w_law [.kl (ns.map .int)] [] (fun d _ => d = .bl true) (fun _ _ => False)) : PySem.Challenge.rw_dialweir_k31_too_great.Holds := by
  w_on; o_law
  refine HandSHeadRun.head_any (r := OpenLaw.row PySem.Challenge.rw_dialweir_k31_too_great) (q := view (OpenLaw.row PySem.Challenge.rw_dialweir_k31_too_great).prog [142]) (H := Prf.hk) (ob := Prf.ob) (M := Prf.mM) (loose := Prf.looseL) (d := HandSHeadRun.topDef (OpenLaw.row PySem.Challenge.rw_dialweir_k31_too_great).prog 142) (kwd := []) Prf.ob_eq
    (by kernel_rfl) (fun s => by kernel_rfl) Prf.run (by kernel_rfl) (by kernel_rfl) (by kernel_rfl) (by rfl) (by first | assumption | decide +kernel) (by decide +kernel) ⟨rfl, rfl, rfl, rfl, rfl, by decide +kernel⟩ ?hw ?hc
  case hw => w_witness2
  case hc =>
    refine L2.walk_ofE (l := PySem.Challenge.rw_dialweir_k31_too_great) (n := 63) (k := 13) (x := "_law_script") (CX := L2.CX0) rfl (by decide) (by kernel_rfl) ⟨rfl, by decide, by decide⟩ ?F (fun _ _ _ _ z => z)
    intro w mg fa h Y G hmg0
    obtain ⟨K, KX, c⟩ := Y
    have hmg : mg ("law" : PySem.Str) = some (.ref fa) := by
      have e : (HandSHeadRun.topDef (OpenLaw.row PySem.Challenge.rw_dialweir_k31_too_great).prog 142).name = ("law" : PySem.Str) := by kernel_rfl
      rw [← e]
      exact hmg0
    have T := Prf.tx_mk (w := w) KX G c
    have e := hmg.symm.trans T.g_law
    cases e
    obtain ⟨fd, F⟩ := T.d_law
    refine ⟨K, fd, fun vs H Q _ => MV.spM K 1 Prf.w_law vs H Q L2.E0, KX, fun s v => L2.FunD.bindsA (ps := ["_law_script"]) F (fun _ _ _ _ _ _ us hl => match us, hl with | [_], _ => rfl) s [v] rfl, fun H a ns hl hO hS => MV.law_st LH H a ns hl hO hS, fun base _ _ => ?_⟩
    exact Prf.all_ok T base F

end
namespace MV
open PySem L2
theorem atI_0 {α : Type} {l : List α} : atI l 0 = l[0]? := by cases l <;> simp [atI, ixN]
theorem atI_n {α : Type} {l : List α} {n : Nat} : atI l (n : Int) = l[n]? := by
  unfold atI ixN
  rw [if_pos (by omega)]
  by_cases h : (n : Int) < l.length
  · rw [if_pos h]; simp
  · rw [if_neg h]; simp; omega
theorem atI_1 {α : Type} {l : List α} : atI l 1 = l[1]? := atI_n (n := 1)
theorem atI_i {α : Type} {l : List α} {i : Int} (h0 : 0 ≤ i) : atI l i = l[i.toNat]? := by
  obtain ⟨n, rfl⟩ := Int.eq_ofNat_of_zero_le h0
  rw [atI_n]; simp
theorem ixN_n {n : Nat} {j : Nat} (h : j < n) : ixN n (j : Int) = some j := by
  unfold ixN
  rw [if_pos (by omega), if_pos (by omega)]; simp
theorem mul_ok {i j : Int} (h : j.natAbs < 2 ^ 64) : okMul i j := .inl (.inr (by omega))
theorem mul_ok' {i j : Int} (h : i.natAbs < 2 ^ 64) : okMul i j := .inl (.inl (by omega))
theorem div_ok {j : Int} (h : j ≠ 0) (hb : j.natAbs < 2 ^ 64) : okDiv j := ⟨h, Nat.lt_of_lt_of_le (Nat.log2_lt (by omega) |>.mpr hb) (by decide)⟩
theorem fmod_in (a : Int) {m : Int} (h : 0 < m) : 0 ≤ a.fmod m ∧ a.fmod m < m := ⟨Int.fmod_nonneg_of_pos a h, Int.fmod_lt_of_pos a h⟩
/-- the objects of M, but those of S, stand in M' -/
structure Kp (S : List Nat) (M M' : Mem) : Prop where
  len : M.length ≤ M'.length
  at_ : ∀ i o, i ∉ S → M[i]? = some o → M'[i]? = some o
theorem Kp.refl {S : List Nat} {M : Mem} : Kp S M M := ⟨Nat.le_refl _, fun _ _ _ h => h⟩
theorem Kp.trans {S : List Nat} {M M1 M2 : Mem} (a : Kp S M M1) (b : Kp S M1 M2) : Kp S M M2 := ⟨Nat.le_trans a.len b.len, fun i o n h => b.at_ i o n (a.at_ i o n h)⟩
theorem Kp.app {S : List Nat} {M l : Mem} : Kp S M (M ++ l) := ⟨by simp, fun i o _ h => by
  have hl : i < M.length := (List.getElem?_eq_some_iff.mp h).1
  rw [List.getElem?_append_left hl]; exact h⟩
theorem Kp.set {S : List Nat} {M : Mem} {n : Nat} {o : O} (h : n ∈ S) : Kp S M (M.set n o) := ⟨by simp, fun i o' hi h' => by
  have hne : n ≠ i := fun e => hi (e ▸ h)
  rw [List.getElem?_set_ne hne]; exact h'⟩
theorem Kp.setNew {S : List Nat} {M0 M : Mem} {n : Nat} {o : O} (k : Kp S M0 M) (h : M0.length ≤ n) : Kp S M0 (M.set n o) := ⟨by simpa using k.len, fun i o' hi h' => by
  have hl : i < M0.length := (List.getElem?_eq_some_iff.mp h').1
  rw [List.getElem?_set_ne (by omega)]; exact k.at_ i o' hi h'⟩
theorem Kp.weak {S T : List Nat} {M M' : Mem} (k : Kp S M M') (h : ∀ i ∈ S, i ∈ T) : Kp T M M' := ⟨k.len, fun i o n q => k.at_ i o (fun m => n (h i m)) q⟩
theorem mlt {M : Mem} {i : Nat} {o : O} (h : M[i]? = some o) : i < M.length := (List.getElem?_eq_some_iff.mp h).1
theorem msame {M : Mem} {i : Nat} {o o' : O} (h : M[i]? = some o) : (M.set i o')[i]? = some o' := by
  have := mlt h; simp [this]
theorem mnew {M : Mem} {o : O} : (M ++ [o])[M.length]? = some o := by simp
theorem for_inv {guard : Mem → Prop} {T : Tg} {b : MS} {E : Nd} (I : List D → Ev → Mem → Prop) (hg : ∀ l ρ M, I l ρ M → guard M) (hn : ∀ ρ M, I [] ρ M → E.nx ρ M)
    (hs : ∀ d l ρ M (K : Ev → Mem → Prop), I (d :: l) ρ M → (∀ ρ2 M2, I l ρ2 M2 → K ρ2 M2) → T.mg d ρ M fun ρ1 => b ⟨K, E.rt, E.nx, K, E.ex⟩ ρ1 M) :
    ∀ {items : List D} {ρ : Ev} {M : Mem}, I items ρ M → mForL guard T b E items ρ M
  | [], ρ, M, h => ⟨hg _ _ _ h, hn _ _ h⟩
  | d :: l, ρ, M, h => ⟨hg _ _ _ h, hs d l ρ M _ h fun ρ2 M2 q => for_inv I hg hn hs q⟩
theorem lc_inv {guard : Mem → Prop} {i : Nat} {me : ME} {ρ : Ev} {n : Nat} {Q : Mem → Prop} (J : List D → List D → Mem → Prop) (hg : ∀ l acc M, J l acc M → guard M)
    (hs : ∀ d l acc M (K : DK), M[n]? = some (.lst acc) → J (d :: l) acc M → (∀ y M4, M4[n]? = some (.lst acc) → J l (acc ++ [y]) (M4.set n (.lst (acc ++ [y]))) → K y M4) → me (ρ.set i (some d)) M K noX)
    (hq : ∀ acc M, M[n]? = some (.lst acc) → J [] acc M → Q M) :
    ∀ (items acc : List D) (M : Mem), M[n]? = some (.lst acc) → acc.length + items.length < 16000000 → J items acc M → mLcL guard (.nm i) mYes me ρ n Q items M
  | [], acc, M, hn, _, h => ⟨hg _ _ _ h, hq acc M hn h⟩
  | d :: l, acc, M, hn, hl, h => ⟨hg _ _ _ h, hs d l acc M _ hn h fun y M4 h4 j => by
      show (match M4[n]? with
        | some (.lst acc) => acc.length < 16000000 ∧ mLcL guard (.nm i) mYes me ρ n Q l (M4.set n (.lst (acc ++ [y])))
        | _ => False)
      rw [h4]
      refine ⟨by simp at hl; omega, ?_⟩
      exact lc_inv J hg hs hq l (acc ++ [y]) _ (msame h4) (by simp at hl ⊢; omega) j⟩
mutual
theorem see_fine {M : Mem} : ∀ {k : Nat} {d : D}, fine k d = true → See M k d (toPy d)
  | k, .non, _ => by simpa only [toPy] using See.non k
  | k, .bl b, _ => by simpa only [toPy] using See.bl k b
  | k, .int b, _ => by simpa only [toPy] using See.int k b
  | k, .str b, h => by
    simp only [toPy]
    exact .str k (by cases k <;> simpa [fine] using h)
  | k + 1, .tup ds, h => by
    simp only [toPy]
    exact .tup (see_fineL (by simpa [fine] using h))
  | 0, .tup ds, h => by simp [fine] at h
  | k, .ref n, h => by cases k <;> simp [fine] at h
  | k, .ty n, h => by cases k <;> simp [fine] at h
  | k, .g n, h => by cases k <;> simp [fine] at h
  | k, .exn .., h => by cases k <;> simp [fine] at h
  | k, .kl n, h => by cases k <;> simp [fine] at h
theorem see_fineL {M : Mem} : ∀ {k : Nat} {ds : List D}, (∀ d ∈ ds, fine k d = true) → SeeL M k ds (toPyL ds)
  | _, [], _ => by simpa only [toPyL] using SeeL.nil
  | k, d :: ds, h => by
    simp only [toPyL]
    exact .cons (see_fine (h d (by simp))) (see_fineL fun e he => h e (by simp [he]))
end
theorem see_lst {M : Mem} {k n : Nat} {ds : List D} (e : M[n]? = some (.lst ds)) (h : ∀ d ∈ ds, fine k d = true) : See M (k + 1) (.ref n) (.list (toPyL ds)) := .lst e (see_fineL h)
end MV
namespace MV
open PySem L2
section
variable {a b : MS} {E : Nd} {ρ : Ev} {M : Mem} {Q : DK} {X : XM} {m ma mb mc : ME} {t u : MT} {QB : Bool → Mem → Prop} {mr : MA} {QA' : List D → Mem → Prop} {o : OP} {ou : OU} {oa : OA} {i j : Nat} {d : D}
theorem x_seq (h : a ⟨fun ρ' M' => b E ρ' M', E.rt, E.bk, E.ct, E.ex⟩ ρ M) : mSeq a b E ρ M := h
theorem x_set (h : m ρ M (fun d M1 => E.nx (ρ.set i (some d)) M1) (fun x M1 => E.ex x ρ M1)) : mSet i m E ρ M := h
theorem x_ret (h : m ρ M E.rt (fun x M1 => E.ex x ρ M1)) : mRet m E ρ M := h
theorem x_retN (h : E.rt .non M) : mRetN E ρ M := h
theorem x_next (h : E.nx ρ M) : mNext E ρ M := h
theorem x_drop (h : m ρ M (fun _ M1 => E.nx ρ M1) (fun x M1 => E.ex x ρ M1)) : mDrop m E ρ M := h
theorem x_ifS (h : t ρ M (fun k M1 => if k = true then a E ρ M1 else b E ρ M1) (fun x M1 => E.ex x ρ M1)) : mIfS t a b E ρ M := h
theorem x_asg {T : Tg} (h : m ρ M (fun d M1 => T.mg d ρ M1 fun ρ' => E.nx ρ' M1) (fun x M1 => E.ex x ρ M1)) : mAsg m T E ρ M := h
theorem x_setIx {mv mo mi : ME} (h : mv ρ M (fun v M1 => mo ρ M1 (fun o M2 => mi ρ M2 (fun i M3 => oSetIx o i v M3 fun M4 => E.nx ρ M4) (fun x M3 => E.ex x ρ M3)) (fun x M2 => E.ex x ρ M2)) (fun x M1 => E.ex x ρ M1)) : mSetIx mv mo mi E ρ M := h
theorem x_for {mi : MI} {T : Tg} (h : mi ρ M (fun items guard M1 => mForL guard T a E items ρ M1) (fun x M1 => E.ex x ρ M1)) : mFor mi T a E ρ M := h
theorem x_lc {mi : MI} {T : Tg} {vs : List Nat} (h : mi ρ M (fun items guard M1 => mLcL guard T t m (wipeE ρ vs) M1.length (fun M2 => Q (.ref M1.length) M2) items (M1 ++ [.lst []])) X) : mLc mi T t m vs ρ M Q X := h
theorem x_var (e : ρ[i]? = some (some d)) (h : Q d M) : mVar i ρ M Q X := by unfold mVar; rw [e]; exact h
theorem x_c (h : Q d M) : mC d ρ M Q X := h
theorem x_op (h : ma ρ M (fun x M1 => mb ρ M1 (fun y M2 => o x y M2 Q) X) X) : mOp o ma mb ρ M Q X := h
theorem x_un (h : ma ρ M (fun x M1 => ou x M1 Q) X) : mUn ou ma ρ M Q X := h
theorem x_cb (h : mr ρ M (fun xs M1 => oa xs M1 Q) X) : mCB oa mr ρ M Q X := h
theorem x_nil (h : QA' [] M) : mNil ρ M QA' X := h
theorem x_cons (h : ma ρ M (fun x M1 => mr ρ M1 (fun xs M2 => QA' (x :: xs) M2) X) X) : mCons ma mr ρ M QA' X := h
theorem x_b (h : ma ρ M (fun x M1 => match x with | .bl k => QB k M1 | _ => False) X) : mB ma ρ M QB X := h
theorem x_tru (h : ma ρ M (fun x M1 => tru x M1 QB) X) : mTru ma ρ M QB X := h
theorem x_and (h : t ρ M (fun k M1 => if k = true then u ρ M1 QB X else QB false M1) X) : mAnd t u ρ M QB X := h
theorem x_or (h : t ρ M (fun k M1 => if k = true then QB true M1 else u ρ M1 QB X) X) : mOr t u ρ M QB X := h
theorem x_not (h : t ρ M (fun k M1 => QB (!k) M1) X) : mNot t ρ M QB X := h
theorem x_yes (h : QB true M) : mYes ρ M QB X := h
theorem x_ifE (h : t ρ M (fun k M1 => if k = true then ma ρ M1 Q X else mb ρ M1 Q X) X) : mIf t ma mb ρ M Q X := h
theorem x_call {w : WF} {n k : Nat} {gD : List D → List D → List D} {ms : MA2} (h : ms ρ M (fun ds es M1 => (ds.length = n ∧ es.length = k) ∧ w (gD ds es) M1 Q X) X) : mCall w n k gD ms ρ M Q X := h
theorem x_argsP {k : List D → List D → Mem → Prop} (h : mr ρ M (fun ds M1 => k ds [] M1) X) : mArgsP mr ρ M k X := h
theorem x_args0 {k : List D → List D → Mem → Prop} (h : k [] [] M) : mArgs0 ρ M k X := h
theorem x_len {α β : Type} {ds : List α} {es : List β} {n k : Nat} {P : Prop} (h1 : ds.length = n) (h2 : es.length = k) (h : P) : (ds.length = n ∧ es.length = k) ∧ P := ⟨⟨h1, h2⟩, h⟩
theorem x_bm {T : String} {r : OM} (h : ma ρ M (fun x M1 => isT T x M1 ∧ mr ρ M1 (fun xs M2 => r x xs M2 Q) X) X) : mBM T r ma mr ρ M Q X := h
theorem x_isL {n : Nat} {ds : List D} {P : Prop} (h : M[n]? = some (.lst ds)) (q : P) : isT "list" (.ref n) M ∧ P := ⟨by simp [isT, h], q⟩
def iseqK (k : List D → (Mem → Prop) → Mem → Prop) : DK := fun x M1 => match x with
  | .tup ds => k ds (fun _ => True) M1
  | .str z => k (z.cps.toList.map fun c => .str ⟨#[c]⟩) (fun _ => True) M1
  | .ref n => match M1[n]? with
    | some (.lst ds) => k ds (fun M => M[n]? = some (.lst ds)) M1
    | some (.frz ds) => k ds (fun M => M[n]? = some (.frz ds)) M1
    | some (.dct true kvs) => k (kvs.map fun kv => kD kv.1) (fun M => M[n]? = some (.dct true kvs)) M1
    | _ => False
  | _ => False
theorem x_iseq {me : ME} {k : List D → (Mem → Prop) → Mem → Prop} (h : me ρ M (iseqK k) X) : mISeq me ρ M k X := h
theorem iseqL {k : List D → (Mem → Prop) → Mem → Prop} {n : Nat} {ds : List D} (hd : M[n]? = some (.lst ds)) (h : k ds (fun M => M[n]? = some (.lst ds)) M) : iseqK k (.ref n) M := by
  unfold iseqK; dsimp only; rw [hd]; exact h
theorem x_iseqV {k : List D → (Mem → Prop) → Mem → Prop} {n : Nat} {ds : List D} (e : ρ[i]? = some (some (.ref n))) (hd : M[n]? = some (.lst ds)) (h : k ds (fun M => M[n]? = some (.lst ds)) M) : mISeq (mVar i) ρ M k X := by
  unfold mISeq mVar; rw [e]; dsimp only; rw [hd]; exact h
theorem x_rng {k : List D → (Mem → Prop) → Mem → Prop} (h : mr ρ M (fun ds M1 => match ds with | [.int j] => (-(2 ^ 62) ≤ j ∧ j < 2 ^ 62) ∧ k (rangeD 0 j.toNat) (fun _ => True) M1 | _ => False) X) : mIRng1 mr ρ M k X := h
theorem x_enT {k : List D → (Mem → Prop) → Mem → Prop} {ds : List D} (e : ρ[i]? = some (some (.tup ds))) (h : k (enumD ds) (fun _ => True) M) : mIEnumT (mCons (mVar i) mNil) ρ M k X := by
  simp only [mIEnumT, mCons, mNil, mVar, e]; exact h
theorem x_sl {ml mh : MO} (h : ma ρ M (fun x M1 => ml ρ M1 (fun l M2 => mh ρ M2 (fun h M3 => oSl x l h M3 Q) X) X) X) : mSl ma ml mh ρ M Q X := h
theorem x_noP {k : Option Int → Mem → Prop} (h : k none M) : mNoPart ρ M k X := h
theorem x_part {k : Option Int → Mem → Prop} (h : m ρ M (fun x M1 => match x with | .int i => k (some i) M1 | _ => False) X) : mPart m ρ M k X := h
theorem o_slK {ds : List D} {lo hi : Option Int} (h : Q (.ref M.length) (M ++ [.lst (cutD ds lo hi)])) : oSl (.kl ds) lo hi M Q := h
theorem o_slL {ds : List D} {lo hi : Option Int} {p : Nat} (el : M[p]? = some (.lst ds)) (h : Q (.ref M.length) (M ++ [.lst (cutD ds lo hi)])) : oSl (.ref p) lo hi M Q := by unfold oSl; dsimp only; rw [el]; exact h
theorem o_slT {ds : List D} {lo hi : Option Int} (h : Q (.tup (cutD ds lo hi)) M) : oSl (.tup ds) lo hi M Q := h
variable {x y : Int} {p : Nat} {ds es : List D} {s z : Str} {v : D}
theorem o_tup (hl : ds.length ≤ 1000) (h : Q (.tup ds) M) : oTup ds M Q := ⟨hl, h⟩
theorem o_lst (hl : ds.length ≤ 1000) (h : Q (.ref M.length) (M ++ [.lst ds])) : oLst ds M Q := ⟨hl, h⟩
theorem o_add (h : Q (.int (x + y)) M) : oAdd (.int x) (.int y) M Q := h
theorem o_addS (hl : s.length + z.length ≤ 16000000) (h : Q (.str (s ++ z)) M) : oAdd (.str s) (.str z) M Q := ⟨hl, h⟩
theorem o_addT (hl : ds.length + es.length ≤ 16000000) (h : Q (.tup (ds ++ es)) M) : oAdd (.tup ds) (.tup es) M Q := ⟨hl, h⟩
theorem o_sub (h : Q (.int (x - y)) M) : oSub (.int x) (.int y) M Q := h
theorem o_mul (hk : okMul x y) (h : Q (.int (x * y)) M) : oMul (.int x) (.int y) M Q := ⟨hk, h⟩
theorem o_div (hk : okDiv y) (h : Q (.int (x.fdiv y)) M) : oDiv (.int x) (.int y) M Q := ⟨hk, h⟩
theorem o_mod (hk : y ≠ 0) (h : Q (.int (x.fmod y)) M) : oMod (.int x) (.int y) M Q := ⟨hk, h⟩
theorem o_pow (hk : CPow x y) (h : Q (.int (x ^ y.toNat)) M) : oPow (.int x) (.int y) M Q := ⟨hk, h⟩
theorem o_neg (h : Q (.int (-x)) M) : oNeg (.int x) M Q := h
theorem o_lt (h : Q (.bl (decide (x < y))) M) : oLt (.int x) (.int y) M Q := h
theorem o_le (h : Q (.bl (decide (x ≤ y))) M) : oLe (.int x) (.int y) M Q := h
theorem o_gt (h : Q (.bl (decide (y < x))) M) : oGt (.int x) (.int y) M Q := h
theorem o_ge (h : Q (.bl (decide (y ≤ x))) M) : oGe (.int x) (.int y) M Q := h
theorem o_eqI (h : Q (.bl (decide (x = y))) M) : oEq (.int x) (.int y) M Q := h
theorem o_neI (h : Q (.bl (!decide (x = y))) M) : oNe (.int x) (.int y) M Q := h
theorem o_min (h : Q (.int (if y < x then y else x)) M) : oMin2 [.int x, .int y] M Q := h
theorem o_max (h : Q (.int (if y > x then y else x)) M) : oMax2 [.int x, .int y] M Q := h
theorem o_intB {k : Bool} (h : Q (.int (if k then 1 else 0)) M) : oInt1 [.bl k] M Q := h
theorem o_ixT (e : atI ds x = some v) (h : Q v M) : oIx (.tup ds) (.int x) M Q := by unfold oIx; dsimp only; rw [e]; exact h
theorem o_ixL (el : M[p]? = some (.lst ds)) (e : atI ds x = some v) (h : Q v M) : oIx (.ref p) (.int x) M Q := by unfold oIx; dsimp only; rw [el]; dsimp only; rw [e]; exact h
theorem o_ixS {c : Nat} (hl : z.length ≤ 16000000) (e : atI z.cps.toList x = some c) (h : Q (.str ⟨#[c]⟩) M) : oIx (.str z) (.int x) M Q := ⟨hl, by rw [e]; exact h⟩
theorem o_lenT (h : Q (.int ds.length) M) : oLen [.tup ds] M Q := h
theorem o_lenL (el : M[p]? = some (.lst ds)) (h : Q (.int ds.length) M) : oLen [.ref p] M Q := by unfold oLen; dsimp only; rw [el]; exact h
theorem o_listL (el : M[p]? = some (.lst ds)) (h : Q (.ref M.length) (M ++ [.lst ds])) : oList1 [.ref p] M Q := by unfold oList1; dsimp only; rw [el]; exact h
theorem o_tupL (el : M[p]? = some (.lst ds)) (h : Q (.tup ds) M) : oTuple1 [.ref p] M Q := by unfold oTuple1; dsimp only; rw [el]; exact h
theorem o_setL {N : Mem → Prop} {j : Nat} (el : M[p]? = some (.lst ds)) (e : ixN ds.length x = some j) (h : N (M.set p (.lst (ds.set j v)))) : oSetIx (.ref p) (.int x) v M N := by unfold oSetIx; dsimp only; rw [el]; dsimp only; rw [e]; exact h
theorem o_app (el : M[p]? = some (.lst ds)) (hl : ds.length < 16000000) (h : Q .non (M.set p (.lst (ds ++ [v])))) : omAppend (.ref p) [v] M Q := by unfold omAppend; dsimp only; rw [el]; exact ⟨hl, h⟩
theorem o_isL {T : String} (el : M[p]? = some (.lst ds)) (hT : (["int", "str", "tuple", "list", "bool", "dict"].contains T = true)) (h : Q (.bl (subTy "list" T)) M) : oIsi [.ref p, .ty T] M Q := by simp only [oIsi, tyD, el]; exact ⟨hT, h⟩
theorem o_isT {T : String} (hT : (["int", "str", "tuple", "list", "bool", "dict"].contains T = true)) (h : Q (.bl (subTy "tuple" T)) M) : oIsi [.tup ds, .ty T] M Q := ⟨hT, h⟩
theorem o_isLL (el : M[p]? = some (.lst ds)) (h : Q (.bl true) M) : oIsi [.ref p, .ty "list"] M Q := o_isL el (by decide) h
theorem o_isTT (h : Q (.bl true) M) : oIsi [.tup ds, .ty "tuple"] M Q := o_isT (by decide) h
theorem o_truB {k : Bool} (h : QB k M) : tru (.bl k) M QB := h
theorem if_d {p : Prop} [Decidable p] {A B : Prop} (h1 : p → A) (h2 : ¬ p → B) : if decide p = true then A else B := by
  by_cases h : p
  · rw [if_pos (by simpa using h)]; exact h1 h
  · rw [if_neg (by simpa using h)]; exact h2 h
theorem if_n {p : Prop} [Decidable p] {A B : Prop} (h1 : ¬ p → A) (h2 : p → B) : if (!decide p) = true then A else B := by
  by_cases h : p
  · rw [if_neg (by simpa using h)]; exact h2 h
  · rw [if_pos (by simpa using h)]; exact h1 h
theorem if_nt {A B : Prop} (h : B) : if (!true) = true then A else B := by rw [if_neg (by simp)]; exact h
theorem if_nf {A B : Prop} (h : A) : if (!false) = true then A else B := by rw [if_pos (by simp)]; exact h
theorem if_t {A B : Prop} (h : A) : if true = true then A else B := by rw [if_pos rfl]; exact h
theorem if_f {A B : Prop} (h : B) : if false = true then A else B := by rw [if_neg (by simp)]; exact h
theorem x_nm {N : Ev → Prop} {i : Nat} {d : D} {ρ : Ev} {M : Mem} (h : N (ρ.set i (some d))) : (Tg.nm i).mg d ρ M N := h
theorem x_tp {N : Ev → Prop} {n : Nat} {l : Tgs} {ds : List D} {ρ : Ev} {M : Mem} (hl : ds.length = n) (h : l.mg ds ρ M N) : (Tg.tp n l).mg (.tup ds) ρ M N := ⟨hl, h⟩
theorem x_tc {N : Ev → Prop} {t : Tg} {l : Tgs} {d : D} {r : List D} {ρ : Ev} {M : Mem} (h : t.mg d ρ M fun ρ' => l.mg r ρ' M N) : (Tgs.cons t l).mg (d :: r) ρ M N := h
theorem x_tn {N : Ev → Prop} {ρ : Ev} {M : Mem} (h : N ρ) : Tgs.nil.mg [] ρ M N := h
theorem for_ix {guard : Mem → Prop} {T : Tg} {b : MS} {E : Nd} {items : List D} (I : Nat → Ev → Mem → Prop) (hg : ∀ k ρ M, I k ρ M → guard M) (hn : ∀ ρ M, I items.length ρ M → E.nx ρ M)
    (hs : ∀ k d ρ M (K : Ev → Mem → Prop), items[k]? = some d → I k ρ M → (∀ ρ2 M2, I (k + 1) ρ2 M2 → K ρ2 M2) → T.mg d ρ M fun ρ1 => b ⟨K, E.rt, E.nx, K, E.ex⟩ ρ1 M)
    {ρ : Ev} {M : Mem} (h0 : I 0 ρ M) : mForL guard T b E items ρ M := by
  refine for_inv (fun l ρ M => ∃ k, l = items.drop k ∧ k ≤ items.length ∧ I k ρ M) ?_ ?_ ?_ ⟨0, rfl, Nat.zero_le _, h0⟩
  · rintro l ρ M ⟨k, _, _, h⟩; exact hg k ρ M h
  · rintro ρ M ⟨k, e, hk, h⟩
    have : k = items.length := by
      have := congrArg List.length e
      simp at this; omega
    subst this; exact hn ρ M h
  · rintro d l ρ M K ⟨k, e, hk, h⟩ q
    have hlt : k < items.length := by
      have := congrArg List.length e
      simp at this; omega
    rw [List.drop_eq_getElem_cons hlt] at e
    injection e with e1 e2
    exact hs k d ρ M K (by rw [List.getElem?_eq_getElem hlt, e1]) h fun ρ2 M2 i => q ρ2 M2 ⟨k + 1, e2, hlt, i⟩
theorem lc_ix {guard : Mem → Prop} {i : Nat} {me : ME} {ρ : Ev} {n : Nat} {Q : Mem → Prop} {items : List D} {M : Mem} (J : Nat → List D → Mem → Prop) (hg : ∀ k acc M, J k acc M → guard M)
    (hs : ∀ k d acc M (K : DK), items[k]? = some d → M[n]? = some (.lst acc) → J k acc M → (∀ y M4, M4[n]? = some (.lst acc) → J (k + 1) (acc ++ [y]) (M4.set n (.lst (acc ++ [y]))) → K y M4) → me (ρ.set i (some d)) M K noX)
    (hq : ∀ acc M, M[n]? = some (.lst acc) → J items.length acc M → Q M) (hl : items.length < 16000000) (hn : M[n]? = some (.lst [])) (h0 : J 0 [] M) : mLcL guard (.nm i) mYes me ρ n Q items M := by
  refine lc_inv (fun l acc M => ∃ k, l = items.drop k ∧ k ≤ items.length ∧ J k acc M) ?_ ?_ ?_ items [] M hn (by simpa using hl) ⟨0, rfl, Nat.zero_le _, h0⟩
  · rintro l acc M ⟨k, _, _, h⟩; exact hg k acc M h
  · rintro d l acc M K hM ⟨k, e, hk, h⟩ q
    have hlt : k < items.length := by
      have := congrArg List.length e
      simp at this; omega
    rw [List.drop_eq_getElem_cons hlt] at e
    injection e with e1 e2
    exact hs k d acc M K (by rw [List.getElem?_eq_getElem hlt, e1]) hM h fun y M4 h4 j => q y M4 h4 ⟨k + 1, e2, hlt, j⟩
  · rintro acc M hM ⟨k, e, hk, h⟩
    have : k = items.length := by
      have := congrArg List.length e
      simp at this; omega
    subst this; exact hq acc M hM h
theorem rng_len {n : Nat} : (rangeD 0 n).length = n := by simp [rangeD]
theorem rng_at {n k : Nat} {d : D} (h : (rangeD 0 n)[k]? = some d) : d = .int k ∧ k < n := by
  simp [rangeD, List.getElem?_map, List.getElem?_range] at h
  by_cases hk : k < n
  · simp [hk] at h; exact ⟨h.symm, hk⟩
  · simp [hk] at h
theorem x_join {a b : MS} {E : Nd} {ρ : Ev} {M : Mem} (P : Ev → Mem → Prop) (h : ∀ K, (∀ ρ' M', P ρ' M' → K ρ' M') → a ⟨K, E.rt, E.bk, E.ct, E.ex⟩ ρ M) (h2 : ∀ ρ' M', P ρ' M' → b E ρ' M') : mSeq a b E ρ M := h _ h2
end
end MV
namespace MV
open PySem L2
/-- an exception of the program: its class, its one field, its word -/
def xE (c f w : Str) (a : D) : Exn := ⟨c, [f, "word"], [a, .str w]⟩
/-- the fields of a net -/
def NF (h s t p r : D) : List (Str × D) := [("hours", h), ("s_box", s), ("t_box", t), ("places", p), ("roads", r)]
def noFld (f : Str) : Bool := !(["hours", "s_box", "t_box", "places", "roads"] : List Str).contains f
section
variable {h s t p r y : D}
theorem nf_hours : (NF h s t p r).lookup ("hours" : Str) = some h := by rfl
theorem nf_s : (NF h s t p r).lookup ("s_box" : Str) = some s := by rfl
theorem nf_t : (NF h s t p r).lookup ("t_box" : Str) = some t := by rfl
theorem nf_p : (NF h s t p r).lookup ("places" : Str) = some p := by rfl
theorem nf_r : (NF h s t p r).lookup ("roads" : Str) = some r := by rfl
theorem nf_no {f : Str} (hf : noFld f = true) : (NF h s t p r).lookup f = none := by
  simp only [noFld, List.contains_cons, List.contains_nil, Bool.not_eq_true', Bool.or_eq_false_iff] at hf
  obtain ⟨h1, h2, h3, h4, h5, -⟩ := hf
  simp only [NF, List.lookup, h1, h2, h3, h4, h5]
theorem pf_p : putD "places" y (NF h s t p r) = NF h s t y r := by rfl
theorem pf_r : putD "roads" y (NF h s t p r) = NF h s t p y := by rfl
end
section
variable {a b : MS} {E : Nd} {ρ : Ev} {M : Mem} {Q : DK} {X : XM} {m ma mb mc : ME} {t u : MT} {QB : Bool → Mem → Prop} {mr : MA} {QA' : List D → Mem → Prop} {i j n : Nat} {d : D} {cs : List Str} {f : Str} {fs : List (Str × D)} {c : Str}
theorem x_fld (q : ma ρ M (fun x M1 => match x with
  | .ref n => match M1[n]? with
    | some (.ins c fs) => c ∈ cs ∧ match fs.lookup f with
      | some d => Q d M1
      | none => False
    | _ => False
  | _ => False) X) : mFld cs ma f ρ M Q X := q
theorem x_fldV (e : ρ[i]? = some (some (.ref n))) (h : M[n]? = some (.ins c fs)) (hc : c ∈ cs) (hf : fs.lookup f = some d) (q : Q d M) : mFld cs (mVar i) f ρ M Q X := by
  unfold mFld mVar; rw [e]; dsimp only; rw [h]; dsimp only; rw [hf]; exact ⟨hc, q⟩
theorem x_setFld {mv : ME} (q : mv ρ M (fun y M1 => ma ρ M1 (fun x M2 => match x with
  | .ref n => match M2[n]? with
    | some (.ins c fs) => c ∈ cs ∧ fs.length < 100 ∧ E.nx ρ (M2.set n (.ins c (putD f y fs)))
    | _ => False
  | _ => False) (fun x M2 => E.ex x ρ M2)) (fun x M1 => E.ex x ρ M1)) : mSetFld cs ma mv f E ρ M := q
theorem x_setFldV {mv : ME} {fs' : List (Str × D)} {y : D} (hv : ∀ (Q : DK) X, Q y M → mv ρ M Q X) (e : ρ[i]? = some (some (.ref n))) (h : M[n]? = some (.ins c fs)) (hc : c ∈ cs) (hl : fs.length < 100) (hp : putD f y fs = fs') (q : E.nx ρ (M.set n (.ins c fs'))) : mSetFld cs (mVar i) mv f E ρ M := by
  unfold mSetFld mVar
  refine hv _ _ ?_
  dsimp only
  rw [e]; dsimp only; rw [h]; dsimp only; rw [hp]; exact ⟨hc, hl, q⟩
theorem x_methV {c mn : Str} {w : WF} {n' k : Nat} {gD : List D → List D → List D} {ms : MA2} (e : ρ[i]? = some (some (.ref n))) (h : M[n]? = some (.ins c fs)) (hm : fs.lookup mn = none) (q : ms ρ M (fun ds es M2 => ((D.ref n :: ds).length = n' ∧ es.length = k) ∧ w (gD (.ref n :: ds) es) M2 Q X) X) : mMeth c mn w n' k gD (mVar i) ms ρ M Q X := by
  unfold mMeth mVar; rw [e]; dsimp only; rw [h]; exact ⟨⟨rfl, hm⟩, q⟩
theorem x_make {c : Str} {w : WF} {n' k : Nat} {gD : List D → List D → List D} {ms : MA2} (q : ms ρ M (fun ds es M1 => (ds.length + 1 = n' ∧ es.length = k) ∧ w (gD (.ref M1.length :: ds) es) (M1 ++ [.ins c []]) (fun v M2 => match v with | .non => Q (.ref M1.length) M2 | _ => False) X) X) : mMake c w n' k gD ms ρ M Q X := q
theorem x_argsK {k : List D → List D → Mem → Prop} (h : mr ρ M (fun es M1 => k [] es M1) X) : mArgsK mr ρ M k X := h
theorem x_argsPK {mk : MA} {k : List D → List D → Mem → Prop} (h : mr ρ M (fun ds M1 => mk ρ M1 (fun es M2 => k ds es M2) X) X) : mArgsPK mr mk ρ M k X := h
theorem x_raise {x : Str} {n : Nat} {sp : List (Str × Src)} (h : mr ρ M (fun ds M1 => ds.length = n ∧ E.ex ⟨x, sp.map (·.1), sp.map fun p => p.2.d ds⟩ ρ M1) (fun y M1 => E.ex y ρ M1)) : mRaise x n sp mr E ρ M := h
theorem x_andV (h : ma ρ M (fun x M1 => match x with | .bl k => if k = true then mb ρ M1 Q X else Q (.bl false) M1 | _ => False) X) : mAndV ma mb ρ M Q X := h
theorem x_orV (h : ma ρ M (fun x M1 => match x with | .bl k => if k = true then Q (.bl true) M1 else mb ρ M1 Q X | _ => False) X) : mOrV ma mb ρ M Q X := h
theorem x_chI {x y z : Int} (ha : ∀ Q : DK, Q (.int x) M → ma ρ M Q X) (hb : ∀ Q : DK, Q (.int y) M → mb ρ M Q X) (hc : ∀ Q : DK, Q (.int z) M → mc ρ M Q X) (q : Q (.bl (decide (x ≤ y ∧ y ≤ z))) M) : mChain oLe oLe ma mb mc ρ M Q X := by
  refine ha _ (hb _ ?_)
  show if decide (x ≤ y) = true then mc ρ M (fun w M4 => oLe (.int y) w M4 Q) X else Q (.bl false) M
  by_cases h : x ≤ y
  · rw [if_pos (by simpa using h)]
    refine hc _ ?_
    show Q (.bl (decide (y ≤ z))) M
    simpa [h] using q
  · rw [if_neg (by simpa using h)]
    simpa [h] using q
theorem x_par {k l : Nat} (h : mr ρ M (fun ds M1 => match ds with | [d, e] => E.nx ((ρ.set k (some d)).set l (some e)) M1 | _ => False) (fun x M1 => E.ex x ρ M1)) : mPar k l mr E ρ M := h
theorem x_try {sub : Str → Str → Option Bool} {cl : List MCl} (h : a ⟨E.nx, E.rt, E.bk, E.ct, mCatch sub E cl⟩ ρ M) : mTry sub a cl E ρ M := h
theorem x_rng2 {k : List D → (Mem → Prop) → Mem → Prop} (h : mr ρ M (fun ds M1 => match ds with | [.int i, .int j] => (-(2 ^ 62) ≤ i ∧ i < 2 ^ 62 ∧ -(2 ^ 62) ≤ j ∧ j < 2 ^ 62) ∧ k (rangeD i (j - i).toNat) (fun _ => True) M1 | _ => False) X) : mIRng2 mr ρ M k X := h
theorem x_dict0 (h : Q (.ref M.length) (M ++ [.dct false []])) : mDict0 ρ M Q X := h
theorem c_yes {sub : Str → Str → Option Bool} {cs : List Str} {i : Nat} {s : Addr → Addr → Str → MS} {r : List MCl} {x : Exn} (hs : ∀ y ∈ cs, (sub x.c y).isSome = true) (hn : (cs.any fun y => sub x.c y == some true) = true) (h : ∀ a dd, s a dd x.c ⟨fun ρ M => E.nx (ρ.set i none) M, E.rt, fun ρ M => E.bk (ρ.set i none) M, fun ρ M => E.ct (ρ.set i none) M, fun y ρ M => E.ex y (ρ.set i none) M⟩ (ρ.set i (some (.exn a dd x.c x.ns x.ds))) M) : mCatch sub E (⟨cs, some i, s⟩ :: r) x ρ M := ⟨hs, by rw [if_pos hn]; exact h⟩
theorem c_yesC {sub : Str → Str → Option Bool} {cs : List Str} {i : Nat} {s : Addr → Addr → Str → MS} {r : List MCl} {x : Exn} {xc : Str} (hx : x.c = xc) (hs : ∀ y ∈ cs, (sub xc y).isSome = true) (hn : (cs.any fun y => sub xc y == some true) = true) (h : ∀ a dd, s a dd x.c ⟨fun ρ M => E.nx (ρ.set i none) M, E.rt, fun ρ M => E.bk (ρ.set i none) M, fun ρ M => E.ct (ρ.set i none) M, fun y ρ M => E.ex y (ρ.set i none) M⟩ (ρ.set i (some (.exn a dd x.c x.ns x.ds))) M) : mCatch sub E (⟨cs, some i, s⟩ :: r) x ρ M := by subst hx; exact c_yes hs hn h
theorem x_xf {a dd : Addr} {c : Str} {ns : List Str} {ds : List D} {f : Str} (e : ρ[i]? = some (some (.exn a dd c ns ds))) (hf : (ns.zip ds).lookup f = some d) (h : Q d M) : mXf a dd c i f ρ M Q X := by
  unfold mXf; rw [e]; dsimp only; rw [hf]; exact ⟨⟨rfl, rfl, rfl⟩, h⟩
variable {x y : D} {p : Nat} {kvs : List (Key × D)} {lk : Bool} {z w : Str} {k : Key}
theorem o_eqS (h : Q (.bl (decide (z = w))) M) : oEq (.str z) (.str w) M Q := h
theorem o_neS (h : Q (.bl (!decide (z = w))) M) : oNe (.str z) (.str w) M Q := h
theorem o_isN (h : Q (.bl (match x with | .non => true | _ => false)) M) : oIs x .non M Q := h
theorem o_isnN (h : Q (.bl (match x with | .non => false | _ => true)) M) : oIsNot x .non M Q := h
theorem o_inS {c : Nat} (h : Q (.bl (decide (c ∈ z.cps.toList))) M) : oIn (.str ⟨#[c]⟩) (.str z) M Q := h
theorem o_ninS {c : Nat} (h : Q (.bl (!decide (c ∈ z.cps.toList))) M) : oNotIn (.str ⟨#[c]⟩) (.str z) M Q := h
theorem o_inD (e : M[p]? = some (.dct lk kvs)) (hk : keyOf x = some k) (h : Q (.bl (dget kvs k).isSome) M) : oIn x (.ref p) M Q := by
  unfold oIn oInB; dsimp only; rw [e]; dsimp only; rw [hk]; exact h
theorem o_ninD (e : M[p]? = some (.dct lk kvs)) (hk : keyOf x = some k) (h : Q (.bl (!(dget kvs k).isSome)) M) : oNotIn x (.ref p) M Q := by
  unfold oNotIn oInB; dsimp only; rw [e]; dsimp only; rw [hk]; exact h
theorem o_ixD (e : M[p]? = some (.dct lk kvs)) (hk : keyOf x = some k) (hd : dget kvs k = some d) (h : Q d M) : oIx (.ref p) x M Q := by
  unfold oIx; dsimp only; rw [e]; dsimp only; rw [hk]; dsimp only; rw [hd]; exact h
theorem o_lenD (e : M[p]? = some (.dct lk kvs)) (h : Q (.int kvs.length) M) : oLen [.ref p] M Q := by
  unfold oLen; dsimp only; rw [e]; exact h
theorem o_lenS (hl : z.length ≤ 16000000) (h : Q (.int z.length) M) : oLen [.str z] M Q := ⟨hl, h⟩
theorem o_dictD (e : M[p]? = some (.dct lk kvs)) (h : Q (.ref M.length) (M ++ [.dct false kvs])) : oDict1 [.ref p] M Q := by
  unfold oDict1; dsimp only; rw [e]; exact h
theorem o_listD (e : M[p]? = some (.dct false kvs)) (h : Q (.ref M.length) (M ++ [.lst (kvs.map fun kv => kD kv.1)])) : oList1 [.ref p] M Q := by
  unfold oList1; dsimp only; rw [e]; exact h
theorem o_setD {N : Mem → Prop} (e : M[p]? = some (.dct false kvs)) (hk : keyOf x = some k) (hl : kvs.length < 16000000) (h : N (M.set p (.dct false (dput kvs k y)))) : oSetIx (.ref p) x y M N := by
  unfold oSetIx; dsimp only; rw [e]; dsimp only; rw [hk]; exact ⟨hl, h⟩
theorem o_strS (h : Q (.str z) M) : oStr1 [.str z] M Q := h
theorem o_abs {n : Int} (h : Q (.int (if n < 0 then -n else n)) M) : oAbs [.int n] M Q := h
theorem iseqT {k : List D → (Mem → Prop) → Mem → Prop} {ds : List D} (h : k ds (fun _ => True) M) : iseqK k (.tup ds) M := h
theorem x_iseqTV {k : List D → (Mem → Prop) → Mem → Prop} {ds : List D} (e : ρ[i]? = some (some (.tup ds))) (h : k ds (fun _ => True) M) : mISeq (mVar i) ρ M k X := by
  unfold mISeq mVar; rw [e]; exact h
theorem x_iseqSV {k : List D → (Mem → Prop) → Mem → Prop} (e : ρ[i]? = some (some (.str z))) (h : k (z.cps.toList.map fun c => .str ⟨#[c]⟩) (fun _ => True) M) : mISeq (mVar i) ρ M k X := by
  unfold mISeq mVar; rw [e]; exact h
theorem x_isS {P : Prop} (q : P) : isT "str" (.str z) M ∧ P := ⟨rfl, q⟩
theorem if_b {k : Bool} {A B : Prop} (h1 : k = true → A) (h2 : k = false → B) : if k = true then A else B := by
  cases k
  · rw [if_neg (by decide)]; exact h2 rfl
  · rw [if_pos rfl]; exact h1 rfl
end
theorem lcT_inv {guard : Mem → Prop} {T : Tg} {me : ME} {ρ : Ev} {n : Nat} {Q : Mem → Prop} (J : List D → List D → Mem → Prop) (hg : ∀ l acc M, J l acc M → guard M)
    (hs : ∀ d l acc M (K : DK), M[n]? = some (.lst acc) → J (d :: l) acc M → (∀ y M4, M4[n]? = some (.lst acc) → J l (acc ++ [y]) (M4.set n (.lst (acc ++ [y]))) → K y M4) → T.mg d ρ M fun ρ2 => me ρ2 M K noX)
    (hq : ∀ acc M, M[n]? = some (.lst acc) → J [] acc M → Q M) :
    ∀ (items acc : List D) (M : Mem), M[n]? = some (.lst acc) → acc.length + items.length < 16000000 → J items acc M → mLcL guard T mYes me ρ n Q items M
  | [], acc, M, hn, _, h => ⟨hg _ _ _ h, hq acc M hn h⟩
  | d :: l, acc, M, hn, hl, h => ⟨hg _ _ _ h, hs d l acc M _ hn h fun y M4 h4 j => by
      show (match M4[n]? with
        | some (.lst acc) => acc.length < 16000000 ∧ mLcL guard T mYes me ρ n Q l (M4.set n (.lst (acc ++ [y])))
        | _ => False)
      rw [h4]
      refine ⟨by simp at hl; omega, ?_⟩
      exact lcT_inv J hg hs hq l (acc ++ [y]) _ (msame h4) (by simp at hl ⊢; omega) j⟩
theorem lcT_ix {guard : Mem → Prop} {T : Tg} {me : ME} {ρ : Ev} {n : Nat} {Q : Mem → Prop} {items : List D} {M : Mem} (J : Nat → List D → Mem → Prop) (hg : ∀ k acc M, J k acc M → guard M)
    (hs : ∀ k d acc M (K : DK), items[k]? = some d → M[n]? = some (.lst acc) → J k acc M → (∀ y M4, M4[n]? = some (.lst acc) → J (k + 1) (acc ++ [y]) (M4.set n (.lst (acc ++ [y]))) → K y M4) → T.mg d ρ M fun ρ2 => me ρ2 M K noX)
    (hq : ∀ acc M, M[n]? = some (.lst acc) → J items.length acc M → Q M) (hl : items.length < 16000000) (hn : M[n]? = some (.lst [])) (h0 : J 0 [] M) : mLcL guard T mYes me ρ n Q items M := by
  refine lcT_inv (fun l acc M => ∃ k, l = items.drop k ∧ k ≤ items.length ∧ J k acc M) ?_ ?_ ?_ items [] M hn (by simpa using hl) ⟨0, rfl, Nat.zero_le _, h0⟩
  · rintro l acc M ⟨k, _, _, h⟩; exact hg k acc M h
  · rintro d l acc M K hM ⟨k, e, hk, h⟩ q
    have hlt : k < items.length := by
      have := congrArg List.length e
      simp at this; omega
    rw [List.drop_eq_getElem_cons hlt] at e
    injection e with e1 e2
    exact hs k d acc M K (by rw [List.getElem?_eq_getElem hlt, e1]) hM h fun y M4 h4 j => q y M4 h4 ⟨k + 1, e2, hlt, j⟩
  · rintro acc M hM ⟨k, e, hk, h⟩
    have : k = items.length := by
      have := congrArg List.length e
      simp at this; omega
    subst this; exact hq acc M hM h
section
variable {κ : Type} [DecidableEq κ] {kvs : List (κ × D)} {k k' : κ} {v : D}
theorem dput_new (h : dget kvs k = none) : dput kvs k v = kvs ++ [(k, v)] := by
  unfold dput
  rw [if_neg]
  intro hc
  obtain ⟨x, hx, he⟩ := List.any_eq_true.mp hc
  unfold dget at h
  rw [Option.map_eq_none_iff, List.find?_eq_none] at h
  exact h x hx he
end
end MV
namespace MV
/-- the two ends of a deed that may be refused -/
def En (Q : DK) (X : XM) (M : Mem) (r : Option Exn) : Prop := match r with | none => Q .non M | some e => X e M
theorem En.step {Q Q' : DK} {X : XM} {M : Mem} {r r2 : Option Exn} (h : En Q X M (r.or r2)) (k : r = none → En Q X M r2 → Q' .non M) : En Q' X M r := by
  cases r with
  | none => exact k rfl h
  | some e => exact h
theorem En.last {Q Q' : DK} {X : XM} {M : Mem} {r : Option Exn} (h : En Q X M r) (k : r = none → Q .non M → Q' .non M) : En Q' X M r := by
  cases r with
  | none => exact k rfl h
  | some e => exact h
def pD (x : Int × Int) : D := .tup [.int x.1, .int x.2]
def omD : Option (Int × Int) → D
  | none => .non
  | some m => pD m
abbrev Rung := Option (Int × Int) × (Int × Int)
def rungD (r : Rung) : D := .tup [omD r.1, pD r.2]
/-- numbers that may be multiplied -/
def Tame (x : Int × Int) : Prop := x.1.natAbs < 2 ^ 64 ∧ x.2.natAbs < 2 ^ 64
section
variable {M : Mem} {Q : DK} {m : Int × Int} {r : Rung}
theorem o_pD0 (h : Q (.int m.1) M) : oIx (pD m) (.int 0) M Q := h
theorem o_pD1 (h : Q (.int m.2) M) : oIx (pD m) (.int 1) M Q := h
theorem o_rg0 (h : Q (omD r.1) M) : oIx (rungD r) (.int 0) M Q := h
theorem o_rg1 (h : Q (pD r.2) M) : oIx (rungD r) (.int 1) M Q := h
theorem x_tpR {N : Ev → Prop} {l : Tgs} {ρ : Ev} (h : l.mg [omD r.1, pD r.2] ρ M N) : (Tg.tp 2 l).mg (rungD r) ρ M N := ⟨rfl, h⟩
end
end MV
open PySem L2 MV
/-- the mirrors' steps -/
local macro_rules | `(tactic| walk_at "ex") => `(tactic| first
  | ((with_reducible refine x_var (d := ?vv) ?hh ?qq); (case hh => exact rfl))
  | ((with_reducible refine x_len ?l1 ?l2 ?qq); (case l1 => exact rfl); (case l2 => exact rfl))
  | ((with_reducible refine o_tup ?l1 ?qq); (case l1 => exact Nat.le_of_ble_eq_true rfl))
  | ((with_reducible refine o_lst ?l1 ?qq); (case l1 => exact Nat.le_of_ble_eq_true rfl))
  | ((with_reducible refine o_ixT (v := ?ww) ?l1 ?qq); (case l1 => exact rfl))
  | ((with_reducible refine x_tp ?l1 ?qq); (case l1 => exact rfl))
  | with_reducible first
  | refine x_lc ?_
  | refine x_c ?_ | refine x_op ?_ | refine x_un ?_ | refine x_cb ?_ | refine x_nil ?_ | refine x_cons ?_ | refine x_b ?_ | refine x_tru ?_ | refine x_and ?_ | refine x_or ?_ | refine x_not ?_ | refine x_yes ?_ | refine x_nm ?_ | refine x_tc ?_ | refine x_tn ?_ | refine x_ifE ?_ | refine x_andV ?_ | refine x_orV ?_ | refine x_argsK ?_ | refine x_argsPK ?_ | refine x_rng2 ?_ | refine x_dict0 ?_ | refine x_make ?_ | refine o_eqS ?_ | refine o_neS ?_ | refine o_isN ?_ | refine o_isnN ?_ | refine o_strS ?_ | refine o_abs ?_ | refine o_inS ?_ | refine o_ninS ?_ | refine o_pD0 ?_ | refine o_pD1 ?_ | refine o_rg0 ?_ | refine o_rg1 ?_ | refine x_tpR ?_ | refine x_isS ?_
  | refine x_call ?_ | refine x_argsP ?_ | refine x_args0 ?_ | refine x_bm ?_ | refine x_rng ?_ | refine x_sl ?_ | refine x_noP ?_ | refine x_part ?_
  | refine o_add ?_ | refine o_sub ?_ | refine o_neg ?_ | refine o_lt ?_ | refine o_le ?_ | refine o_gt ?_ | refine o_ge ?_ | refine o_eqI ?_ | refine o_neI ?_ | refine o_min ?_ | refine o_max ?_ | refine o_intB ?_ | refine o_lenT ?_ | refine o_truB ?_ | refine o_slK ?_ | refine o_slT ?_ | refine o_isTT ?_ | refine if_t ?_ | refine if_f ?_ | refine if_nt ?_ | refine if_nf ?_)
local macro_rules | `(tactic| walk_at "sx") => `(tactic| with_reducible first
  | refine x_seq ?_ | refine x_set ?_ | refine x_ret ?_ | refine x_retN ?_ | refine x_next ?_ | refine x_drop ?_ | refine x_ifS ?_ | refine x_asg ?_ | refine x_setIx ?_ | refine x_for ?_ | refine x_par ?_ | refine x_raise ?_ | refine x_try ?_)
local macro_rules | `(tactic| walk_at "mx") => `(tactic| first | walk_at "sx" | walk_at "ex")
local macro_rules | `(tactic| walk_at "fx") => `(tactic| first
  | ((with_reducible refine o_ixL (ds := ?ll) (v := ?ww) ?l0 ?l1 ?qq); (case l0 => assumption); (case l1 => exact rfl))
  | ((with_reducible refine o_lenL (ds := ?ll) ?l0 ?qq); (case l0 => assumption))
  | ((with_reducible refine x_iseqV (n := ?nn) (ds := ?ll) ?l0 ?l1 ?qq); (case l0 => exact rfl); (case l1 => assumption))
  | ((with_reducible refine x_enT (ds := ?ll) ?l0 ?qq); (case l0 => exact rfl))
  | ((with_reducible refine x_isL (ds := ?ll) ?l0 ?qq); (case l0 => assumption))
  | ((with_reducible refine o_isLL (ds := ?ll) ?l0 ?qq); (case l0 => assumption))
  | ((with_reducible refine o_listL (ds := ?ll) ?l0 ?qq); (case l0 => assumption))
  | ((with_reducible refine o_tupL (ds := ?ll) ?l0 ?qq); (case l0 => assumption))
  | ((with_reducible refine x_fldV (n := ?nn) (fs := ?ff) (d := ?dd) (c := ?cc) ?l0 ?l1 ?l2 ?l3 ?qq); (case l0 => exact rfl); (case l1 => assumption); (case l2 => decide +kernel); (case l3 => first | exact nf_hours | exact nf_s | exact nf_t | exact nf_p | exact nf_r))
  | ((with_reducible refine x_methV (n := ?nn) (fs := ?ff) ?l0 ?l1 ?l2 ?qq); (case l0 => exact rfl); (case l1 => assumption); (case l2 => exact nf_no (by decide +kernel)))
  | ((with_reducible refine o_lenD (lk := ?lk) (kvs := ?ll) ?l0 ?qq); (case l0 => assumption))
  | ((with_reducible refine o_dictD (lk := ?lk) (kvs := ?ll) ?l0 ?qq); (case l0 => assumption))
  | ((with_reducible refine o_listD (kvs := ?ll) ?l0 ?qq); (case l0 => assumption))
  | ((with_reducible refine o_inD (lk := ?lk) (kvs := ?ll) (k := ?kk) ?l0 ?l1 ?qq); (case l0 => assumption); (case l1 => exact rfl))
  | ((with_reducible refine o_ninD (lk := ?lk) (kvs := ?ll) (k := ?kk) ?l0 ?l1 ?qq); (case l0 => assumption); (case l1 => exact rfl))
  | ((with_reducible refine x_iseqTV (ds := ?ll) ?l0 ?qq); (case l0 => exact rfl))
  | ((with_reducible refine x_iseqSV (z := ?zz) ?l0 ?qq); (case l0 => exact rfl)))
local macro_rules | `(tactic| walk_at "m1") => `(tactic| first | walk_at "mx" | walk_at "fx")
local macro_rules | `(tactic| walk_at "ml") => `(tactic| repeat walk_at "m1")
local macro_rules | `(tactic| walk_at "q1") => `(tactic| first | walk_at "ex" | walk_at "fx")
local macro_rules | `(tactic| walk_at "mq") => `(tactic| repeat walk_at "q1")
namespace MV
/-- the feed at p, its cells at q -/
def Feed (M : Mem) (p q : Nat) : Prop := ∃ (cs : List Int) (i r s : Int), M[p]? = some (.lst [.ref q, .int i, .int r, .int s]) ∧ M[q]? = some (.lst (cs.map .int)) ∧ p ≠ q ∧ 0 ≤ i ∧ 0 ≤ s ∧ s < 2147483647
theorem Feed.kp {M M' : Mem} {p q : Nat} {S : List Nat} (h : Feed M p q) (k : Kp S M M') (n1 : p ∉ S) (n2 : q ∉ S) : Feed M' p q := by
  obtain ⟨cs, i, r, s, h1, h2, h3⟩ := h
  exact ⟨cs, i, r, s, k.at_ _ _ n1 h1, k.at_ _ _ n2 h2, h3⟩
theorem Feed.lt {M : Mem} {p q : Nat} (h : Feed M p q) : p < M.length ∧ q < M.length := by
  obtain ⟨cs, i, r, s, h1, h2, h3⟩ := h
  exact ⟨mlt h1, mlt h2⟩
theorem Feed.app {M l : Mem} {p q : Nat} (h : Feed M p q) : Feed (M ++ l) p q := h.kp (S := []) Kp.app (by simp) (by simp)
end MV
namespace Prf
theorem ldraw {M : Mem} {p q : Nat} {m : Int} {Q : DK} {X : XM} (F : Feed M p q) (hm : 0 < m) (hb : m < 2 ^ 60) (k : ∀ d M', 0 ≤ d → d < m → Kp [p] M M' → Feed M' p q → Q (.int d) M') : w_Ldraw [.ref p, .int m] M Q X := by
  obtain ⟨cs, i, r, s, h1, h2, hne, hi, hs0, hs1⟩ := F
  have hm0 : m ≠ 0 := by omega
  have hd : okDiv m := div_ok hm0 (by omega)
  show m_Ldraw _ [some (.ref p), some (.int m), none, none, none] M
  unfold m_Ldraw
  walk_at "ml"
  refine if_d (fun hr => ?_) (fun hr => ?_)
  · walk_at "ml"
    refine o_mod hm0 ?_
    walk_at "ml"
    refine o_div hd ?_
    walk_at "ml"
    refine o_setL h1 (j := 2) rfl ?_
    walk_at "ml"
    obtain ⟨a1, a2⟩ := fmod_in r hm
    exact k _ _ a1 a2 (.set (by simp)) ⟨cs, i, _, s, msame h1, by rw [List.getElem?_set_ne hne]; exact h2, hne, hi, hs0, hs1⟩
  · iterate 4 walk_at "mx"
    with_reducible refine x_join (fun ρ' M' => ∃ c i' : Int, ρ' = [some (.ref p), some (.int m), none, some (.int c), none] ∧ 0 ≤ i' ∧ M'[p]? = some (.lst [.ref q, .int i', .int r, .int s]) ∧ M'[q]? = some (.lst (cs.map .int)) ∧ Kp [p] M M') ?_ ?_
    · intro K hK
      walk_at "ml"
      refine if_d (fun hc => ?_) (fun hc => ?_)
      · walk_at "ml"
        have hi2 : i.toNat < cs.length := by simp at hc; omega
        refine o_ixL h2 (v := .int cs[i.toNat]) (by rw [atI_i hi]; simp [hi2]) ?_
        walk_at "ml"
        refine o_setL h1 (j := 1) rfl ?_
        exact hK _ _ ⟨_, i + 1, rfl, by omega, msame h1, by rw [List.getElem?_set_ne hne]; exact h2, .set (by simp)⟩
      · walk_at "ml"
        exact hK _ _ ⟨0, i, rfl, hi, h1, h2, .refl⟩
    · rintro _ M1 ⟨c, i', rfl, hi', g1, g2, kp⟩
      walk_at "ml"
      refine if_d (fun hc => ?_) (fun hc => ?_)
      · walk_at "ml"
        refine o_div hd ?_
        walk_at "ml"
        refine o_setL g1 (j := 2) rfl ?_
        walk_at "ml"
        refine o_mod hm0 ?_
        obtain ⟨a1, a2⟩ := fmod_in c hm
        exact k _ _ a1 a2 (kp.trans (.set (by simp))) ⟨cs, i', _, s, msame g1, by rw [List.getElem?_set_ne hne]; exact g2, hne, hi', hs0, hs1⟩
      · walk_at "ml"
        refine o_mul (mul_ok (by decide)) ?_
        walk_at "ml"
        refine o_mod (by decide) ?_
        walk_at "ml"
        refine o_mod (by decide) ?_
        walk_at "ml"
        refine o_setL g1 (j := 3) rfl ?_
        obtain ⟨b1, b2⟩ := fmod_in (s * 48271 + c.fmod 1000003 + 11) (m := 2147483647) (by decide)
        generalize (s * 48271 + c.fmod 1000003 + 11).fmod 2147483647 = s' at b1 b2 ⊢
        have g3 : (M1.set p (.lst [.ref q, .int i', .int r, .int s']))[p]? = some (.lst [.ref q, .int i', .int r, .int s']) := msame g1
        have g4 : (M1.set p (.lst [.ref q, .int i', .int r, .int s']))[q]? = some (.lst (cs.map .int)) := by rw [List.getElem?_set_ne hne]; exact g2
        have kp2 : Kp [p] M (M1.set p (.lst [.ref q, .int i', .int r, .int s'])) := kp.trans (.set (by simp))
        show mSeq _ _ _ _ (M1.set p (.lst [.ref q, .int i', .int r, .int s']))
        generalize M1.set p (.lst [.ref q, .int i', .int r, .int s']) = M2 at g3 g4 kp2 ⊢
        walk_at "ml"
        refine o_pow ⟨by decide, by decide, by omega⟩ ?_
        walk_at "ml"
        refine o_ixL (ds := [.int s', .int (s' ^ 4)]) (v := .int (if 100000 < m then s' ^ 4 else s')) mnew ?_ ?_
        · by_cases hm5 : 100000 < m <;> simp [hm5, atI_0, atI_1]
        walk_at "ml"
        refine o_div (div_ok (by decide) (by decide)) ?_
        walk_at "ml"
        refine o_mod hm0 ?_
        have fin : ∀ a : Int, Q (.int (a.fmod m)) (M2 ++ [.lst [.int s', .int (s' ^ 4)]]) := fun a => by
          obtain ⟨a1, a2⟩ := fmod_in a hm
          exact k _ _ a1 a2 (kp2.trans .app) (Feed.app ⟨cs, i', r, s', g3, g4, hne, hi', b1, b2⟩)
        exact fin _
theorem lfeed {M : Mem} {ns : List Int} {Q : DK} {X : XM} (k : ∀ M', Kp [] M M' → Feed M' (M.length + 2) (M.length + 1) → Q (.ref (M.length + 2)) M') : w_Lfeed [.kl (ns.map .int)] M Q X := by
  show m_Lfeed _ [some (.kl (ns.map .int))] M
  unfold m_Lfeed
  walk_at "ml"
  show oList1 [.ref M.length] (M ++ [.lst (cutD (ns.map D.int) none (some 63))]) _
  have e : ∃ cs : List Int, cutD (ns.map D.int) none (some 63) = cs.map .int := ⟨_, by unfold cutD; rw [← List.map_drop, ← List.map_take]⟩
  obtain ⟨cs, e⟩ := e
  rw [e]
  refine o_listL mnew ?_
  walk_at "ml"
  have e2 : (M ++ [O.lst (cs.map D.int)]).length = M.length + 1 := by simp
  have e3 : (M ++ [O.lst (cs.map D.int)] ++ [O.lst (cs.map D.int)]).length = M.length + 2 := by simp
  rw [e2, e3]
  refine k _ ((Kp.app.trans .app).trans .app) ⟨cs, 0, 0, 1, ?_, ?_, by omega, by decide, by decide, by decide⟩
  · rw [← e3]; exact mnew
  · exact (Kp.app (S := [])).at_ _ _ (by simp) (by rw [← e2]; exact mnew)
end Prf

namespace MV
/-- a text of at most n plain signs -/
def Asc (n : Nat) (s : Str) : Prop := s.cps.size ≤ n ∧ ∀ c ∈ s.cps.toList, c < 128
theorem Asc.ok {n : Nat} {s : Str} (h : Asc n s) : PyData.strOk s = true := by
  unfold PyData.strOk
  rw [Array.all_eq_true_iff_forall_mem]
  intro c hc
  have := h.2 c (by simpa using hc)
  exact decide_eq_true (by omega)
theorem Asc.app {n m : Nat} {s t : Str} (h : Asc n s) (k : Asc m t) : Asc (n + m) (s ++ t) := by
  have e : (s ++ t).cps = s.cps ++ t.cps := rfl
  refine ⟨?_, fun c hc => ?_⟩
  · rw [e, Array.size_append]
    exact Nat.add_le_add h.1 k.1
  · rw [e, Array.toList_append] at hc
    rcases List.mem_append.mp hc with z | z
    · exact h.2 c z
    · exact k.2 c z
theorem Asc.one {c : Nat} (h : c < 128) : Asc 1 ⟨#[c]⟩ := ⟨Nat.le_refl _, by simp [h]⟩
theorem Asc.mono {n m : Nat} {s : Str} (e : n ≤ m) (h : Asc n s) : Asc m s := ⟨Nat.le_trans h.1 e, h.2⟩
theorem Asc.len {n : Nat} {s : Str} (h : Asc n s) : s.length ≤ n := h.1
theorem inOk_strs {s : Str} {ns : List Str} : inOk (.str s) (ns.map .str) := by
  unfold inOk
  have : (ns.map D.str).all flat = true := by simp [flat]
  rw [this]; simp [flat]
theorem o_inL {x : D} {p : Nat} {ds : List D} {M : Mem} {Q : DK} (el : M[p]? = some (.lst ds)) (hk : inOk x ds) (h : Q (.bl (ds.any fun e => deq e x)) M) : oIn x (.ref p) M Q := by
  unfold oIn oInB; dsimp only; rw [el]; exact ⟨hk, h⟩
theorem o_ixA {z : Str} {k : Int} {M : Mem} {Q : DK} (hz : z.length ≤ 1000000) (h0 : 0 ≤ k) (h1 : k < z.cps.size) (q : ∀ c, z.cps[k.toNat]? = some c → Q (.str ⟨#[c]⟩) M) : oIx (.str z) (.int k) M Q := by
  have hl : k.toNat < z.cps.size := by omega
  refine o_ixS (c := z.cps[k.toNat]) (by omega) ?_ (q _ (by simp [hl]))
  rw [atI_i h0]; simp [hl]
end MV

namespace Prf
def rNum (far x : Int) : Option Exn := if -far ≤ x ∧ x ≤ far then none else some (xE "TooFar" "number" "too far" (.int x))
theorem l_number {M : Mem} {Q : DK} {X : XM} {far x : Int} (h : En Q X M (rNum far x)) : w_check_number [.int x, .int far] M Q X := by
  show m_check_number _ [some (.int x), some (.int far)] M
  unfold m_check_number
  iterate 3 walk_at "mx"
  refine x_chI (x := -far) (y := x) (z := far) (fun _ h => by walk_at "ml"; exact h) (fun _ h => by walk_at "ml"; exact h) (fun _ h => by walk_at "ml"; exact h) ?_
  unfold rNum at h
  refine if_n (fun hc => ?_) (fun hc => ?_)
  · rw [if_neg hc] at h
    walk_at "ml"
    exact ⟨rfl, h⟩
  · rw [if_pos hc] at h
    walk_at "ml"
    exact h
def rMove (far : Int) (m : Int × Int) : Option Exn := (rNum far m.1).or (rNum far m.2)
def rBox (far : Int) (d : Str) (m : Int × Int) : Option Exn := (rNum far m.1).or ((rNum far m.2).or (if m.2 < m.1 then some (xE "BadBox" "dial" "bad box" (.str d)) else none))
theorem l_box {M : Mem} {Q : DK} {X : XM} {far : Int} {d : Str} {m : Int × Int} (h : En Q X M (rBox far d m)) : w_check_box [.str d, pD m, .int far] M Q X := by
  obtain ⟨a, b⟩ := m
  show m_check_box _ [some (.str d), some (.tup [.int a, .int b]), some (.int far)] M
  unfold m_check_box
  walk_at "ml"
  refine l_number (h.step fun _ h => ?_)
  walk_at "ml"
  refine l_number (h.step fun _ h => ?_)
  walk_at "ml"
  refine if_d (fun hc => ?_) (fun hc => ?_)
  · walk_at "ml"
    rw [if_pos hc] at h
    exact ⟨rfl, h⟩
  · walk_at "ml"
    rw [if_neg hc] at h
    exact h
def sinksB (m b : Int × Int) : Bool := decide (m.1 + m.2 * b.1 < 0) || decide (m.1 + m.2 * b.2 < 0)
theorem l_sinks {M : Mem} {Q : DK} {X : XM} {m b : Int × Int} (hb : Tame b) (h : Q (.bl (sinksB m b)) M) : w_sinks [pD m, pD b] M Q X := by
  obtain ⟨m0, m1⟩ := m
  obtain ⟨lo, hi⟩ := b
  show m_sinks _ [some (.tup [.int m0, .int m1]), some (.tup [.int lo, .int hi])] M
  unfold m_sinks
  walk_at "ml"
  refine o_mul (mul_ok hb.1) ?_
  walk_at "ml"
  refine if_d (fun hc => ?_) (fun hc => ?_)
  · simpa [sinksB, hc] using h
  · walk_at "ml"
    refine o_mul (mul_ok hb.2) ?_
    walk_at "ml"
    simpa [sinksB, hc] using h
def rRoom (nm : Str) (m b : Int × Int) : Option Exn := if sinksB m b = true then some (xE "Below" "name" "below" (.str nm)) else none
theorem l_room {M : Mem} {Q : DK} {X : XM} {nm : Str} {m b : Int × Int} (hb : Tame b) (h : En Q X M (rRoom nm m b)) : w_check_room [.str nm, pD m, pD b] M Q X := by
  show m_check_room _ [some (.str nm), some (pD m), some (pD b)] M
  unfold m_check_room
  walk_at "ml"
  refine l_sinks hb ?_
  unfold rRoom at h
  walk_at "ml"
  refine if_b (fun hc => ?_) (fun hc => ?_)
  · rw [if_pos hc] at h
    walk_at "ml"
    exact ⟨rfl, h⟩
  · rw [if_neg (by simp [hc])] at h
    walk_at "ml"
    exact h
theorem l_move {M : Mem} {Q : DK} {X : XM} {far : Int} {m : Int × Int} (h : En Q X M (rMove far m)) : w_check_move [pD m, .int far] M Q X := by
  obtain ⟨a, b⟩ := m
  show m_check_move _ [some (.tup [.int a, .int b]), some (.int far)] M
  unfold m_check_move
  walk_at "ml"
  refine l_number (h.step fun _ h => ?_)
  walk_at "ml"
  refine l_number (h.last fun _ h => ?_)
  exact h
def rRis (nm : Str) (t : Int × Int) : List Rung → Option Exn
  | a :: b :: l => if sinksB (b.2.1 - a.2.1, b.2.2 - a.2.2) t = true then some (xE "Falls" "name" "falls" (.str nm)) else rRis nm t (b :: l)
  | _ => none
theorem rng2_at {a : Int} {n k : Nat} {d : D} (h : (rangeD a n)[k]? = some d) : d = .int (a + k) ∧ k < n := by
  simp [rangeD, List.getElem?_map, List.getElem?_range] at h
  by_cases hk : k < n
  · simp [hk] at h; exact ⟨h.symm, hk⟩
  · simp [hk] at h
theorem l_rising {M : Mem} {Q : DK} {X : XM} {nm : Str} {t : Int × Int} {rs : List Rung} (ht : Tame t) (hl : rs.length < 1000) (h : En Q X M (rRis nm t rs)) : w_check_rising [.str nm, .tup (rs.map rungD), pD t] M Q X := by
  show m_check_rising _ [some (.str nm), some (.tup (rs.map rungD)), some (pD t), none, none, none] M
  unfold m_check_rising
  walk_at "ml"
  refine ⟨⟨by decide, by decide, by simp <;> omega, by simp <;> omega⟩, ?_⟩
  refine for_ix (fun i ρ M' => M' = M ∧ (∃ o3 o4 o5, ρ = [some (.str nm), some (.tup (rs.map rungD)), some (pD t), o3, o4, o5]) ∧ En Q X M (rRis nm t (rs.drop i))) (fun _ _ _ _ => trivial) ?_ ?_ ⟨rfl, ⟨_, _, _, rfl⟩, h⟩
  · rintro ρ M' ⟨rfl, ⟨_, _, _, rfl⟩, h⟩
    have e : rRis nm t (rs.drop (rangeD 1 ((List.map rungD rs).length - 1 : Int).toNat).length) = none := by
      have hz : (rangeD 1 ((List.map rungD rs).length - 1 : Int).toNat).length = rs.length - 1 := by simp [rangeD]
      rw [hz]
      cases hd : rs.drop (rs.length - 1) with
      | nil => rfl
      | cons a l =>
        have := congrArg List.length hd
        simp at this
        cases l with
        | nil => rfl
        | cons b l => simp at this; omega
    rw [e] at h
    exact h
  · rintro i d ρ M' K hd ⟨rfl, ⟨_, _, _, rfl⟩, h⟩ hK
    obtain ⟨rfl, hi⟩ := rng2_at hd
    have hi2 : i + 1 < rs.length := by simp at hi; omega
    have e1 : rs.drop i = rs[i] :: rs[i + 1] :: rs.drop (i + 2) := by
      rw [List.drop_eq_getElem_cons (by omega), List.drop_eq_getElem_cons hi2]
    rw [e1] at h
    have f1 : atI (rs.map rungD) (1 + (i : Int)) = some (rungD rs[i + 1]) := by
      have : (1 + (i : Int)) = ((i + 1 : Nat) : Int) := by omega
      rw [this, atI_n]; simp [hi2]
    have f0 : atI (rs.map rungD) (1 + (i : Int) - 1) = some (rungD rs[i]) := by
      have : (1 + (i : Int) - 1) = ((i : Nat) : Int) := by omega
      rw [this, atI_n, List.getElem?_map, List.getElem?_eq_getElem (by omega)]; rfl
    walk_at "ml"
    refine o_ixT f1 ?_
    walk_at "ml"
    refine o_ixT f0 ?_
    walk_at "ml"
    refine l_sinks (m := (rs[i + 1].2.1 - rs[i].2.1, rs[i + 1].2.2 - rs[i].2.2)) ht ?_
    walk_at "ml"
    unfold rRis at h
    refine if_b (fun hc => ?_) (fun hc => ?_)
    · rw [if_pos hc] at h
      walk_at "ml"
      exact ⟨rfl, h⟩
    · rw [if_neg (by simp [hc])] at h
      walk_at "ml"
      refine hK _ _ ⟨rfl, ⟨_, _, _, rfl⟩, ?_⟩
      rw [List.drop_eq_getElem_cons hi2]
      exact h
end Prf

namespace Prf
def xBadRungs (nm : Str) : Exn := xE "BadRungs" "name" "bad rungs" (.str nm)
def oRef (f : Int × Int → Option Exn) : Option (Int × Int) → Option Exn
  | none => none
  | some m => f m
def rRung (far : Int) (nm : Str) (s : Int × Int) (r : Rung) : Option Exn := (oRef (rMove far) r.1).or ((rMove far r.2).or (oRef (fun m => rRoom nm m s) r.1))
def rRungs (most far : Int) (nm : Str) (s t : Int × Int) (rs : List Rung) : Option Exn :=
  (if 1 ≤ (rs.length : Int) ∧ (rs.length : Int) ≤ most then none else some (xBadRungs nm)).or ((if (rs.dropLast.any fun r => r.1.isNone) = true then some (xBadRungs nm) else none).or ((rs.findSome? (rRung far nm s)).or (rRis nm t rs)))
theorem cut_last {α : Type} {l : List α} : cutD l none (some (-1)) = l.dropLast := by
  cases l with
  | nil => rfl
  | cons a l =>
    have e1 : HT.sIx (a :: l).length 0 none = 0 := rfl
    have e2 : HT.sIx (a :: l).length (a :: l).length (some (-1)) = l.length := by simp [HT.sIx]; omega
    unfold cutD
    rw [e1, e2, List.dropLast_eq_take]
    simp
theorem l_rungs {M : Mem} {Q : DK} {X : XM} {most far : Int} {nm : Str} {s t : Int × Int} {rs : List Rung} (hs : Tame s) (ht : Tame t) (hl : rs.length < 1000) (h : En Q X M (rRungs most far nm s t rs)) : w_check_rungs [.str nm, .tup (rs.map rungD), pD s, pD t, .int most, .int far] M Q X := by
  show m_check_rungs _ [some (.str nm), some (.tup (rs.map rungD)), some (pD s), some (pD t), some (.int most), some (.int far), none, none] M
  unfold m_check_rungs
  unfold rRungs at h
  walk_at "mx"
  with_reducible refine x_ifS ?_
  iterate 2 walk_at "mx"
  refine x_chI (x := 1) (y := rs.length) (z := most) (fun _ h => by walk_at "ml"; exact h) (fun _ h => by walk_at "ml"; simpa using h) (fun _ h => by walk_at "ml"; exact h) ?_
  refine if_n (fun hc => ?_) (fun hc => ?_)
  · rw [if_neg hc] at h
    walk_at "ml"
    exact ⟨rfl, h⟩
  rw [if_pos hc] at h
  replace h : En Q X M ((if (rs.dropLast.any fun r => r.1.isNone) = true then some (xBadRungs nm) else none).or ((rs.findSome? (rRung far nm s)).or (rRis nm t rs))) := h
  iterate 2 walk_at "mx"
  with_reducible refine x_for ?_
  with_reducible refine x_iseq ?_
  walk_at "ml"
  refine iseqT ?_
  rw [show (-1 : Int) = -1 from rfl, cut_last, ← List.map_dropLast]
  refine for_ix (fun i ρ M' => M' = M ∧ (∃ o6 o7, ρ = [some (.str nm), some (.tup (rs.map rungD)), some (pD s), some (pD t), some (.int most), some (.int far), o6, o7]) ∧ En Q X M ((if ((rs.dropLast.drop i).any fun r => r.1.isNone) = true then some (xBadRungs nm) else none).or ((rs.findSome? (rRung far nm s)).or (rRis nm t rs)))) (fun _ _ _ _ => trivial) ?_ ?_ ⟨rfl, ⟨_, _, rfl⟩, h⟩
  · rintro ρ M' ⟨rfl, ⟨_, _, rfl⟩, h⟩
    rw [List.drop_eq_nil_of_le (by simp)] at h
    replace h : En Q X M' ((rs.findSome? (rRung far nm s)).or (rRis nm t rs)) := h
    walk_at "ml"
    refine for_ix (fun i ρ M => M = M' ∧ (∃ o6 o7, ρ = [some (.str nm), some (.tup (rs.map rungD)), some (pD s), some (pD t), some (.int most), some (.int far), o6, o7]) ∧ En Q X M' (((rs.drop i).findSome? (rRung far nm s)).or (rRis nm t rs))) (fun _ _ _ _ => trivial) ?_ ?_ ⟨rfl, ⟨_, _, rfl⟩, h⟩
    · rintro ρ M ⟨rfl, ⟨_, _, rfl⟩, h⟩
      rw [List.drop_eq_nil_of_le (by simp)] at h
      replace h : En Q X M (rRis nm t rs) := h
      walk_at "ml"
      exact l_rising ht hl (h.last fun _ h => h)
    · rintro i d ρ M K hd ⟨rfl, ⟨_, _, rfl⟩, h⟩ hK
      rw [List.getElem?_map] at hd
      cases hr : rs[i]? with
      | none => rw [hr] at hd; cases hd
      | some r =>
        rw [hr] at hd
        cases hd
        obtain ⟨hi, he⟩ := List.getElem?_eq_some_iff.mp hr
        rw [List.drop_eq_getElem_cons hi, he, List.findSome?_cons] at h
        have fin : ∀ o6 o7, En Q X M (((rs.drop (i + 1)).findSome? (rRung far nm s)).or (rRis nm t rs)) → K [some (.str nm), some (.tup (rs.map rungD)), some (pD s), some (pD t), some (.int most), some (.int far), o6, o7] M := fun _ _ h => hK _ _ ⟨rfl, ⟨_, _, rfl⟩, h⟩
        obtain ⟨rm, pr⟩ := r
        cases rm with
        | none =>
          have h2 : En Q X M ((rMove far pr).or (((rs.drop (i + 1)).findSome? (rRung far nm s)).or (rRis nm t rs))) := by
            have e : rRung far nm s (none, pr) = rMove far pr := by simp [rRung, oRef]
            rw [e] at h
            cases hp : rMove far pr with
            | none => rw [hp] at h; exact h
            | some x => rw [hp] at h; exact h
          refine x_tpR ?_
          walk_at "ml"
          refine if_f ?_
          walk_at "ml"
          refine l_move (h2.step fun _ h => ?_)
          walk_at "ml"
          refine if_f ?_
          walk_at "ml"
          exact fin _ _ h
        | some m =>
          have h2 : En Q X M ((rMove far m).or ((rMove far pr).or ((rRoom nm m s).or (((rs.drop (i + 1)).findSome? (rRung far nm s)).or (rRis nm t rs))))) := by
            have e : rRung far nm s (some m, pr) = (rMove far m).or ((rMove far pr).or (rRoom nm m s)) := rfl
            rw [e] at h
            cases h1 : rMove far m with
            | some x => rw [h1] at h; exact h
            | none =>
              cases h2 : rMove far pr with
              | some x => rw [h1, h2] at h; exact h
              | none =>
                cases h3 : rRoom nm m s with
                | some x => rw [h1, h2, h3] at h; exact h
                | none => rw [h1, h2, h3] at h; exact h
          refine x_tpR ?_
          walk_at "ml"
          refine if_t ?_
          walk_at "ml"
          refine l_move (h2.step fun _ h => ?_)
          walk_at "ml"
          refine l_move (h.step fun _ h => ?_)
          walk_at "ml"
          refine if_t ?_
          walk_at "ml"
          refine l_room hs (h.step fun _ h => ?_)
          exact fin _ _ h
  · rintro i d ρ M K hd ⟨rfl, ⟨_, _, rfl⟩, h⟩ hK
    rw [List.getElem?_map] at hd
    cases hr : rs.dropLast[i]? with
    | none => rw [hr] at hd; cases hd
    | some r =>
      rw [hr] at hd
      cases hd
      obtain ⟨hi, he⟩ := List.getElem?_eq_some_iff.mp hr
      rw [List.drop_eq_getElem_cons hi, he, List.any_cons] at h
      obtain ⟨rm, pr⟩ := r
      refine x_tpR ?_
      walk_at "ml"
      cases rm with
      | none =>
        refine if_t ?_
        walk_at "ml"
        exact ⟨rfl, h⟩
      | some m =>
        refine if_f ?_
        walk_at "ml"
        exact hK _ _ ⟨rfl, ⟨_, _, rfl⟩, h⟩
def FIRST : Str := "abcdefghijklmnopqrstuvwxyz"
def LATER : Str := "abcdefghijklmnopqrstuvwxyz0123456789"
def goodB (s : Str) : Bool := decide (1 ≤ (s.length : Int) ∧ (s.length : Int) ≤ 8) && (match s.cps.toList with | c :: _ => decide (c ∈ FIRST.cps.toList) | [] => false) && s.cps.toList.all fun c => decide (c ∈ LATER.cps.toList)
def xBadName (s : Str) : Exn := xE "BadName" "name" "bad name" (.str s)
def rName (s : Str) : Option Exn := if goodB s = true then none else some (xBadName s)
theorem l_name {M : Mem} {Q : DK} {X : XM} {s : Str} (hl : s.length ≤ 1000000) (h : En Q X M (rName s)) : w_check_name [.str s] M Q X := by
  show m_check_name _ [some (.str s), none] M
  unfold m_check_name
  unfold rName at h
  iterate 4 walk_at "mx"
  refine x_chI (x := 1) (y := s.length) (z := 8) (fun _ h => by walk_at "ml"; exact h) (fun _ h => by walk_at "ml"; exact o_lenS (by omega) h) (fun _ h => by walk_at "ml"; exact h) ?_
  refine if_n (fun hc => ?_) (fun hc => ?_)
  · have e : goodB s = false := by unfold goodB; rw [decide_eq_false hc]; rfl
    rw [e] at h
    refine if_t ?_
    walk_at "ml"
    exact ⟨rfl, h⟩
  · cases hs : s.cps.toList with
    | nil =>
      have : s.length = 0 := by simpa [Str.length] using congrArg List.length hs
      omega
    | cons c r =>
      walk_at "ml"
      refine o_ixS (c := c) (by omega) (by rw [atI_0, hs]; rfl) ?_
      walk_at "ml"
      show if (!decide (c ∈ FIRST.cps.toList)) = true then _ else _
      refine if_n (fun hf => ?_) (fun hf => ?_)
      · have e : goodB s = false := by simp [goodB, hs, hf]
        rw [e] at h
        walk_at "ml"
        exact ⟨rfl, h⟩
      · walk_at "ml"
        have e : goodB s = (s.cps.toList.all fun c => decide (c ∈ LATER.cps.toList)) := by
          unfold goodB; rw [decide_eq_true hc, hs]; simp [hf]
        rw [e] at h
        refine for_ix (fun i ρ M' => M' = M ∧ (∃ o1, ρ = [some (.str s), o1]) ∧ En Q X M (if ((s.cps.toList.drop i).all fun c => decide (c ∈ LATER.cps.toList)) = true then none else some (xBadName s))) (fun _ _ _ _ => trivial) ?_ ?_ ⟨rfl, ⟨_, rfl⟩, h⟩
        · rintro ρ M' ⟨rfl, ⟨_, rfl⟩, h⟩
          rw [List.drop_eq_nil_of_le (by simp)] at h
          exact h
        · rintro i d ρ M' K hd ⟨rfl, ⟨_, rfl⟩, h⟩ hK
          rw [List.getElem?_map] at hd
          cases hr : s.cps.toList[i]? with
          | none => rw [hr] at hd; cases hd
          | some c =>
            rw [hr] at hd
            cases hd
            obtain ⟨hi, he⟩ := List.getElem?_eq_some_iff.mp hr
            rw [List.drop_eq_getElem_cons hi, he, List.all_cons] at h
            walk_at "ml"
            show if (!decide (c ∈ LATER.cps.toList)) = true then _ else _
            refine if_n (fun hf => ?_) (fun hf => ?_)
            · rw [decide_eq_false hf] at h
              walk_at "ml"
              exact ⟨rfl, h⟩
            · rw [decide_eq_true hf] at h
              walk_at "ml"
              exact hK _ _ ⟨rfl, ⟨_, rfl⟩, h⟩
end Prf

namespace MV
structure Pl where
  nm : Str
  room : Option (Int × Int)
  kept : Option (Int × Int)
  price : Int × Int
  wants : List (Int × Int)
structure Rd where
  nm : Str
  st : Str
  en : Str
  takes : Int
  floor : Int × Int
  rungs : List Rung
structure Nt where
  h : Int
  s : Int × Int
  t : Int × Int
  ps : List Pl
  rs : List Rd
def plD (p : Pl) : D := .tup [omD p.room, omD p.kept, pD p.price, .tup (p.wants.map pD)]
def rdD (r : Rd) : D := .tup [.str r.st, .str r.en, .int r.takes, pD r.floor, .tup (r.rungs.map rungD)]
def plK (p : Pl) : Key × D := (.inr p.nm, plD p)
def rdK (r : Rd) : Key × D := (.inr r.nm, rdD r)
/-- the net at n: its places at p, its roads at r -/
structure NetM (M : Mem) (n : Nat) (N : Nt) (p r : Nat) : Prop where
  ins : M[n]? = some (.ins "Net" (NF (.int N.h) (pD N.s) (pD N.t) (.ref p) (.ref r)))
  pl : M[p]? = some (.dct false (N.ps.map plK))
  rd : M[r]? = some (.dct false (N.rs.map rdK))
theorem NetM.kp {M M' : Mem} {n p r : Nat} {N : Nt} {S : List Nat} (h : NetM M n N p r) (k : Kp S M M') (h1 : n ∉ S) (h2 : p ∉ S) (h3 : r ∉ S) : NetM M' n N p r := ⟨k.at_ _ _ h1 h.ins, k.at_ _ _ h2 h.pl, k.at_ _ _ h3 h.rd⟩
theorem NetM.app {M l : Mem} {n p r : Nat} {N : Nt} (h : NetM M n N p r) : NetM (M ++ l) n N p r := h.kp (S := []) .app (by simp) (by simp) (by simp)
theorem NetM.np {M : Mem} {n p r : Nat} {N : Nt} (h : NetM M n N p r) : n ≠ p := fun e => by have := h.ins; rw [e, h.pl] at this; cases this
theorem NetM.nr {M : Mem} {n p r : Nat} {N : Nt} (h : NetM M n N p r) : n ≠ r := fun e => by have := h.ins; rw [e, h.rd] at this; cases this
def findP (ps : List Pl) (nm : Str) : Option Pl := ps.find? fun q => decide (q.nm = nm)
def findR (rs : List Rd) (nm : Str) : Option Rd := rs.find? fun q => decide (q.nm = nm)
def putP (ps : List Pl) (p : Pl) : List Pl := if (ps.any fun q => decide (q.nm = p.nm)) = true then ps.map fun q => if q.nm = p.nm then p else q else ps ++ [p]
def putR (ps : List Rd) (p : Rd) : List Rd := if (ps.any fun q => decide (q.nm = p.nm)) = true then ps.map fun q => if q.nm = p.nm then p else q else ps ++ [p]
theorem getP {ps : List Pl} {nm : Str} : dget (ps.map plK) (.inr nm) = (findP ps nm).map plD := by
  unfold dget findP
  rw [List.find?_map]
  have e : ((fun kv : Key × D => decide (kv.1 = .inr nm)) ∘ plK) = fun q : Pl => decide (q.nm = nm) := by
    funext q; simp [plK]
  rw [e, Option.map_map]; rfl
theorem getR {ps : List Rd} {nm : Str} : dget (ps.map rdK) (.inr nm) = (findR ps nm).map rdD := by
  unfold dget findR
  rw [List.find?_map]
  have e : ((fun kv : Key × D => decide (kv.1 = .inr nm)) ∘ rdK) = fun q : Rd => decide (q.nm = nm) := by
    funext q; simp [rdK]
  rw [e, Option.map_map]; rfl
theorem putP_K {ps : List Pl} {p : Pl} : dput (ps.map plK) (.inr p.nm) (plD p) = (putP ps p).map plK := by
  unfold dput putP
  have e : ((ps.map plK).any fun kv => decide (kv.1 = .inr p.nm)) = ps.any fun q => decide (q.nm = p.nm) := by
    rw [List.any_map]; congr 1; funext q; simp [plK]
  rw [e]
  split
  · rw [List.map_map, List.map_map]
    refine List.map_congr_left fun q _ => ?_
    by_cases hq : q.nm = p.nm <;> simp [plK, hq]
  · simp [plK]
theorem putR_K {ps : List Rd} {p : Rd} : dput (ps.map rdK) (.inr p.nm) (rdD p) = (putR ps p).map rdK := by
  unfold dput putR
  have e : ((ps.map rdK).any fun kv => decide (kv.1 = .inr p.nm)) = ps.any fun q => decide (q.nm = p.nm) := by
    rw [List.any_map]; congr 1; funext q; simp [rdK]
  rw [e]
  split
  · rw [List.map_map, List.map_map]
    refine List.map_congr_left fun q _ => ?_
    by_cases hq : q.nm = p.nm <;> simp [rdK, hq]
  · simp [rdK]
/-- one or the other -/
def OnS {α : Type} (o : Option α) (a : α → Prop) (b : Prop) : Prop := match o with
  | some q => a q
  | none => b
theorem OnS.some {α : Type} {q : α} {a : α → Prop} {b : Prop} (h : a q) : OnS (.some q) a b := h
theorem OnS.none {α : Type} {a : α → Prop} {b : Prop} (h : b) : OnS .none a b := h
theorem En.nil {Q : DK} {X : XM} {M : Mem} (h : Q .non M) : En Q X M none := h
/-- what a deed on the net at n comes to -/
def De (Q : DK) (X : XM) (M : Mem) (n : Nat) (o : Option Exn) (N : Nt) : Prop := match o with
  | some e => X e M
  | none => ∀ M' p r, Kp [n] M M' → NetM M' n N p r → Q .non M'
theorem De.step {Q Q' : DK} {X : XM} {M : Mem} {n : Nat} {N : Nt} {r r2 : Option Exn} (h : De Q X M n (r.or r2) N) (k : r = none → De Q X M n r2 N → Q' .non M) : En Q' X M r := by
  cases r with
  | none => exact k rfl h
  | some e => exact h
structure NOk (N : Nt) : Prop where
  s : Tame N.s
  t : Tame N.t
  pl : N.ps.length < 1000
  rl : N.rs.length < 1000
  h0 : 0 ≤ N.h
  h1 : N.h < 1000
end MV
namespace Prf
def xTaken (s : Str) : Exn := xE "Taken" "name" "taken" (.str s)
def xNoPlace (s : Str) : Exn := xE "NoPlace" "name" "no place" (.str s)
def xNoRoad (s : Str) : Exn := xE "NoRoad" "name" "no road" (.str s)
def xTooMany (k : Int) : Exn := xE "TooMany" "most" "too many" (.int k)
def rFresh (N : Nt) (s : Str) : Option Exn := (rName s).or (if ((findP N.ps s).isSome || (findR N.rs s).isSome) = true then some (xTaken s) else none)
theorem l_fresh {M : Mem} {Q : DK} {X : XM} {n p r : Nat} {N : Nt} {s : Str} (hN : NetM M n N p r) (hl : s.length ≤ 1000000) (h : En Q X M (rFresh N s)) : w_Net_fresh [.ref n, .str s] M Q X := by
  obtain ⟨h1, h2, h3⟩ := hN
  show m_Net_fresh _ [some (.ref n), some (.str s)] M
  unfold m_Net_fresh
  walk_at "ml"
  refine l_name hl (h.step fun _ h => ?_)
  walk_at "ml"
  rw [getP, Option.isSome_map]
  cases hp : (findP N.ps s).isSome with
  | true =>
    rw [hp] at h
    walk_at "ml"
    exact ⟨rfl, h⟩
  | false =>
    rw [hp] at h
    walk_at "ml"
    rw [getR, Option.isSome_map]
    cases hr : (findR N.rs s).isSome with
    | true =>
      rw [hr] at h
      walk_at "ml"
      exact ⟨rfl, h⟩
    | false =>
      rw [hr] at h
      walk_at "ml"
      exact h
theorem l_known {M : Mem} {Q : DK} {X : XM} {n p r : Nat} {N : Nt} {s : Str} (hN : NetM M n N p r) (h : OnS (findP N.ps s) (fun q => Q (plD q) M) (X (xNoPlace s) M)) : w_Net_known [.ref n, .str s] M Q X := by
  obtain ⟨h1, h2, h3⟩ := hN
  show m_Net_known _ [some (.ref n), some (.str s)] M
  unfold m_Net_known
  walk_at "ml"
  rw [getP, Option.isSome_map]
  cases hp : findP N.ps s with
  | none =>
    rw [hp] at h
    refine if_t ?_
    walk_at "ml"
    exact ⟨rfl, h⟩
  | some q =>
    rw [hp] at h
    refine if_f ?_
    walk_at "ml"
    refine o_ixD (x := .str s) (k := .inr s) h2 rfl (by rw [getP, hp]; rfl) ?_
    exact h
theorem l_place_told {M : Mem} {Q : DK} {X : XM} {n p r : Nat} {N : Nt} {s : Str} (hN : NetM M n N p r) (h : OnS (findP N.ps s) (fun q => Q (plD q) M) (X (xNoPlace s) M)) : w_Net_place_told [.ref n, .str s] M Q X := by
  have h1 := hN.ins
  show m_Net_place_told _ [some (.ref n), some (.str s)] M
  unfold m_Net_place_told
  walk_at "ml"
  exact l_known hN h
theorem l_road_told {M : Mem} {Q : DK} {X : XM} {n p r : Nat} {N : Nt} {s : Str} (hN : NetM M n N p r) (h : OnS (findR N.rs s) (fun q => Q (rdD q) M) (X (xNoRoad s) M)) : w_Net_road_told [.ref n, .str s] M Q X := by
  obtain ⟨h1, h2, h3⟩ := hN
  show m_Net_road_told _ [some (.ref n), some (.str s)] M
  unfold m_Net_road_told
  walk_at "ml"
  rw [getR, Option.isSome_map]
  cases hp : findR N.rs s with
  | none =>
    rw [hp] at h
    refine if_t ?_
    walk_at "ml"
    exact ⟨rfl, h⟩
  | some q =>
    rw [hp] at h
    refine if_f ?_
    walk_at "ml"
    refine o_ixD (x := .str s) (k := .inr s) h3 rfl (by rw [getR, hp]; rfl) ?_
    exact h
theorem l_set_place {M : Mem} {Q : DK} {X : XM} {n p r : Nat} {N : Nt} {q : Pl} (hN : NetM M n N p r) (hk : N.ps.length < 1000) (h : De Q X M n none { N with ps := putP N.ps q }) : w_Net_set_place [.ref n, .str q.nm, plD q] M Q X := by
  have h1 := hN.ins
  have h2 := hN.pl
  show m_Net_set_place _ [some (.ref n), some (.str q.nm), some (plD q), none] M
  unfold m_Net_set_place
  walk_at "ml"
  refine o_setD (x := .str q.nm) (kvs := N.ps.map plK) (k := .inr q.nm) mnew rfl (by simp; omega) ?_
  rw [putP_K]
  have e : (M ++ [O.dct false (N.ps.map plK)]).set M.length (.dct false ((putP N.ps q).map plK)) = M ++ [.dct false ((putP N.ps q).map plK)] := by simp
  rw [e]
  dsimp only
  refine x_setFldV (y := .ref M.length) ?_ ?_ hN.app.ins ?_ ?_ pf_p ?_
  · intro _ _ h; walk_at "ml"; exact h
  · rfl
  · decide +kernel
  · exact Nat.le_of_ble_eq_true rfl
  have hn := mlt h1
  refine h _ M.length r ((Kp.app (S := [n])).trans (.set (by simp))) ⟨?_, ?_, ?_⟩
  · rw [msame hN.app.ins]
  · rw [List.getElem?_set_ne (by omega)]; exact mnew
  · rw [List.getElem?_set_ne hN.nr]; exact hN.app.rd
end Prf

namespace MV
theorem De.mono {Q : DK} {X : XM} {M M1 : Mem} {n : Nat} {N : Nt} (h : De Q X M n none N) (k : Kp [n] M M1) : De Q X M1 n none N := fun M' p r k' hN => h M' p r (k.trans k') hN
/-- what the making of a net comes to -/
def MkE (Q : DK) (X : XM) (M : Mem) (o : Option Exn) (N : Nt) : Prop := match o with
  | some e => X e (M ++ [.ins "Net" []])
  | none => ∀ M' p r, Kp [] M M' → NetM M' M.length N p r → Q .non M'
end MV
namespace Prf
def xBadHours (h : Int) : Exn := xE "BadHours" "number" "bad hours" (.int h)
def rInit (h : Int) (s t : Int × Int) : Option Exn := (if 1 ≤ h ∧ h ≤ 6 then none else some (xBadHours h)).or ((rBox 1000000 "s" s).or (rBox 1000000 "t" t))
theorem l_init {M : Mem} {Q : DK} {X : XM} {h : Int} {s t : Int × Int} (k : MkE Q X M (rInit h s t) ⟨h, s, t, [], []⟩) : w_Net_UinitU [.ref M.length, .int h, pD s, pD t] (M ++ [.ins "Net" []]) Q X := by
  show m_Net_UinitU _ [some (.ref M.length), some (.int h), some (pD s), some (pD t)] (M ++ [.ins "Net" []])
  unfold m_Net_UinitU
  unfold rInit at k
  iterate 4 walk_at "mx"
  refine x_chI (x := 1) (y := h) (z := 6) (fun _ h => by walk_at "ml"; exact h) (fun _ h => by walk_at "ml"; exact h) (fun _ h => by walk_at "ml"; exact h) ?_
  refine if_n (fun hc => ?_) (fun hc => ?_)
  · rw [if_neg hc] at k
    walk_at "ml"
    exact ⟨rfl, k⟩
  rw [if_pos hc] at k
  replace k : MkE Q X M ((rBox 1000000 "s" s).or (rBox 1000000 "t" t)) ⟨h, s, t, [], []⟩ := k
  walk_at "ml"
  refine l_box ?_
  cases h1 : rBox 1000000 "s" s with
  | some e => rw [h1] at k; exact k
  | none =>
  rw [h1] at k
  refine En.nil ?_
  walk_at "ml"
  refine l_box ?_
  cases h2 : rBox 1000000 "t" t with
  | some e => rw [h2] at k; exact k
  | none =>
  rw [h2] at k
  refine En.nil ?_
  replace k : ∀ M' p r, Kp [] M M' → NetM M' M.length ⟨h, s, t, [], []⟩ p r → Q .non M' := k
  have e0 : (M ++ [O.ins "Net" []])[M.length]? = some (.ins "Net" []) := mnew
  have k0 : Kp [] M (M ++ [O.ins "Net" []]) := .app
  dsimp only
  generalize M ++ [O.ins "Net" []] = M0 at e0 k0 ⊢
  walk_at "mx"
  refine x_setFldV (y := .int h) (fs' := [("hours", .int h)]) ?_ ?_ e0 ?_ ?_ rfl ?_
  · intro _ _ h; walk_at "ml"; exact h
  · rfl
  · decide +kernel
  · exact Nat.le_of_ble_eq_true rfl
  have e1 := msame (o' := .ins "Net" [("hours", .int h)]) e0
  have k1 := k0.setNew (o := .ins "Net" [("hours", .int h)]) (Nat.le_refl _)
  generalize M0.set M.length (.ins "Net" [("hours", .int h)]) = M1 at e1 k1 ⊢
  walk_at "mx"
  refine x_setFldV (y := pD s) (fs' := [("hours", .int h), ("s_box", pD s)]) ?_ ?_ e1 ?_ ?_ rfl ?_
  · intro _ _ h; walk_at "ml"; exact h
  · rfl
  · decide +kernel
  · exact Nat.le_of_ble_eq_true rfl
  have e2 := msame (o' := .ins "Net" [("hours", .int h), ("s_box", pD s)]) e1
  have k2 := k1.setNew (o := .ins "Net" [("hours", .int h), ("s_box", pD s)]) (Nat.le_refl _)
  generalize M1.set M.length (.ins "Net" [("hours", .int h), ("s_box", pD s)]) = M2 at e2 k2 ⊢
  walk_at "mx"
  refine x_setFldV (y := pD t) (fs' := [("hours", .int h), ("s_box", pD s), ("t_box", pD t)]) ?_ ?_ e2 ?_ ?_ rfl ?_
  · intro _ _ h; walk_at "ml"; exact h
  · rfl
  · decide +kernel
  · exact Nat.le_of_ble_eq_true rfl
  have e3 := msame (o' := .ins "Net" [("hours", .int h), ("s_box", pD s), ("t_box", pD t)]) e2
  have k3 := k2.setNew (o := .ins "Net" [("hours", .int h), ("s_box", pD s), ("t_box", pD t)]) (Nat.le_refl _)
  generalize M2.set M.length (.ins "Net" [("hours", .int h), ("s_box", pD s), ("t_box", pD t)]) = M3 at e3 k3 ⊢
  walk_at "mx"
  with_reducible refine x_setFld ?_
  walk_at "ml"
  have e4 := (Kp.app (S := []) (l := [O.dct false []])).at_ _ _ (by simp) e3
  have k4 := k3.trans (Kp.app (l := [O.dct false []]))
  have p4 : (M3 ++ [O.dct false []])[M3.length]? = some (.dct false []) := mnew
  have n4 := mlt e3
  show match (M3 ++ [O.dct false []])[M.length]? with | some (.ins c fs) => _ | _ => False
  generalize M3 ++ [O.dct false []] = M4 at e4 k4 p4 ⊢
  rw [e4]
  refine ⟨by decide +kernel, Nat.le_of_ble_eq_true rfl, ?_⟩
  have e5 := msame (o' := .ins "Net" [("hours", .int h), ("s_box", pD s), ("t_box", pD t), ("places", .ref M3.length)]) e4
  have k5 := k4.setNew (o := .ins "Net" [("hours", .int h), ("s_box", pD s), ("t_box", pD t), ("places", .ref M3.length)]) (Nat.le_refl _)
  have p5 : (M4.set M.length (.ins "Net" [("hours", .int h), ("s_box", pD s), ("t_box", pD t), ("places", .ref M3.length)]))[M3.length]? = some (.dct false []) := by rw [List.getElem?_set_ne (by omega)]; exact p4
  dsimp only
  show mSetFld _ _ _ _ _ _ (M4.set M.length (.ins "Net" [("hours", .int h), ("s_box", pD s), ("t_box", pD t), ("places", .ref M3.length)]))
  generalize M4.set M.length (.ins "Net" [("hours", .int h), ("s_box", pD s), ("t_box", pD t), ("places", .ref M3.length)]) = M5 at e5 k5 p5 ⊢
  with_reducible refine x_setFld ?_
  walk_at "ml"
  have e6 := (Kp.app (S := []) (l := [O.dct false []])).at_ _ _ (by simp) e5
  have k6 := k5.trans (Kp.app (l := [O.dct false []]))
  have q6 : (M5 ++ [O.dct false []])[M5.length]? = some (.dct false []) := mnew
  have p6 := (Kp.app (S := []) (l := [O.dct false []])).at_ _ _ (by simp) p5
  have n6 := mlt e5
  show match (M5 ++ [O.dct false []])[M.length]? with | some (.ins c fs) => _ | _ => False
  generalize M5 ++ [O.dct false []] = M6 at e6 k6 p6 q6 ⊢
  rw [e6]
  refine ⟨by decide +kernel, Nat.le_of_ble_eq_true rfl, ?_⟩
  refine k _ M3.length M5.length (k6.setNew (Nat.le_refl _)) ⟨msame e6, ?_, ?_⟩
  · rw [List.getElem?_set_ne (by omega)]; exact p6
  · rw [List.getElem?_set_ne (by omega)]; exact q6
def newPl (N : Nt) (s : Str) : Pl := ⟨s, none, some (0, 0), (0, 0), List.replicate N.h.toNat (0, 0)⟩
def rPlace (N : Nt) (s : Str) : Option Exn := (rFresh N s).or (if 12 ≤ (N.ps.length : Int) then some (xTooMany 12) else none)
theorem fresh_no {N : Nt} {s : Str} (h : rFresh N s = none) : rName s = none ∧ findP N.ps s = none ∧ findR N.rs s = none := by
  unfold rFresh at h
  rw [Option.or_eq_none_iff] at h
  refine ⟨h.1, ?_⟩
  have := h.2
  split at this
  · cases this
  · rename_i hc
    simp at hc
    exact hc
theorem putP_new {ps : List Pl} {q : Pl} (h : findP ps q.nm = none) : putP ps q = ps ++ [q] := by
  unfold putP
  rw [if_neg]
  intro hc
  obtain ⟨x, hx, he⟩ := List.any_eq_true.mp hc
  unfold findP at h
  rw [List.find?_eq_none] at h
  exact h x hx he
theorem putR_new {ps : List Rd} {q : Rd} (h : findR ps q.nm = none) : putR ps q = ps ++ [q] := by
  unfold putR
  rw [if_neg]
  intro hc
  obtain ⟨x, hx, he⟩ := List.any_eq_true.mp hc
  unfold findR at h
  rw [List.find?_eq_none] at h
  exact h x hx he
theorem l_place {M : Mem} {Q : DK} {X : XM} {n p r : Nat} {N : Nt} {s : Str} (hN : NetM M n N p r) (ok : NOk N) (hl : s.length ≤ 1000000) (h : De Q X M n (rPlace N s) { N with ps := N.ps ++ [newPl N s] }) : w_Net_place [.ref n, .str s] M Q X := by
  have h1 := hN.ins
  have h2 := hN.pl
  show m_Net_place _ [some (.ref n), some (.str s), none] M
  unfold m_Net_place
  walk_at "ml"
  refine l_fresh hN hl (h.step fun hf h => ?_)
  walk_at "ml"
  rw [List.length_map]
  refine if_d (fun hc => ?_) (fun hc => ?_)
  · rw [if_pos hc] at h
    walk_at "ml"
    exact ⟨rfl, h⟩
  rw [if_neg hc] at h
  obtain ⟨-, hfp, -⟩ := fresh_no hf
  have hh0 := ok.h0
  have hh1 := ok.h1
  walk_at "ml"
  refine ⟨⟨by omega, by omega⟩, ?_⟩
  refine lc_ix (fun k acc M' => acc = (List.replicate k ((0 : Int), (0 : Int))).map pD ∧ Kp [] M M') (fun _ _ _ _ => trivial) ?_ ?_ (by rw [rng_len]; omega) mnew ⟨rfl, .app⟩
  · rintro i e acc M3 K he h3 ⟨rfl, k3⟩ hK
    walk_at "ml"
    exact hK _ _ h3 ⟨by rw [List.replicate_succ']; simp [pD], k3.setNew (Nat.le_refl _)⟩
  · rintro _ M3 h3 ⟨rfl, k3⟩
    rw [rng_len] at h3
    walk_at "ml"
    have e : putP N.ps (newPl N s) = N.ps ++ [newPl N s] := putP_new hfp
    refine l_set_place (q := newPl N s) (hN.kp k3 (by simp) (by simp) (by simp)) ok.pl ?_
    rw [e]
    exact h.mono (k3.weak (by simp))
def xBadTakes (k : Int) : Exn := xE "BadTakes" "number" "bad takes" (.int k)
def rSetRoad (N : Nt) (q : Rd) : Option Exn := (if 0 ≤ q.takes ∧ q.takes ≤ 9 then none else some (xBadTakes q.takes)).or ((rMove 1000000 q.floor).or ((rRoom q.nm q.floor N.s).or (rRungs 4 1000000 q.nm N.s N.t q.rungs)))
theorem l_set_road {M : Mem} {Q : DK} {X : XM} {n p r : Nat} {N : Nt} {q : Rd} (hN : NetM M n N p r) (ok : NOk N) (hl : q.rungs.length < 1000) (h : De Q X M n (rSetRoad N q) { N with rs := putR N.rs q }) : w_Net_set_road [.ref n, .str q.nm, rdD q] M Q X := by
  have h1 := hN.ins
  have h3 := hN.rd
  show m_Net_set_road _ [some (.ref n), some (.str q.nm), some (.tup [.str q.st, .str q.en, .int q.takes, pD q.floor, .tup (q.rungs.map rungD)]), none] M
  unfold m_Net_set_road
  unfold rSetRoad at h
  iterate 4 walk_at "mx"
  refine x_chI (x := 0) (y := q.takes) (z := 9) (fun _ h => by walk_at "ml"; exact h) (fun _ h => by walk_at "ml"; exact h) (fun _ h => by walk_at "ml"; exact h) ?_
  refine if_n (fun hc => ?_) (fun hc => ?_)
  · rw [if_neg hc] at h
    walk_at "ml"
    exact ⟨rfl, h⟩
  rw [if_pos hc] at h
  replace h : De Q X M n ((rMove 1000000 q.floor).or ((rRoom q.nm q.floor N.s).or (rRungs 4 1000000 q.nm N.s N.t q.rungs))) { N with rs := putR N.rs q } := h
  walk_at "ml"
  refine l_move (h.step fun _ h => ?_)
  walk_at "ml"
  refine l_room ok.s (h.step fun _ h => ?_)
  walk_at "ml"
  refine l_rungs ok.s ok.t hl ?_
  cases hr : rRungs 4 1000000 q.nm N.s N.t q.rungs with
  | some e => rw [hr] at h; exact h
  | none =>
  rw [hr] at h
  refine En.nil ?_
  walk_at "ml"
  have := ok.rl
  refine o_setD (x := .str q.nm) (kvs := N.rs.map rdK) (k := .inr q.nm) mnew rfl (by simp; omega) ?_
  rw [show (D.tup [.str q.st, .str q.en, .int q.takes, pD q.floor, .tup (q.rungs.map rungD)]) = rdD q from rfl, putR_K]
  have e : (M ++ [O.dct false (N.rs.map rdK)]).set M.length (.dct false ((putR N.rs q).map rdK)) = M ++ [.dct false ((putR N.rs q).map rdK)] := by simp
  rw [e]
  dsimp only
  refine x_setFldV (y := .ref M.length) ?_ ?_ hN.app.ins ?_ ?_ pf_r ?_
  · intro _ _ h; walk_at "ml"; exact h
  · rfl
  · decide +kernel
  · exact Nat.le_of_ble_eq_true rfl
  have hn := mlt h1
  refine h _ p M.length ((Kp.app (S := [n])).trans (.set (by simp))) ⟨?_, ?_, ?_⟩
  · rw [msame hN.app.ins]
  · rw [List.getElem?_set_ne hN.np]; exact hN.app.pl
  · rw [List.getElem?_set_ne (by omega)]; exact mnew
def rKnown (N : Nt) (s : Str) : Option Exn := if (findP N.ps s).isSome = true then none else some (xNoPlace s)
theorem de_known {M : Mem} {Q : DK} {X : XM} {n : Nat} {N N' : Nt} {s : Str} {r2 : Option Exn} {A : Pl → Prop} (h : De Q X M n ((rKnown N s).or r2) N') (k : ∀ q, findP N.ps s = some q → De Q X M n r2 N' → A q) : OnS (findP N.ps s) A (X (xNoPlace s) M) := by
  unfold rKnown at h
  cases hp : findP N.ps s with
  | none => rw [hp] at h; exact h
  | some q => rw [hp] at h; exact k q hp h
def rRoad (N : Nt) (q : Rd) : Option Exn := (rFresh N q.nm).or ((rKnown N q.st).or ((rKnown N q.en).or ((if 24 ≤ (N.rs.length : Int) then some (xTooMany 24) else none).or (rSetRoad N q))))
theorem l_road {M : Mem} {Q : DK} {X : XM} {n p r : Nat} {N : Nt} {q : Rd} (hN : NetM M n N p r) (ok : NOk N) (hl : q.rungs.length < 1000) (hs : q.nm.length ≤ 1000000) (h : De Q X M n (rRoad N q) { N with rs := N.rs ++ [q] }) : w_Net_road [.ref n, .str q.nm, .str q.st, .str q.en, .int q.takes, pD q.floor, .tup (q.rungs.map rungD)] M Q X := by
  have h1 := hN.ins
  have h3 := hN.rd
  show m_Net_road _ [some (.ref n), some (.str q.nm), some (.str q.st), some (.str q.en), some (.int q.takes), some (pD q.floor), some (.tup (q.rungs.map rungD))] M
  unfold m_Net_road
  unfold rRoad at h
  walk_at "ml"
  refine l_fresh hN hs (h.step fun hf h => ?_)
  walk_at "ml"
  refine l_known hN (de_known h fun _ _ h => ?_)
  walk_at "ml"
  refine l_known hN (de_known h fun _ _ h => ?_)
  walk_at "ml"
  rw [List.length_map]
  refine if_d (fun hc => ?_) (fun hc => ?_)
  · rw [if_pos hc] at h
    walk_at "ml"
    exact ⟨rfl, h⟩
  rw [if_neg hc] at h
  obtain ⟨-, -, hfr⟩ := fresh_no hf
  rw [← putR_new (q := q) hfr] at h
  walk_at "ml"
  exact l_set_road hN ok hl h
end Prf

namespace MV
theorem any_str {ns : List Str} {s : Str} : ((ns.map D.str).any fun e => deq e (.str s)) = decide (s ∈ ns) := by
  induction ns with
  | nil => rfl
  | cons a l ih =>
    rw [List.map_cons, List.any_cons, ih]
    by_cases h : a = s
    · subst h; simp [deq]
    · have h2 : ¬ s = a := fun e => h e.symm
      by_cases h3 : s ∈ l <;> simp [deq, h, h2, h3]
theorem NetM.off {M : Mem} {n pp rr p q : Nat} {N : Nt} (h : NetM M n N pp rr) (F : Feed M p q) : (n ≠ p ∧ pp ≠ p ∧ rr ≠ p) ∧ n ≠ q ∧ pp ≠ q ∧ rr ≠ q := by
  obtain ⟨cs, i, r, s, g1, g2, _⟩ := F
  refine ⟨⟨?_, ?_, ?_⟩, ?_, ?_, ?_⟩
  · rintro rfl; have := h.ins; rw [g1] at this; cases this
  · rintro rfl; have := h.pl; rw [g1] at this; cases this
  · rintro rfl; have := h.rd; rw [g1] at this; cases this
  · rintro rfl; have := h.ins; rw [g2] at this; cases this
  · rintro rfl; have := h.pl; rw [g2] at this; cases this
  · rintro rfl; have := h.rd; rw [g2] at this; cases this
theorem NetM.fd {M M' : Mem} {n pp rr p q : Nat} {N : Nt} (h : NetM M n N pp rr) (F : Feed M p q) (k : Kp [p] M M') : NetM M' n N pp rr := by
  obtain ⟨⟨a, b, c⟩, _⟩ := h.off F
  exact h.kp k (by simp [a]) (by simp [b]) (by simp [c])
theorem Feed.nt {M M' : Mem} {n pp rr p q : Nat} {N : Nt} (F : Feed M p q) (h : NetM M n N pp rr) (k : Kp [n] M M') : Feed M' p q := by
  obtain ⟨⟨a, b, c⟩, a', b', c'⟩ := h.off F
  exact F.kp k (by simp [a.symm]) (by simp [a'.symm])
theorem app_cps {s t : Str} : (s ++ t).cps = s.cps ++ t.cps := rfl
end MV
namespace Prf
def Z8 : Str := "zzzzzzzz"
theorem z8_size : Z8.cps.size = 8 := by decide +kernel
def W8 : Str := "wwwwwwww"
theorem w8_size : W8.cps.size = 8 := by decide +kernel
/-- a good name of at most k signs, other than eight z or eight w -/
structure Nm (k : Nat) (s : Str) : Prop where
  len : s.cps.size ≤ k
  l : ∃ c r, s.cps.toList = c :: r ∧ c ∈ FIRST.cps.toList ∧ ∀ x ∈ r, x ∈ LATER.cps.toList
  nz : s ≠ Z8
  nw : s ≠ W8
theorem fl_asc : ∀ c ∈ LATER.cps.toList, c < 128 := by decide +kernel
theorem ff_asc : ∀ c ∈ FIRST.cps.toList, c < 128 := by decide +kernel
theorem ff_later : ∀ c ∈ FIRST.cps.toList, c ∈ LATER.cps.toList := by decide +kernel
theorem later_take : LATER.cps.toList.take 26 = FIRST.cps.toList := by decide +kernel
theorem later_size : LATER.cps.size = 36 := by decide +kernel
theorem later_inj : ∀ i < 36, ∀ j < 36, LATER.cps[i]? = LATER.cps[j]? → i = j := by decide +kernel
def Q7 : Str := "qqqqqqq"
theorem q7_nm : Nm 7 Q7 := ⟨by decide +kernel, ⟨113, [113, 113, 113, 113, 113, 113], by decide +kernel, by decide +kernel, by decide +kernel⟩, by decide +kernel, by decide +kernel⟩
theorem q7_size : Q7.cps.size = 7 := by decide +kernel
theorem q7_z {c : Nat} : Q7 ++ ⟨#[c]⟩ ≠ Z8 := fun e => by
  have e1 := congrArg (fun z : Str => z.cps.toList[0]?) e
  have e2 : (Q7 ++ ⟨#[c]⟩).cps.toList[0]? = Q7.cps.toList[0]? := by
    rw [app_cps, Array.toList_append, List.getElem?_append_left (by decide +kernel)]
  have e3 : Q7.cps.toList[0]? ≠ Z8.cps.toList[0]? := by decide +kernel
  exact e3 (e2.symm.trans e1)
theorem q7_w {c : Nat} : Q7 ++ ⟨#[c]⟩ ≠ W8 := fun e => by
  have e1 := congrArg (fun z : Str => z.cps.toList[0]?) e
  have e2 : (Q7 ++ ⟨#[c]⟩).cps.toList[0]? = Q7.cps.toList[0]? := by
    rw [app_cps, Array.toList_append, List.getElem?_append_left (by decide +kernel)]
  have e3 : Q7.cps.toList[0]? ≠ W8.cps.toList[0]? := by decide +kernel
  exact e3 (e2.symm.trans e1)
theorem Nm.app {k : Nat} {s : Str} {c : Nat} (h : Nm k s) (hc : c ∈ LATER.cps.toList) (hk : k < 7 ∨ s = Q7) : Nm (k + 1) (s ++ ⟨#[c]⟩) := by
  obtain ⟨hl, ⟨a, r, e, h1, h2⟩, -, -⟩ := h
  refine ⟨by rw [app_cps, Array.size_append]; simpa using hl, ⟨a, r ++ [c], ?_, h1, ?_⟩, ?_, ?_⟩
  rotate_left 3
  · rcases hk with hk | rfl
    · intro e
      have := congrArg (fun z : Str => z.cps.size) e
      simp only [w8_size, app_cps, Array.size_append] at this
      simp at this
      omega
    · exact q7_w
  rotate_left 2
  · rcases hk with hk | rfl
    · intro e
      have := congrArg (fun z : Str => z.cps.size) e
      simp only [z8_size, app_cps, Array.size_append] at this
      simp at this
      omega
    · exact q7_z
  · rw [app_cps, Array.toList_append, e]; rfl
  · intro x hx
    rcases List.mem_append.mp hx with z | z
    · exact h2 x z
    · simp at z; subst z; exact hc
theorem Nm.one {c : Nat} (h : c ∈ FIRST.cps.toList) : Nm 1 ⟨#[c]⟩ := ⟨Nat.le_refl _, ⟨c, [], rfl, h, by simp⟩, fun e => by
  have := congrArg (fun z : Str => z.cps.size) e
  simp only [z8_size] at this
  simp at this, fun e => by
  have := congrArg (fun z : Str => z.cps.size) e
  simp only [w8_size] at this
  simp at this⟩
theorem Nm.mono {k m : Nat} {s : Str} (e : k ≤ m) (h : Nm k s) : Nm m s := ⟨Nat.le_trans h.len e, h.l, h.nz, h.nw⟩
theorem Nm.asc {k : Nat} {s : Str} (h : Nm k s) : Asc k s := ⟨h.len, by
  obtain ⟨a, r, e, h1, h2⟩ := h.l
  intro c hc
  rw [e] at hc
  rcases List.mem_cons.mp hc with rfl | z
  · exact ff_asc _ h1
  · exact fl_asc c (h2 c z)⟩
theorem Nm.pos {k : Nat} {s : Str} (h : Nm k s) : 1 ≤ s.cps.size := by
  obtain ⟨a, r, e, h1, h2⟩ := h.l
  have := congrArg List.length e
  simp at this; omega
theorem Nm.good {s : Str} (h : Nm 8 s) : goodB s = true := by
  have hl : 1 ≤ (s.length : Int) ∧ (s.length : Int) ≤ 8 := by
    have := h.pos; have := h.len
    unfold Str.length; omega
  obtain ⟨a, r, e, h1, h2⟩ := h.l
  unfold goodB
  rw [decide_eq_true hl, e]
  simp only [List.all_cons, decide_eq_true h1, decide_eq_true (ff_later a h1), Bool.and_self, Bool.true_and, List.all_eq_true, decide_eq_true_eq]
  exact h2
theorem Nm.name {s : Str} (h : Nm 8 s) : rName s = none := by unfold rName; rw [if_pos h.good]
theorem sg_first {r : Int} {c : Nat} (r0 : 0 ≤ r) (r1 : r < 26) (h : LATER.cps[r.toNat]? = some c) : c ∈ FIRST.cps.toList := by
  rw [← later_take]
  have : (LATER.cps.toList.take 26)[r.toNat]? = some c := by
    rw [List.getElem?_take, if_pos (by omega)]; simpa using h
  exact List.mem_of_getElem? this
theorem sg_later {r : Nat} {c : Nat} (h : LATER.cps[r]? = some c) : c ∈ LATER.cps.toList := Array.mem_toList_iff.mpr (Array.mem_of_getElem? h)
/-- how names are made -/
def NmBy (i : Nat) (s : Str) : Prop := s.cps.size ≤ 4 ∨ ∃ j c, j < i ∧ LATER.cps[j]? = some c ∧ s = Q7 ++ ⟨#[c]⟩
theorem lnames {M : Mem} {p q : Nat} {m : Int} {Q : DK} {X : XM} (F : Feed M p q) (m0 : 0 ≤ m) (m1 : m ≤ 36)
    (k : ∀ (ns : List Str) (M' : Mem), ns.length = m.toNat → (∀ s ∈ ns, Nm 8 s) → ns.Nodup → Kp [p] M M' → Feed M' p q → M'[M.length]? = some (.lst (ns.map .str)) → Q (.ref M.length) M') : w_Lnames [.ref p, .int m] M Q X := by
  show m_Lnames _ [some (.ref p), some (.int m), none, none, none, none, none] M
  unfold m_Lnames
  have hlen : LATER.length ≤ 1000000 := by decide +kernel
  have sz := later_size
  have hp := F.lt
  have hpl : M.length ∉ [p] := by simp; omega
  walk_at "ml"
  refine ⟨⟨by omega, by omega⟩, ?_⟩
  refine for_ix (fun i ρ M' => ∃ (ns : List Str) (o4 o5 o6 : Option D), ρ = [some (.ref p), some (.int m), some (.str LATER), some (.ref M.length), o4, o5, o6] ∧ ns.length = i ∧ (∀ s ∈ ns, Nm 8 s) ∧ ns.Nodup ∧ (∀ s ∈ ns, NmBy i s) ∧ Kp [p] M M' ∧ Feed M' p q ∧ M'[M.length]? = some (.lst (ns.map .str))) (fun _ _ _ _ => trivial) ?_ ?_
    ⟨[], _, _, _, rfl, rfl, by simp, by simp, by simp, .app, F.app, mnew⟩
  · rintro ρ M1 ⟨ns, o4, o5, o6, rfl, hn, ha, hd, -, k1, F1, h1⟩
    rw [rng_len] at hn
    walk_at "ml"
    exact k ns M1 hn ha hd k1 F1 h1
  · rintro i d ρ M1 K hd ⟨ns, o4, o5, o6, rfl, hn, ha, hnd, hby, k1, F1, h1⟩ hK
    obtain ⟨rfl, hi⟩ := rng_at hd
    have hi36 : i < 36 := by omega
    walk_at "ml"
    refine ldraw F1 (by decide) (by decide) fun r M2 r0 r1 k2 F2 => ?_
    refine o_ixA hlen r0 (by omega) fun c hc => ?_
    have h2 := k2.at_ _ _ hpl h1
    with_reducible refine x_join (fun ρ M' => ∃ (s : Str) (o6 : Option D), ρ = [some (.ref p), some (.int m), some (.str LATER), some (.ref M.length), some (.int i), some (.str s), o6] ∧ Nm 4 s ∧ Kp [p] M M' ∧ Feed M' p q ∧ M'[M.length]? = some (.lst (ns.map .str))) ?_ ?_
    · intro K2 hK2
      walk_at "ml"
      refine ldraw F2 (by decide) (by decide) fun r' M3 r0' r1' k3 F3 => ?_
      have h3 := k3.at_ _ _ hpl h2
      walk_at "ml"
      refine ⟨⟨by omega, by omega⟩, ?_⟩
      refine for_ix (fun j ρ M' => ∃ (s : Str) (o6 : Option D), ρ = [some (.ref p), some (.int m), some (.str LATER), some (.ref M.length), some (.int i), some (.str s), o6] ∧ Nm (1 + j) s ∧ Kp [p] M M' ∧ Feed M' p q ∧ M'[M.length]? = some (.lst (ns.map .str))) (fun _ _ _ _ => trivial) ?_ ?_
        ⟨_, _, rfl, Nm.one (sg_first r0 r1 hc), (k1.trans k2).trans k3, F3, h3⟩
      · rintro ρ M4 ⟨s, o6, rfl, hs, k4, F4, h4⟩
        rw [rng_len] at hs
        exact hK2 _ _ ⟨s, o6, rfl, hs.mono (by omega), k4, F4, h4⟩
      · rintro j d ρ M4 K3 hd ⟨s, o6, rfl, hs, k4, F4, h4⟩ hK3
        obtain ⟨rfl, hj⟩ := rng_at hd
        walk_at "ml"
        refine ldraw F4 (by decide) (by decide) fun u M5 u0 u1 k5 F5 => ?_
        refine o_ixA hlen u0 (by omega) fun c' hc' => ?_
        refine o_addS (by have := hs.asc.len; have : (⟨#[c']⟩ : Str).length = 1 := rfl; omega) ?_
        exact hK3 _ _ ⟨_, _, rfl, hs.app (sg_later hc') (.inl (by omega)), k4.trans k5, F5, k5.at_ _ _ hpl h4⟩
    · rintro _ M4 ⟨s, o6, rfl, hs, k4, F4, h4⟩
      with_reducible refine x_join (fun ρ M' => ∃ (s : Str), ρ = [some (.ref p), some (.int m), some (.str LATER), some (.ref M.length), some (.int i), some (.str s), o6] ∧ Nm 8 s ∧ s ∉ ns ∧ NmBy (i + 1) s ∧ M' = M4) ?_ ?_
      · intro K2 hK2
        walk_at "ml"
        refine o_inL h4 inOk_strs ?_
        rw [any_str]
        refine if_d (fun hin => ?_) (fun hin => ?_)
        · walk_at "ml"
          refine o_mod (by decide) ?_
          have e36 : (i : Int).fmod 36 = i := by rw [Int.fmod_eq_emod_of_nonneg _ (by decide)]; omega
          rw [e36]
          refine o_ixA hlen (by omega) (by omega) fun c' hc' => ?_
          have hc2 : LATER.cps[i]? = some c' := by simpa using hc'
          refine o_addS (z := ⟨#[c']⟩) (s := Q7) (by have : (⟨#[c']⟩ : Str).length = 1 := rfl; have : Q7.length = 7 := q7_size; omega) ?_
          refine hK2 _ _ ⟨Q7 ++ ⟨#[c']⟩, rfl, q7_nm.app (sg_later hc2) (.inr rfl), ?_, .inr ⟨i, c', by omega, hc2, rfl⟩, rfl⟩
          intro hm
          rcases hby _ hm with h | ⟨j, d, hj, hd, e⟩
          · rw [app_cps, Array.size_append, q7_size] at h
            simp at h
          · have e2 := congrArg (fun z : Str => z.cps.toList) e
            simp only [app_cps, Array.toList_append] at e2
            have e3 := List.append_cancel_left e2
            have e4 : c' = d := by simpa using e3
            have := later_inj i hi36 j (by omega) (by rw [hc2, hd, e4])
            omega
        · walk_at "ml"
          exact hK2 _ _ ⟨_, rfl, hs.mono (by decide), hin, .inl hs.len, rfl⟩
      · rintro _ _ ⟨s, rfl, hs, hni, hby', rfl⟩
        walk_at "ml"
        refine o_app h4 (by simp; omega) ?_
        refine hK _ _ ⟨ns ++ [s], _, _, _, rfl, by simp [hn], ?_, ?_, ?_, k4.setNew (Nat.le_refl _), F4.kp (S := [M.length]) (.set (by simp)) (by simp; omega) (by simp; omega), ?_⟩
        · intro z hz
          rcases List.mem_append.mp hz with h | h
          · exact ha z h
          · simp at h; subst h; exact hs
        · rw [List.nodup_append]
          refine ⟨hnd, by simp, ?_⟩
          intro a ha' b hb
          simp at hb; subst hb
          exact fun e => hni (e ▸ ha')
        · intro z hz
          rcases List.mem_append.mp hz with h | h
          · rcases hby z h with h | ⟨j, d, hj, hd⟩
            · exact .inl h
            · exact .inr ⟨j, d, by omega, hd⟩
          · simp at h; subst h; exact hby'
        · rw [msame h4]; simp
end Prf

namespace MV
theorem eqB_fine {x y : D} {M : Mem} {k : Bool → Prop} (h1 : fine 20 x = true) (h2 : fine 20 y = true) (q : k (deq x y)) : oEqB x y M k := by
  have eb : ∀ a b : Str, (a == b) = decide (a = b) := fun a b => by by_cases h : a = b <;> simp [h]
  have ei : ∀ a b : Int, (a == b) = decide (a = b) := fun a b => by by_cases h : a = b <;> simp [h]
  unfold oEqB
  split
  · rw [show deq (.str _) (.str _) = (_ == _) from by unfold deq; rfl, eb] at q; exact q
  · rw [show deq (.int _) (.int _) = (_ == _) from by unfold deq; rfl, ei] at q; exact q
  · exact ⟨_, _, see_fine h1, see_fine h2, by rw [eqv_deq 20 h1 h2]; exact q⟩
theorem fine_int {k : Nat} {i : Int} : fine k (.int i) = true := by cases k <;> rfl
theorem fine_non {k : Nat} : fine k .non = true := by cases k <;> rfl
theorem fine_asc {k n : Nat} {s : Str} (h : Asc n s) : fine k (.str s) = true := by cases k <;> exact h.ok
theorem fine_tup {k : Nat} {ds : List D} : fine (k + 1) (.tup ds) = ds.all (fine k) := rfl
theorem fine_pD {k : Nat} {m : Int × Int} : fine (k + 1) (pD m) = true := by simp [pD, fine_tup, fine_int]
theorem fine_om {k : Nat} {m : Option (Int × Int)} : fine (k + 1) (omD m) = true := by cases m <;> simp [omD, fine_pD, fine_non]
theorem deq_om {o : Option (Int × Int)} {m : Int × Int} : deq (omD o) (pD m) = decide (o = some m) := by
  cases o with
  | none => simp [omD, pD, deq]
  | some x =>
    obtain ⟨a, b⟩ := x
    obtain ⟨c, d⟩ := m
    by_cases h1 : a = c <;> by_cases h2 : b = d <;> simp [omD, pD, deq, deqL, h1, h2]
theorem ne_om {o : Option (Int × Int)} {m : Int × Int} {M : Mem} {Q : DK} (q : Q (.bl (!decide (o = some m))) M) : oNe (omD o) (pD m) M Q := eqB_fine fine_om fine_pD (by rw [deq_om]; exact q)
/-- a whole number's text -/
def iS (i : Int) : Str := (toString i : String)
theorem iS_list (i : Int) : (iS i).cps.toList = (if i < 0 then [45] else []) ++ (Nat.toDigits 10 i.natAbs).map Char.toNat := by
  unfold iS
  rw [PyProof.Rows.signs_ofString]
  cases i with
  | ofNat n =>
    have : ¬ ((Int.ofNat n) < 0) := by simp
    rw [if_neg this]
    show (Nat.repr n).toList.map Char.toNat = _
    rw [Nat.toList_repr]; rfl
  | negSucc n =>
    have : (Int.negSucc n) < 0 := Int.negSucc_lt_zero n
    rw [if_pos this]
    show (("-" : String) ++ Nat.repr (n + 1)).toList.map Char.toNat = _
    rw [String.toList_append, Nat.toList_repr]
    rfl
theorem digit_asc {n : Nat} {c : Nat} (h : c ∈ (Nat.toDigits 10 n).map Char.toNat) : c < 128 := by
  obtain ⟨ch, hch, e⟩ := List.mem_map.mp h
  have r := PyProof.Rows.digit_range (Nat.isDigit_of_mem_toDigits (by decide) (by decide) hch)
  omega
theorem iS_asc {i : Int} {k : Nat} (hk : 1 ≤ k) (h : i.natAbs < 10 ^ k) : Asc (k + 1) (iS i) := by
  have e := iS_list i
  refine ⟨?_, fun c hc => ?_⟩
  · have l := congrArg List.length e
    have d := PyProof.Rows.digits10_le hk h
    simp at l
    rw [l]
    split <;> simp <;> omega
  · rw [e] at hc
    rcases List.mem_append.mp hc with z | z
    · split at z <;> simp at z
      omega
    · exact digit_asc z
def Mv (m : Int × Int) : Prop := m.1.natAbs ≤ 1000000 ∧ m.2.natAbs ≤ 1000000
theorem Mv.s1 {m : Int × Int} (h : Mv m) : Asc 8 (iS m.1) := iS_asc (k := 7) (by decide) (by have := h.1; omega)
theorem Mv.s2 {m : Int × Int} (h : Mv m) : Asc 8 (iS m.2) := iS_asc (k := 7) (by decide) (by have := h.2; omega)
theorem Mv.s3 {m : Int × Int} (h : Mv m) : Asc 8 (iS (-m.2)) := iS_asc (k := 7) (by decide) (by have := h.2; omega)
def oMv (o : Option (Int × Int)) : Prop := ∀ m, o = some m → Mv m
inductive Parts (ρ : Ev) (M : Mem) (X : XM) : List ME → List Str → Prop
  | nil : Parts ρ M X [] []
  | cons {m : ME} {y : Str} {ms : List ME} {ys : List Str} : (∀ Q : DK, Q (.str y) M → m ρ M Q X) → Parts ρ M X ms ys → Parts ρ M X (m :: ms) (y :: ys)
theorem o_ext {n m : Nat} {ds es : List D} {M : Mem} {Q : DK} (e1 : M[n]? = some (.lst ds)) (e2 : M[m]? = some (.lst es)) (hl : ds.length + es.length ≤ 16000000) (q : Q .non (M.set n (.lst (ds ++ es)))) : omExtend (.ref n) [.ref m] M Q := by
  unfold omExtend; dsimp only; rw [e1, e2]; exact ⟨hl, q⟩
end MV
namespace Prf
end Prf

namespace MV
structure PlOk (p : Pl) : Prop where
  nm : Asc 8 p.nm
  room : oMv p.room
  kept : oMv p.kept
  price : Mv p.price
  wants : ∀ m ∈ p.wants, Mv m
  wl : p.wants.length ≤ 6
structure RdOk (r : Rd) : Prop where
  nm : Asc 8 r.nm
  st : Asc 8 r.st
  en : Asc 8 r.en
  takes : 0 ≤ r.takes ∧ r.takes ≤ 9
  floor : Mv r.floor
  rungs : ∀ g ∈ r.rungs, oMv g.1 ∧ Mv g.2
  rl : r.rungs.length ≤ 4
structure NtOk (N : Nt) : Prop where
  h : 1 ≤ N.h ∧ N.h ≤ 6
  s : Mv N.s
  t : Mv N.t
  ps : ∀ p ∈ N.ps, PlOk p
  rs : ∀ r ∈ N.rs, RdOk r
  pl : N.ps.length ≤ 12
  rl : N.rs.length ≤ 24
  pn : (N.ps.map (·.nm)).Nodup
  rn : (N.rs.map (·.nm)).Nodup
theorem Mv.tame {m : Int × Int} (h : Mv m) : Tame m := ⟨by have := h.1; omega, by have := h.2; omega⟩
/-- row lengths -/
def Sh (ys : List Str) : Prop := ∀ y ∈ ys, y.length ≤ 400
theorem Sh.app {a b : List Str} (h1 : Sh a) (h2 : Sh b) : Sh (a ++ b) := fun y hy => (List.mem_append.mp hy).elim (h1 y) (h2 y)
end MV
namespace Prf
theorem l_place_names {M : Mem} {Q : DK} {X : XM} {n p r : Nat} {N : Nt} (hN : NetM M n N p r) (k : Q (.ref M.length) (M ++ [.lst (N.ps.map fun q => .str q.nm)])) : w_Net_place_names [.ref n] M Q X := by
  obtain ⟨h1, h2, h3⟩ := hN
  show m_Net_place_names _ [some (.ref n)] M
  unfold m_Net_place_names
  walk_at "ml"
  rw [List.map_map]
  exact k
theorem l_road_names {M : Mem} {Q : DK} {X : XM} {n p r : Nat} {N : Nt} (hN : NetM M n N p r) (k : Q (.ref M.length) (M ++ [.lst (N.rs.map fun q => .str q.nm)])) : w_Net_road_names [.ref n] M Q X := by
  obtain ⟨h1, h2, h3⟩ := hN
  show m_Net_road_names _ [some (.ref n)] M
  unfold m_Net_road_names
  walk_at "ml"
  rw [List.map_map]
  exact k
theorem find_at {ps : List Pl} {q : Pl} (hn : (ps.map (·.nm)).Nodup) (h : q ∈ ps) : findP ps q.nm = some q := by
  induction ps with
  | nil => simp at h
  | cons a l ih =>
    simp only [List.map_cons, List.nodup_cons] at hn
    unfold findP
    rw [List.find?_cons]
    by_cases e : a.nm = q.nm
    · rcases List.mem_cons.mp h with rfl | h
      · simp
      · exact absurd (e ▸ List.mem_map_of_mem h) hn.1
    · rcases List.mem_cons.mp h with rfl | h
      · exact absurd rfl e
      · simp only [e, decide_false]
        exact ih hn.2 h
theorem find_atR {ps : List Rd} {q : Rd} (hn : (ps.map (·.nm)).Nodup) (h : q ∈ ps) : findR ps q.nm = some q := by
  induction ps with
  | nil => simp at h
  | cons a l ih =>
    simp only [List.map_cons, List.nodup_cons] at hn
    unfold findR
    rw [List.find?_cons]
    by_cases e : a.nm = q.nm
    · rcases List.mem_cons.mp h with rfl | h
      · simp
      · exact absurd (e ▸ List.mem_map_of_mem h) hn.1
    · rcases List.mem_cons.mp h with rfl | h
      · exact absurd rfl e
      · simp only [e, decide_false]
        exact ih hn.2 h
end Prf

namespace MV
def plL (p : Pl) (y : Nat) : List D := [.str p.nm, omD p.room, omD p.kept, pD p.price, .ref y]
def rdL (r : Rd) : List D := [.str r.nm, .str r.st, .str r.en, .int r.takes, pD r.floor, .tup (r.rungs.map rungD)]
def toldK (N : Nt) (a b : Nat) (ex : List (Key × D)) : List (Key × D) := [(.inr "hours", .int N.h), (.inr "s", pD N.s), (.inr "t", pD N.t), (.inr "places", .ref a), (.inr "roads", .ref b)] ++ ex
structure ToldM (M : Mem) (m : Nat) (N : Nt) (a b : Nat) (pa : List (Nat × Nat)) (rb : List Nat) (ex : List (Key × D)) : Prop where
  dct : M[m]? = some (.dct false (toldK N a b ex))
  pl : M[a]? = some (.lst (pa.map fun x => .ref x.1))
  rd : M[b]? = some (.lst (rb.map .ref))
  pz : pa.length = N.ps.length
  rz : rb.length = N.rs.length
  pp : ∀ (i : Nat) (x : Nat × Nat) (p : Pl), pa[i]? = some x → N.ps[i]? = some p → M[x.1]? = some (.lst (plL p x.2)) ∧ M[x.2]? = some (.lst (p.wants.map pD))
  rr : ∀ (i : Nat) (x : Nat) (r : Rd), rb[i]? = some x → N.rs[i]? = some r → M[x]? = some (.lst (rdL r))
/-- the places where a telling lies -/
def toldAt (m a b : Nat) (pa : List (Nat × Nat)) (rb : List Nat) : List Nat := [m, a, b] ++ pa.map (·.1) ++ pa.map (·.2) ++ rb
theorem ToldM.kp {M M' : Mem} {m : Nat} {N : Nt} {a b : Nat} {pa : List (Nat × Nat)} {rb : List Nat} {ex : List (Key × D)} {S : List Nat} (h : ToldM M m N a b pa rb ex) (k : Kp S M M') (hs : ∀ i ∈ toldAt m a b pa rb, i ∉ S) : ToldM M' m N a b pa rb ex := by
  refine ⟨k.at_ _ _ (hs _ (by simp [toldAt])) h.dct, k.at_ _ _ (hs _ (by simp [toldAt])) h.pl, k.at_ _ _ (hs _ (by simp [toldAt])) h.rd, h.pz, h.rz, ?_, ?_⟩
  · intro i x p hx hp
    obtain ⟨h1, h2⟩ := h.pp i x p hx hp
    have hm := List.mem_of_getElem? hx
    exact ⟨k.at_ _ _ (hs _ (by simp only [toldAt, List.mem_append]; exact .inl (.inl (.inr (List.mem_map_of_mem hm)))) ) h1, k.at_ _ _ (hs _ (by simp only [toldAt, List.mem_append]; exact .inl (.inr (List.mem_map_of_mem hm)))) h2⟩
  · intro i x r hx hr
    have hm := List.mem_of_getElem? hx
    exact k.at_ _ _ (hs _ (by simp only [toldAt, List.mem_append]; exact .inr hm)) (h.rr i x r hx hr)
section
variable {N : Nt} {a b : Nat} {ex : List (Key × D)}
end
theorem o_ixK {M : Mem} {Q : DK} {p : Nat} {kvs : List (Key × D)} {lk : Bool} {z : Str} {d : D} (e : M[p]? = some (.dct lk kvs)) (hd : dget kvs (.inr z) = some d) (h : Q d M) : oIx (.ref p) (.str z) M Q := o_ixD (x := .str z) (k := .inr z) e rfl hd h
end MV
namespace Prf
end Prf

namespace MV
/-- a small room that is nowhere below nought between two settings -/
structure RmOk (b m : Int × Int) : Prop where
  a1 : m.1.natAbs ≤ 1000
  b1 : m.2.natAbs ≤ 100
  l : 0 ≤ m.1 + m.2 * b.1
  h : 0 ≤ m.1 + m.2 * b.2
theorem RmOk.mv {b m : Int × Int} (h : RmOk b m) : Mv m := ⟨by have := h.a1; omega, by have := h.b1; omega⟩
/-- a small box -/
def SmB (b : Int × Int) : Prop := b.1.natAbs ≤ 50 ∧ b.2.natAbs ≤ 50 ∧ b.1 ≤ b.2
theorem SmB.tame {b : Int × Int} (h : SmB b) : Tame b := ⟨by have := h.1; omega, by have := h.2.1; omega⟩
theorem SmB.mv {b : Int × Int} (h : SmB b) : Mv b := ⟨by have := h.1; omega, by have := h.2.1; omega⟩
end MV
namespace Prf
/-- a place as the law makes it -/
structure PlMk (b : Int × Int) (h : Int) (p : Pl) : Prop where
  room : ∀ m, p.room = some m → RmOk b m
  kept : ∀ m, p.kept = some m → RmOk b m
  price : p.price.1.natAbs ≤ 100 ∧ p.price.2.natAbs ≤ 100
  none : p.kept = some (0, 0) → p.price = (0, 0)
  wants : p.wants = List.replicate h.toNat (0, 0)
/-- rungs as the law makes them -/
structure RgMk (s t : Int × Int) (rs : List Rung) : Prop where
  len : rs.length = 1 ∨ rs.length = 2
  room : ∀ g ∈ rs, ∀ m, g.1 = some m → RmOk s m
  price : ∀ g ∈ rs, g.2.1.natAbs ≤ 3000 ∧ g.2.2.natAbs ≤ 300
  first : ∀ g ∈ rs.dropLast, g.1 ≠ none
  rise : ∀ g h, rs = [g, h] → RmOk t (h.2.1 - g.2.1, h.2.2 - g.2.2)
end Prf

namespace Prf
/-- a road as the law makes it -/
structure RdMk (s t : Int × Int) (ns : List Str) (r : Rd) : Prop where
  st : r.st ∈ ns
  en : r.en ∈ ns
  takes : 0 ≤ r.takes ∧ r.takes ≤ 8
  floor : RmOk s r.floor
  rungs : RgMk s t r.rungs
end Prf

namespace MV
/-- a telling, its parts laid one behind the other -/
structure TM (M : Mem) (m : Nat) (N : Nt) (a b : Nat) (pa : List (Nat × Nat)) (rb : List Nat) (ex : List (Key × D)) : Prop where
  t : ToldM M m N a b pa rb ex
  ma : m < a
  ab : a ≠ b ∧ m < b
  ord : ∀ z ∈ pa.map (·.1) ++ pa.map (·.2) ++ rb, m < z ∧ z ≠ a ∧ z ≠ b
  nd : (pa.map (·.1) ++ pa.map (·.2) ++ rb).Nodup
section
variable {M M' : Mem} {m : Nat} {N : Nt} {a b : Nat} {pa : List (Nat × Nat)} {rb : List Nat} {ex : List (Key × D)}
theorem TM.mem (h : TM M m N a b pa rb ex) {i : Nat} (hi : i ∈ toldAt m a b pa rb) : m ≤ i := by
  have h1 := h.ma
  have h2 := h.ab
  simp only [toldAt, List.append_assoc, List.mem_append, List.mem_cons, List.not_mem_nil, or_false] at hi
  rcases hi with (rfl | rfl | rfl) | hi
  · omega
  · omega
  · omega
  · have := h.ord i (by simp only [List.append_assoc, List.mem_append]; exact hi)
    omega
theorem TM.kp (h : TM M m N a b pa rb ex) {S : List Nat} (k : Kp S M M') (hs : ∀ i ∈ S, i < m) : TM M' m N a b pa rb ex :=
  ⟨h.t.kp k fun i hi hS => by have := h.mem hi; have := hs i hS; omega, h.ma, h.ab, h.ord, h.nd⟩
/-- nothing that is no list or dict of the telling is changed -/
theorem TM.ins (h : TM M m N a b pa rb ex) {n : Nat} {c : Str} {fs : List (Str × D)} (hn : M[n]? = some (.ins c fs)) (k : Kp [n] M M') : TM M' m N a b pa rb ex := by
  refine ⟨h.t.kp k fun i hi hS => ?_, h.ma, h.ab, h.ord, h.nd⟩
  simp at hS
  subst hS
  simp only [toldAt, List.append_assoc, List.mem_append, List.mem_cons, List.not_mem_nil, or_false] at hi
  rcases hi with (rfl | rfl | rfl) | hi | hi | hi
  · rw [h.t.dct] at hn; cases hn
  · rw [h.t.pl] at hn; cases hn
  · rw [h.t.rd] at hn; cases hn
  · obtain ⟨x, hx, rfl⟩ := List.mem_map.mp hi
    obtain ⟨j, hj⟩ := List.getElem?_of_mem hx
    have hl : j < N.ps.length := by rw [← h.t.pz]; exact (List.getElem?_eq_some_iff.mp hj).1
    rw [(h.t.pp j x _ hj (List.getElem?_eq_getElem hl)).1] at hn; cases hn
  · obtain ⟨x, hx, rfl⟩ := List.mem_map.mp hi
    obtain ⟨j, hj⟩ := List.getElem?_of_mem hx
    have hl : j < N.ps.length := by rw [← h.t.pz]; exact (List.getElem?_eq_some_iff.mp hj).1
    rw [(h.t.pp j x _ hj (List.getElem?_eq_getElem hl)).2] at hn; cases hn
  · obtain ⟨j, hj⟩ := List.getElem?_of_mem hi
    have hl : j < N.rs.length := by rw [← h.t.rz]; exact (List.getElem?_eq_some_iff.mp hj).1
    rw [h.t.rr j i _ hj (List.getElem?_eq_getElem hl)] at hn; cases hn
theorem TM.lt (h : TM M m N a b pa rb ex) : ∀ i ∈ toldAt m a b pa rb, i < M.length := by
  intro i hi
  simp only [toldAt, List.append_assoc, List.mem_append, List.mem_cons, List.not_mem_nil, or_false] at hi
  rcases hi with (rfl | rfl | rfl) | hi | hi | hi
  · exact mlt h.t.dct
  · exact mlt h.t.pl
  · exact mlt h.t.rd
  · obtain ⟨x, hx, rfl⟩ := List.mem_map.mp hi
    obtain ⟨j, hj⟩ := List.getElem?_of_mem hx
    have hl : j < N.ps.length := by rw [← h.t.pz]; exact (List.getElem?_eq_some_iff.mp hj).1
    exact mlt (h.t.pp j x _ hj (List.getElem?_eq_getElem hl)).1
  · obtain ⟨x, hx, rfl⟩ := List.mem_map.mp hi
    obtain ⟨j, hj⟩ := List.getElem?_of_mem hx
    have hl : j < N.ps.length := by rw [← h.t.pz]; exact (List.getElem?_eq_some_iff.mp hj).1
    exact mlt (h.t.pp j x _ hj (List.getElem?_eq_getElem hl)).2
  · obtain ⟨j, hj⟩ := List.getElem?_of_mem hi
    have hl : j < N.rs.length := by rw [← h.t.rz]; exact (List.getElem?_eq_some_iff.mp hj).1
    exact mlt (h.t.rr j i _ hj (List.getElem?_eq_getElem hl))
theorem TM.old (h : TM M m N a b pa rb ex) {l : Nat} (hl : M.length ≤ l) : l ∉ pa.map (·.1) ++ pa.map (·.2) ++ rb := fun hc => by
  have := h.lt l (by simp only [toldAt, List.append_assoc, List.mem_append, List.mem_cons]; simp only [List.append_assoc, List.mem_append] at hc; exact .inr hc)
  omega
theorem TM.set {l : Nat} {o : O} (h : TM M m N a b pa rb ex) (hl : ∀ i ∈ toldAt m a b pa rb, i < l) : TM (M.set l o) m N a b pa rb ex :=
  ⟨h.t.kp (S := [l]) (.set (by simp)) fun i hi hc => by have := hl i hi; simp at hc; omega, h.ma, h.ab, h.ord, h.nd⟩
end
end MV

namespace MV
def namesN (N : Nt) : List Str := N.ps.map (·.nm) ++ N.rs.map (·.nm)
end MV
namespace Prf
/-- a net as the law draws it -/
structure BareN (N : Nt) : Prop where
  s : SmB N.s
  t : SmB N.t
  h : 1 ≤ N.h ∧ N.h ≤ 6
  nm : ∀ z ∈ namesN N, Nm 8 z
  nd : (namesN N).Nodup
  ps : ∀ p ∈ N.ps, PlMk N.s N.h p
  rs : ∀ r ∈ N.rs, RdMk N.s N.t (N.ps.map (·.nm)) r
  pl : N.ps.length ≤ 9
  rl : N.rs.length ≤ 9
theorem cut_to {α : Type} {l : List α} {n : Nat} (h : n ≤ l.length) : cutD l none (some (n : Int)) = l.take n := by
  have e1 : HT.sIx l.length 0 none = 0 := rfl
  have e2 : HT.sIx l.length l.length (some (n : Int)) = n := by
    unfold HT.sIx; simp only; rw [if_neg (by omega)]; simp; omega
  unfold cutD
  rw [e1, e2]; simp
end Prf

namespace Prf
theorem cut1 {α : Type} {x : α} {l : List α} : cutD (x :: l) (some 1) none = l := by
  have e1 : HT.sIx (x :: l).length 0 (some 1) = 1 := by simp [HT.sIx]
  have e2 : HT.sIx (x :: l).length (x :: l).length none = (x :: l).length := rfl
  unfold cutD
  rw [e1, e2]
  simp
theorem find_nm {ps : List Pl} {s : Str} {q : Pl} (h : findP ps s = some q) : q.nm = s := by
  unfold findP at h
  simpa using List.find?_some h
theorem de_last {Q Q' : DK} {X : XM} {M : Mem} {n : Nat} {N : Nt} {r : Option Exn} (h : De Q X M n r N) (k : r = none → De Q X M n none N → Q' .non M) : En Q' X M r := by
  cases r with
  | none => exact k rfl h
  | some e => exact h
def rRm (s : Str) (b : Int × Int) (o : Option (Int × Int)) : Option Exn := (oRef (rMove 1000000) o).or (oRef (fun m => rRoom s m b) o)
theorem l_through {M : Mem} {Q : DK} {X : XM} {n p r : Nat} {N : Nt} {s : Str} {o : Option (Int × Int)} (hN : NetM M n N p r) (ok : NOk N) (h : OnS (findP N.ps s) (fun q => De Q X M n (rRm s N.s o) { N with ps := putP N.ps { q with room := o } }) (X (xNoPlace s) M)) : w_Net_through [.ref n, .str s, omD o] M Q X := by
  have h1 := hN.ins
  show m_Net_through _ [some (.ref n), some (.str s), some (omD o), none] M
  unfold m_Net_through
  walk_at "ml"
  refine l_known hN ?_
  cases hp : findP N.ps s with
  | none => rw [hp] at h; exact h
  | some q =>
  rw [hp] at h
  replace h : De Q X M n (rRm s N.s o) { N with ps := putP N.ps { q with room := o } } := h
  have hnm := find_nm hp
  refine OnS.some ?_
  rw [show plD q = .tup [omD q.room, omD q.kept, pD q.price, .tup (q.wants.map pD)] from rfl]
  have fin : De Q X M n none { N with ps := putP N.ps { q with room := o } } → w_Net_set_place [.ref n, .str s, plD { q with room := o }] M (fun _ M1 => Q .non M1) X := fun h => by
    have := l_set_place (X := X) (q := { q with room := o }) hN ok.pl (Q := fun _ M1 => Q .non M1) h
    rw [show ({ q with room := o } : Pl).nm = s from hnm] at this
    exact this
  walk_at "ml"
  cases o with
  | none =>
    refine if_f ?_
    walk_at "ml"
    refine o_addT (by rw [cut1]; simp) ?_
    rw [cut1]
    walk_at "ml"
    exact fin h
  | some m =>
    refine if_t ?_
    walk_at "ml"
    refine l_move (De.step (r2 := rRoom s m N.s) h fun _ h => ?_)
    walk_at "ml"
    refine l_room ok.s (de_last h fun _ h => ?_)
    walk_at "ml"
    refine o_addT (by rw [cut1]; simp) ?_
    rw [cut1]
    walk_at "ml"
    exact fin h
end Prf

namespace Prf
theorem mv_none {m : Int × Int} (h : Mv m) : rMove 1000000 m = none := by
  unfold rMove rNum
  have h1 := h.1
  have h2 := h.2
  rw [if_pos (by omega), if_pos (by omega)]
  rfl
theorem find_none {ps : List Pl} {s : Str} (h : s ∉ ps.map (·.nm)) : findP ps s = none := by
  unfold findP
  rw [List.find?_eq_none]
  intro x hx hc
  exact h (by rw [← of_decide_eq_true hc]; exact List.mem_map_of_mem hx)
theorem find_noneR {ps : List Rd} {s : Str} (h : s ∉ ps.map (·.nm)) : findR ps s = none := by
  unfold findR
  rw [List.find?_eq_none]
  intro x hx hc
  exact h (by rw [← of_decide_eq_true hc]; exact List.mem_map_of_mem hx)
theorem find_some {ps : List Pl} {s : Str} (h : s ∈ ps.map (·.nm)) : (findP ps s).isSome = true := by
  unfold findP
  rw [List.find?_isSome]
  obtain ⟨p, hp, rfl⟩ := List.mem_map.mp h
  exact ⟨p, hp, by simp⟩
end Prf

namespace MV
theorem Kp.new {M M' M'' : Mem} {n : Nat} (k : Kp [] M M') (k' : Kp [n] M' M'') (h : M.length ≤ n) : Kp [] M M'' := ⟨Nat.le_trans k.len k'.len, fun i o hi e => by
  have := mlt e
  exact k'.at_ i o (by simp; omega) (k.at_ i o hi e)⟩
end MV
namespace Prf
end Prf

namespace MV
theorem x_lock {m : MS} {E : Nd} {ρ : Ev} {M : Mem} {n : Nat} {kvs : List (Key × D)} (e : M[n]? = some (.dct false kvs)) (h : m ⟨fun ρ' M' => M'[n]? = some (.dct true kvs) ∧ E.nx ρ' (M'.set n (.dct false kvs)), fun d M' => M'[n]? = some (.dct true kvs) ∧ E.rt d (M'.set n (.dct false kvs)),
  fun ρ' M' => M'[n]? = some (.dct true kvs) ∧ E.bk ρ' (M'.set n (.dct false kvs)), fun ρ' M' => M'[n]? = some (.dct true kvs) ∧ E.ct ρ' (M'.set n (.dct false kvs)), fun x ρ' M' => M'[n]? = some (.dct true kvs) ∧ E.ex x ρ' (M'.set n (.dct false kvs))⟩ ρ (M.set n (.dct true kvs))) : mLock m E ρ M := ⟨n, kvs, e, h⟩
theorem mset_same {M : Mem} {n : Nat} {o : O} (e : M[n]? = some o) : M.set n o = M := by
  obtain ⟨h, rfl⟩ := List.getElem?_eq_some_iff.mp e
  exact List.set_getElem_self h
theorem unlock {M : Mem} {n : Nat} {kvs : List (Key × D)} (e : M[n]? = some (.dct false kvs)) : (M.set n (.dct true kvs)).set n (.dct false kvs) = M := by
  rw [List.set_set]
  exact mset_same e
end MV

namespace MV
theorem x_lc2 {mi : MI} {T : Tg} {tt : MT} {mi1 : MI} {T1 : Tg} {tt1 : MT} {me : ME} {vs vs1 : List Nat} {ρ : Ev} {M : Mem} {Q : DK} {X : XM} (h : mi ρ M (fun items guard M1 => mLcO guard T tt mi1 T1 tt1 me (wipeE ρ vs) vs1 M1.length (fun M2 => Q (.ref M1.length) M2) items (M1 ++ [.lst []])) X) : mLc2 mi T tt mi1 T1 tt1 me vs vs1 ρ M Q X := h
theorem lco_ix {guard : Mem → Prop} {T : Tg} {tt : MT} {mi1 : MI} {T1 : Tg} {tt1 : MT} {me : ME} {ρ : Ev} {vs1 : List Nat} {n : Nat} {Q : Mem → Prop} {items : List D} {M : Mem} (J : Nat → Mem → Prop) (hg : ∀ k M, J k M → guard M)
    (hs : ∀ k d M (K : Mem → Prop), items[k]? = some d → J k M → (∀ M', J (k + 1) M' → K M') → T.mg d ρ M fun ρ2 => tt ρ2 M (fun b M3 => if b = true then mi1 ρ2 M3 (fun items1 guard1 M4 => mLcL guard1 T1 tt1 me (wipeE ρ2 vs1) n K items1 M4) noX else K M3) noX)
    (hq : ∀ M, J items.length M → Q M) (h0 : J 0 M) : mLcO guard T tt mi1 T1 tt1 me ρ vs1 n Q items M := by
  have key : ∀ (l : List D) (k : Nat) (M : Mem), l = items.drop k → k ≤ items.length → J k M → mLcO guard T tt mi1 T1 tt1 me ρ vs1 n Q l M := by
    intro l
    induction l with
    | nil =>
      intro k M e hk h
      have : k = items.length := by
        have := congrArg List.length e
        simp at this; omega
      exact ⟨hg k M h, hq M (this ▸ h)⟩
    | cons d ds ih =>
      intro k M e hk h
      have hlt : k < items.length := by
        have := congrArg List.length e
        simp at this; omega
      rw [List.drop_eq_getElem_cons hlt] at e
      injection e with e1 e2
      exact ⟨hg k M h, hs k d M _ (by rw [List.getElem?_eq_getElem hlt, e1]) h fun M' h' => ih (k + 1) M' e2 hlt h'⟩
  exact key items 0 M rfl (Nat.zero_le _) h0
theorem iseqDl {M : Mem} {k : List D → (Mem → Prop) → Mem → Prop} {n : Nat} {kvs : List (Key × D)} (hd : M[n]? = some (.dct true kvs)) (h : k (kvs.map fun kv => kD kv.1) (fun M => M[n]? = some (.dct true kvs)) M) : iseqK k (.ref n) M := by
  unfold iseqK
  dsimp only
  rw [hd]
  exact h
def hrs (x : D) (c : Nat) : List D := (List.range c).map fun (j : Nat) => .tup [x, .int (1 + (j : Int))]
theorem lc_rng {ρ : Ev} {n i a : Nat} {K : Mem → Prop} {x : D} {c : Nat} {M : Mem} {acc : List D} (hi : i < ρ.length) (hai : a ≠ i) (ha : ρ[a]? = some (some x)) (h : M[n]? = some (.lst acc)) (hl : acc.length + c < 1000000) (k : K (M.set n (.lst (acc ++ hrs x c)))) : mLcL (fun _ => True) (.nm i) mYes (mCB oTup (mCons (mVar a) (mCons (mVar i) mNil))) ρ n K (rangeD 1 c) M := by
  have key : ∀ (l : List D) (j : Nat) (M' : Mem), l = (rangeD 1 c).drop j → j ≤ c → M' = M.set n (.lst (acc ++ hrs x j)) → mLcL (fun _ => True) (.nm i) mYes (mCB oTup (mCons (mVar a) (mCons (mVar i) mNil))) ρ n K l M' := by
    intro l
    induction l with
    | nil =>
      intro j M' e hj hM
      have : j = c := by
        have := congrArg List.length e
        simp [rangeD] at this; omega
      subst this
      exact ⟨trivial, hM ▸ k⟩
    | cons d ds ih =>
      intro j M' e hj hM
      have hlt : j < c := by
        have := congrArg List.length e
        simp [rangeD] at this; omega
      rw [List.drop_eq_getElem_cons (by simp [rangeD]; exact hlt)] at e
      injection e with e1 e2
      have ed : d = .int (1 + (j : Int)) := by rw [e1]; simp [rangeD]
      subst ed
      refine ⟨trivial, x_nm ?_⟩
      refine x_yes (if_t ?_)
      refine x_cb (x_cons (x_var (by rw [List.getElem?_set_ne (Ne.symm hai)]; exact ha) (x_cons (x_var (List.getElem?_set_self hi) (x_nil (o_tup (by simp) ?_))))))
      have h' : M'[n]? = some (.lst (acc ++ hrs x j)) := by rw [hM]; exact msame h
      show match M'[n]? with | some (.lst acc) => _ | _ => False
      rw [h']
      refine ⟨by simp [hrs]; omega, ih (j + 1) _ e2 hlt ?_⟩
      rw [hM, List.set_set]
      congr 2
      rw [List.append_assoc]
      congr 1
      simp [hrs, List.range_succ]
  refine key _ 0 M rfl (Nat.zero_le _) ?_
  simp [hrs]
  exact (mset_same h).symm
end MV
namespace Prf
def spotsN (N : Nt) : List D := N.ps.flatMap fun p => hrs (.str p.nm) N.h.toNat
theorem hrs_len {x : D} {c : Nat} : (hrs x c).length = c := by simp [hrs]
theorem flat_le {α : Type} {l : List α} {f : α → List D} {c : Nat} (h : ∀ x ∈ l, (f x).length ≤ c) : (l.flatMap f).length ≤ l.length * c := by
  induction l with
  | nil => simp
  | cons a l ih =>
    rw [List.flatMap_cons, List.length_append, List.length_cons, Nat.succ_mul]
    have := h a (by simp)
    have := ih fun x hx => h x (List.mem_cons_of_mem _ hx)
    omega
theorem flat_succ {α : Type} {l : List α} {f : α → List D} {i : Nat} {x : α} (h : l[i]? = some x) : (l.take (i + 1)).flatMap f = (l.take i).flatMap f ++ f x := by
  rw [List.take_succ, h]
  simp
theorem take_le {α : Type} {l : List α} {f : α → List D} {c i : Nat} (h : ∀ x ∈ l, (f x).length ≤ c) : ((l.take i).flatMap f).length ≤ l.length * c := by
  refine Nat.le_trans (flat_le fun x hx => h x (List.mem_of_mem_take hx)) (Nat.mul_le_mul_right _ ?_)
  simp; omega
theorem l_spots {M : Mem} {Q : DK} {X : XM} {n p r : Nat} {N : Nt} (hN : NetM M n N p r) (ok : NtOk N) (k : ∀ M', Kp [] M M' → M'[M.length]? = some (.lst (spotsN N)) → Q (.ref M.length) M') : w_Net_spots [.ref n] M Q X := by
  have h1 := hN.ins
  have hh := ok.h
  have hpl := ok.pl
  have np := hN.np
  unfold w_Net_spots wOf
  rw [show startE N_Net_spots [.ref n] = [some (.ref n), none, none] from rfl]
  unfold m_Net_spots
  refine x_lock hN.pl ?_
  have unl := unlock hN.pl
  have hL : (M.set p (.dct true (N.ps.map plK)))[p]? = some (.dct true (N.ps.map plK)) := msame hN.pl
  have hLi : (M.set p (.dct true (N.ps.map plK)))[n]? = some (.ins "Net" (NF (.int N.h) (pD N.s) (pD N.t) (.ref p) (.ref r))) := by rw [List.getElem?_set_ne (Ne.symm np)]; exact h1
  have hLo : ∀ i, i ≠ p → (M.set p (.dct true (N.ps.map plK)))[i]? = M[i]? := fun i hi => List.getElem?_set_ne (Ne.symm hi)
  have hLl : (M.set p (.dct true (N.ps.map plK))).length = M.length := by simp
  have lp := mlt hN.pl
  have ln := mlt h1
  generalize M.set p (.dct true (N.ps.map plK)) = L at *
  walk_at "sx"
  refine x_lc2 ?_
  with_reducible refine x_iseq ?_
  walk_at "ml"
  refine iseqDl hL ?_
  rw [List.map_map, show wipeE [some (D.ref n), none, none] [1, 2] = [some (.ref n), none, none] from rfl]
  have sz : ∀ x ∈ N.ps, (hrs (.str x.nm) N.h.toNat).length ≤ 6 := fun x _ => by rw [hrs_len]; omega
  refine lco_ix (fun i M' => M'[L.length]? = some (.lst ((N.ps.take i).flatMap fun p => hrs (.str p.nm) N.h.toNat)) ∧ Kp [] L M') (fun _ M' h => h.2.at_ _ _ (by simp) hL) ?_ ?_ ⟨mnew, .app⟩
  · rintro i d M' K hd ⟨ha, kL⟩ hK
    rw [List.getElem?_map] at hd
    cases hq : N.ps[i]? with
    | none => rw [hq] at hd; cases hd
    | some q =>
    rw [hq] at hd
    cases hd
    have hi' := kL.at_ _ _ (by simp) hLi
    have ll := take_le (i := i) sz
    refine x_nm (x_yes (if_t ?_))
    walk_at "ml"
    refine ⟨⟨by decide, by decide, by omega, by omega⟩, ?_⟩
    rw [show (N.h + 1 - 1).toNat = N.h.toNat by omega]
    refine lc_rng (x := .str q.nm) (by simp [wipeE]) (by decide) rfl ha (by omega) ?_
    refine hK _ ⟨?_, kL.setNew (Nat.le_refl _)⟩
    rw [msame ha, flat_succ hq]
  · rintro M' ⟨ha, kL⟩
    rw [List.length_map, List.take_of_length_le (Nat.le_refl _)] at ha
    refine ⟨kL.at_ _ _ (by simp) hL, ?_⟩
    rw [show L.length = M.length from hLl] at ha ⊢
    have kk : Kp [] M (M'.set p (.dct false (N.ps.map plK))) := by
      refine ⟨by have := kL.len; simp; omega, fun i o _ e => ?_⟩
      by_cases hr : i = p
      · subst hr
        rw [hN.pl] at e
        cases e
        exact msame (kL.at_ _ _ (by simp) hL)
      · rw [List.getElem?_set_ne (Ne.symm hr)]
        exact kL.at_ _ _ (by simp) (by rw [hLo i hr]; exact e)
    exact k _ kk (by rw [List.getElem?_set_ne (by omega)]; exact ha)
end Prf

namespace Prf
def baseK (h : Int) : Nat → List Pl → List (Key × D)
  | _, [] => []
  | i, p :: l => (.inr p.nm, .int ((i : Int) * h - 1)) :: baseK h (i + 1) l
theorem baseK_app {h : Int} : ∀ {l : List Pl} {i : Nat} {p : Pl}, baseK h i (l ++ [p]) = baseK h i l ++ [(.inr p.nm, .int (((i + l.length : Nat) : Int) * h - 1))]
  | [], i, p => rfl
  | a :: l, i, p => by
    show (_ :: baseK h (i + 1) (l ++ [p])) = _ :: (baseK h (i + 1) l ++ _)
    rw [baseK_app, show i + 1 + l.length = i + (a :: l).length by rw [List.length_cons]; omega]
theorem baseK_keys {h : Int} : ∀ {l : List Pl} {i : Nat}, (baseK h i l).map (·.1) = l.map fun p => (.inr p.nm : Key)
  | [], _ => rfl
  | a :: l, i => by
    show (.inr a.nm : Key) :: (baseK h (i + 1) l).map (·.1) = _ :: l.map _
    rw [baseK_keys]
theorem baseK_len {h : Int} {l : List Pl} {i : Nat} : (baseK h i l).length = l.length := by
  have := congrArg List.length (baseK_keys (h := h) (l := l) (i := i))
  simpa using this
theorem baseK_none {h : Int} {l : List Pl} {i : Nat} {s : Str} (hs : s ∉ l.map (·.nm)) : dget (baseK h i l) (.inr s) = none := by
  unfold dget
  have : (baseK h i l).find? (fun kv => decide (kv.1 = .inr s)) = none := by
    rw [List.find?_eq_none]
    intro x hx
    have hm := List.mem_map_of_mem (f := (·.1)) hx
    rw [baseK_keys] at hm
    obtain ⟨p, hp, e⟩ := List.mem_map.mp hm
    have : s ≠ p.nm := fun e => hs (e ▸ List.mem_map_of_mem hp)
    rw [← e]
    simp [Ne.symm this]
  rw [this]; rfl
theorem baseK_int {h : Int} : ∀ {l : List Pl} {i : Nat} {s : Str}, s ∈ l.map (·.nm) → ∃ v : Int, dget (baseK h i l) (.inr s) = some (.int v)
  | [], _, _, hs => by cases hs
  | a :: l, i, s, hs => by
    by_cases e : a.nm = s
    · refine ⟨(i : Int) * h - 1, ?_⟩
      unfold dget
      show (List.find? _ (_ :: _)).map _ = _
      rw [List.find?_cons_of_pos (by simp [e])]
      rfl
    · obtain ⟨v, hv⟩ := baseK_int (h := h) (i := i + 1) (s := s) (l := l) (by
        rcases List.mem_cons.mp hs with z | z
        · exact absurd z.symm e
        · exact z)
      refine ⟨v, ?_⟩
      unfold dget at hv ⊢
      show (List.find? _ (_ :: _)).map _ = _
      rw [List.find?_cons_of_neg (by simp [e])]
      exact hv
def baseV (N : Nt) (s : Str) : Int := match dget (baseK N.h 0 N.ps) (.inr s) with
  | some (.int v) => v
  | _ => 0
theorem baseV_get {N : Nt} {s : Str} (hs : s ∈ N.ps.map (·.nm)) : dget (baseK N.h 0 N.ps) (.inr s) = some (.int (baseV N s)) := by
  obtain ⟨v, hv⟩ := baseK_int (h := N.h) (i := 0) hs
  unfold baseV
  rw [hv]
def arcR (N : Nt) (r : Rd) (j : Nat) : D := .tup [.str r.nm, .int (1 + (j : Int)), .int (baseV N r.st + (1 + (j : Int))), .int (baseV N r.en + (1 + (j : Int)) + r.takes), pD r.floor, .tup (r.rungs.map rungD)]
def arcP (N : Nt) (p : Pl) (j : Nat) : D := .tup [.str p.nm, .int (1 + (j : Int)), .int (baseV N p.nm + (1 + (j : Int))), .int (baseV N p.nm + (1 + (j : Int)) + 1), .tup [.int 0, .int 0], .tup [.tup [omD p.kept, pD p.price]]]
def arcsOfR (N : Nt) (r : Rd) : List D := (List.range (N.h - r.takes).toNat).map (arcR N r)
def arcsOfP (N : Nt) (p : Pl) : List D := if p.kept = some (0, 0) then [] else (List.range (N.h - 1).toNat).map (arcP N p)
def arcsN (N : Nt) : List D := N.rs.flatMap (arcsOfR N) ++ N.ps.flatMap (arcsOfP N)
def Ends (N : Nt) : Prop := ∀ r ∈ N.rs, r.st ∈ N.ps.map (·.nm) ∧ r.en ∈ N.ps.map (·.nm)
end Prf

namespace Prf
theorem _root_.MV.ToldM.lt {M : Mem} {m a b : Nat} {pa : List (Nat × Nat)} {rb : List Nat} {ex : List (Key × D)} {N : Nt} (h : ToldM M m N a b pa rb ex) : ∀ i ∈ toldAt m a b pa rb, i < M.length := by
  intro i hi
  simp only [toldAt, List.append_assoc, List.mem_append, List.mem_cons, List.not_mem_nil, or_false] at hi
  rcases hi with (rfl | rfl | rfl) | hi | hi | hi
  · exact mlt h.dct
  · exact mlt h.pl
  · exact mlt h.rd
  · obtain ⟨z, hz, rfl⟩ := List.mem_map.mp hi
    obtain ⟨j, hj⟩ := List.getElem?_of_mem hz
    have jl : j < N.ps.length := by rw [← h.pz]; exact (List.getElem?_eq_some_iff.mp hj).1
    exact mlt (h.pp j z _ hj (List.getElem?_eq_getElem jl)).1
  · obtain ⟨z, hz, rfl⟩ := List.mem_map.mp hi
    obtain ⟨j, hj⟩ := List.getElem?_of_mem hz
    have jl : j < N.ps.length := by rw [← h.pz]; exact (List.getElem?_eq_some_iff.mp hj).1
    exact mlt (h.pp j z _ hj (List.getElem?_eq_getElem jl)).2
  · obtain ⟨j, hj⟩ := List.getElem?_of_mem hi
    have jl : j < N.rs.length := by rw [← h.rz]; exact (List.getElem?_eq_some_iff.mp hj).1
    exact mlt (h.rr j i _ hj (List.getElem?_eq_getElem jl))
end Prf

namespace Prf
theorem x_dcU {mi : MI} {T : Tg} {tt : MT} {mk mv : ME} {vs : List Nat} {ρ : Ev} {M : Mem} {Q : DK} {X : XM} (h : mi ρ M (fun items guard M1 => mDcL guard T tt mk mv (wipeE ρ vs) M1.length (fun M2 => Q (.ref M1.length) M2) items (M1 ++ [.dct false []])) X) : mDc mi T tt mk mv vs ρ M Q X := h
def enumK : Nat → List Pl → List D
  | _, [] => []
  | i, p :: l => .tup [.int (i : Nat), .str p.nm] :: enumK (i + 1) l
theorem enumK_eq : ∀ {l : List Pl} {i : Nat}, (l.map fun q => (.str q.nm : D)).mapIdx (fun j d => (.tup [.int ((j + i : Nat) : Int), d] : D)) = enumK i l
  | [], _ => rfl
  | a :: l, i => by
    rw [List.map_cons, List.mapIdx_cons]
    show D.tup [.int ((0 + i : Nat) : Int), .str a.nm] :: _ = _ :: enumK (i + 1) l
    rw [← enumK_eq, Nat.zero_add]
    congr 2
    funext j d
    rw [show j + 1 + i = j + (i + 1) by omega]
theorem enum_names {l : List Pl} : enumD (l.map fun q => (.str q.nm : D)) = enumK 0 l := by
  rw [← enumK_eq]; rfl
theorem dc_base {guard : Mem → Prop} {n0 n : Nat} {Q : Mem → Prop} {h : Int} {o3 : Option D} {ρ : Ev} (hg : ∀ M o, guard M → guard (M.set n o)) (hh : 0 ≤ h ∧ h ≤ 100) : ∀ (l acc : List Pl) (M : Mem), guard M → M[n]? = some (.dct false (baseK h 0 acc)) → ((acc ++ l).map (·.nm)).Nodup → acc.length + l.length < 1000 → (∀ M', Kp [n] M M' → guard M' → M'[n]? = some (.dct false (baseK h 0 (acc ++ l))) → Q M') →
    mDcL guard (.tp 2 (.cons (.nm 4) (.cons (.nm 5) .nil))) mYes (mVar 5) (mOp oSub (mOp oMul (mVar 4) (mVar 1)) (mC (.int 1))) (some (.ref n0) :: some (.int h) :: o3 :: none :: none :: none :: ρ) n Q (enumK acc.length l) M := by
  intro l
  induction l with
  | nil =>
    intro acc M g h1 _ _ k
    exact ⟨g, k M .refl g (by simpa using h1)⟩
  | cons p l ih =>
    intro acc M g h1 nd hl k
    refine ⟨g, ?_⟩
    show (Tg.tp 2 _).mg (.tup [.int (acc.length : Nat), .str p.nm]) _ _ _
    refine x_tp rfl (x_tc (x_nm (x_tc (x_nm (x_tn ?_)))))
    have nd' := nd
    rw [List.map_append, List.map_cons, List.nodup_append, List.nodup_cons] at nd
    obtain ⟨nd1, ⟨nd2, nd3⟩, nd4⟩ := nd
    rw [List.length_cons] at hl
    unfold mYes
    dsimp only
    rw [if_pos rfl]
    refine x_var rfl (x_op (x_op (x_var rfl (x_var rfl (o_mul (mul_ok (by omega)) ?_)))))
    walk_at "ml"
    have hk : dget (baseK h 0 acc) (.inr p.nm) = none := baseK_none fun hc => nd4 p.nm hc p.nm (by simp) rfl
    show match M[n]? with | some (.dct false acc) => _ | _ => False
    rw [h1]
    show _ < 16000000 ∧ _
    refine ⟨by rw [baseK_len]; omega, ?_⟩
    rw [dput_new hk]
    have e1 : acc.length + 1 = (acc ++ [p]).length := by simp
    rw [show enumK (acc.length + 1) l = enumK (acc ++ [p]).length l by rw [e1]]
    refine ih (acc ++ [p]) _ (hg _ _ g) ?_ ?_ ?_ ?_
    · rw [msame h1, baseK_app, Nat.zero_add]
    · simpa using nd'
    · simp; omega
    · intro M' k' g' h'
      refine k M' ((Kp.set (by simp)).trans k') g' ?_
      rw [h']; simp
end Prf

namespace Prf
def wantsOf (p : Pl) : List D := p.wants.map pD
def roomsOf (h : Int) (p : Pl) : List D := (List.range h.toNat).map fun _ => omD p.room
def wantsN (N : Nt) : List D := N.ps.flatMap wantsOf
def roomsN (N : Nt) : List D := N.ps.flatMap (roomsOf N.h)
theorem lc_room {q : Pl} {ρ : Ev} {n : Nat} {K : Mem → Prop} {c : Nat} {M : Mem} (h8 : ρ[8]? = some (some (plD q))) (hn : M[n]? = some (.lst [])) (hc : c < 1000) (k : ∀ M', Kp [n] M M' → M'[n]? = some (.lst ((List.range c).map fun _ => omD q.room)) → K M') : mLcL (fun _ => True) (.nm 9) mYes (mOp oIx (mVar 8) (mC (.int 0))) ρ n K (rangeD 0 c) M := by
  refine lc_ix (fun j acc M' => acc = (List.range j).map (fun _ => omD q.room) ∧ Kp [n] M M') (fun _ _ _ _ => trivial) ?_ ?_ (by simp [rangeD]; omega) hn ⟨rfl, .refl⟩
  · rintro j d acc M1 K1 hd hM ⟨rfl, k1⟩ hK
    refine x_op (x_var (by rw [List.getElem?_set_ne (by decide)]; exact h8) (x_c (o_ixT (v := omD q.room) rfl ?_)))
    refine hK _ _ hM ⟨?_, k1.trans (.set (by simp))⟩
    rw [List.range_succ, List.map_append]; rfl
  · rintro acc M1 hM ⟨rfl, k1⟩
    exact k M1 k1 (by rw [hM]; simp [rangeD])
def UI (N : Nt) (l2 l3 l6 l7 : Nat) (M' : Mem) : Prop := M'[l2]? = some (.lst (N.ps.map fun q => .str q.nm)) ∧ M'[l3]? = some (.dct false (baseK N.h 0 N.ps)) ∧ M'[l6]? = some (.lst (wantsN N)) ∧ M'[l7]? = some (.lst (roomsN N))
theorem UI.set {N : Nt} {l2 l3 l6 l7 l : Nat} {M' : Mem} {o : O} (h : UI N l2 l3 l6 l7 M') (h2 : l2 < l) (h3 : l3 < l) (h6 : l6 < l) (h7 : l7 < l) : UI N l2 l3 l6 l7 (M'.set l o) := by
  refine ⟨?_, ?_, ?_, ?_⟩
  · rw [List.getElem?_set_ne (by omega)]; exact h.1
  · rw [List.getElem?_set_ne (by omega)]; exact h.2.1
  · rw [List.getElem?_set_ne (by omega)]; exact h.2.2.1
  · rw [List.getElem?_set_ne (by omega)]; exact h.2.2.2
theorem UI.kp {N : Nt} {l2 l3 l6 l7 : Nat} {M M' : Mem} (h : UI N l2 l3 l6 l7 M) (k : Kp [] M M') : UI N l2 l3 l6 l7 M' := ⟨k.at_ _ _ (by simp) h.1, k.at_ _ _ (by simp) h.2.1, k.at_ _ _ (by simp) h.2.2.1, k.at_ _ _ (by simp) h.2.2.2⟩
theorem l_unrolled {M : Mem} {Q : DK} {X : XM} {n p r : Nat} {N : Nt} (hN : NetM M n N p r) (ok : NtOk N) (he : Ends N) (k : ∀ M' a b c d, Kp [] M M' → M.length ≤ a ∧ M.length ≤ b ∧ M.length ≤ c ∧ M.length ≤ d → M'[a]? = some (.lst (spotsN N)) → M'[b]? = some (.lst (wantsN N)) → M'[c]? = some (.lst (roomsN N)) → M'[d]? = some (.lst (arcsN N)) → Q (.tup [.ref a, .ref b, .ref c, .ref d]) M') : w_unrolled [.ref n] M Q X := by
  have h1 := hN.ins
  have hh := ok.h
  have hpl := ok.pl
  have hrl := ok.rl
  unfold w_unrolled wOf
  rw [show startE N_unrolled [.ref n] = [some (.ref n), none, none, none, none, none, none, none, none, none, none, none, none, none, none, none, none] from rfl]
  unfold m_unrolled
  walk_at "ml"
  refine l_place_names hN ?_
  have k0 : Kp [] M (M ++ [O.lst (N.ps.map fun q => .str q.nm)]) := .app
  have g0 : (M ++ [O.lst (N.ps.map fun q => .str q.nm)])[M.length]? = some (.lst (N.ps.map fun q => .str q.nm)) := mnew
  generalize hl2 : M.length = l2 at *
  generalize M ++ [O.lst (N.ps.map fun q => .str q.nm)] = M0 at *
  have lt2 := mlt g0
  walk_at "ml"
  refine x_dcU ?_
  walk_at "ml"
  show match M0[l2]? with | some (.lst ds) => _ | _ => False
  rw [g0]
  dsimp only
  rw [enum_names]
  show mDcL _ _ _ _ _ (some (.ref n) :: some (.int N.h) :: some (.ref l2) :: none :: none :: none :: [none, none, none, none, none, none, none, none, none, none, none]) _ _ (enumK ([] : List Pl).length N.ps) _
  refine dc_base (fun M' o g => ?_) ⟨by omega, by omega⟩ N.ps [] _ ((Kp.app (S := [])).at_ _ _ (by simp) g0) mnew (by simpa using ok.pn) (by simp; omega) fun M1 k1 g1 h1 => ?_
  · rw [List.getElem?_set_ne (by omega)]; exact g
  have k1' : Kp [] M0 M1 := ⟨Nat.le_trans (by simp) k1.len, fun i o _ q => k1.at_ _ _ (by have := mlt q; simp; omega) ((Kp.app (S := [])).at_ _ _ (by simp) q)⟩
  rw [List.nil_append] at h1
  have lt3 := mlt h1
  generalize hl3 : M0.length = l3 at *
  have kA : Kp [] M M1 := k0.trans k1'
  have gA := k1'.at_ _ _ (by simp) g0
  walk_at "sx"
  walk_at "sx"
  walk_at "mq"
  have k6 : Kp [] M1 (M1 ++ [O.lst []]) := .app
  have g6 : (M1 ++ [O.lst []])[M1.length]? = some (.lst []) := mnew
  have e6 := kA.len
  have l6l := k6.len
  generalize hl6 : M1.length = l6 at *
  generalize M1 ++ [O.lst []] = M2 at *
  dsimp only
  walk_at "sx"
  walk_at "sx"
  walk_at "mq"
  have k7 : Kp [] M2 (M2 ++ [O.lst []]) := .app
  have g7 : (M2 ++ [O.lst []])[M2.length]? = some (.lst []) := mnew
  have lt6 := mlt g6
  have g6' := k7.at_ _ _ (by simp) g6
  have kB : Kp [] M (M2 ++ [O.lst []]) := kA.trans (k6.trans k7)
  have h3 := (k6.trans k7).at_ _ _ (by simp) h1
  have g2 := (k6.trans k7).at_ _ _ (by simp) gA
  have e7 := k6.len
  generalize hl7 : M2.length = l7 at *
  generalize M2 ++ [O.lst []] = M3 at *
  dsimp only
  have szW : ∀ x ∈ N.ps, (wantsOf x).length ≤ 6 := fun x hx => by unfold wantsOf; rw [List.length_map]; exact (ok.ps x hx).wl
  have szM : ∀ x ∈ N.ps, (roomsOf N.h x).length ≤ 6 := fun x _ => by unfold roomsOf; rw [List.length_map, List.length_range]; omega
  with_reducible refine x_join (fun ρ M' => (∃ o5 o8, ρ = [some (.ref n), some (.int N.h), some (.ref l2), some (.ref l3), none, o5, some (.ref l6), some (.ref l7), o8, none, none, none, none, none, none, none, none]) ∧ Kp [] M M' ∧ (M'[l2]? = some (.lst (N.ps.map fun q => .str q.nm)) ∧ M'[l3]? = some (.dct false (baseK N.h 0 N.ps))) ∧ M'[l6]? = some (.lst (wantsN N)) ∧ M'[l7]? = some (.lst (roomsN N))) ?_ ?_
  · intro K hK
    walk_at "ml"
    refine for_ix (fun i ρ M' => (∃ o5 o8, ρ = [some (.ref n), some (.int N.h), some (.ref l2), some (.ref l3), none, o5, some (.ref l6), some (.ref l7), o8, none, none, none, none, none, none, none, none]) ∧ Kp [] M M' ∧ (M'[l2]? = some (.lst (N.ps.map fun q => .str q.nm)) ∧ M'[l3]? = some (.dct false (baseK N.h 0 N.ps))) ∧ M'[l6]? = some (.lst ((N.ps.take i).flatMap wantsOf)) ∧ M'[l7]? = some (.lst ((N.ps.take i).flatMap (roomsOf N.h)))) (fun _ _ _ h => h.2.2.1.1) ?_ ?_ ⟨⟨_, _, rfl⟩, kB, ⟨g2, h3⟩, g6', g7⟩
    · rintro ρ M4 ⟨ho, k4, h4, w4, r4⟩
      rw [List.take_of_length_le (by simp)] at w4 r4
      exact hK _ _ ⟨ho, k4, h4, w4, r4⟩
    · rintro i d ρ M4 K2 hd ⟨⟨_, _, rfl⟩, k4, ⟨h4, b4⟩, w4, r4⟩ hK2
      rw [List.getElem?_map] at hd
      cases hq : N.ps[i]? with
      | none => rw [hq] at hd; cases hd
      | some q =>
      rw [hq] at hd
      cases hd
      have hm := List.mem_of_getElem? hq
      have N4 := hN.kp k4 (by simp) (by simp) (by simp)
      have i4 := N4.ins
      have lw := take_le (i := i) szW
      have lr := take_le (i := i) szM
      have lq := szW q hm
      have lz := szM q hm
      walk_at "ml"
      refine l_place_told N4 ?_
      rw [find_at ok.pn hm]
      refine OnS.some ?_
      walk_at "ml"
      refine o_ixT (v := .tup (wantsOf q)) rfl ?_
      walk_at "ml"
      refine o_extendT w4 (by omega) ?_
      have w5 : (M4.set l6 (.lst ((N.ps.take i).flatMap wantsOf ++ wantsOf q)))[l6]? = some (.lst ((N.ps.take (i + 1)).flatMap wantsOf)) := by rw [msame w4, flat_succ hq]
      have r5 : (M4.set l6 (.lst ((N.ps.take i).flatMap wantsOf ++ wantsOf q)))[l7]? = some (.lst ((N.ps.take i).flatMap (roomsOf N.h))) := by rw [List.getElem?_set_ne (by omega)]; exact r4
      have h5 : (M4.set l6 (.lst ((N.ps.take i).flatMap wantsOf ++ wantsOf q)))[l2]? = some (.lst (N.ps.map fun q => .str q.nm)) := by rw [List.getElem?_set_ne (by omega)]; exact h4
      have b5 : (M4.set l6 (.lst ((N.ps.take i).flatMap wantsOf ++ wantsOf q)))[l3]? = some (.dct false (baseK N.h 0 N.ps)) := by rw [List.getElem?_set_ne (by omega)]; exact b4
      have k5 : Kp [] M (M4.set l6 (.lst ((N.ps.take i).flatMap wantsOf ++ wantsOf q))) := k4.setNew (by omega)
      generalize M4.set l6 (.lst ((N.ps.take i).flatMap wantsOf ++ wantsOf q)) = M5 at *
      have l5 := mlt r5
      walk_at "ml"
      refine ⟨⟨by omega, by omega⟩, ?_⟩
      refine lc_room (q := q) rfl mnew (by omega) fun M6 k6' g6' => ?_
      have k6b : Kp [] M5 M6 := ⟨Nat.le_trans (by simp) k6'.len, fun i o _ q => k6'.at_ _ _ (by have := mlt q; simp; omega) ((Kp.app (S := [])).at_ _ _ (by simp) q)⟩
      walk_at "ml"
      refine o_ext (k6b.at_ _ _ (by simp) r5) g6' (by unfold roomsOf at lz; omega) ?_
      refine hK2 _ _ ⟨⟨_, _, rfl⟩, (k5.trans k6b).setNew (by omega), ⟨?_, ?_⟩, ?_, ?_⟩
      · rw [List.getElem?_set_ne (by omega)]; exact k6b.at_ _ _ (by simp) h5
      · rw [List.getElem?_set_ne (by omega)]; exact k6b.at_ _ _ (by simp) b5
      · rw [List.getElem?_set_ne (by omega)]; exact k6b.at_ _ _ (by simp) w5
      · rw [msame (k6b.at_ _ _ (by simp) r5), flat_succ hq]; rfl
  rintro _ M4 ⟨⟨o5, o8, rfl⟩, k4, ⟨h4, b4⟩, w4, r4⟩
  walk_at "sx"
  walk_at "sx"
  walk_at "mq"
  have kC : Kp [] M4 (M4 ++ [O.lst []]) := .app
  have gC : (M4 ++ [O.lst []])[M4.length]? = some (.lst []) := mnew
  have lt7 := mlt r4
  have kD : Kp [] M (M4 ++ [O.lst []]) := k4.trans kC
  have hD : UI N l2 l3 l6 l7 (M4 ++ [O.lst []]) := ⟨kC.at_ _ _ (by simp) h4, kC.at_ _ _ (by simp) b4, kC.at_ _ _ (by simp) w4, kC.at_ _ _ (by simp) r4⟩
  generalize hl10 : M4.length = l10 at *
  generalize M4 ++ [O.lst []] = M5 at *
  dsimp only
  have szR : ∀ x ∈ N.rs, (arcsOfR N x).length ≤ 6 := fun x hx => by unfold arcsOfR; have := (ok.rs x hx).takes; simp; omega
  with_reducible refine x_join (fun ρ M' => (∃ o5 o8 o9 o11 o12 o13 o14 o15, ρ = [some (.ref n), some (.int N.h), some (.ref l2), some (.ref l3), none, o5, some (.ref l6), some (.ref l7), o8, o9, some (.ref l10), o11, o12, o13, o14, o15, none]) ∧ Kp [] M M' ∧ UI N l2 l3 l6 l7 M' ∧ M'[l10]? = some (.lst (N.rs.flatMap (arcsOfR N)))) ?_ ?_
  · intro K hK
    have N5 := hN.kp kD (by simp) (by simp) (by simp)
    have i5 := N5.ins
    walk_at "ml"
    with_reducible refine x_iseq ?_
    walk_at "ml"
    refine l_road_names N5 ?_
    refine iseqL mnew ?_
    have kE : Kp [] M5 (M5 ++ [O.lst (N.rs.map fun q => .str q.nm)]) := .app
    have gE : (M5 ++ [O.lst (N.rs.map fun q => .str q.nm)])[M5.length]? = some (.lst (N.rs.map fun q => .str q.nm)) := mnew
    generalize hlE : M5.length = lE at *
    generalize M5 ++ [O.lst (N.rs.map fun q => .str q.nm)] = M6 at *
    have ltE := mlt gC
    refine for_ix (fun i ρ M' => (∃ o5 o8 o9 o11 o12 o13 o14 o15, ρ = [some (.ref n), some (.int N.h), some (.ref l2), some (.ref l3), none, o5, some (.ref l6), some (.ref l7), o8, o9, some (.ref l10), o11, o12, o13, o14, o15, none]) ∧ Kp [] M M' ∧ UI N l2 l3 l6 l7 M' ∧ M'[lE]? = some (.lst (N.rs.map fun q => .str q.nm)) ∧ M'[l10]? = some (.lst ((N.rs.take i).flatMap (arcsOfR N)))) (fun _ _ _ h => h.2.2.2.1) ?_ ?_ ⟨⟨_, _, _, _, _, _, _, _, rfl⟩, kD.trans kE, hD.kp kE, gE, kE.at_ _ _ (by simp) gC⟩
    · rintro ρ M7 ⟨ho, k7', u7, _, g7'⟩
      rw [List.take_of_length_le (by simp)] at g7'
      exact hK _ _ ⟨ho, k7', u7, g7'⟩
    · rintro i d ρ M7 K2 hd ⟨⟨_, _, _, _, _, _, _, _, rfl⟩, k7', u7, e7', g7'⟩ hK2
      rw [List.getElem?_map] at hd
      cases hR : N.rs[i]? with
      | none => rw [hR] at hd; cases hd
      | some R =>
      rw [hR] at hd
      cases hd
      have Rm := List.mem_of_getElem? hR
      have Rt := (ok.rs R Rm).takes
      have N7 := hN.kp k7' (by simp) (by simp) (by simp)
      have i7 := N7.ins
      have ll := take_le (i := i) szR
      have b1 := baseV_get (he R Rm).1
      have b2 := baseV_get (he R Rm).2
      walk_at "ml"
      refine l_road_told N7 ?_
      rw [find_atR ok.rn Rm]
      refine OnS.some ?_
      show (Tg.tp 5 _).mg (.tup [.str R.st, .str R.en, .int R.takes, pD R.floor, .tup (R.rungs.map rungD)]) _ _ _
      walk_at "ml"
      refine ⟨⟨by decide, by decide, by omega, by omega⟩, ?_⟩
      rw [show (N.h - R.takes + 1 - 1).toNat = (N.h - R.takes).toNat by omega]
      refine for_ix (fun j ρ M' => (∃ o8 o9, ρ = [some (.ref n), some (.int N.h), some (.ref l2), some (.ref l3), none, some (.str R.nm), some (.ref l6), some (.ref l7), o8, o9, some (.ref l10), some (.str R.st), some (.str R.en), some (.int R.takes), some (pD R.floor), some (.tup (R.rungs.map rungD)), none]) ∧ Kp [] M M' ∧ UI N l2 l3 l6 l7 M' ∧ M'[lE]? = some (.lst (N.rs.map fun q => .str q.nm)) ∧ M'[l10]? = some (.lst ((N.rs.take i).flatMap (arcsOfR N) ++ (List.range j).map (arcR N R)))) (fun _ _ _ _ => trivial) ?_ ?_ ⟨⟨_, _, rfl⟩, k7', u7, e7', by simpa using g7'⟩
      · rintro ρ M8 ⟨⟨_, _, rfl⟩, k8, u8, e8, g8⟩
        refine hK2 _ _ ⟨⟨_, _, _, _, _, _, _, _, rfl⟩, k8, u8, e8, ?_⟩
        rw [g8, flat_succ hR]
        simp [rangeD, arcsOfR]
      · rintro j d ρ M8 K3 hd ⟨⟨_, _, rfl⟩, k8, u8, e8, g8⟩ hK3
        obtain ⟨rfl, hj⟩ := rng2_at hd
        have b8 := u8.2.1
        walk_at "ml"
        refine o_ixK b8 b1 ?_
        walk_at "ml"
        refine o_ixK b8 b2 ?_
        walk_at "ml"
        refine o_app g8 (by rw [List.length_append, List.length_map, List.length_range]; omega) ?_
        refine hK3 _ _ ⟨⟨_, _, rfl⟩, k8.setNew (by omega), u8.set (by omega) (by omega) (by omega) (by omega), ?_, ?_⟩
        · rw [List.getElem?_set_ne (by omega)]; exact e8
        · rw [msame g8, List.range_succ, List.map_append, ← List.append_assoc]
          rfl
  rintro _ M6 ⟨⟨o5, o8, o9, o11, o12, o13, o14, o15, rfl⟩, kF, uF, gF⟩
  have llR := flat_le szR
  have ltF := mlt gC
  have szP : ∀ x ∈ N.ps, (arcsOfP N x).length ≤ 6 := fun x hx => by
    unfold arcsOfP
    split
    · simp
    · simp; omega
  have u2 := uF.1
  with_reducible refine x_join (fun ρ M' => (∃ o5 o8 o9 o11 o12 o13 o14 o15 o16, ρ = [some (.ref n), some (.int N.h), some (.ref l2), some (.ref l3), none, o5, some (.ref l6), some (.ref l7), o8, o9, some (.ref l10), o11, o12, o13, o14, o15, o16]) ∧ Kp [] M M' ∧ UI N l2 l3 l6 l7 M' ∧ M'[l10]? = some (.lst (arcsN N))) ?_ ?_
  · intro K hK
    walk_at "ml"
    refine for_ix (fun i ρ M' => (∃ o5 o8 o9 o11 o12 o13 o14 o15 o16, ρ = [some (.ref n), some (.int N.h), some (.ref l2), some (.ref l3), none, o5, some (.ref l6), some (.ref l7), o8, o9, some (.ref l10), o11, o12, o13, o14, o15, o16]) ∧ Kp [] M M' ∧ UI N l2 l3 l6 l7 M' ∧ M'[l10]? = some (.lst (N.rs.flatMap (arcsOfR N) ++ (N.ps.take i).flatMap (arcsOfP N)))) (fun _ _ _ h => h.2.2.1.1) ?_ ?_ ⟨⟨_, _, _, _, _, _, _, _, _, rfl⟩, kF, uF, by simpa using gF⟩
    · rintro ρ M7 ⟨ho, k7', u7, g7'⟩
      rw [List.take_of_length_le (by simp)] at g7'
      exact hK _ _ ⟨ho, k7', u7, g7'⟩
    · rintro i d ρ M7 K2 hd ⟨⟨_, _, _, _, _, _, _, _, _, rfl⟩, k7', u7, g7'⟩ hK2
      rw [List.getElem?_map] at hd
      cases hP : N.ps[i]? with
      | none => rw [hP] at hd; cases hd
      | some P =>
      rw [hP] at hd
      cases hd
      have Pm := List.mem_of_getElem? hP
      have N7 := hN.kp k7' (by simp) (by simp) (by simp)
      have i7 := N7.ins
      have ll := take_le (i := i) szP
      have b1 := baseV_get (N := N) (List.mem_map_of_mem Pm : P.nm ∈ N.ps.map (·.nm))
      have eP : (N.ps.take (i + 1)).flatMap (arcsOfP N) = (N.ps.take i).flatMap (arcsOfP N) ++ arcsOfP N P := flat_succ hP
      walk_at "ml"
      refine l_place_told N7 ?_
      rw [find_at ok.pn Pm]
      refine OnS.some ?_
      walk_at "ml"
      refine o_ixT (v := omD P.kept) rfl ?_
      walk_at "ml"
      refine ne_om (o := P.kept) (m := (0, 0)) ?_
      refine if_n (fun hk => ?_) (fun hk => ?_)
      rotate_left
      · walk_at "ml"
        refine hK2 _ _ ⟨⟨_, _, _, _, _, _, _, _, _, rfl⟩, k7', u7, ?_⟩
        rw [g7', eP]
        unfold arcsOfP
        rw [if_pos hk, List.append_nil]
      walk_at "ml"
      refine ⟨⟨by decide, by decide, by omega, by omega⟩, ?_⟩
      refine for_ix (fun j ρ M' => (∃ o9 o11 o12 o13 o14 o15 o16, ρ = [some (.ref n), some (.int N.h), some (.ref l2), some (.ref l3), none, some (.str P.nm), some (.ref l6), some (.ref l7), some (plD P), o9, some (.ref l10), o11, o12, o13, o14, o15, o16]) ∧ Kp [] M M' ∧ UI N l2 l3 l6 l7 M' ∧ M'[l10]? = some (.lst (N.rs.flatMap (arcsOfR N) ++ (N.ps.take i).flatMap (arcsOfP N) ++ (List.range j).map (arcP N P)))) (fun _ _ _ _ => trivial) ?_ ?_ ⟨⟨_, _, _, _, _, _, _, rfl⟩, k7', u7, by simpa using g7'⟩
      · rintro ρ M8 ⟨⟨_, _, _, _, _, _, _, rfl⟩, k8, u8, g8⟩
        refine hK2 _ _ ⟨⟨_, _, _, _, _, _, _, _, _, rfl⟩, k8, u8, ?_⟩
        rw [g8, eP]
        unfold arcsOfP
        rw [if_neg hk]
        simp [rangeD, arcsOfP]
      · rintro j d ρ M8 K3 hd ⟨⟨_, _, _, _, _, _, _, rfl⟩, k8, u8, g8⟩ hK3
        obtain ⟨rfl, hj⟩ := rng2_at hd
        have b8 := u8.2.1
        walk_at "ml"
        refine o_ixK b8 b1 ?_
        walk_at "ml"
        refine o_ixT (v := omD P.kept) rfl ?_
        walk_at "ml"
        refine o_ixT (v := pD P.price) rfl ?_
        walk_at "ml"
        refine o_app g8 (by rw [List.length_append, List.length_append, List.length_map, List.length_range]; omega) ?_
        refine hK3 _ _ ⟨⟨_, _, _, _, _, _, _, rfl⟩, k8.setNew (by omega), u8.set (by omega) (by omega) (by omega) (by omega), ?_⟩
        rw [msame g8, List.range_succ, List.map_append, ← List.append_assoc]
        rfl
  rintro _ M7 ⟨⟨_, _, _, _, _, _, _, _, _, rfl⟩, kG, uG, gG⟩
  have N7 := hN.kp kG (by simp) (by simp) (by simp)
  have i7 := N7.ins
  walk_at "ml"
  refine l_spots N7 ok fun M8 kH gH => ?_
  have lG := kG.len
  walk_at "ml"
  exact k M8 _ _ _ _ (kG.trans kH) ⟨by omega, by omega, by omega, by omega⟩ gH (kH.at_ _ _ (by simp) uG.2.2.1) (kH.at_ _ _ (by simp) uG.2.2.2) (kH.at_ _ _ (by simp) gG)
end Prf

namespace Prf
end Prf

namespace MV
end MV
namespace Prf
end Prf

namespace MV
/-- a refusal with a word -/
def Wd (e : Exn) : Prop := ∃ c f w a, e = xE c f w a ∧ w ≠ "" ∧ PyData.strOk w = true ∧ (∀ k, fine k a = true)
def WdO (o : Option Exn) : Prop := ∀ e, o = some e → Wd e
theorem WdO.or {a b : Option Exn} (h1 : WdO a) (h2 : WdO b) : WdO (a.or b) := by
  cases a with
  | none => exact h2
  | some x => exact fun e he => h1 e (by simpa using he)
end MV
namespace Prf
end Prf

namespace MV
end MV
namespace Prf
theorem isSome_P {ps : List Pl} {s : Str} : (findP ps s).isSome = true ↔ s ∈ ps.map (·.nm) := by
  constructor
  · intro h
    unfold findP at h
    rw [List.find?_isSome] at h
    obtain ⟨x, hx, e⟩ := h
    rw [← of_decide_eq_true e]
    exact List.mem_map_of_mem hx
  · exact find_some
end Prf

namespace MV
theorem NetM.lst {M M' : Mem} {n p r l : Nat} {N : Nt} {ds : List D} (h : NetM M n N p r) (hl : M[l]? = some (.lst ds)) (k : Kp [l] M M') : NetM M' n N p r := by
  refine h.kp k ?_ ?_ ?_
  · simp; rintro rfl; rw [h.ins] at hl; cases hl
  · simp; rintro rfl; rw [h.pl] at hl; cases hl
  · simp; rintro rfl; rw [h.rd] at hl; cases hl
end MV
namespace Prf
end Prf

namespace MV
end MV
namespace Prf
end Prf

namespace MV
end MV
namespace Prf
/-- a place as the sketch makes it, with wants -/
structure PlSk (b : Int × Int) (h : Int) (p : Pl) : Prop where
  room : ∀ m, p.room = some m → RmOk b m
  kept : ∀ m, p.kept = some m → RmOk b m
  price : p.price.1.natAbs ≤ 100 ∧ p.price.2.natAbs ≤ 100
  none : p.kept = some (0, 0) → p.price = (0, 0)
  wl : p.wants.length = h.toNat
  wv : ∀ w ∈ p.wants, Mv w
structure SkN (N : Nt) : Prop where
  s : SmB N.s
  t : SmB N.t
  h : 1 ≤ N.h ∧ N.h ≤ 6
  nm : ∀ z ∈ namesN N, Nm 8 z
  nd : (namesN N).Nodup
  ps : ∀ p ∈ N.ps, PlSk N.s N.h p
  rs : ∀ r ∈ N.rs, RdMk N.s N.t (N.ps.map (·.nm)) r
  pl : N.ps.length ≤ 9
  rl : N.rs.length ≤ 9
end Prf

namespace MV
/-- the telling with its plan at c -/
structure TP (M : Mem) (m : Nat) (N : Nt) (a b : Nat) (pa : List (Nat × Nat)) (rb : List Nat) (c : Nat) (rows : List D) : Prop where
  t : TM M m N a b pa rb [(.inr "plan", .ref c)]
  bc : a < c ∧ b < c
  ord : ∀ z ∈ pa.map (·.1) ++ pa.map (·.2) ++ rb, c < z
  pl : M[c]? = some (.lst rows)
theorem TP.kp {M M' : Mem} {m : Nat} {N : Nt} {a b : Nat} {pa : List (Nat × Nat)} {rb : List Nat} {c : Nat} {rows : List D} (h : TP M m N a b pa rb c rows) {S : List Nat} (k : Kp S M M') (hs : ∀ i ∈ S, i < m) : TP M' m N a b pa rb c rows :=
  ⟨h.t.kp k hs, h.bc, h.ord, k.at_ _ _ (fun hc => by have := hs _ hc; have := h.t.ma; have := h.t.ab; have := h.bc; omega) h.pl⟩
def noW (p : Pl) : Pl := { p with wants := [] }
/-- the same net but for its wants -/
structure SW (N N' : Nt) : Prop where
  h : N'.h = N.h
  s : N'.s = N.s
  t : N'.t = N.t
  rs : N'.rs = N.rs
  ps : N'.ps.map noW = N.ps.map noW
  wl : ∀ p ∈ N'.ps, (p.wants.length : Int) = N'.h
theorem SW.trans {N N1 N2 : Nt} (a : SW N N1) (b : SW N1 N2) : SW N N2 := ⟨b.h.trans a.h, b.s.trans a.s, b.t.trans a.t, b.rs.trans a.rs, b.ps.trans a.ps, b.wl⟩
theorem SW.len {N N' : Nt} (a : SW N N') : N'.ps.length = N.ps.length := by have := congrArg List.length a.ps; simpa using this
theorem SW.nm {N N' : Nt} (a : SW N N') : N'.ps.map (·.nm) = N.ps.map (·.nm) := by
  have := congrArg (List.map (·.nm)) a.ps
  simpa [List.map_map, Function.comp_def, noW] using this
def WB (B : Nat) (N : Nt) : Prop := ∀ p ∈ N.ps, ∀ w ∈ p.wants, w.1.natAbs ≤ B ∧ w.2.natAbs ≤ B
theorem WB.mono {B C : Nat} {N : Nt} (h : WB B N) (e : B ≤ C) : WB C N := fun p hp w hw => ⟨Nat.le_trans (h p hp w hw).1 e, Nat.le_trans (h p hp w hw).2 e⟩
end MV
namespace Prf
end Prf
namespace MV
/-- a row of the plan for an arc -/
structure RowOk (s : Int × Int) (arc row : D) (m : Int × Int) : Prop where
  ar : ∃ (nm : Str) (hr tl hd : Int) (fl : Int × Int) (rg : D), arc = .tup [.str nm, .int hr, .int tl, .int hd, pD fl, rg] ∧ row = .tup [.str nm, .int hr, .int m.1, .int m.2] ∧ RmOk s (m.1 - fl.1, m.2 - fl.2)
  b : m.1.natAbs ≤ 2000 ∧ m.2.natAbs ≤ 2000
end MV
namespace Prf
/-- what an arc of a net is -/
structure ArcOk (N : Nt) (d : D) (nm : Str) (hr tl hd : Int) (fl : Int × Int) (rg : D) : Prop where
  e : d = .tup [.str nm, .int hr, .int tl, .int hd, pD fl, rg]
  t0 : 0 ≤ tl
  t1 : tl < N.ps.length * N.h
  h0 : 0 ≤ hd
  h1 : hd < N.ps.length * N.h
  nm : nm ∈ namesN N
  hr : 1 ≤ hr ∧ hr ≤ N.h
  fl : RmOk N.s fl
theorem baseV_range {N : Nt} {s : Str} (hs : s ∈ N.ps.map (·.nm)) : ∃ i : Nat, i < N.ps.length ∧ baseV N s = i * N.h - 1 := by
  have key : ∀ (l : List Pl) (i : Nat), s ∈ l.map (·.nm) → ∃ j : Nat, i ≤ j ∧ j < i + l.length ∧ dget (baseK N.h i l) (.inr s) = some (.int (j * N.h - 1)) := by
    intro l
    induction l with
    | nil => intro i h; cases h
    | cons p l ih =>
      intro i h
      by_cases e : p.nm = s
      · refine ⟨i, Nat.le_refl _, by simp, ?_⟩
        unfold baseK dget
        simp [e]
      · have h2 : s ∈ l.map (·.nm) := by
          rcases List.mem_cons.mp h with g | g
          · exact absurd g.symm e
          · exact g
        obtain ⟨j, j1, j2, j3⟩ := ih (i + 1) h2
        refine ⟨j, by omega, by simp; omega, ?_⟩
        unfold baseK
        unfold dget at j3 ⊢
        rw [List.find?_cons_of_neg (by simp [e])]
        exact j3
  obtain ⟨j, _, j2, j3⟩ := key N.ps 0 hs
  refine ⟨j, by omega, ?_⟩
  unfold baseV
  rw [j3]
theorem mul_le_h {i n h : Int} (h0 : 0 ≤ h) (hi : i + 1 ≤ n) : i * h + h ≤ n * h := by
  have := Int.mul_le_mul_of_nonneg_right hi h0
  rw [Int.add_mul, Int.one_mul] at this
  exact this
end Prf

namespace MV
end MV
namespace Prf
theorem flat_congr {α β : Type} {l : List α} {f g : α → List β} (h : ∀ x ∈ l, f x = g x) : l.flatMap f = l.flatMap g := by
  induction l with
  | nil => rfl
  | cons a l ih => rw [List.flatMap_cons, List.flatMap_cons, h a (by simp), ih fun x hx => h x (List.mem_cons_of_mem _ hx)]
theorem arcs_le {N : Nt} (ok : NtOk N) : (arcsN N).length ≤ 1000 := by
  have hh := ok.h
  have := ok.pl
  have := ok.rl
  have h1 : (N.rs.flatMap (arcsOfR N)).length ≤ N.rs.length * 6 := flat_le fun x hx => by unfold arcsOfR; have := (ok.rs x hx).takes; simp; omega
  have h2 : (N.ps.flatMap (arcsOfP N)).length ≤ N.ps.length * 6 := flat_le fun x hx => by
    unfold arcsOfP
    split
    · simp
    · simp; omega
  unfold arcsN
  rw [List.length_append]
  omega
end Prf
namespace MV
end MV

namespace MV
structure D5 (M : Mem) (a1 a2 a3 a4 a5 : Nat) (l1 l2 l3 l4 l5 : List D) : Prop where
  o : a1 < a2 ∧ a2 < a3 ∧ a3 < a4 ∧ a4 < a5
  h1 : M[a1]? = some (.lst l1)
  h2 : M[a2]? = some (.lst l2)
  h3 : M[a3]? = some (.lst l3)
  h4 : M[a4]? = some (.lst l4)
  h5 : M[a5]? = some (.lst l5)
section
variable {M : Mem} {a1 a2 a3 a4 a5 : Nat} {l1 l2 l3 l4 l5 l : List D}
theorem D5.s1 (h : D5 M a1 a2 a3 a4 a5 l1 l2 l3 l4 l5) : D5 (M.set a1 (.lst l)) a1 a2 a3 a4 a5 l l2 l3 l4 l5 := by
  obtain ⟨o, h1, h2, h3, h4, h5⟩ := h
  exact ⟨o, msame h1, by rw [List.getElem?_set_ne (by omega)]; exact h2, by rw [List.getElem?_set_ne (by omega)]; exact h3, by rw [List.getElem?_set_ne (by omega)]; exact h4, by rw [List.getElem?_set_ne (by omega)]; exact h5⟩
theorem D5.s2 (h : D5 M a1 a2 a3 a4 a5 l1 l2 l3 l4 l5) : D5 (M.set a2 (.lst l)) a1 a2 a3 a4 a5 l1 l l3 l4 l5 := by
  obtain ⟨o, h1, h2, h3, h4, h5⟩ := h
  exact ⟨o, by rw [List.getElem?_set_ne (by omega)]; exact h1, msame h2, by rw [List.getElem?_set_ne (by omega)]; exact h3, by rw [List.getElem?_set_ne (by omega)]; exact h4, by rw [List.getElem?_set_ne (by omega)]; exact h5⟩
theorem D5.s3 (h : D5 M a1 a2 a3 a4 a5 l1 l2 l3 l4 l5) : D5 (M.set a3 (.lst l)) a1 a2 a3 a4 a5 l1 l2 l l4 l5 := by
  obtain ⟨o, h1, h2, h3, h4, h5⟩ := h
  exact ⟨o, by rw [List.getElem?_set_ne (by omega)]; exact h1, by rw [List.getElem?_set_ne (by omega)]; exact h2, msame h3, by rw [List.getElem?_set_ne (by omega)]; exact h4, by rw [List.getElem?_set_ne (by omega)]; exact h5⟩
theorem D5.s4 (h : D5 M a1 a2 a3 a4 a5 l1 l2 l3 l4 l5) : D5 (M.set a4 (.lst l)) a1 a2 a3 a4 a5 l1 l2 l3 l l5 := by
  obtain ⟨o, h1, h2, h3, h4, h5⟩ := h
  exact ⟨o, by rw [List.getElem?_set_ne (by omega)]; exact h1, by rw [List.getElem?_set_ne (by omega)]; exact h2, by rw [List.getElem?_set_ne (by omega)]; exact h3, msame h4, by rw [List.getElem?_set_ne (by omega)]; exact h5⟩
theorem D5.s5 (h : D5 M a1 a2 a3 a4 a5 l1 l2 l3 l4 l5) : D5 (M.set a5 (.lst l)) a1 a2 a3 a4 a5 l1 l2 l3 l4 l := by
  obtain ⟨o, h1, h2, h3, h4, h5⟩ := h
  exact ⟨o, by rw [List.getElem?_set_ne (by omega)]; exact h1, by rw [List.getElem?_set_ne (by omega)]; exact h2, by rw [List.getElem?_set_ne (by omega)]; exact h3, by rw [List.getElem?_set_ne (by omega)]; exact h4, msame h5⟩
theorem D5.kp {M' : Mem} (h : D5 M a1 a2 a3 a4 a5 l1 l2 l3 l4 l5) (k : Kp [] M M') : D5 M' a1 a2 a3 a4 a5 l1 l2 l3 l4 l5 := ⟨h.o, k.at_ _ _ (by simp) h.h1, k.at_ _ _ (by simp) h.h2, k.at_ _ _ (by simp) h.h3, k.at_ _ _ (by simp) h.h4, k.at_ _ _ (by simp) h.h5⟩
end
def zip3K (k : List D → (Mem → Prop) → Mem → Prop) : List D → Mem → Prop := fun ds M1 => match ds with
  | [.ref l, .ref m, .ref n] => match M1[l]?, M1[m]?, M1[n]? with
    | some (.lst xs), some (.lst ys), some (.lst zs) => k (zipD3 xs ys zs) (fun M => M[l]? = some (.lst xs) ∧ M[m]? = some (.lst ys) ∧ M[n]? = some (.lst zs)) M1
    | _, _, _ => False
  | _ => False
theorem x_zip3 {ma : MA} {ρ : Ev} {M : Mem} {k : List D → (Mem → Prop) → Mem → Prop} {X : XM} (h : ma ρ M (zip3K k) X) : mIZip3 ma ρ M k X := h
theorem zip3_at {M : Mem} {l m n : Nat} {xs ys zs : List D} {k : List D → (Mem → Prop) → Mem → Prop} (e1 : M[l]? = some (.lst xs)) (e2 : M[m]? = some (.lst ys)) (e3 : M[n]? = some (.lst zs)) (h : k (zipD3 xs ys zs) (fun M => M[l]? = some (.lst xs) ∧ M[m]? = some (.lst ys) ∧ M[n]? = some (.lst zs)) M) : zip3K k [.ref l, .ref m, .ref n] M := by
  unfold zip3K
  dsimp only
  rw [e1, e2, e3]
  exact h
end MV
namespace Prf
structure It4 where
  p : D
  h : D
  w : D
  r : Option (Int × Int)
structure Ar6 where
  nm : D
  hr : D
  t : Nat
  hd : Nat
  fl : D
  rg : D
structure DSt where
  nodes : List D
  needs : List D
  door : List Int
  hall : List Int
  behind : List D
def zz : D := .tup [.int 0, .int 0]
def dstep (s : DSt) (i : It4) : DSt := match i.r with
  | none => ⟨s.nodes ++ [.tup [i.p, i.h, .str "both"]], s.needs ++ [i.w], s.door ++ [(s.nodes.length : Int)], s.hall ++ [(s.nodes.length : Int)], s.behind⟩
  | some r => ⟨s.nodes ++ [.tup [i.p, i.h, .str "door"], .tup [i.p, i.h, .str "hall"]], s.needs ++ [zz, i.w], s.door ++ [(s.nodes.length : Int)], s.hall ++ [(s.nodes.length : Int) + 1], s.behind ++ [.tup [.str "", i.h, .int s.nodes.length, .int ((s.nodes.length : Int) + 1), zz, .tup [.tup [pD r, zz]]]]⟩
def dfold (its : List It4) : DSt := its.foldl dstep ⟨[], [], [], [], []⟩
theorem dfold_app {l : List It4} {i : It4} : dfold (l ++ [i]) = dstep (dfold l) i := by unfold dfold; rw [List.foldl_append]; rfl
theorem dfold_len : ∀ {its : List It4}, (dfold its).nodes.length ≤ 2 * its.length ∧ (dfold its).needs.length ≤ 2 * its.length ∧ (dfold its).door.length = its.length ∧ (dfold its).hall.length = its.length ∧ (dfold its).behind.length ≤ its.length := by
  intro its
  have key : ∀ n, n ≤ its.length → (dfold (its.take n)).nodes.length ≤ 2 * n ∧ (dfold (its.take n)).needs.length ≤ 2 * n ∧ (dfold (its.take n)).door.length = n ∧ (dfold (its.take n)).hall.length = n ∧ (dfold (its.take n)).behind.length ≤ n := by
    intro n
    induction n with
    | zero => intro _; simp [dfold]
    | succ n ih =>
      intro hn
      obtain ⟨h1, h2, h3, h4, h5⟩ := ih (by omega)
      obtain ⟨P, hP⟩ : ∃ P, its[n]? = some P := ⟨_, List.getElem?_eq_getElem (by omega)⟩
      rw [List.take_succ, hP]
      show (dfold (its.take n ++ [P])).nodes.length ≤ _ ∧ _
      rw [show its.take n ++ (some P).toList = its.take n ++ [P] from rfl, dfold_app]
      unfold dstep
      split <;> simp <;> omega
  have := key its.length (Nat.le_refl _)
  rw [List.take_of_length_le (Nat.le_refl _)] at this
  exact this
def arD (a : Ar6) : D := .tup [a.nm, a.hr, .int a.t, .int a.hd, a.fl, a.rg]
def arOut (s : DSt) (a : Ar6) : D := .tup [a.nm, a.hr, .int ((s.hall[a.t]?).getD 0), .int ((s.door[a.hd]?).getD 0), a.fl, a.rg]
def foundD (its : List It4) (ars : List Ar6) : List D := ars.map (arOut (dfold its)) ++ (dfold its).behind
theorem l_doored {M : Mem} {Q : DK} {X : XM} {b1 b2 b3 b4 : Nat} {its : List It4} {ars : List Ar6} (e1 : M[b1]? = some (.lst (its.map fun i => .tup [i.p, i.h]))) (e2 : M[b2]? = some (.lst (its.map (·.w)))) (e3 : M[b3]? = some (.lst (its.map fun i => omD i.r))) (e4 : M[b4]? = some (.lst (ars.map arD)))
    (hin : ∀ a ∈ ars, a.t < its.length ∧ a.hd < its.length) (hl : its.length ≤ 1000) (hl2 : ars.length ≤ 10000)
    (k : ∀ M' a1 a2 a6, Kp [] M M' → M.length ≤ a1 → a1 < a2 → a2 < a6 → M'[a1]? = some (.lst (dfold its).nodes) → M'[a2]? = some (.lst (dfold its).needs) → M'[a6]? = some (.lst (foundD its ars)) → Q (.tup [.ref a1, .ref a2, .ref a6]) M') : w_doored [.ref b1, .ref b2, .ref b3, .ref b4] M Q X := by
  unfold w_doored wOf
  rw [show startE N_doored [.ref b1, .ref b2, .ref b3, .ref b4] = [some (.ref b1), some (.ref b2), some (.ref b3), some (.ref b4), none, none, none, none, none, none, none, none, none, none, none, none, none, none, none] from rfl]
  unfold m_doored
  iterate 2 walk_at "sx"
  walk_at "mq"
  dsimp only
  iterate 2 walk_at "sx"
  walk_at "mq"
  dsimp only
  iterate 2 walk_at "sx"
  walk_at "mq"
  dsimp only
  iterate 2 walk_at "sx"
  walk_at "mq"
  dsimp only
  iterate 2 walk_at "sx"
  walk_at "mq"
  dsimp only
  have k0 : Kp [] M (M ++ [O.lst []] ++ [O.lst []] ++ [O.lst []] ++ [O.lst []] ++ [O.lst []]) := Kp.trans (Kp.trans (Kp.trans (Kp.trans .app .app) .app) .app) .app
  have d0 : D5 (M ++ [O.lst []] ++ [O.lst []] ++ [O.lst []] ++ [O.lst []] ++ [O.lst []]) M.length (M ++ [O.lst []]).length (M ++ [O.lst []] ++ [O.lst []]).length (M ++ [O.lst []] ++ [O.lst []] ++ [O.lst []]).length (M ++ [O.lst []] ++ [O.lst []] ++ [O.lst []] ++ [O.lst []]).length (dfold (its.take 0)).nodes (dfold (its.take 0)).needs ((dfold (its.take 0)).door.map .int) ((dfold (its.take 0)).hall.map .int) (dfold (its.take 0)).behind :=
    ⟨by simp, ((Kp.trans (Kp.trans (Kp.trans .app .app) .app) .app : Kp [] (M ++ [O.lst []]) _)).at_ _ _ (by simp) mnew, ((Kp.trans (Kp.trans .app .app) .app : Kp [] (M ++ [O.lst []] ++ [O.lst []]) _)).at_ _ _ (by simp) mnew, ((Kp.trans .app .app : Kp [] (M ++ [O.lst []] ++ [O.lst []] ++ [O.lst []]) _)).at_ _ _ (by simp) mnew, ((Kp.app : Kp [] (M ++ [O.lst []] ++ [O.lst []] ++ [O.lst []] ++ [O.lst []]) _)).at_ _ _ (by simp) mnew, mnew⟩
  generalize M ++ [O.lst []] ++ [O.lst []] ++ [O.lst []] ++ [O.lst []] ++ [O.lst []] = M0 at *
  generalize (M ++ [O.lst []] ++ [O.lst []] ++ [O.lst []] ++ [O.lst []]).length = a5 at *
  generalize (M ++ [O.lst []] ++ [O.lst []] ++ [O.lst []]).length = a4 at *
  generalize (M ++ [O.lst []] ++ [O.lst []]).length = a3 at *
  generalize (M ++ [O.lst []]).length = a2 at *
  have la : M.length ≤ M.length := Nat.le_refl _
  generalize ha1 : M.length = a1 at d0 ⊢
  replace la : M.length ≤ a1 := by omega
  have ord := d0.o
  with_reducible refine x_join (fun ρ M' => (∃ o9 o10 o11 o12, ρ = [some (.ref b1), some (.ref b2), some (.ref b3), some (.ref b4), some (.ref a1), some (.ref a2), some (.ref a3), some (.ref a4), some (.ref a5), o9, o10, o11, o12, none, none, none, none, none, none]) ∧ Kp [] M M' ∧ D5 M' a1 a2 a3 a4 a5 (dfold its).nodes (dfold its).needs ((dfold its).door.map .int) ((dfold its).hall.map .int) (dfold its).behind) ?_ ?_
  · intro K hK
    walk_at "sx"
    refine x_zip3 ?_
    walk_at "ml"
    refine zip3_at (k0.at_ _ _ (by simp) e1) (k0.at_ _ _ (by simp) e2) (k0.at_ _ _ (by simp) e3) ?_
    have zl : (zipD3 (its.map fun i => D.tup [i.p, i.h]) (its.map (·.w)) (its.map fun i => omD i.r)).length = its.length := by simp [zipD3]
    refine for_ix (fun i ρ M' => (∃ o9 o10 o11 o12, ρ = [some (.ref b1), some (.ref b2), some (.ref b3), some (.ref b4), some (.ref a1), some (.ref a2), some (.ref a3), some (.ref a4), some (.ref a5), o9, o10, o11, o12, none, none, none, none, none, none]) ∧ Kp [] M M' ∧ D5 M' a1 a2 a3 a4 a5 (dfold (its.take i)).nodes (dfold (its.take i)).needs ((dfold (its.take i)).door.map .int) ((dfold (its.take i)).hall.map .int) (dfold (its.take i)).behind) (fun _ _ _ h => ⟨h.2.1.at_ _ _ (by simp) e1, h.2.1.at_ _ _ (by simp) e2, h.2.1.at_ _ _ (by simp) e3⟩) ?_ ?_ ⟨⟨_, _, _, _, rfl⟩, k0, d0⟩
    · rintro ρ M1 ⟨⟨_, _, _, _, rfl⟩, k1, d1⟩
      rw [zl, List.take_of_length_le (Nat.le_refl _)] at d1
      exact hK _ _ ⟨⟨_, _, _, _, rfl⟩, k1, d1⟩
    · rintro i d ρ M1 K2 hd ⟨⟨o9, o10, o11, o12, rfl⟩, k1, d1⟩ hK2
      obtain ⟨x, y, z, hx, hy, hz, rfl⟩ := zipD3_get hd
      rw [List.getElem?_map] at hx hy hz
      cases hP : its[i]? with
      | none => rw [hP] at hx; cases hx
      | some P =>
      rw [hP] at hx hy hz
      cases hx; cases hy; cases hz
      have hil := (List.getElem?_eq_some_iff.mp hP).1
      have ln := dfold_len (its := its.take i)
      rw [show (its.take i).length = i by rw [List.length_take]; omega] at ln
      have eF : dfold (its.take (i + 1)) = dstep (dfold (its.take i)) P := by
        rw [List.take_succ, hP, show its.take i ++ (some P).toList = its.take i ++ [P] from rfl, dfold_app]
      rw [eF] at hK2
      generalize dfold (its.take i) = S at *
      obtain ⟨S1, S2, S3, S4, S5⟩ := S
      dsimp only at d1 ln
      have f1 := d1.h1
      have f3 := d1.h3
      walk_at "ml"
      refine o_app f3 (by simp; omega) ?_
      have d2 := d1.s3 (l := S3.map .int ++ [.int (S1.length : Int)])
      have k2 := k1.setNew (n := a3) (o := .lst (S3.map .int ++ [.int (S1.length : Int)])) (by omega)
      clear f1 f3
      generalize M1.set a3 (.lst (S3.map .int ++ [.int (S1.length : Int)])) = M2 at *
      have g1 := d2.h1
      have g2 := d2.h2
      have g4 := d2.h4
      have g5 := d2.h5
      obtain ⟨Pp, Ph, Pw, Pr⟩ := P
      dsimp only
      cases Pr with
      | none =>
        walk_at "ml"
        refine if_t ?_
        walk_at "ml"
        refine o_app g1 (by omega) ?_
        have d3 := d2.s1 (l := S1 ++ [.tup [Pp, Ph, .str "both"]])
        have k3 := k2.setNew (n := a1) (o := .lst (S1 ++ [.tup [Pp, Ph, .str "both"]])) la
        clear g1 g2 g4 g5
        generalize M2.set a1 (.lst (S1 ++ [.tup [Pp, Ph, .str "both"]])) = M3 at *
        have g1 := d3.h1
        have g4 := d3.h4
        walk_at "ml"
        refine o_app g4 (by simp; omega) ?_
        rw [show ((S1 ++ [D.tup [Pp, Ph, .str "both"]]).length : Int) - 1 = S1.length by simp]
        have d4 := d3.s4 (l := S4.map .int ++ [.int (S1.length : Int)])
        have k4 := k3.setNew (n := a4) (o := .lst (S4.map .int ++ [.int (S1.length : Int)])) (by omega)
        clear g1 g4
        generalize M3.set a4 (.lst (S4.map .int ++ [.int (S1.length : Int)])) = M4 at *
        have g2 := d4.h2
        walk_at "ml"
        refine o_app g2 (by omega) ?_
        refine hK2 _ _ ⟨⟨_, _, _, _, rfl⟩, k4.setNew (by omega), ?_⟩
        have d5 := d4.s2 (l := S2 ++ [Pw])
        simpa [dstep] using d5
      | some rm =>
        walk_at "ml"
        refine if_f ?_
        walk_at "ml"
        refine o_app g5 (by omega) ?_
        have d3 := d2.s5 (l := S5 ++ [.tup [.str "", Ph, .int S1.length, .int ((S1.length : Int) + 1), .tup [.int 0, .int 0], .tup [.tup [omD (some rm), .tup [.int 0, .int 0]]]]])
        have k3 := k2.setNew (n := a5) (o := .lst (S5 ++ [.tup [.str "", Ph, .int S1.length, .int ((S1.length : Int) + 1), .tup [.int 0, .int 0], .tup [.tup [omD (some rm), .tup [.int 0, .int 0]]]]])) (by omega)
        clear g1 g2 g4 g5
        generalize M2.set a5 (.lst (S5 ++ [.tup [.str "", Ph, .int S1.length, .int ((S1.length : Int) + 1), .tup [.int 0, .int 0], .tup [.tup [omD (some rm), .tup [.int 0, .int 0]]]]])) = M3 at *
        have g1 := d3.h1
        walk_at "ml"
        refine o_app g1 (by omega) ?_
        have d4 := d3.s1 (l := S1 ++ [.tup [Pp, Ph, .str "door"]])
        have k4 := k3.setNew (n := a1) (o := .lst (S1 ++ [.tup [Pp, Ph, .str "door"]])) la
        clear g1
        generalize M3.set a1 (.lst (S1 ++ [.tup [Pp, Ph, .str "door"]])) = M4 at *
        have g2 := d4.h2
        walk_at "ml"
        refine o_app g2 (by omega) ?_
        have d5 := d4.s2 (l := S2 ++ [.tup [.int 0, .int 0]])
        have k5 := k4.setNew (n := a2) (o := .lst (S2 ++ [.tup [.int 0, .int 0]])) (by omega)
        clear g2
        generalize M4.set a2 (.lst (S2 ++ [.tup [.int 0, .int 0]])) = M5 at *
        have g1 := d5.h1
        walk_at "ml"
        refine o_app g1 (by simp; omega) ?_
        have d6 := d5.s1 (l := S1 ++ [.tup [Pp, Ph, .str "door"]] ++ [.tup [Pp, Ph, .str "hall"]])
        have k6 := k5.setNew (n := a1) (o := .lst (S1 ++ [.tup [Pp, Ph, .str "door"]] ++ [.tup [Pp, Ph, .str "hall"]])) la
        clear g1
        generalize M5.set a1 (.lst (S1 ++ [.tup [Pp, Ph, .str "door"]] ++ [.tup [Pp, Ph, .str "hall"]])) = M6 at *
        have g1 := d6.h1
        have g4 := d6.h4
        walk_at "ml"
        refine o_app g4 (by simp; omega) ?_
        rw [show ((S1 ++ [D.tup [Pp, Ph, D.str "door"]] ++ [D.tup [Pp, Ph, D.str "hall"]]).length : Int) - 1 = (S1.length : Int) + 1 by simp; omega]
        have d7 := d6.s4 (l := S4.map .int ++ [.int ((S1.length : Int) + 1)])
        have k7 := k6.setNew (n := a4) (o := .lst (S4.map .int ++ [.int ((S1.length : Int) + 1)])) (by omega)
        clear g1 g4
        generalize M6.set a4 (.lst (S4.map .int ++ [.int ((S1.length : Int) + 1)])) = M7 at *
        have g2 := d7.h2
        walk_at "ml"
        refine o_app g2 (by simp; omega) ?_
        refine hK2 _ _ ⟨⟨_, _, _, _, rfl⟩, k7.setNew (by omega), ?_⟩
        have d8 := d7.s2 (l := S2 ++ [.tup [.int 0, .int 0]] ++ [Pw])
        simpa [dstep, zz, omD] using d8
  rintro _ M1 ⟨⟨o9, o10, o11, o12, rfl⟩, k1, d1⟩
  have ln := dfold_len (its := its)
  have e41 := k1.at_ _ _ (by simp) e4
  have l1 := mlt d1.h5
  generalize hS : dfold its = S at *
  obtain ⟨S1, S2, S3, S4, S5⟩ := S
  dsimp only at d1 ln
  walk_at "ml"
  refine lcT_ix (fun j acc M' => acc = (ars.take j).map (arOut ⟨S1, S2, S3, S4, S5⟩) ∧ Kp [] M1 M') (fun _ _ _ h => h.2.at_ _ _ (by simp) e41) ?_ ?_ (by simp; omega) mnew ⟨rfl, .app⟩
  · rintro j d acc M2 K hd hacc ⟨rfl, k2⟩ hK
    rw [List.getElem?_map] at hd
    cases hA : ars[j]? with
    | none => rw [hA] at hd; cases hd
    | some A =>
    rw [hA] at hd
    cases hd
    obtain ⟨i1, i2⟩ := hin A (List.mem_of_getElem? hA)
    have d2 := d1.kp k2
    obtain ⟨u, hu⟩ : ∃ u, S4[A.t]? = some u := ⟨_, List.getElem?_eq_getElem (by omega)⟩
    obtain ⟨v, hv⟩ : ∃ v, S3[A.hd]? = some v := ⟨_, List.getElem?_eq_getElem (by omega)⟩
    unfold arD
    walk_at "ml"
    refine o_ixL d2.h4 (v := .int u) (by rw [atI_n, List.getElem?_map, hu]; rfl) ?_
    walk_at "ml"
    refine o_ixL d2.h3 (v := .int v) (by rw [atI_n, List.getElem?_map, hv]; rfl) ?_
    walk_at "ml"
    refine hK _ _ hacc ⟨?_, k2.setNew (Nat.le_refl _)⟩
    rw [List.take_succ, hA, List.map_append]
    simp [arOut, hu, hv]
  rintro _ M2 h2 ⟨rfl, k2⟩
  rw [List.length_map, List.take_of_length_le (Nat.le_refl _)] at h2
  have d2 := d1.kp k2
  have g5 := d2.h5
  generalize ha6 : M1.length = a6 at *
  walk_at "ml"
  refine o_ext h2 g5 (by simp; omega) ?_
  have k3 := (k1.trans k2).setNew (n := a6) (o := .lst (ars.map (arOut ⟨S1, S2, S3, S4, S5⟩) ++ S5)) (by have := k1.len; omega)
  walk_at "ml"
  refine k _ a1 a2 a6 k3 la ord.1 (by omega) ?_ ?_ ?_
  · rw [List.getElem?_set_ne (by omega)]; exact d2.h1
  · rw [List.getElem?_set_ne (by omega)]; exact d2.h2
  · rw [msame h2]
    unfold foundD
    rw [hS]
end Prf

namespace Prf
structure At where
  nm : Str
  hr : Int
  t : Nat
  hd : Nat
  fl : Int × Int
  rg : List Rung
def At.d (a : At) : D := .tup [.str a.nm, .int a.hr, .int (a.t : Int), .int (a.hd : Int), pD a.fl, .tup (a.rg.map rungD)]
structure Rw where
  nm : Str
  hr : Int
  k : Nat
  tl : Nat
  hd : Nat
  fl : Int × Int
  rm : Option (Int × Int)
  pr : Int × Int
def Rw.d (r : Rw) : D := .tup [.str r.nm, .int r.hr, .int ((r.k : Int) + 1), .int (r.tl : Int), .int (r.hd : Int), pD r.fl, omD r.rm, pD r.pr]
def rowsW (a : At) : List Rw := a.rg.mapIdx fun k g => ⟨a.nm, a.hr, k, a.t, a.hd, if k = 0 then a.fl else (0, 0), g.1, g.2⟩
def rowsL (l : List At) : List Rw := l.flatMap rowsW
theorem rowsL_succ {l : List At} {i : Nat} {a : At} (h : l[i]? = some a) : rowsL (l.take (i + 1)) = rowsL (l.take i) ++ rowsW a := by
  unfold rowsL
  rw [List.take_succ, h, List.flatMap_append]
  simp
theorem rowsW_len {a : At} : (rowsW a).length = a.rg.length := by simp [rowsW]
theorem rowsL_le {l : List At} (h : ∀ a ∈ l, a.rg.length ≤ 4) : (rowsL l).length ≤ 4 * l.length := by
  unfold rowsL
  induction l with
  | nil => simp
  | cons a l ih =>
    rw [List.flatMap_cons, List.length_append, rowsW_len, List.length_cons]
    have := h a (by simp)
    have := ih fun x hx => h x (List.mem_cons_of_mem _ hx)
    omega
theorem take_succ' {α : Type} {l : List α} {i : Nat} {d : α} (h : l[i]? = some d) : l.take (i + 1) = l.take i ++ [d] := by
  rw [List.take_add_one, h]; rfl
theorem l_laidW {M : Mem} {n : Nat} {arcs : List At} {Q : DK} {X : XM} (hn : M[n]? = some (.lst (arcs.map At.d))) (h4 : ∀ a ∈ arcs, a.rg.length ≤ 4) (hl : arcs.length ≤ 4000)
    (k : ∀ M', Kp [] M M' → M'[M.length]? = some (.lst ((rowsL arcs).map Rw.d)) → Q (.ref M.length) M') : w_laid [.ref n] M Q X := by
  unfold w_laid wOf
  rw [show startE N_laid [.ref n] = [some (.ref n), none, none, none, none, none, none, none, none, none, none, none] from rfl]
  unfold m_laid
  have hnl := mlt hn
  walk_at "sx"
  walk_at "sx"
  walk_at "mq"
  have k0 : Kp [] M (M ++ [O.lst []]) := .app
  have z0 : (M ++ [O.lst []])[M.length]? = some (.lst ([].map Rw.d)) := mnew
  have n0 := k0.at_ _ _ (by simp) hn
  have zl : M.length ≤ M.length := Nat.le_refl _
  have zn : M.length ≠ n := by omega
  generalize hz : M.length = z at *
  generalize M ++ [O.lst []] = M0 at *
  walk_at "ml"
  refine for_ix (fun i ρ M' => (∃ o2 o3 o4 o5 o6 o7 o8 o9 o10 o11, ρ = [some (.ref n), some (.ref z), o2, o3, o4, o5, o6, o7, o8, o9, o10, o11]) ∧ Kp [] M M' ∧ M'[n]? = some (.lst (arcs.map At.d)) ∧ M'[z]? = some (.lst ((rowsL (arcs.take i)).map Rw.d))) (fun _ _ _ h => h.2.2.1) ?_ ?_ ⟨⟨_, _, _, _, _, _, _, _, _, _, rfl⟩, k0, n0, z0⟩
  · rintro ρ M1 ⟨⟨_, _, _, _, _, _, _, _, _, _, rfl⟩, k1, _, h1⟩
    rw [List.length_map, List.take_of_length_le (Nat.le_refl _)] at h1
    walk_at "ml"
    exact k M1 k1 h1
  · rintro i d ρ M1 K hd ⟨⟨_, _, _, _, _, _, _, _, _, _, rfl⟩, k1, n1, h1⟩ hK
    rw [List.getElem?_map] at hd
    cases ha : arcs[i]? with
    | none => rw [ha] at hd; cases hd
    | some a =>
    rw [ha] at hd
    cases hd
    have l1 : (rowsL (arcs.take i)).length ≤ 16000 := by
      have := rowsL_le (l := arcs.take i) fun x hx => h4 x (List.mem_of_mem_take hx)
      have e : (arcs.take i).length ≤ 4000 := by simp; omega
      omega
    have r4 := h4 a (List.mem_of_getElem? ha)
    rw [rowsL_succ ha] at hK
    generalize rowsL (arcs.take i) = R at *
    unfold At.d
    refine x_tp rfl ?_
    walk_at "ml"
    refine for_ix (fun j ρ M' => (∃ o8 o9 o10 o11, ρ = [some (.ref n), some (.ref z), some (.str a.nm), some (.int a.hr), some (.int (a.t : Int)), some (.int (a.hd : Int)), some (pD a.fl), some (.tup (a.rg.map rungD)), o8, o9, o10, o11]) ∧ Kp [] M M' ∧ M'[n]? = some (.lst (arcs.map At.d)) ∧ M'[z]? = some (.lst ((R ++ (rowsW a).take j).map Rw.d))) (fun _ _ _ _ => trivial) ?_ ?_ ⟨⟨_, _, _, _, rfl⟩, k1, n1, by simpa using h1⟩
    · rintro ρ M2 ⟨⟨_, _, _, _, rfl⟩, k2, n2, h2⟩
      rw [List.take_of_length_le (by simp [enumD, rowsW_len])] at h2
      exact hK _ _ ⟨⟨_, _, _, _, _, _, _, _, _, _, rfl⟩, k2, n2, h2⟩
    · rintro j e ρ M2 K2 he ⟨⟨_, _, _, _, rfl⟩, k2, n2, h2⟩ hK2
      obtain ⟨g, hg, rfl⟩ := enumD_get he
      rw [List.getElem?_map] at hg
      cases hg2 : a.rg[j]? with
      | none => rw [hg2] at hg; cases hg
      | some g0 =>
      rw [hg2] at hg
      cases hg
      have hj := (List.getElem?_eq_some_iff.mp hg2).1
      have er : (rowsW a)[j]? = some ⟨a.nm, a.hr, j, a.t, a.hd, if j = 0 then a.fl else (0, 0), g0.1, g0.2⟩ := by
        unfold rowsW
        rw [List.getElem?_mapIdx, hg2]; rfl
      rw [take_succ' er, ← List.append_assoc] at hK2
      have l2 : ((R ++ (rowsW a).take j).map Rw.d).length < 16000000 := by
        simp [rowsW_len]; omega
      generalize R ++ (rowsW a).take j = R2 at *
      walk_at "mq"
      with_reducible refine x_join (fun ρ M' => M2 = M' ∧ ∃ o8 o11 : Option D, ρ = [some (.ref n), some (.ref z), some (.str a.nm), some (.int a.hr), some (.int (a.t : Int)), some (.int (a.hd : Int)), some (pD a.fl), some (.tup (a.rg.map rungD)), some (.int (j : Int)), some (pD (if j = 0 then a.fl else (0, 0))), some (omD g0.1), some (pD g0.2)]) ?_ ?_
      · intro K3 hK3
        walk_at "ml"
        refine if_d (fun hc => ?_) (fun hc => ?_)
        · walk_at "ml"
          exact hK3 _ _ ⟨rfl, none, none, by rw [if_pos (by omega)]; rfl⟩
        · walk_at "ml"
          exact hK3 _ _ ⟨rfl, none, none, by rw [if_neg (by omega)]; rfl⟩
      rintro _ _ ⟨rfl, _, _, rfl⟩
      walk_at "ml"
      refine o_app h2 l2 ?_
      refine hK2 _ _ ⟨⟨_, _, _, _, rfl⟩, k2.setNew (by omega), ?_, ?_⟩
      · rw [List.getElem?_set_ne zn]; exact n2
      · rw [msame h2, List.map_append]; rfl

def putW (ns : List (Int × Int)) (j : Nat) (f : Int × Int → Int × Int) : List (Int × Int) := ns.set j (f (ns.getD j (0, 0)))
def needsW (ns : List (Int × Int)) (r : Rw) : List (Int × Int) := putW (putW ns r.hd fun x => (x.1 - r.fl.1, x.2 - r.fl.2)) r.tl fun x => (x.1 + r.fl.1, x.2 + r.fl.2)
def fixW (f : Int × Int × Int × Int) (r : Rw) : Int × Int × Int × Int := (f.1 + r.fl.1 * r.pr.1, f.2.1 + r.fl.2 * r.pr.1, f.2.2.1 + r.fl.1 * r.pr.2, f.2.2.2 + r.fl.2 * r.pr.2)
def plainW (r : Rw) : D := .tup [.int (r.tl : Int), .int (r.hd : Int), omD r.rm, pD r.pr]
def f4W (f : Int × Int × Int × Int) : D := .tup [.int f.1, .int f.2.1, .int f.2.2.1, .int f.2.2.2]
theorem putW_len {ns : List (Int × Int)} {j : Nat} {f : Int × Int → Int × Int} : (putW ns j f).length = ns.length := by simp [putW]
theorem needsW_len {ns : List (Int × Int)} {r : Rw} : (needsW ns r).length = ns.length := by unfold needsW; rw [putW_len, putW_len]
theorem foldW_len {l : List Rw} : ∀ {ns : List (Int × Int)}, (l.foldl needsW ns).length = ns.length := by
  induction l with
  | nil => intro ns; rfl
  | cons d l ih => intro ns; rw [List.foldl_cons, ih, needsW_len]
theorem at_pDW {ns : List (Int × Int)} {i : Nat} (h : i < ns.length) : atI (ns.map pD) (i : Int) = some (pD (ns.getD i (0, 0))) := by
  rw [atI_n, List.getElem?_map, List.getElem?_eq_getElem h]
  simp [List.getD, h]
theorem set_pDW {ns : List (Int × Int)} {j : Nat} {f : Int × Int → Int × Int} : (ns.map pD).set j (pD (f (ns.getD j (0, 0)))) = (putW ns j f).map pD := by
  unfold putW; rw [List.map_set]
theorem fold_succ {α β : Type} {f : β → α → β} {l : List α} {i : Nat} {d : α} {b : β} (h : l[i]? = some d) : (l.take (i + 1)).foldl f b = f ((l.take i).foldl f b) d := by
  rw [take_succ' h, List.foldl_append]; rfl
theorem take_okW {M : Mem} {x y : Int × Int} {Q : DK} {X : XM} (h : Q (pD (x.1 - y.1, x.2 - y.2)) M) : w_take [pD x, pD y] M Q X := by
  unfold w_take wOf
  rw [show startE N_take [pD x, pD y] = [some (pD x), some (pD y)] from rfl]
  unfold m_take
  walk_at "ml"
  exact h
theorem add_okW {M : Mem} {x y : Int × Int} {Q : DK} {X : XM} (h : Q (pD (x.1 + y.1, x.2 + y.2)) M) : w_add [pD x, pD y] M Q X := by
  unfold w_add wOf
  rw [show startE N_add [pD x, pD y] = [some (pD x), some (pD y)] from rfl]
  unfold m_add
  walk_at "ml"
  exact h
theorem product_okW {M : Mem} {x y : Int × Int} {Q : DK} {X : XM} (ha : x.1.natAbs < 2 ^ 64) (hb : x.2.natAbs < 2 ^ 64) (h : Q (f4W (x.1 * y.1, x.2 * y.1, x.1 * y.2, x.2 * y.2)) M) : w_product [pD x, pD y] M Q X := by
  unfold w_product wOf
  rw [show startE N_product [pD x, pD y] = [some (pD x), some (pD y)] from rfl]
  unfold m_product
  walk_at "ml"
  refine o_mul (mul_ok' ha) ?_
  walk_at "ml"
  refine o_mul (mul_ok' hb) ?_
  walk_at "ml"
  refine o_mul (mul_ok' ha) ?_
  walk_at "ml"
  refine o_mul (mul_ok' hb) ?_
  walk_at "ml"
  exact h
theorem summed_okW {M : Mem} {f g : Int × Int × Int × Int} {Q : DK} {X : XM} (h : Q (f4W (f.1 + g.1, f.2.1 + g.2.1, f.2.2.1 + g.2.2.1, f.2.2.2 + g.2.2.2)) M) : w_summed [f4W f, f4W g] M Q X := by
  unfold w_summed wOf
  rw [show startE N_summed [f4W f, f4W g] = [some (f4W f), some (f4W g)] from rfl]
  unfold m_summed
  unfold f4W at *
  walk_at "ml"
  exact h
theorem l_sunkW {M : Mem} {u r : Nat} {ns : List (Int × Int)} {rows : List Rw} {Q : DK} {X : XM} (hu : M[u]? = some (.lst (ns.map pD))) (hr : M[r]? = some (.lst (rows.map Rw.d))) (hR : ∀ d ∈ rows, d.tl < ns.length ∧ d.hd < ns.length ∧ Tame d.fl) (hl : rows.length ≤ 4000)
    (k : ∀ M' a b, Kp [] M M' → M.length ≤ a → a < b → M'[a]? = some (.lst ((rows.foldl needsW ns).map pD)) → M'[b]? = some (.lst (rows.map plainW)) → Q (.tup [.ref a, .ref b, f4W (rows.foldl fixW (0, 0, 0, 0))]) M') : w_sunk [.ref u, .ref r] M Q X := by
  unfold w_sunk wOf
  rw [show startE N_sunk [.ref u, .ref r] = [some (.ref u), some (.ref r), none, none, none, none, none, none, none, none, none, none, none] from rfl]
  unfold m_sunk
  walk_at "sx"
  walk_at "sx"
  walk_at "mq"
  walk_at "sx"
  walk_at "sx"
  walk_at "mq"
  walk_at "sx"
  walk_at "sx"
  walk_at "mq"
  have kz : Kp [] M (M ++ [O.lst (ns.map pD)] ++ [O.lst []]) := Kp.app.trans .app
  have r0 := kz.at_ _ _ (by simp) hr
  have a0 : (M ++ [O.lst (ns.map pD)] ++ [O.lst []])[M.length]? = some (.lst (ns.map pD)) := (Kp.app (S := [])).at_ _ _ (by simp) mnew
  have b0 : (M ++ [O.lst (ns.map pD)] ++ [O.lst []])[(M ++ [O.lst (ns.map pD)]).length]? = some (.lst ([].map plainW)) := mnew
  have ab : M.length < (M ++ [O.lst (ns.map pD)]).length := by simp
  have rl := mlt hr
  generalize hb : (M ++ [O.lst (ns.map pD)]).length = b at *
  generalize M ++ [O.lst (ns.map pD)] ++ [O.lst []] = M0 at *
  generalize ha : M.length = a at *
  walk_at "ml"
  refine for_ix (fun i ρ M' => (∃ o5 o6 o7 o8 o9 o10 o11 o12, ρ = [some (.ref u), some (.ref r), some (.ref a), some (f4W ((rows.take i).foldl fixW (0, 0, 0, 0))), some (.ref b), o5, o6, o7, o8, o9, o10, o11, o12]) ∧ Kp [] M M' ∧ M'[a]? = some (.lst (((rows.take i).foldl needsW ns).map pD)) ∧ M'[b]? = some (.lst ((rows.take i).map plainW)) ∧ M'[r]? = some (.lst (rows.map Rw.d))) (fun _ _ _ h => h.2.2.2.2) ?_ ?_ ⟨⟨_, _, _, _, _, _, _, _, rfl⟩, kz, a0, b0, r0⟩
  · rintro ρ M1 ⟨⟨_, _, _, _, _, _, _, _, rfl⟩, k1, h1, h2, _⟩
    rw [List.length_map, List.take_of_length_le (Nat.le_refl _)] at *
    walk_at "ml"
    exact k M1 a b k1 (by omega) ab h1 h2
  · rintro i d ρ M1 K hd ⟨⟨_, _, _, _, _, _, _, _, rfl⟩, k1, h1, h2, h3⟩ hK
    rw [List.getElem?_map] at hd
    cases hx : rows[i]? with
    | none => rw [hx] at hd; cases hd
    | some x =>
    rw [hx] at hd
    cases hd
    obtain ⟨ht, hh, hf⟩ := hR x (List.mem_of_getElem? hx)
    have e1 : (rows.take (i + 1)).foldl needsW ns = needsW ((rows.take i).foldl needsW ns) x := fold_succ hx
    have e2 : (rows.take (i + 1)).foldl fixW (0, 0, 0, 0) = fixW ((rows.take i).foldl fixW (0, 0, 0, 0)) x := fold_succ hx
    have e3 : (rows.take (i + 1)).map plainW = (rows.take i).map plainW ++ [plainW x] := by rw [take_succ' hx, List.map_append]; rfl
    rw [e1, e2, e3] at hK
    have hln : ((rows.take i).foldl needsW ns).length = ns.length := foldW_len
    generalize (rows.take i).foldl needsW ns = nn at *
    generalize (rows.take i).foldl fixW (0, 0, 0, 0) = ff at *
    unfold Rw.d
    refine x_tp rfl ?_
    walk_at "ml"
    refine o_ixL h1 (at_pDW (by omega)) ?_
    walk_at "ml"
    refine take_okW ?_
    walk_at "ml"
    refine o_setL h1 (ixN_n (by simp; omega)) ?_
    rw [set_pDW (f := fun y => (y.1 - x.fl.1, y.2 - x.fl.2))]
    have g1 := msame h1 (o' := .lst ((putW nn x.hd fun y => (y.1 - x.fl.1, y.2 - x.fl.2)).map pD))
    have g2 : (M1.set a (.lst ((putW nn x.hd fun y => (y.1 - x.fl.1, y.2 - x.fl.2)).map pD)))[b]? = some (.lst ((rows.take i).map plainW)) := by rw [List.getElem?_set_ne (by omega)]; exact h2
    have g3 : (M1.set a (.lst ((putW nn x.hd fun y => (y.1 - x.fl.1, y.2 - x.fl.2)).map pD)))[r]? = some (.lst (rows.map Rw.d)) := by rw [List.getElem?_set_ne (by omega)]; exact h3
    have k2 := k1.setNew (o := .lst ((putW nn x.hd fun y => (y.1 - x.fl.1, y.2 - x.fl.2)).map pD)) (n := a) (by omega)
    have pl : (putW nn x.hd fun y => (y.1 - x.fl.1, y.2 - x.fl.2)).length = ns.length := by rw [putW_len]; exact hln
    have en : needsW nn x = putW (putW nn x.hd fun y => (y.1 - x.fl.1, y.2 - x.fl.2)) x.tl fun y => (y.1 + x.fl.1, y.2 + x.fl.2) := rfl
    rw [en] at hK
    generalize (putW nn x.hd fun y => (y.1 - x.fl.1, y.2 - x.fl.2)) = n2 at *
    generalize M1.set a (.lst (n2.map pD)) = M2 at *
    walk_at "ml"
    refine o_ixL g1 (at_pDW (by omega)) ?_
    walk_at "ml"
    refine add_okW ?_
    walk_at "ml"
    refine o_setL g1 (ixN_n (by simp; omega)) ?_
    rw [set_pDW (f := fun y => (y.1 + x.fl.1, y.2 + x.fl.2))]
    have q1 := msame g1 (o' := .lst ((putW n2 x.tl fun y => (y.1 + x.fl.1, y.2 + x.fl.2)).map pD))
    have q2 : (M2.set a (.lst ((putW n2 x.tl fun y => (y.1 + x.fl.1, y.2 + x.fl.2)).map pD)))[b]? = some (.lst ((rows.take i).map plainW)) := by rw [List.getElem?_set_ne (by omega)]; exact g2
    have q3 : (M2.set a (.lst ((putW n2 x.tl fun y => (y.1 + x.fl.1, y.2 + x.fl.2)).map pD)))[r]? = some (.lst (rows.map Rw.d)) := by rw [List.getElem?_set_ne (by omega)]; exact g3
    have k3 := k2.setNew (o := .lst ((putW n2 x.tl fun y => (y.1 + x.fl.1, y.2 + x.fl.2)).map pD)) (n := a) (by omega)
    generalize M2.set a (.lst ((putW n2 x.tl fun y => (y.1 + x.fl.1, y.2 + x.fl.2)).map pD)) = M3 at *
    have t1 := hf.1
    have t2 := hf.2
    walk_at "ml"
    refine product_okW t1 t2 ?_
    walk_at "ml"
    refine summed_okW ?_
    walk_at "ml"
    refine o_app q2 (by simp; omega) ?_
    refine hK _ _ ⟨⟨_, _, _, _, _, _, _, _, rfl⟩, k3.setNew (by omega), ?_, msame q2, ?_⟩
    · rw [List.getElem?_set_ne (by omega)]; exact q1
    · rw [List.getElem?_set_ne (by omega)]; exact q3
end Prf

namespace Prf
structure It where
  p : Str
  h : Int
  w : Int × Int
  r : Option (Int × Int)
def It.d (i : It) : It4 := ⟨.str i.p, .int i.h, pD i.w, i.r⟩
structure DTS where
  nodes : List (Str × Int × Str)
  needs : List (Int × Int)
  door : List Nat
  hall : List Nat
  behind : List At
def tstep (s : DTS) (i : It) : DTS := match i.r with
  | none => ⟨s.nodes ++ [(i.p, i.h, ("both" : Str))], s.needs ++ [i.w], s.door ++ [s.nodes.length], s.hall ++ [s.nodes.length], s.behind⟩
  | some r => ⟨s.nodes ++ [(i.p, i.h, ("door" : Str)), (i.p, i.h, ("hall" : Str))], s.needs ++ [(0, 0), i.w], s.door ++ [s.nodes.length], s.hall ++ [s.nodes.length + 1], s.behind ++ [⟨"", i.h, s.nodes.length, s.nodes.length + 1, (0, 0), [(some r, (0, 0))]⟩]⟩
def tfold (its : List It) : DTS := its.foldl tstep ⟨[], [], [], [], []⟩
def ndD (x : Str × Int × Str) : D := .tup [.str x.1, .int x.2.1, .str x.2.2]
def DTS.d (s : DTS) : DSt := ⟨s.nodes.map ndD, s.needs.map pD, s.door.map (fun (n : Nat) => (n : Int)), s.hall.map (fun (n : Nat) => (n : Int)), s.behind.map At.d⟩
theorem step_d {s : DTS} {i : It} : dstep s.d i.d = (tstep s i).d := by
  unfold dstep tstep
  obtain ⟨p, h, w, r⟩ := i
  cases r with
  | none => simp [It.d, DTS.d, ndD]
  | some r =>
    simp [It.d, DTS.d, ndD, At.d, rungD, omD]
    constructor <;> rfl
theorem dfold_t {its : List It} : dfold (its.map It.d) = (tfold its).d := by
  have key : ∀ (l : List It) (s : DTS), (l.map It.d).foldl dstep s.d = (l.foldl tstep s).d := by
    intro l
    induction l with
    | nil => intro s; rfl
    | cons i l ih => intro s; rw [List.map_cons, List.foldl_cons, List.foldl_cons, step_d, ih]
  exact key its ⟨[], [], [], [], []⟩
/-- what holds of a fold over n spots -/
structure TOk (s : DTS) (n : Nat) : Prop where
  dl : s.door.length = n
  hl : s.hall.length = n
  nl : s.nodes.length ≤ 2 * n
  wl : s.needs.length = s.nodes.length
  dr : ∀ x ∈ s.door, x < s.nodes.length
  hr : ∀ x ∈ s.hall, x < s.nodes.length
  bh : ∀ a ∈ s.behind, a.t < s.nodes.length ∧ a.hd < s.nodes.length ∧ a.fl = (0, 0) ∧ a.rg.length = 1 ∧ a.nm = ""
  bl : s.behind.length ≤ n
theorem TOk.step {s : DTS} {n : Nat} {i : It} (h : TOk s n) : TOk (tstep s i) (n + 1) := by
  obtain ⟨h1, h2, h3, h4, h5, h6, h7, h8⟩ := h
  unfold tstep
  cases i.r with
  | none =>
    refine ⟨by simp [h1], by simp [h2], by simp; omega, by simp [h4], fun x hx => ?_, fun x hx => ?_, fun a ha => ?_, by simp only; omega⟩
    · rcases List.mem_append.mp hx with z | z
      · have := h5 x z; simp; omega
      · simp at z; subst z; simp
    · rcases List.mem_append.mp hx with z | z
      · have := h6 x z; simp; omega
      · simp at z; subst z; simp
    · obtain ⟨a1, a2, a3⟩ := h7 a ha
      exact ⟨by simp; omega, by simp; omega, a3⟩
  | some r =>
    refine ⟨by simp [h1], by simp [h2], by simp; omega, by simp [h4], fun x hx => ?_, fun x hx => ?_, fun a ha => ?_, by simp; omega⟩
    · rcases List.mem_append.mp hx with z | z
      · have := h5 x z; simp; omega
      · simp at z; subst z; simp
    · rcases List.mem_append.mp hx with z | z
      · have := h6 x z; simp; omega
      · simp at z; subst z; simp
    · rcases List.mem_append.mp ha with z | z
      · obtain ⟨a1, a2, a3⟩ := h7 a z
        exact ⟨by simp; omega, by simp; omega, a3⟩
      · simp at z; subst z
        exact ⟨by simp, by simp, rfl, rfl, rfl⟩
theorem tfold_ok {its : List It} : TOk (tfold its) its.length := by
  have key : ∀ (l : List It) (s : DTS) (n : Nat), TOk s n → TOk (l.foldl tstep s) (n + l.length) := by
    intro l
    induction l with
    | nil => intro s n h; exact h
    | cons i l ih =>
      intro s n h
      rw [List.foldl_cons, List.length_cons, show n + (l.length + 1) = n + 1 + l.length by omega]
      exact ih _ _ h.step
  have := key its ⟨[], [], [], [], []⟩ 0 ⟨rfl, rfl, by simp, rfl, by simp, by simp, by simp, by simp⟩
  rwa [Nat.zero_add] at this
def aOut (s : DTS) (a : At) : At := ⟨a.nm, a.hr, (s.hall[a.t]?).getD 0, (s.door[a.hd]?).getD 0, a.fl, a.rg⟩
def At.r (a : At) : Ar6 := ⟨.str a.nm, .int a.hr, a.t, a.hd, pD a.fl, .tup (a.rg.map rungD)⟩
def foundA (its : List It) (ars : List At) : List At := ars.map (aOut (tfold its)) ++ (tfold its).behind
theorem found_d {its : List It} {ars : List At} : foundD (its.map It.d) (ars.map At.r) = (foundA its ars).map At.d := by
  unfold foundD foundA
  rw [dfold_t, List.map_append, List.map_map, List.map_map]
  congr 1
  apply List.map_congr_left
  intro a _
  unfold arOut DTS.d aOut At.d
  simp only [Function.comp, At.r, List.getElem?_map]
  cases (tfold its).hall[a.t]? <;> cases (tfold its).door[a.hd]? <;> rfl
theorem l_doorT {M : Mem} {Q : DK} {X : XM} {b1 b2 b3 b4 : Nat} {its : List It} {ars : List At} (e1 : M[b1]? = some (.lst (its.map fun i => .tup [.str i.p, .int i.h]))) (e2 : M[b2]? = some (.lst (its.map fun i => pD i.w))) (e3 : M[b3]? = some (.lst (its.map fun i => omD i.r))) (e4 : M[b4]? = some (.lst (ars.map At.d)))
    (hin : ∀ a ∈ ars, a.t < its.length ∧ a.hd < its.length) (hl : its.length ≤ 1000) (hl2 : ars.length ≤ 10000)
    (k : ∀ M' a1 a2 a6, Kp [] M M' → M.length ≤ a1 → a1 < a2 → a2 < a6 → M'[a1]? = some (.lst ((tfold its).nodes.map ndD)) → M'[a2]? = some (.lst ((tfold its).needs.map pD)) → M'[a6]? = some (.lst ((foundA its ars).map At.d)) → Q (.tup [.ref a1, .ref a2, .ref a6]) M') : w_doored [.ref b1, .ref b2, .ref b3, .ref b4] M Q X := by
  refine l_doored (its := its.map It.d) (ars := ars.map At.r) (by rw [e1, List.map_map]; rfl) (by rw [e2, List.map_map]; rfl) (by rw [e3, List.map_map]; rfl) (by rw [e4, List.map_map]; rfl) ?_ (by simpa using hl) (by simpa using hl2) fun M' a1 a2 a6 k1 h1 h2 h3 g1 g2 g3 => k M' a1 a2 a6 k1 h1 h2 h3 ?_ ?_ ?_
  · intro a ha
    obtain ⟨x, hx, rfl⟩ := List.mem_map.mp ha
    rw [List.length_map]
    exact hin x hx
  · rw [g1, dfold_t]; rfl
  · rw [g2, dfold_t]; rfl
  · rw [g3, found_d]
def itsN (N : Nt) : List It := N.ps.flatMap fun p => (List.range N.h.toNat).map fun (j : Nat) => ⟨p.nm, 1 + (j : Int), p.wants.getD j (0, 0), p.room⟩
theorem flat_const {α β : Type} {f : α → List β} {c : Nat} : ∀ {l : List α}, (∀ x ∈ l, (f x).length = c) → (l.flatMap f).length = l.length * c
  | [], _ => by simp
  | a :: l, h => by
    rw [List.flatMap_cons, List.length_append, h a (by simp), flat_const fun x hx => h x (List.mem_cons_of_mem _ hx), List.length_cons, Nat.succ_mul]
    omega
theorem its_len {N : Nt} : (itsN N).length = N.ps.length * N.h.toNat := flat_const fun x _ => by simp
theorem its_spots {N : Nt} : (itsN N).map (fun i => D.tup [.str i.p, .int i.h]) = spotsN N := by
  unfold itsN spotsN
  rw [List.map_flatMap]
  congr 1
  funext p
  unfold hrs
  rw [List.map_map]
  rfl
theorem map_range {α β : Type} {l : List α} {f : α → β} {d : α} {n : Nat} (h : l.length = n) : l.map f = (List.range n).map fun j => f (l.getD j d) := by
  apply List.ext_getElem?
  intro i
  rw [List.getElem?_map, List.getElem?_map]
  by_cases hi : i < n
  · rw [List.getElem?_eq_getElem (by omega), List.getElem?_range hi]
    simp [List.getD, h, hi]
  · rw [List.getElem?_eq_none (by omega), List.getElem?_eq_none (by simp; omega)]
    rfl
theorem its_wants {N : Nt} (wl : ∀ p ∈ N.ps, p.wants.length = N.h.toNat) : (itsN N).map (fun i => pD i.w) = wantsN N := by
  unfold itsN wantsN
  rw [List.map_flatMap]
  apply flat_congr
  intro p hp
  unfold wantsOf
  rw [List.map_map, map_range (d := (0, 0)) (wl p hp)]
  rfl
theorem its_rooms {N : Nt} : (itsN N).map (fun i => omD i.r) = roomsN N := by
  unfold itsN roomsN
  rw [List.map_flatMap]
  congr 1
  funext p
  unfold roomsOf
  rw [List.map_map]
  rfl
def aR (N : Nt) (r : Rd) (j : Nat) : At := ⟨r.nm, 1 + (j : Int), (baseV N r.st + (1 + (j : Int))).toNat, (baseV N r.en + (1 + (j : Int)) + r.takes).toNat, r.floor, r.rungs⟩
def aP (N : Nt) (p : Pl) (j : Nat) : At := ⟨p.nm, 1 + (j : Int), (baseV N p.nm + (1 + (j : Int))).toNat, (baseV N p.nm + (1 + (j : Int)) + 1).toNat, (0, 0), [(p.kept, p.price)]⟩
def arcsA (N : Nt) : List At := N.rs.flatMap (fun r => (List.range (N.h - r.takes).toNat).map (aR N r)) ++ N.ps.flatMap fun p => if p.kept = some (0, 0) then [] else (List.range (N.h - 1).toNat).map (aP N p)
theorem arcs_A {N : Nt} (ok : NtOk N) (he : Ends N) : (arcsA N).map At.d = arcsN N := by
  have hh := ok.h
  have nn : ∀ {s : Str}, s ∈ N.ps.map (·.nm) → -1 ≤ baseV N s := fun hs => by
    obtain ⟨i, _, e⟩ := baseV_range hs
    rw [e]
    have : 0 ≤ (i : Int) * N.h := Int.mul_nonneg (by omega) (by omega)
    omega
  unfold arcsA arcsN
  rw [List.map_append, List.map_flatMap, List.map_flatMap]
  congr 1
  · apply flat_congr
    intro r hr
    unfold arcsOfR
    rw [List.map_map]
    apply List.map_congr_left
    intro j _
    have b1 := nn (he r hr).1
    have b2 := nn (he r hr).2
    have tk := (ok.rs r hr).takes
    simp only [Function.comp, aR, At.d, arcR]
    rw [Int.toNat_of_nonneg (by omega), Int.toNat_of_nonneg (by omega)]
  · apply flat_congr
    intro p hp
    unfold arcsOfP
    split
    · rfl
    · rw [List.map_map]
      apply List.map_congr_left
      intro j _
      have b1 := nn (List.mem_map_of_mem hp)
      simp only [Function.comp, aP, At.d, arcP]
      rw [Int.toNat_of_nonneg (by omega), Int.toNat_of_nonneg (by omega)]
      rfl
structure AOk (N : Nt) (a : At) : Prop where
  t : a.t < (itsN N).length
  hd : a.hd < (itsN N).length
  fl : Mv a.fl
  rl : a.rg.length ≤ 4
  hr : 1 ≤ a.hr ∧ a.hr ≤ 6
  nm : a.nm ∈ namesN N
  rg : ∀ g ∈ a.rg, oMv g.1 ∧ Mv g.2
theorem arcsA_ok {N : Nt} (ok : NtOk N) (he : Ends N) : ∀ a ∈ arcsA N, AOk N a := by
  have hh := ok.h
  have hpl := ok.pl
  have up : ∀ {s : Str}, s ∈ N.ps.map (·.nm) → baseV N s + N.h < N.ps.length * N.h ∧ -1 ≤ baseV N s := fun hs => by
    obtain ⟨i, hi, e⟩ := baseV_range hs
    have e1 := mul_le_h (i := i) (n := N.ps.length) (h := N.h) (by omega) (by omega)
    have : 0 ≤ (i : Int) * N.h := Int.mul_nonneg (by omega) (by omega)
    rw [e]
    omega
  have il : ((itsN N).length : Int) = N.ps.length * N.h := by
    rw [its_len, Int.natCast_mul, Int.toNat_of_nonneg (by omega)]
  intro a ha
  rcases List.mem_append.mp ha with h | h
  · obtain ⟨r, hr, h⟩ := List.mem_flatMap.mp h
    obtain ⟨j, hj, rfl⟩ := List.mem_map.mp h
    have hj := List.mem_range.mp hj
    have g := ok.rs r hr
    have tk := g.takes
    obtain ⟨u1, v1⟩ := up (he r hr).1
    obtain ⟨u2, v2⟩ := up (he r hr).2
    exact ⟨by simp only [aR]; omega, by simp only [aR]; omega, g.floor, g.rl, by simp only [aR]; omega, List.mem_append.mpr (.inr (List.mem_map_of_mem hr)), g.rungs⟩
  · obtain ⟨p, hp, h⟩ := List.mem_flatMap.mp h
    split at h
    · cases h
    obtain ⟨j, hj, rfl⟩ := List.mem_map.mp h
    have hj := List.mem_range.mp hj
    obtain ⟨u1, v1⟩ := up (List.mem_map_of_mem hp)
    have g := ok.ps p hp
    exact ⟨by simp only [aP]; omega, by simp only [aP]; omega, (show Mv (0, 0) from ⟨by decide, by decide⟩), by simp [aP], by simp only [aP]; omega, List.mem_append.mpr (.inl (List.mem_map_of_mem hp)), fun x hx => by simp [aP] at hx; subst hx; exact ⟨g.kept, g.price⟩⟩
theorem arcsA_len {N : Nt} (ok : NtOk N) (he : Ends N) : (arcsA N).length ≤ 1000 := by
  have := congrArg List.length (arcs_A ok he)
  rw [List.length_map] at this
  have := arcs_le ok
  omega
end Prf

namespace Prf
def foundN (N : Nt) : List At := foundA (itsN N) (arcsA N)
def lrowsN (N : Nt) : List Rw := rowsL (foundN N)
def nodesN (N : Nt) : List (Str × Int × Str) := (tfold (itsN N)).nodes
def needsN (N : Nt) : List (Int × Int) := (lrowsN N).foldl needsW (tfold (itsN N)).needs
def fixN (N : Nt) : Int × Int × Int × Int := (lrowsN N).foldl fixW (0, 0, 0, 0)
def LF (a b c d f : D) : List (Str × D) := [("laid_rows", a), ("nodes", b), ("needs", c), ("arcs", d), ("fixed", f)]
structure LowM (M : Mem) (n a b c d : Nat) (N : Nt) : Prop where
  ins : M[n]? = some (.ins "Lowered" (LF (.ref a) (.ref b) (.ref c) (.ref d) (f4W (fixN N))))
  rows : M[a]? = some (.lst ((lrowsN N).map Rw.d))
  nodes : M[b]? = some (.lst ((nodesN N).map ndD))
  needs : M[c]? = some (.lst ((needsN N).map pD))
  arcs : M[d]? = some (.lst ((lrowsN N).map plainW))
  lo : n < a ∧ n < b ∧ n < c ∧ n < d
theorem LowM.kp {M M' : Mem} {n a b c d : Nat} {N : Nt} {S : List Nat} (h : LowM M n a b c d N) (k : Kp S M M') (hs : ∀ i ∈ S, i < n) : LowM M' n a b c d N := by
  have l := h.lo
  have f : ∀ x, n ≤ x → x ∉ S := fun x hx hc => by have := hs x hc; omega
  exact ⟨k.at_ _ _ (f n (by omega)) h.ins, k.at_ _ _ (f a (by omega)) h.rows, k.at_ _ _ (f b (by omega)) h.nodes, k.at_ _ _ (f c (by omega)) h.needs, k.at_ _ _ (f d (by omega)) h.arcs, l⟩
theorem x_asgF {cs : List Str} {i : Nat} {fns : List Str} {me : ME} {E : Nd} {ρ : Ev} {M : Mem} (h : me ρ M (fun d M1 => match d with
  | .tup ds => match ρ[i]? with
    | some (some (.ref n)) => ds.length = fns.length ∧ putFs cs n fns ds M1 fun M2 => E.nx ρ M2
    | _ => False
  | _ => False) (fun x M1 => E.ex x ρ M1)) : mAsgF cs i fns me E ρ M := h
theorem found_ok {N : Nt} (ok : NtOk N) (he : Ends N) : ∀ a ∈ foundN N, a.t < (tfold (itsN N)).nodes.length ∧ a.hd < (tfold (itsN N)).nodes.length ∧ Mv a.fl ∧ a.rg.length ≤ 4 := by
  have T := tfold_ok (its := itsN N)
  intro a ha
  unfold foundN foundA at ha
  rcases List.mem_append.mp ha with h | h
  · obtain ⟨x, hx, rfl⟩ := List.mem_map.mp h
    have g := arcsA_ok ok he x hx
    refine ⟨?_, ?_, g.fl, g.rl⟩
    · have : x.t < (tfold (itsN N)).hall.length := by rw [T.hl]; exact g.t
      simp only [aOut]
      rw [List.getElem?_eq_getElem this]
      exact T.hr _ (List.getElem_mem _)
    · have : x.hd < (tfold (itsN N)).door.length := by rw [T.dl]; exact g.hd
      simp only [aOut]
      rw [List.getElem?_eq_getElem this]
      exact T.dr _ (List.getElem_mem _)
  · obtain ⟨b1, b2, b3, b4, _⟩ := T.bh a h
    exact ⟨b1, b2, by rw [b3]; exact ⟨by decide, by decide⟩, by omega⟩
theorem its_le {N : Nt} (ok : NtOk N) : (itsN N).length ≤ 72 := by
  have := ok.h; have := ok.pl
  rw [its_len]
  calc N.ps.length * N.h.toNat ≤ 12 * N.h.toNat := Nat.mul_le_mul_right _ (by omega)
    _ ≤ 12 * 6 := Nat.mul_le_mul_left _ (by omega)
theorem found_len {N : Nt} (ok : NtOk N) (he : Ends N) : (foundN N).length ≤ 2000 := by
  have T := tfold_ok (its := itsN N)
  have := its_le ok
  have := arcsA_len ok he
  have := T.bl
  unfold foundN foundA
  rw [List.length_append, List.length_map]
  omega
theorem lrow_ok {N : Nt} (ok : NtOk N) (he : Ends N) : ∀ r ∈ lrowsN N, r.tl < (tfold (itsN N)).nodes.length ∧ r.hd < (tfold (itsN N)).nodes.length ∧ Mv r.fl := by
  intro r hr
  unfold lrowsN rowsL at hr
  obtain ⟨a, ha, hr⟩ := List.mem_flatMap.mp hr
  unfold rowsW at hr
  obtain ⟨k, hk, rfl⟩ := List.mem_mapIdx.mp hr
  obtain ⟨h1, h2, h3, _⟩ := found_ok ok he a ha
  refine ⟨h1, h2, ?_⟩
  simp only
  split
  · exact h3
  · exact ⟨by decide, by decide⟩
theorem l_lowered {M : Mem} {Q : DK} {X : XM} {l n p r : Nat} {N : Nt} (hl : M[l]? = some (.ins "Lowered" [])) (hN : NetM M n N p r) (ok : NtOk N) (he : Ends N) (wl : ∀ p ∈ N.ps, p.wants.length = N.h.toNat) (h96 : (lrowsN N).length ≤ 96)
    (k : ∀ M' a b c d, Kp [l] M M' → M.length ≤ a ∧ M.length ≤ b ∧ M.length ≤ c ∧ M.length ≤ d → LowM M' l a b c d N → Q .non M') : w_Lowered_UinitU [.ref l, .ref n] M Q X := by
  have T := tfold_ok (its := itsN N)
  have il := its_le ok
  have al := arcsA_len ok he
  have ll := mlt hl
  unfold w_Lowered_UinitU wOf
  rw [show startE N_Lowered_UinitU [.ref l, .ref n] = [some (.ref l), some (.ref n), none, none, none, none, none] from rfl]
  unfold m_Lowered_UinitU
  walk_at "ml"
  refine l_unrolled hN ok he fun M1 a1 a2 a3 a4 k1 lo h1 h2 h3 h4 => ?_
  rw [← its_spots] at h1
  rw [← its_wants wl] at h2
  rw [← its_rooms] at h3
  rw [← arcs_A ok he] at h4
  walk_at "ml"
  refine l_doorT h1 h2 h3 h4 (fun a ha => ⟨(arcsA_ok ok he a ha).t, (arcsA_ok ok he a ha).hd⟩) (by omega) (by omega) fun M2 b1 b2 b6 k2 lb lb2 lb3 g1 g2 g3 => ?_
  have hl2 := k2.at_ _ _ (by simp) (k1.at_ _ _ (by simp) hl)
  have k12 := k1.trans k2
  have k1l := k1.len
  have fl := found_len ok he
  walk_at "ml"
  refine x_setFld ?_
  walk_at "mq"
  refine l_laidW g3 (fun a ha => (found_ok ok he a ha).2.2.2) (by have := its_le ok; have := T.bl; unfold foundA; rw [List.length_append, List.length_map]; omega) fun M3 k3 h5 => ?_
  have hl3 := k3.at_ _ _ (by simp) hl2
  refine x_var rfl ?_
  dsimp only
  rw [hl3]
  refine ⟨by decide +kernel, Nat.le_of_ble_eq_true rfl, ?_⟩
  have k2l := k2.len
  have k3l := k3.len
  have hlb1 := mlt g1
  have i4 : (M3.set l (.ins "Lowered" (putD "laid_rows" (.ref M2.length) [])))[l]? = some (.ins "Lowered" [("laid_rows", .ref M2.length)]) := msame hl3
  have kS : Kp [l] M3 (M3.set l (.ins "Lowered" (putD "laid_rows" (.ref M2.length) []))) := .set (by simp)
  have k13 := k12.trans k3
  have r4 := kS.at_ M2.length _ (by simp; omega) h5
  have n4 := kS.at_ b1 _ (by simp; omega) (k3.at_ _ _ (by simp) g1)
  have e4 := kS.at_ b2 _ (by simp; omega) (k3.at_ _ _ (by simp) g2)
  have k4 : Kp [l] M (M3.set l (.ins "Lowered" (putD "laid_rows" (.ref M2.length) []))) := (k13.weak (by simp)).trans kS
  have eb : M2.length = M2.length := rfl
  generalize hz : M2.length = z at *
  generalize M3.set l (.ins "Lowered" (putD "laid_rows" (.ref z) [])) = M4 at *
  walk_at "sx"
  walk_at "sx"
  walk_at "mq"
  refine x_fldV rfl i4 (by decide +kernel) rfl ?_
  walk_at "mq"
  rw [List.length_map]
  refine if_d (fun h => absurd h (by have : (rowsL (foundA (itsN N) (arcsA N))).length ≤ 96 := h96; omega)) (fun _ => ?_)
  walk_at "sx"
  walk_at "sx"
  refine x_setFldV (y := .ref b1) (fs' := [("laid_rows", .ref z), ("nodes", .ref b1)]) (fun Q X h => x_var rfl h) rfl i4 (by decide +kernel) (Nat.le_of_ble_eq_true rfl) rfl ?_
  have i5 : (M4.set l (.ins "Lowered" [("laid_rows", .ref z), ("nodes", .ref b1)]))[l]? = some (.ins "Lowered" [("laid_rows", .ref z), ("nodes", .ref b1)]) := msame i4
  have kS : Kp [l] M4 (M4.set l (.ins "Lowered" [("laid_rows", .ref z), ("nodes", .ref b1)])) := .set (by simp)
  have r5 := kS.at_ z _ (by simp; omega) r4
  have n5 := kS.at_ b1 _ (by simp; omega) n4
  have e5 := kS.at_ b2 _ (by simp; omega) e4
  have k5 := k4.trans kS
  generalize M4.set l (.ins "Lowered" [("laid_rows", .ref z), ("nodes", .ref b1)]) = M5 at *
  with_reducible refine x_asgF ?_
  walk_at "mq"
  refine x_fldV rfl i5 (by decide +kernel) rfl ?_
  walk_at "mq"
  refine l_sunkW e5 r5 (fun r hr => ?_) (by have : (rowsL (foundA (itsN N) (arcsA N))).length ≤ 96 := h96; omega) fun M6 c d k6 lc ld hc hd => ?_
  · obtain ⟨q1, q2, q3⟩ := lrow_ok ok he r hr
    rw [T.wl]
    exact ⟨q1, q2, q3.tame⟩
  have i6 := k6.at_ _ _ (by simp) i5
  have r6 := k6.at_ _ _ (by simp) r5
  have n6 := k6.at_ _ _ (by simp) n5
  have k6l := k6.len
  have l5 := mlt r5
  have l5' := mlt n5
  have k4l := k4.len
  have k5l := k5.len
  refine ⟨rfl, ?_⟩
  unfold putFs
  rw [i6]
  refine ⟨by decide +kernel, Nat.le_of_ble_eq_true rfl, ?_⟩
  unfold putFs
  rw [msame i6]
  refine ⟨by decide +kernel, Nat.le_of_ble_eq_true rfl, ?_⟩
  unfold putFs
  rw [List.set_set, msame i6]
  refine ⟨by decide +kernel, Nat.le_of_ble_eq_true rfl, ?_⟩
  unfold putFs
  rw [List.set_set]
  have kS : Kp [l] M6 (M6.set l (.ins "Lowered" (LF (.ref z) (.ref b1) (.ref c) (.ref d) (f4W (fixN N))))) := .set (by simp)
  refine k _ z b1 c d ((k5.trans (k6.weak (by simp))).trans kS) ⟨by omega, by omega, by omega, by omega⟩ ⟨msame i6, kS.at_ z _ (by simp; omega) r6, kS.at_ b1 _ (by simp; omega) n6, kS.at_ c _ (by simp; omega) hc, kS.at_ d _ (by simp; omega) hd, by omega, by omega, by omega, by omega⟩
end Prf

namespace Prf
theorem sum_rows {l : List At} : (rowsL l).length = (l.map (·.rg.length)).sum := by
  unfold rowsL
  induction l with
  | nil => rfl
  | cons a l ih => rw [List.flatMap_cons, List.length_append, ih, rowsW_len, List.map_cons, List.sum_cons]
theorem behind_len {its : List It} : (tfold its).behind.length = (its.filter (·.r.isSome)).length := by
  have key : ∀ (l : List It) (s : DTS), (l.foldl tstep s).behind.length = s.behind.length + (l.filter (·.r.isSome)).length := by
    intro l
    induction l with
    | nil => intro s; simp
    | cons i l ih =>
      intro s
      rw [List.foldl_cons, ih]
      unfold tstep
      cases h : i.r with
      | none => simp [h]
      | some r => simp [h]; omega
  have := key its ⟨[], [], [], [], []⟩
  unfold tfold
  simpa using this
theorem behind_one {its : List It} : ((tfold its).behind.map (·.rg.length)).sum = (tfold its).behind.length := by
  have T := tfold_ok (its := its)
  have : (tfold its).behind.map (·.rg.length) = List.replicate (tfold its).behind.length 1 := by
    rw [List.eq_replicate_iff]
    refine ⟨by simp, fun b hb => ?_⟩
    obtain ⟨a, ha, rfl⟩ := List.mem_map.mp hb
    exact (T.bh a ha).2.2.2.1
  rw [this, List.sum_replicate_nat]
  simp
def cntN (N : Nt) : Nat := (N.rs.map (·.rungs.length)).sum + (N.ps.filter (·.room.isSome)).length
theorem lrows_cnt {N : Nt} (h1 : N.h = 1) (ht : ∀ r ∈ N.rs, r.takes = 0) : (lrowsN N).length = cntN N := by
  unfold lrowsN foundN foundA cntN
  rw [sum_rows, List.map_append, List.sum_append, behind_one, behind_len, List.map_map]
  have ea : (arcsA N).map ((fun a : At => a.rg.length) ∘ aOut (tfold (itsN N))) = N.rs.map (·.rungs.length) := by
    unfold arcsA
    rw [List.map_append]
    have e2 : (N.ps.flatMap fun p => if p.kept = some (0, 0) then [] else (List.range (N.h - 1).toNat).map (aP N p)) = [] := by
      rw [List.flatMap_eq_nil_iff]
      intro p _
      split
      · rfl
      · rw [h1]; rfl
    rw [e2, List.map_nil, List.append_nil, List.map_flatMap]
    have : ∀ (l : List Rd), (∀ r ∈ l, r.takes = 0) → (l.flatMap fun a => ((List.range (N.h - a.takes).toNat).map (aR N a)).map ((fun a : At => a.rg.length) ∘ aOut (tfold (itsN N)))) = l.map (·.rungs.length) := by
      intro l
      induction l with
      | nil => intro _; rfl
      | cons r l ih =>
        intro h
        rw [List.flatMap_cons, ih fun q hq => h q (by simp [hq]), h r (by simp), h1]
        rfl
    exact this N.rs ht
  rw [ea]
  congr 1
  unfold itsN
  rw [h1]
  show ((N.ps.flatMap fun p => (List.range 1).map fun (j : Nat) => (⟨p.nm, 1 + (j : Int), p.wants.getD j (0, 0), p.room⟩ : It)).filter (·.r.isSome)).length = _
  induction N.ps with
  | nil => rfl
  | cons p l ih =>
    rw [List.flatMap_cons, List.filter_append, List.length_append, ih, List.filter_cons]
    cases p.room <;> simp <;> omega
theorem l_lowX {M : Mem} {Q : DK} {X : XM} {l n p r : Nat} {N : Nt} (hl : M[l]? = some (.ins "Lowered" [])) (hN : NetM M n N p r) (ok : NtOk N) (he : Ends N) (wl : ∀ p ∈ N.ps, p.wants.length = N.h.toNat) (h96 : 96 < (lrowsN N).length)
    (k : ∀ M', Kp [l] M M' → X (xE "TooGreat" "number" "too great" (.int (lrowsN N).length)) M') : w_Lowered_UinitU [.ref l, .ref n] M Q X := by
  have T := tfold_ok (its := itsN N)
  have il := its_le ok
  have al := arcsA_len ok he
  have ll := mlt hl
  unfold w_Lowered_UinitU wOf
  rw [show startE N_Lowered_UinitU [.ref l, .ref n] = [some (.ref l), some (.ref n), none, none, none, none, none] from rfl]
  unfold m_Lowered_UinitU
  walk_at "ml"
  refine l_unrolled hN ok he fun M1 a1 a2 a3 a4 k1 lo h1 h2 h3 h4 => ?_
  rw [← its_spots] at h1
  rw [← its_wants wl] at h2
  rw [← its_rooms] at h3
  rw [← arcs_A ok he] at h4
  walk_at "ml"
  refine l_doorT h1 h2 h3 h4 (fun a ha => ⟨(arcsA_ok ok he a ha).t, (arcsA_ok ok he a ha).hd⟩) (by omega) (by omega) fun M2 b1 b2 b6 k2 lb lb2 lb3 g1 g2 g3 => ?_
  have hl2 := k2.at_ _ _ (by simp) (k1.at_ _ _ (by simp) hl)
  have k12 := k1.trans k2
  have k1l := k1.len
  have fl := found_len ok he
  walk_at "ml"
  refine x_setFld ?_
  walk_at "mq"
  refine l_laidW g3 (fun a ha => (found_ok ok he a ha).2.2.2) (by have := its_le ok; have := T.bl; unfold foundA; rw [List.length_append, List.length_map]; omega) fun M3 k3 h5 => ?_
  have hl3 := k3.at_ _ _ (by simp) hl2
  refine x_var rfl ?_
  dsimp only
  rw [hl3]
  refine ⟨by decide +kernel, Nat.le_of_ble_eq_true rfl, ?_⟩
  have k2l := k2.len
  have k3l := k3.len
  have hlb1 := mlt g1
  have i4 : (M3.set l (.ins "Lowered" (putD "laid_rows" (.ref M2.length) [])))[l]? = some (.ins "Lowered" [("laid_rows", .ref M2.length)]) := msame hl3
  have kS : Kp [l] M3 (M3.set l (.ins "Lowered" (putD "laid_rows" (.ref M2.length) []))) := .set (by simp)
  have k13 := k12.trans k3
  have r4 := kS.at_ M2.length _ (by simp; omega) h5
  have n4 := kS.at_ b1 _ (by simp; omega) (k3.at_ _ _ (by simp) g1)
  have e4 := kS.at_ b2 _ (by simp; omega) (k3.at_ _ _ (by simp) g2)
  have k4 : Kp [l] M (M3.set l (.ins "Lowered" (putD "laid_rows" (.ref M2.length) []))) := (k13.weak (by simp)).trans kS
  have eb : M2.length = M2.length := rfl
  generalize hz : M2.length = z at *
  generalize M3.set l (.ins "Lowered" (putD "laid_rows" (.ref z) [])) = M4 at *
  walk_at "sx"
  walk_at "sx"
  walk_at "mq"
  refine x_fldV rfl i4 (by decide +kernel) rfl ?_
  walk_at "mq"
  rw [List.length_map]
  refine if_d (fun _ => ?_) (fun h => absurd (by have : 96 < (rowsL (foundA (itsN N) (arcsA N))).length := h96; omega) h)
  walk_at "ml"
  refine x_fldV rfl i4 (by decide +kernel) rfl ?_
  walk_at "ml"
  rw [List.length_map]
  exact ⟨rfl, k _ k4⟩

theorem e_lowX {M : Mem} {Q : DK} {X : XM} {n p r : Nat} {N : Nt} (hN : NetM M n N p r) (ok : NtOk N) (he : Ends N) (wl : ∀ p ∈ N.ps, p.wants.length = N.h.toNat) (h96 : 96 < (lrowsN N).length)
    (k : ∀ M', Kp [] M M' → X (xE "TooGreat" "number" "too great" (.int (lrowsN N).length)) M') : w_Lowered_UinitU [.ref M.length, .ref n] (M ++ [.ins "Lowered" []]) Q X :=
  l_lowX mnew hN.app ok he wl h96 fun M' k' => k M' ⟨by have := k'.len; simp at this; omega, fun i o _ h => k'.at_ i o (by have := mlt h; simp; omega) (Kp.app (S := []).at_ i o (by simp) h)⟩
theorem l_reachX {M : Mem} {Q : DK} {X : XM} {n p r : Nat} {N : Nt} (hN : NetM M n N p r) (ok : NtOk N) (he : Ends N) (wl : ∀ p ∈ N.ps, p.wants.length = N.h.toNat) (h96 : 96 < (lrowsN N).length)
    (k : ∀ M', Kp [] M M' → X (xE "TooGreat" "number" "too great" (.int (lrowsN N).length)) M') : w_reach [.ref n] M Q X := by
  unfold w_reach wOf m_reach
  walk_at "ml"
  exact ⟨⟨rfl, rfl⟩, e_lowX hN ok he wl h96 k⟩
theorem l_bottomX {M : Mem} {Q : DK} {X : XM} {n p r : Nat} {N : Nt} (hN : NetM M n N p r) (ok : NtOk N) (he : Ends N) (wl : ∀ p ∈ N.ps, p.wants.length = N.h.toNat) (h96 : 96 < (lrowsN N).length)
    (k : ∀ M', Kp [] M M' → X (xE "TooGreat" "number" "too great" (.int (lrowsN N).length)) M') : w_bottom [.ref n] M Q X := by
  unfold w_bottom wOf m_bottom
  walk_at "ml"
  exact ⟨⟨rfl, rfl⟩, e_lowX hN ok he wl h96 k⟩
theorem l_atlasX {M : Mem} {Q : DK} {X : XM} {n p r : Nat} {N : Nt} (hN : NetM M n N p r) (ok : NtOk N) (he : Ends N) (wl : ∀ p ∈ N.ps, p.wants.length = N.h.toNat) (h96 : 96 < (lrowsN N).length)
    (k : ∀ M', Kp [] M M' → X (xE "TooGreat" "number" "too great" (.int (lrowsN N).length)) M') : w_Atlas_UinitU [.ref M.length, .ref n] (M ++ [.ins "Atlas" []]) Q X := by
  unfold w_Atlas_UinitU wOf m_Atlas_UinitU
  walk_at "ml"
  refine ⟨⟨rfl, rfl⟩, e_lowX hN.app ok he wl h96 fun M' k' => k M' (Kp.trans .app k')⟩
theorem l_tried {M : Mem} {Q : DK} {X : XM} {n p r : Nat} {N : Nt} (hN : NetM M n N p r) (ok : NtOk N) (he : Ends N) (wl : ∀ p ∈ N.ps, p.wants.length = N.h.toNat) (h96 : 96 < (lrowsN N).length)
    (k : ∀ M' L, M'[L]? = some (.lst ((List.range 4).map fun _ => .tup [.str "too great", .int (lrowsN N).length])) → Kp [] M M' → Q (.ref L) M') : w_Ltried [.ref n] M Q X := by
  unfold w_Ltried wOf
  rw [show startE N_Ltried [.ref n] = [some (.ref n), none, none, none] from rfl]
  unfold m_Ltried
  walk_at "ml"
  refine ⟨⟨by decide, by decide⟩, ?_⟩
  refine for_ix (fun i ρ M' => (∃ o2, ρ = [some (.ref n), some (.ref M.length), o2, none]) ∧ Kp [] M M' ∧ M'[M.length]? = some (.lst ((List.range i).map fun _ => .tup [.str "too great", .int (lrowsN N).length]))) (fun _ _ _ _ => trivial) ?_ ?_ ⟨⟨_, rfl⟩, .app, mnew⟩
  · rintro ρ M1 ⟨⟨_, rfl⟩, k1, g1⟩
    walk_at "ml"
    exact k M1 M.length g1 k1
  · rintro i d ρ M1 K hd ⟨⟨_, rfl⟩, k1, g1⟩ hK
    obtain ⟨rfl, hi⟩ := rng_at hd
    have hi4 : i < 4 := by simpa using hi
    have N1 := hN.kp k1 (by simp) (by simp) (by simp)
    walk_at "mq"
    refine x_try ?_
    have H : ∀ M', Kp [] M1 M' → ∀ E : Nd, E.nx = K → ∀ cl, cl = [⟨["TooGreat"], some 3, fun a dd c => (mDrop (mBM "list" omAppend (mVar 1) (mCons (mCB oTup (mCons (mXf a dd c 3 "word") (mCons (mXf a dd c 3 "number") mNil))) mNil)))⟩] → mCatch xsub E cl (xE "TooGreat" "number" "too great" (.int (lrowsN N).length)) [some (.ref n), some (.ref M.length), some (.int (0 + (i : Int))), none] M' := by
      rintro M' k' E eE cl rfl
      have g2 := k'.at_ _ _ (by simp) g1
      refine c_yesC (xc := "TooGreat") rfl (by decide) (by decide) fun a dd => ?_
      walk_at "ml"
      refine x_xf rfl rfl ?_
      walk_at "ml"
      refine x_xf rfl rfl ?_
      walk_at "ml"
      refine o_app g2 (by simp; omega) ?_
      walk_at "ml"
      rw [eE]
      refine hK _ _ ⟨⟨_, rfl⟩, (k1.trans k').setNew (Nat.le_refl _), ?_⟩
      rw [msame g2, List.range_succ, List.map_append]
      rfl
    have hc : i = 0 ∨ i = 1 ∨ i = 2 ∨ i = 3 := by omega
    rcases hc with rfl | rfl | rfl | rfl
    · walk_at "ml"
      refine if_d (fun _ => ?_) (fun h => absurd rfl h)
      walk_at "ml"
      refine ⟨⟨rfl, rfl⟩, e_lowX N1 ok he wl h96 fun M' k' => ?_⟩
      exact H M' k' _ rfl _ rfl
    · walk_at "ml"
      refine if_d (fun h => absurd h (by decide)) (fun _ => ?_)
      walk_at "ml"
      refine if_d (fun _ => ?_) (fun h => absurd rfl h)
      walk_at "ml"
      exact l_reachX N1 ok he wl h96 fun M' k' => H M' k' _ rfl _ rfl
    · walk_at "ml"
      refine if_d (fun h => absurd h (by decide)) (fun _ => ?_)
      walk_at "ml"
      refine if_d (fun h => absurd h (by decide)) (fun _ => ?_)
      walk_at "ml"
      refine if_d (fun _ => ?_) (fun h => absurd rfl h)
      walk_at "ml"
      exact l_bottomX N1 ok he wl h96 fun M' k' => H M' k' _ rfl _ rfl
    · walk_at "ml"
      refine if_d (fun h => absurd h (by decide)) (fun _ => ?_)
      walk_at "ml"
      refine if_d (fun h => absurd h (by decide)) (fun _ => ?_)
      walk_at "ml"
      refine if_d (fun h => absurd h (by decide)) (fun _ => ?_)
      walk_at "ml"
      refine if_d (fun _ => ?_) (fun h => absurd rfl h)
      walk_at "ml"
      refine ⟨⟨rfl, rfl⟩, ?_⟩
      refine l_atlasX N1 ok he wl h96 fun M' k' => ?_
      exact H M' k' _ rfl _ rfl
end Prf

namespace MV
theorem or_no {a b : Option Exn} (h : a.or b = none) : a = none ∧ b = none := by
  cases a with
  | none => exact ⟨rfl, by simpa using h⟩
  | some e => cases h
theorem or_no2 {a b : Option Exn} (h1 : a = none) (h2 : b = none) : a.or b = none := by rw [h1, h2]; rfl
end MV
namespace Prf
theorem rungs_parts {nm : Str} {s t : Int × Int} {rs : List Rung} : rRungs 4 1000000 nm s t rs = none ↔ (1 ≤ rs.length ∧ rs.length ≤ 4) ∧ (∀ g ∈ rs.dropLast, g.1 ≠ none) ∧ (∀ g ∈ rs, rRung 1000000 nm s g = none) ∧ rRis nm t rs = none := by
  unfold rRungs
  constructor
  · intro h
    obtain ⟨h1, h⟩ := or_no h
    obtain ⟨h2, h⟩ := or_no h
    obtain ⟨h3, h4⟩ := or_no h
    refine ⟨?_, ?_, List.findSome?_eq_none_iff.mp h3, h4⟩
    · split at h1
      · omega
      · cases h1
    · intro g hg e
      split at h2
      · cases h2
      · rename_i hc
        exact hc (List.any_eq_true.mpr ⟨g, hg, by rw [e]; rfl⟩)
  · rintro ⟨h1, h2, h3, h4⟩
    refine or_no2 (if_pos (by omega)) (or_no2 (if_neg ?_) (or_no2 (List.findSome?_eq_none_iff.mpr h3) h4))
    intro hc
    obtain ⟨g, hg, e⟩ := List.any_eq_true.mp hc
    exact h2 g hg (Option.isNone_iff_eq_none.mp e)
theorem setroad_parts {N : Nt} {q : Rd} : rSetRoad N q = none ↔ (0 ≤ q.takes ∧ q.takes ≤ 9) ∧ rMove 1000000 q.floor = none ∧ rRoom q.nm q.floor N.s = none ∧ rRungs 4 1000000 q.nm N.s N.t q.rungs = none := by
  unfold rSetRoad
  constructor
  · intro h
    obtain ⟨h1, h⟩ := or_no h
    obtain ⟨h2, h⟩ := or_no h
    obtain ⟨h3, h4⟩ := or_no h
    refine ⟨?_, h2, h3, h4⟩
    split at h1
    · assumption
    · cases h1
  · rintro ⟨h1, h2, h3, h4⟩
    exact or_no2 (if_pos h1) (or_no2 h2 (or_no2 h3 h4))
end Prf

namespace Prf
theorem putP_set31 {ps : List Pl} {i : Nat} {p q : Pl} (hn : (ps.map (·.nm)).Nodup) (hi : ps[i]? = some p) (e : q.nm = p.nm) : putP ps q = ps.set i q := by
  have hm := List.mem_of_getElem? hi
  unfold putP
  rw [if_pos (List.any_eq_true.mpr ⟨p, hm, by simp [e]⟩)]
  apply List.ext_getElem?
  intro j
  rw [List.getElem?_map]
  obtain ⟨hil, hv⟩ := List.getElem?_eq_some_iff.mp hi
  by_cases hj : i = j
  · subst hj
    rw [hi, List.getElem?_set_self hil]
    simp [e]
  · rw [List.getElem?_set_ne hj]
    cases hz : ps[j]? with
    | none => rfl
    | some z =>
      have : z.nm ≠ q.nm := by
        intro e2
        have e3 : (ps.map (·.nm))[i]? = some p.nm := by rw [List.getElem?_map, hi]; rfl
        have e4 : (ps.map (·.nm))[j]? = some p.nm := by rw [List.getElem?_map, hz, ← e, ← e2]; rfl
        obtain ⟨l1, v1⟩ := List.getElem?_eq_some_iff.mp e3
        obtain ⟨l2, v2⟩ := List.getElem?_eq_some_iff.mp e4
        exact hj ((List.getElem_inj hn).mp (v1.trans v2.symm))
      simp [this]
theorem eq_lists31 {M : Mem} {m n : Nat} {xs ys : List D} {Q : DK} (h1 : M[m]? = some (.lst xs)) (h2 : M[n]? = some (.lst ys)) (f1 : ∀ d ∈ xs, fine 19 d = true) (f2 : ∀ d ∈ ys, fine 19 d = true) (q : Q (.bl (deqL xs ys)) M) : oEq (.ref m) (.ref n) M Q := by
  refine ⟨_, _, see_lst (k := 19) h1 f1, see_lst (k := 19) h2 f2, ?_⟩
  have e : PyData.eqv (.list (toPyL xs)) (.list (toPyL ys)) = deqL xs ys := by
    have := eqv_deq (d := .tup xs) (e := .tup ys) 20 (by show xs.all (fine 19) = true; rw [List.all_eq_true]; exact f1) (by show ys.all (fine 19) = true; rw [List.all_eq_true]; exact f2)
    rw [show deq (.tup xs) (.tup ys) = deqL xs ys from by unfold deq; rfl] at this
    rw [← this]
    simp only [toPy]
    rfl
  rw [e]; exact q
def pl0 (s : Str) : Pl := ⟨s, none, some (0, 0), (0, 0), [(0, 0)]⟩
def lad31 (m k : Nat) : List Rung := (List.range m).map fun (j : Nat) => ((some ((k : Int) + (j : Int), (0 : Int)), ((j : Int), (0 : Int))) : Rung)
def rd31 (nm a b : Str) (m k : Nat) : Rd := ⟨nm, a, b, 0, (0, 0), lad31 m k⟩
theorem lad_rungs {nm : Str} {m k : Nat} (hm : m = 3 ∨ m = 4) (hk : k < 24) : rRungs 4 1000000 nm (0, 0) (0, 0) (lad31 m k) = none := by
  have hl : (lad31 m k).length = m := by simp [lad31]
  refine rungs_parts.mpr ⟨by omega, fun g hg => ?_, fun g hg => ?_, ?_⟩
  · have := List.dropLast_subset _ hg
    unfold lad31 at this
    obtain ⟨j, _, rfl⟩ := List.mem_map.mp this
    exact Option.some_ne_none _
  · unfold lad31 at hg
    obtain ⟨j, hj, rfl⟩ := List.mem_map.mp hg
    rw [List.mem_range] at hj
    have h1 : rMove 1000000 ((k : Int) + (j : Int), 0) = none := mv_none ⟨by simp only; omega, by simp⟩
    have h2 : rMove 1000000 ((j : Int), 0) = none := mv_none ⟨by simp only; omega, by simp⟩
    refine or_no2 h1 (or_no2 h2 ?_)
    show rRoom nm ((k : Int) + (j : Int), 0) (0, 0) = none
    unfold rRoom
    rw [if_neg]
    simp only [sinksB, Bool.or_eq_true, decide_eq_true_eq, not_or]
    omega
  · rcases hm with rfl | rfl
    · show rRis nm (0, 0) [_, _, _] = none
      rfl
    · show rRis nm (0, 0) [_, _, _, _] = none
      rfl
theorem rd31_none {N : Nt} {nm a b : Str} {m k : Nat} (hs : N.s = (0, 0)) (ht : N.t = (0, 0)) (hm : m = 3 ∨ m = 4) (hk : k < 24) : rSetRoad N (rd31 nm a b m k) = none :=
  setroad_parts.mpr ⟨⟨show (0 : Int) ≤ 0 by decide, show (0 : Int) ≤ 9 by decide⟩, show rMove 1000000 (0, 0) = none by decide +kernel, show rRoom nm (0, 0) N.s = none by rw [hs]; rfl, show rRungs 4 1000000 nm N.s N.t (lad31 m k) = none by rw [hs, ht]; exact lad_rungs hm hk⟩
/-- the net while it is laid: places, roads -/
def net31 (ps : List Pl) (rs : List Rd) : Nt := ⟨1, (0, 0), (0, 0), ps, rs⟩
structure Pls (nms : List Str) (many j : Nat) (ps : List Pl) : Prop where
  nm : ps.map (·.nm) = nms.take many
  ok : ∀ p ∈ ps, p.kept = some (0, 0) ∧ p.price = (0, 0) ∧ p.wants = [(0, 0)] ∧ ∀ m, p.room = some m → Mv m
  yes : ∀ i p, i < j → ps[i]? = some p → p.room.isSome = true
  no : ∀ i p, j ≤ i → ps[i]? = some p → p.room = none
structure Rds (nms : List Str) (many k : Nat) (less : Int) (rs : List Rd) : Prop where
  nm : rs.map (·.nm) = (nms.drop many).take k
  ok : ∀ r ∈ rs, ∃ a b m c, r = rd31 r.nm a b m c ∧ a ∈ nms.take many ∧ b ∈ nms.take many ∧ (m = 3 ∨ m = 4) ∧ c < 24
  sum : ((rs.map (·.rungs.length)).sum : Int) = 4 * k - (if less < k then 1 else 0)
theorem nok31 {ps : List Pl} {rs : List Rd} (h1 : ps.length < 900) (h2 : rs.length < 900) : NOk (net31 ps rs) := ⟨⟨show (0 : Int).natAbs < 2 ^ 64 by decide, show (0 : Int).natAbs < 2 ^ 64 by decide⟩, ⟨show (0 : Int).natAbs < 2 ^ 64 by decide, show (0 : Int).natAbs < 2 ^ 64 by decide⟩, by show ps.length < 1000; omega, by show rs.length < 1000; omega, show (0 : Int) ≤ 1 by decide, show (1 : Int) < 1000 by decide⟩
theorem filter_cnt {ps : List Pl} {j : Nat} (hy : ∀ i p, i < j → ps[i]? = some p → p.room.isSome = true) (hn : ∀ i p, j ≤ i → ps[i]? = some p → p.room = none) (hj : j ≤ ps.length) : (ps.filter (·.room.isSome)).length = j := by
  have e : ps = ps.take j ++ ps.drop j := (List.take_append_drop j ps).symm
  rw [e, List.filter_append, List.length_append]
  have h1 : (ps.take j).filter (·.room.isSome) = ps.take j := by
    rw [List.filter_eq_self]
    intro p hp
    obtain ⟨i, hi⟩ := List.getElem?_of_mem hp
    rw [List.getElem?_take] at hi
    split at hi
    · exact hy i p (by assumption) hi
    · cases hi
  have h2 : (ps.drop j).filter (·.room.isSome) = [] := by
    rw [List.filter_eq_nil_iff]
    intro p hp
    obtain ⟨i, hi⟩ := List.getElem?_of_mem hp
    rw [List.getElem?_drop] at hi
    rw [hn (j + i) p (by omega) hi]
    simp
  rw [h1, h2]
  simp; omega
structure J31 (S : List (Nat × List D)) (p q n : Nat) (N : Nt) (M : Mem) : Prop where
  fd : Feed M p q
  nt : ∃ pp rr, NetM M n N pp rr
  at_ : ∀ z ∈ S, M[z.1]? = some (.lst z.2) ∧ z.1 ≠ n ∧ z.1 ≠ p
section
variable {S : List (Nat × List D)} {p q n : Nat} {M M' : Mem} {N N2 : Nt}
theorem J31.fdk (h : J31 S p q n N M) (k : Kp [p] M M') (F' : Feed M' p q) : J31 S p q n N M' := by
  obtain ⟨F, ⟨pp, rr, g⟩, w⟩ := h
  exact ⟨F', ⟨pp, rr, g.fd F k⟩, fun z hz => ⟨k.at_ _ _ (by simp; exact (w z hz).2.2) (w z hz).1, (w z hz).2⟩⟩
theorem J31.k0 (h : J31 S p q n N M) (k : Kp [] M M') : J31 S p q n N M' := h.fdk (k.weak (by simp)) (h.fd.kp k (by simp) (by simp))
theorem J31.net {pp rr pp' rr' : Nat} (h : J31 S p q n N M) (hN : NetM M n N pp rr) (k : Kp [n] M M') (hN' : NetM M' n N2 pp' rr') : J31 S p q n N2 M' := by
  obtain ⟨F, -, w⟩ := h
  exact ⟨F.nt hN k, ⟨pp', rr', hN'⟩, fun z hz => ⟨k.at_ _ _ (by simp; exact (w z hz).2.1) (w z hz).1, (w z hz).2⟩⟩
theorem J31.new {ds : List D} (h : J31 S p q n N M) : J31 ((M.length, ds) :: S) p q n N (M ++ [.lst ds]) := by
  have h' := h.k0 (Kp.app (l := [O.lst ds]))
  refine ⟨h'.fd, h'.nt, fun z hz => ?_⟩
  rcases List.mem_cons.mp hz with rfl | hz
  · obtain ⟨pp, rr, g⟩ := h.nt
    exact ⟨mnew, by have := mlt g.ins; simp only; omega, by have := h.fd.lt; simp only; omega⟩
  · exact h'.at_ z hz
theorem J31.sub {S' : List (Nat × List D)} (h : J31 S p q n N M) (hs : ∀ z ∈ S', z ∈ S) : J31 S' p q n N M := ⟨h.fd, h.nt, fun z hz => h.at_ z (hs z hz)⟩
end
theorem o_pop {M : Mem} {n : Nat} {l : List D} {d : D} {Q : DK} (e : M[n]? = some (.lst (l ++ [d]))) (h : Q d (M.set n (.lst l))) : omPop (.ref n) [] M Q := by
  unfold omPop
  dsimp only
  rw [e]
  have e1 : (l ++ [d])[(l ++ [d]).length - 1]? = some d := by simp
  dsimp only
  rw [e1]
  simpa using h
theorem nm_take {nms : List Str} {i k : Nat} {nm : Str} (hd : nms.Nodup) (h : nms[i]? = some nm) (hk : k ≤ i) : nm ∉ nms.take k := by
  intro hc
  obtain ⟨j, hj⟩ := List.getElem?_of_mem hc
  rw [List.getElem?_take] at hj
  split at hj
  · have e1 := (List.getElem?_eq_some_iff.mp hj).2
    have e2 := (List.getElem?_eq_some_iff.mp h).2
    have := (List.getElem_inj hd).mp (e1.trans e2.symm)
    omega
  · cases hj
theorem nm_dropTake {nms : List Str} {i m k : Nat} {nm : Str} (hd : nms.Nodup) (h : nms[i]? = some nm) (hk : i < m ∨ m + k ≤ i) : nm ∉ (nms.drop m).take k := by
  intro hc
  obtain ⟨j, hj⟩ := List.getElem?_of_mem hc
  rw [List.getElem?_take] at hj
  split at hj
  · rw [List.getElem?_drop] at hj
    have e1 := (List.getElem?_eq_some_iff.mp hj).2
    have e2 := (List.getElem?_eq_some_iff.mp h).2
    have := (List.getElem_inj hd).mp (e1.trans e2.symm)
    omega
  · cases hj
theorem fresh31 {N : Nt} {nm : Str} (hn : Nm 8 nm) (hp : nm ∉ N.ps.map (·.nm)) (hr : nm ∉ N.rs.map (·.nm)) : rFresh N nm = none := by
  unfold rFresh
  rw [hn.name, find_none hp, find_noneR hr]
  rfl
theorem law_holds : ∀ ns : List Int, ns.length ≤ 63 → w_law [.kl (ns.map .int)] [] (fun d _ => d = .bl true) (fun _ _ => False) := by
  intro ns _
  unfold w_law wOf
  rw [show startE N_law [.kl (ns.map .int)] = [some (.kl (ns.map .int)), none, none, none, none, none, none, none, none, none, none, none, none] from rfl]
  unfold m_law
  walk_at "ml"
  refine lfeed fun M1 k1 F1 => ?_
  generalize List.length ([] : Mem) + 2 = p at F1 ⊢
  generalize List.length ([] : Mem) + 1 = q at F1
  walk_at "ml"
  refine ⟨⟨rfl, rfl⟩, ?_⟩
  refine l_init (h := 1) (s := (0, 0)) (t := (0, 0)) ?_
  rw [show rInit 1 (0, 0) (0, 0) = none by decide +kernel]
  intro M2 p2 r2 k2 N2
  have lF1 := F1.lt
  have F2 := F1.kp k2 (by simp) (by simp)
  generalize hn : M1.length = n at *
  walk_at "ml"
  refine lnames F2 (by decide) (by decide) fun nms M3 hl3 ha3 hd3 k3 F3 h3 => ?_
  have hl28 : nms.length = 28 := hl3
  have N3 := N2.fd F2 k3
  have l2 := mlt N2.ins
  have J3 : J31 [(M2.length, nms.map .str)] p q n (net31 [] []) M3 := ⟨F3, ⟨_, _, N3⟩, by
    intro z hz
    rw [List.mem_singleton] at hz
    subst hz
    exact ⟨h3, by have := mlt N2.ins; simp only; omega, by have := F2.lt; simp only; omega⟩⟩
  clear h3 k3 F3 N3
  generalize hL : M2.length = L at *
  walk_at "ml"
  refine ldraw J3.fd (by decide) (by decide) fun d M4 d0 d1 k4 F4 => ?_
  have J4 := J3.fdk k4 F4
  obtain ⟨many, hmany, hm1, hm3⟩ : ∃ many : Nat, 1 + d = (many : Int) ∧ 1 ≤ many ∧ many ≤ 3 := ⟨(1 + d).toNat, by omega, by omega, by omega⟩
  walk_at "ml"
  rw [hmany]
  with_reducible refine x_iseq ?_
  walk_at "ml"
  refine o_slL (J4.at_ (L, nms.map .str) (by simp)).1 ?_
  refine iseqL mnew ?_
  rw [show cutD (nms.map D.str) none (some (many : Int)) = (nms.take many).map D.str from by rw [cut_to (by simp; omega), List.map_take]]
  have J5 := J4.new (ds := (nms.take many).map D.str)
  generalize M4 ++ [O.lst ((nms.take many).map D.str)] = M5 at *
  generalize M4.length = l1 at *
  refine for_ix (fun i ρ M' => (∃ o, ρ = [some (.kl (ns.map .int)), some (.ref p), some (.ref n), some (.ref L), some (.int many), o, none, none, none, none, none, none, none]) ∧ J31 [(l1, (nms.take many).map D.str), (L, nms.map .str)] p q n (net31 ((nms.take i).map pl0) []) M') (fun _ _ _ h => (h.2.at_ (l1, _) (by simp)).1) ?_ ?_ ⟨⟨_, rfl⟩, J5⟩
  rotate_left
  · rintro i x ρ M6 K hx ⟨⟨_, rfl⟩, J⟩ hK
    rw [List.getElem?_map] at hx
    cases hq0 : (nms.take many)[i]? with
    | none => rw [hq0] at hx; cases hx
    | some nm =>
    rw [hq0] at hx
    cases hx
    rw [List.getElem?_take] at hq0
    split at hq0
    rotate_left
    · cases hq0
    rename_i him
    have hnm := ha3 nm (List.mem_of_getElem? hq0)
    obtain ⟨pp, rr, g⟩ := J.nt
    have e0 : rPlace (net31 ((nms.take i).map pl0) []) nm = none := by
      unfold rPlace
      rw [fresh31 hnm (by show nm ∉ ((nms.take i).map pl0).map (·.nm); rw [List.map_map, show ((fun x : Pl => x.nm) ∘ pl0) = id from rfl, List.map_id]; exact nm_take hd3 hq0 (by omega)) (by simp [net31]), if_neg (by simp [net31]; omega)]
      rfl
    have gi := g.ins
    walk_at "ml"
    refine l_place (s := nm) g (nok31 (by simp; omega) (by simp)) (by have := hnm.len; unfold Str.length; omega) ?_
    rw [e0]
    intro M7 pp7 rr7 k7 g7
    walk_at "ml"
    refine hK _ _ ⟨⟨_, rfl⟩, J.net g k7 (show NetM M7 n (net31 ((nms.take (i + 1)).map pl0) []) pp7 rr7 from ?_)⟩
    rw [List.take_succ, hq0]
    simpa [net31, newPl, pl0] using g7
  rintro ρ M6 ⟨⟨o5, rfl⟩, J6⟩
  rw [show nms.take ((nms.take many).map D.str).length = nms.take many by congr 1; simp; omega] at J6
  replace J6 := J6.sub (S' := [(L, nms.map .str)]) (by simp)
  walk_at "ml"
  refine ldraw J6.fd (by decide) (by decide) fun less M8 e0 e1 k8 F8 => ?_
  have J8 := J6.fdk k8 F8
  walk_at "ml"
  refine ⟨⟨by decide, by decide⟩, ?_⟩
  refine for_ix (fun k ρ M' => ∃ o8 o9 o10 o11 rs, ρ = [some (.kl (ns.map .int)), some (.ref p), some (.ref n), some (.ref L), some (.int many), o5, some (.int (96 - (if less < (k : Int) then 1 else 0))), some (.int less), o8, o9, o10, o11, none] ∧ Rds nms many k less rs ∧ J31 [(L, nms.map .str)] p q n (net31 ((nms.take many).map pl0) rs) M') (fun _ _ _ _ => trivial) ?_ ?_ ⟨_, _, _, _, [], by rw [if_neg (by omega)]; rfl, ⟨by simp, by simp, by simp; omega⟩, J8⟩
  rotate_left
  · rintro k x ρ M9 K hx ⟨o8, o9, o10, o11, rs, rfl, R, J⟩ hK
    obtain ⟨rfl, hk⟩ := rng_at hx
    replace hk : k < 24 := hk
    walk_at "ml"
    refine ⟨⟨by decide, by decide⟩, ?_⟩
    refine lcT_ix (fun j acc M' => acc = (lad31 j k).map rungD ∧ Kp [] M9 M') (fun _ _ _ _ => trivial) ?_ ?_ (by decide) mnew ⟨rfl, .app⟩
    · rintro j d acc M10 K2 hd hacc ⟨rfl, k10⟩ hK2
      obtain ⟨rfl, hj⟩ := rng_at hd
      walk_at "ml"
      refine hK2 _ _ hacc ⟨?_, k10.setNew (Nat.le_refl _)⟩
      unfold lad31
      rw [List.range_succ, List.map_append, List.map_append]
      simp [rungD, omD, pD]
    rintro acc M10 hacc ⟨rfl, k10⟩
    have J10 := J.k0 k10
    dsimp only
    with_reducible refine x_join (fun ρ M' => ∃ m : Nat, m = (if (k : Int) = less then 3 else 4) ∧ ρ = [some (.kl (ns.map .int)), some (.ref p), some (.ref n), some (.ref L), some (.int many), o5, some (.int (96 - (if less < ((k + 1 : Nat) : Int) then 1 else 0))), some (.int less), some (.int k), some (.ref M9.length), o10, o11, none] ∧ J31 [(M9.length, (lad31 m k).map rungD), (L, nms.map .str)] p q n (net31 ((nms.take many).map pl0) rs) M') ?_ ?_
    · intro K2 hK2
      have e12 : (if less < ((k + 1 : Nat) : Int) then (1 : Int) else 0) = if (k : Int) = less then 1 else if less < (k : Int) then 1 else 0 := by
        by_cases h1 : (k : Int) = less
        · rw [if_pos (by omega), if_pos h1]
        · rw [if_neg h1]
          by_cases h2 : less < (k : Int)
          · rw [if_pos (by omega), if_pos h2]
          · rw [if_neg (by omega), if_neg h2]
      walk_at "ml"
      refine if_d (fun hc => ?_) (fun hc => ?_)
      · walk_at "ml"
        replace hacc : M10[M9.length]? = some (.lst ((lad31 4 k).map rungD)) := hacc
        rw [show (lad31 4 k).map rungD = (lad31 3 k).map rungD ++ [rungD (some ((k : Int) + ((3 : Nat) : Int), 0), (((3 : Nat) : Int), 0))] from rfl] at hacc
        refine o_pop hacc ?_
        walk_at "ml"
        have kS : Kp [] M9 (M10.set M9.length (.lst ((lad31 3 k).map rungD))) := k10.setNew (Nat.le_refl _)
        have J10' := J.k0 kS
        refine hK2 _ _ ⟨3, by rw [if_pos hc], by rw [e12, if_pos hc, if_neg (show ¬ less < (k : Int) by omega)]; rfl, J10'.fd, J10'.nt, fun z hz => ?_⟩
        rcases List.mem_cons.mp hz with rfl | hz
        · obtain ⟨pp, rr, g⟩ := J.nt
          exact ⟨msame hacc, by have := mlt g.ins; simp only; omega, by have := J.fd.lt; simp only; omega⟩
        · exact J10'.at_ z hz
      · walk_at "ml"
        refine hK2 _ _ ⟨4, by rw [if_neg hc], by rw [e12, if_neg hc]; rfl, J10.fd, J10.nt, fun z hz => ?_⟩
        rcases List.mem_cons.mp hz with rfl | hz
        · obtain ⟨pp, rr, g⟩ := J.nt
          exact ⟨hacc, by have := mlt g.ins; simp only; omega, by have := J.fd.lt; simp only; omega⟩
        · exact J10.at_ z hz
    rintro ρ M11 ⟨m, hm, rfl, J11⟩
    have hnL := (J11.at_ (L, nms.map .str) (by simp)).1
    have hz := (J11.at_ (M9.length, (lad31 m k).map rungD) (by simp)).1
    walk_at "ml"
    refine ldraw J11.fd (by omega) (by omega) fun a M12 a0 a1 k12 F12 => ?_
    have J12 := J11.fdk k12 F12
    have hnL2 := (J12.at_ (L, nms.map .str) (by simp)).1
    obtain ⟨sa, hsa⟩ : ∃ sa, nms[a.toNat]? = some sa := ⟨_, List.getElem?_eq_getElem (by omega)⟩
    have ia : atI (nms.map D.str) a = some (.str sa) := by rw [show a = ((a.toNat : Nat) : Int) by omega, atI_n, List.getElem?_map, hsa]; rfl
    walk_at "ml"
    refine o_ixL hnL2 ia ?_
    walk_at "ml"
    refine ldraw J12.fd (by omega) (by omega) fun b M13 b0 b1 k13 F13 => ?_
    have J13 := J12.fdk k13 F13
    have hnL3 := (J13.at_ (L, nms.map .str) (by simp)).1
    have hz3 := (J13.at_ (M9.length, (lad31 m k).map rungD) (by simp)).1
    obtain ⟨sb, hsb⟩ : ∃ sb, nms[b.toNat]? = some sb := ⟨_, List.getElem?_eq_getElem (by omega)⟩
    have ib : atI (nms.map D.str) b = some (.str sb) := by rw [show b = ((b.toNat : Nat) : Int) by omega, atI_n, List.getElem?_map, hsb]; rfl
    obtain ⟨sc, hsc⟩ : ∃ sc, nms[many + k]? = some sc := ⟨_, List.getElem?_eq_getElem (by omega)⟩
    have ic : atI (nms.map D.str) ((many : Int) + (k : Int)) = some (.str sc) := by rw [show (many : Int) + (k : Int) = ((many + k : Nat) : Int) by omega, atI_n, List.getElem?_map, hsc]; rfl
    obtain ⟨pp, rr, g⟩ := J13.nt
    have gi := g.ins
    walk_at "ml"
    refine o_ixL hnL3 ib ?_
    walk_at "ml"
    refine o_ixL hnL3 ic ?_
    walk_at "ml"
    have hm34 : m = 3 ∨ m = 4 := by rw [hm]; split <;> simp
    have rl : rs.length = k := by
      have := congrArg List.length R.nm
      simp at this
      omega
    have hma : sa ∈ nms.take many := List.mem_of_getElem? (i := a.toNat) (by rw [List.getElem?_take, if_pos (by omega)]; exact hsa)
    have hmb : sb ∈ nms.take many := List.mem_of_getElem? (i := b.toNat) (by rw [List.getElem?_take, if_pos (by omega)]; exact hsb)
    have epn : ((nms.take many).map pl0).map (·.nm) = nms.take many := by rw [List.map_map, show ((fun x : Pl => x.nm) ∘ pl0) = id from rfl, List.map_id]
    have er : rRoad (net31 ((nms.take many).map pl0) rs) (rd31 sc sa sb m k) = none := by
      have k1 : rKnown (net31 ((nms.take many).map pl0) rs) sa = none := by unfold rKnown; rw [if_pos (isSome_P.mpr (by show sa ∈ ((nms.take many).map pl0).map (·.nm); rw [epn]; exact hma))]
      have k2 : rKnown (net31 ((nms.take many).map pl0) rs) sb = none := by unfold rKnown; rw [if_pos (isSome_P.mpr (by show sb ∈ ((nms.take many).map pl0).map (·.nm); rw [epn]; exact hmb))]
      have k3 : rFresh (net31 ((nms.take many).map pl0) rs) sc = none := fresh31 (ha3 sc (List.mem_of_getElem? hsc)) (by show sc ∉ ((nms.take many).map pl0).map (·.nm); rw [epn]; exact nm_take hd3 hsc (by omega)) (by show sc ∉ rs.map (·.nm); rw [R.nm]; exact nm_dropTake hd3 hsc (.inr (Nat.le_refl _)))
      have k4 := rd31_none (N := net31 ((nms.take many).map pl0) rs) (nm := sc) (a := sa) (b := sb) rfl rfl hm34 hk
      unfold rRoad
      refine or_no2 k3 (or_no2 k1 (or_no2 k2 (or_no2 (if_neg ?_) k4)))
      show ¬ 24 ≤ (rs.length : Int)
      omega
    refine l_road (q := rd31 sc sa sb m k) g (nok31 (by simp; omega) (by omega)) (by show (lad31 m k).length < 1000; unfold lad31; simp; omega) (by have := (ha3 sc (List.mem_of_getElem? hsc)).len; show sc.cps.size ≤ _; omega) ?_
    rw [er]
    intro M14 pp14 rr14 k14 g14
    walk_at "ml"
    refine hK _ _ ⟨_, _, _, _, rs ++ [rd31 sc sa sb m k], rfl, ⟨?_, ?_, ?_⟩, (J13.net g k14 g14).sub (by simp)⟩
    · rw [List.map_append, R.nm, List.take_succ, List.getElem?_drop, hsc]
      rfl
    · intro r hr
      rcases List.mem_append.mp hr with hr | hr
      · exact R.ok r hr
      · rw [List.mem_singleton] at hr
        subst hr
        exact ⟨sa, sb, m, k, rfl, hma, hmb, hm34, hk⟩
    · have el : (rd31 sc sa sb m k).rungs.length = m := by show (lad31 m k).length = m; simp [lad31]
      rw [List.map_append, List.sum_append]
      have := R.sum
      simp only [List.map_cons, List.map_nil, List.sum_cons, List.sum_nil, el]
      by_cases h1 : (k : Int) = less
      · rw [if_pos h1] at hm
        rw [if_neg (by omega)] at this
        rw [if_pos (by omega)]
        omega
      · rw [if_neg h1] at hm
        by_cases h2 : less < (k : Int)
        · rw [if_pos h2] at this
          rw [if_pos (by omega)]
          omega
        · rw [if_neg h2] at this
          rw [if_neg (by omega)]
          omega
  rw [show (rangeD 0 (Int.toNat 24)).length = 24 from by decide]
  rintro ρ M15 ⟨o8, o9, o10, o11, rs, rfl, R, J15⟩
  obtain ⟨c, hc⟩ : ∃ c : Int, c = 96 - (if less < ((24 : Nat) : Int) then 1 else 0) := ⟨_, rfl⟩
  rw [← hc]
  have rl : rs.length = 24 := by
    have := congrArg List.length R.nm
    simp at this
    omega
  have rsum : ((rs.map (·.rungs.length)).sum : Int) = c := by rw [R.sum, hc]; omega
  clear J3 J4 J5 J6 J8
  walk_at "ml"
  with_reducible refine x_iseq ?_
  walk_at "ml"
  refine ldraw J15.fd (by omega) (by omega) fun e M16 e2 e3 k16 F16 => ?_
  have J16 := J15.fdk k16 F16
  obtain ⟨j, hj, hjm⟩ : ∃ j : Nat, e = (j : Int) ∧ j ≤ many := ⟨e.toNat, by omega, by omega⟩
  walk_at "ml"
  rw [hj]
  refine o_slL (J16.at_ (L, nms.map .str) (by simp)).1 ?_
  refine iseqL mnew ?_
  rw [show cutD (nms.map D.str) none (some (j : Int)) = (nms.take j).map D.str from by rw [cut_to (by simp; omega), List.map_take]]
  have J17 := J16.new (ds := (nms.take j).map D.str)
  generalize M16 ++ [O.lst ((nms.take j).map D.str)] = M17 at *
  generalize M16.length = l2 at *
  refine for_ix (fun i ρ M' => ∃ o ps, ρ = [some (.kl (ns.map .int)), some (.ref p), some (.ref n), some (.ref L), some (.int many), o, some (.int (c + (i : Int))), some (.int less), o8, o9, o10, o11, none] ∧ Pls nms many i ps ∧ J31 [(l2, (nms.take j).map D.str), (L, nms.map .str)] p q n (net31 ps rs) M') (fun _ _ _ h => by
    obtain ⟨_, _, _, _, h⟩ := h
    exact (h.at_ (l2, _) (by simp)).1) ?_ ?_ ⟨o5, _, by simp, ?_, J17⟩
  rotate_left
  · rintro i x ρ M18 K hx ⟨_, ps, rfl, P, J⟩ hK
    rw [List.getElem?_map] at hx
    cases hq0 : (nms.take j)[i]? with
    | none => rw [hq0] at hx; cases hx
    | some nm =>
    rw [hq0] at hx
    cases hx
    rw [List.getElem?_take] at hq0
    split at hq0
    rotate_left
    · cases hq0
    rename_i hij
    obtain ⟨pp, rr, g⟩ := J.nt
    have gi := g.ins
    have pl : ps.length = many := by
      have := congrArg List.length P.nm
      simp at this
      omega
    obtain ⟨p0, hp0⟩ : ∃ p0, ps[i]? = some p0 := ⟨_, List.getElem?_eq_getElem (by omega)⟩
    have hpn : p0.nm = nm := by
      have e1 : (ps.map (·.nm))[i]? = some p0.nm := by rw [List.getElem?_map, hp0]; rfl
      rw [P.nm, List.getElem?_take, if_pos (by omega), hq0] at e1
      exact (Option.some.inj e1).symm
    have hnd : (ps.map (·.nm)).Nodup := by rw [P.nm]; exact List.Nodup.sublist (List.take_sublist _ _) hd3
    have hfp : findP ps nm = some p0 := by rw [← hpn]; exact find_at hnd (List.mem_of_getElem? hp0)
    walk_at "ml"
    refine ldraw J.fd (by decide) (by decide) fun y M19 y0 y1 k19 F19 => ?_
    have J19 := J.fdk k19 F19
    obtain ⟨pp9, rr9, g9⟩ := J19.nt
    have gi9 := g9.ins
    walk_at "ml"
    refine l_through (s := nm) (o := some (y, 0)) g9 (nok31 (by omega) (by omega)) ?_
    rw [show findP (net31 ps rs).ps nm = some p0 from hfp]
    refine OnS.some ?_
    have hmv : Mv (y, (0 : Int)) := ⟨by simp only; omega, by simp⟩
    have er : rRm nm (net31 ps rs).s (some (y, 0)) = none := by
      refine or_no2 (mv_none hmv) ?_
      show rRoom nm (y, 0) (0, 0) = none
      unfold rRoom
      rw [if_neg]
      simp only [sinksB, Bool.or_eq_true, decide_eq_true_eq, not_or]
      omega
    rw [er]
    intro M20 pp20 rr20 k20 g20
    rw [show putP (net31 ps rs).ps { p0 with room := some (y, 0) } = ps.set i { p0 with room := some (y, 0) } from putP_set31 hnd hp0 rfl] at g20
    walk_at "ml"
    refine hK _ _ ⟨_, ps.set i { p0 with room := some (y, 0) }, by rw [show c + (i : Int) + 1 = c + ((i + 1 : Nat) : Int) by omega]; rfl, ⟨?_, ?_, ?_, ?_⟩, J19.net g9 k20 g20⟩
    · rw [List.map_set, P.nm]
      refine List.ext_getElem? fun k => ?_
      by_cases hk : i = k
      · subst hk
        rw [List.getElem?_set_self (by simp; omega), List.getElem?_take, if_pos (by omega), hq0]
        exact congrArg some hpn
      · rw [List.getElem?_set_ne hk]
    · intro z hz
      rcases List.mem_or_eq_of_mem_set hz with hz | rfl
      · exact P.ok z hz
      · obtain ⟨h1, h2, h3, _⟩ := P.ok p0 (List.mem_of_getElem? hp0)
        exact ⟨h1, h2, h3, fun m hm => by cases hm; exact hmv⟩
    · intro k z hk hz
      by_cases hki : i = k
      · subst hki
        rw [List.getElem?_set_self (by omega)] at hz
        cases hz
        rfl
      · rw [List.getElem?_set_ne hki] at hz
        exact P.yes k z (by omega) hz
    · intro k z hk hz
      rw [List.getElem?_set_ne (by omega)] at hz
      exact P.no k z (by omega) hz
  · refine ⟨?_, ?_, ?_, ?_⟩
    · rw [List.map_map, show ((fun x : Pl => x.nm) ∘ pl0) = id from rfl, List.map_id]
    · intro z hz
      obtain ⟨s, _, rfl⟩ := List.mem_map.mp hz
      exact ⟨rfl, rfl, rfl, fun m hm => by cases hm⟩
    · intro i z hi
      omega
    · intro i z _ hz
      have := List.mem_of_getElem? hz
      obtain ⟨s, _, rfl⟩ := List.mem_map.mp this
      rfl
  · rw [show ((nms.take j).map D.str).length = j by simp; omega]
    rintro ρ M18 ⟨o, ps, rfl, P, J18⟩
    replace J18 := J18.sub (S' := []) (by simp)
    obtain ⟨pp, rr, g⟩ := J18.nt
    have pl : ps.length = many := by
      have := congrArg List.length P.nm
      simp at this
      omega
    have asc : ∀ s ∈ nms, Asc 8 s := fun s hs => (ha3 s hs).asc
    have zz : Mv (0, 0) := ⟨by decide, by decide⟩
    have ok : NtOk (net31 ps rs) := {
      h := ⟨show (1 : Int) ≤ 1 by decide, show (1 : Int) ≤ 6 by decide⟩
      s := zz
      t := zz
      ps := fun z hz => by
        obtain ⟨h1, h2, h3, h4⟩ := P.ok z hz
        refine ⟨asc _ ?_, h4, fun m hm => ?_, ?_, fun m hm => ?_, ?_⟩
        · refine List.mem_of_mem_take (i := many) ?_
          rw [← P.nm]
          exact List.mem_map_of_mem hz
        · rw [h1] at hm; cases hm; exact zz
        · rw [h2]; exact zz
        · rw [h3, List.mem_singleton] at hm; rw [hm]; exact zz
        · rw [h3]; decide
      rs := fun z hz => by
        obtain ⟨a, b, m, k, e, ha, hb, hm, hk⟩ := R.ok z hz
        have hn : z.nm ∈ nms := by
          refine List.mem_of_mem_drop (i := many) (List.mem_of_mem_take (i := 24) ?_)
          rw [← R.nm]
          exact List.mem_map_of_mem hz
        rw [e]
        refine ⟨asc _ hn, asc _ (List.mem_of_mem_take ha), asc _ (List.mem_of_mem_take hb), ⟨show (0 : Int) ≤ 0 by decide, show (0 : Int) ≤ 9 by decide⟩, zz, fun y hy => ?_, ?_⟩
        · obtain ⟨q', hq', rfl⟩ := List.mem_map.mp hy
          rw [List.mem_range] at hq'
          exact ⟨fun m hm => by cases hm; exact ⟨by simp only; omega, by simp⟩, ⟨by simp only; omega, by simp⟩⟩
        · show (lad31 m k).length ≤ 4
          unfold lad31; simp; omega
      pl := by show ps.length ≤ 12; omega
      rl := by show rs.length ≤ 24; omega
      pn := by show (ps.map (·.nm)).Nodup; rw [P.nm]; exact List.Nodup.sublist (List.take_sublist _ _) hd3
      rn := by show (rs.map (·.nm)).Nodup; rw [R.nm]; exact List.Nodup.sublist (List.Sublist.trans (List.take_sublist _ _) (List.drop_sublist _ _)) hd3 }
    have he : Ends (net31 ps rs) := fun r hr => by
      obtain ⟨a, b, m, k, e, ha, hb, hm, hk⟩ := R.ok r hr
      show r.st ∈ ps.map (·.nm) ∧ r.en ∈ ps.map (·.nm)
      rw [P.nm, e]
      exact ⟨ha, hb⟩
    have wl : ∀ z ∈ (net31 ps rs).ps, z.wants.length = (net31 ps rs).h.toNat := fun z hz => by
      rw [(P.ok z hz).2.2.1]; rfl
    have hcnt : ((lrowsN (net31 ps rs)).length : Int) = c + (j : Int) := by
      rw [lrows_cnt (show (1 : Int) = 1 from rfl) (fun r hr => by
        obtain ⟨a, b, m, k, e, -⟩ := R.ok r hr
        rw [e]; rfl)]
      show ((((rs.map (·.rungs.length)).sum + (ps.filter (·.room.isSome)).length : Nat)) : Int) = _
      rw [filter_cnt P.yes P.no (by omega), ← rsum]
      have : ∀ l : List Rd, (((l.map (·.rungs.length)).sum : Nat) : Int) = (l.map fun x => (x.rungs.length : Int)).sum := fun l => by
        induction l with
        | nil => rfl
        | cons a l ih => simp [ih]
      rw [← this]
      omega
    have gi := g.ins
    walk_at "ml"
    refine if_d (fun h96 => ?_) (fun h96 => ?_)
    · walk_at "ml"
      refine l_tried g ok he wl (by omega) fun M19 L1 h1 k19 => ?_
      walk_at "ml"
      rw [hcnt] at h1
      refine ⟨⟨by decide, by decide⟩, ?_⟩
      refine lcT_ix (fun i acc M' => acc = (List.range i).map (fun _ => D.tup [.str "too great", .int (c + (j : Int))]) ∧ Kp [] M19 M') (fun _ _ _ _ => trivial) ?_ ?_ (by decide) mnew ⟨rfl, .app⟩
      · rintro i d acc M20 K2 hd hacc ⟨rfl, k20⟩ hK2
        walk_at "ml"
        refine hK2 _ _ hacc ⟨?_, k20.setNew (Nat.le_refl _)⟩
        rw [List.range_succ, List.map_append]
        rfl
      rintro acc M20 hacc ⟨rfl, k20⟩
      have hf : ∀ (n : Nat), ∀ d ∈ (List.range n).map (fun _ => D.tup [.str "too great", .int (c + (j : Int))]), fine 19 d = true := by
        intro n d hd
        obtain ⟨_, _, rfl⟩ := List.mem_map.mp hd
        rw [fine_tup]
        show (fine 18 (.str "too great") && (fine 18 (.int _) && true)) = true
        rw [fine_asc (n := 9) ⟨by decide +kernel, by decide +kernel⟩, fine_int]
        rfl
      refine eq_lists31 (k20.at_ _ _ (by simp) h1) hacc (hf _) (hf _) ?_
      have e4 : (rangeD 0 (4 : Int).toNat).length = 4 := rfl
      first
      | rw [e4]
      | skip
      have : deqL ((List.range 4).map (fun _ => D.tup [.str "too great", .int (c + (j : Int))])) ((List.range 4).map (fun _ => D.tup [.str "too great", .int (c + (j : Int))])) = true := by
        show deqL [D.tup [.str "too great", .int (c + (j : Int))], D.tup [.str "too great", .int (c + (j : Int))], D.tup [.str "too great", .int (c + (j : Int))], D.tup [.str "too great", .int (c + (j : Int))]] [D.tup [.str "too great", .int (c + (j : Int))], D.tup [.str "too great", .int (c + (j : Int))], D.tup [.str "too great", .int (c + (j : Int))], D.tup [.str "too great", .int (c + (j : Int))]] = true
        simp [deqL, deq]
      exact congrArg D.bl this
    · walk_at "ml"
      refine x_fld ?_
      walk_at "ml"
      refine ⟨⟨rfl, rfl⟩, ?_⟩
      refine l_lowered (N := net31 ps rs) mnew (g.kp (Kp.app (S := [])) (by simp) (by simp) (by simp)) ok he wl (by omega) fun M19 a1 a2 a3 a4 k19 lo L19 => ?_
      dsimp only
      rw [L19.ins]
      refine ⟨by decide +kernel, ?_⟩
      have hlook : List.lookup (Str.ofString "arcs") (LF (.ref a1) (.ref a2) (.ref a3) (.ref a4) (f4W (fixN (net31 ps rs)))) = some (.ref a4) := rfl
      rw [hlook]
      dsimp only
      have h5 := L19.arcs
      walk_at "ml"
      rw [List.length_map, hcnt]
      simp
end Prf

theorem PySem.Challenge.cw_dialweir_k31_too_great_holds : PySem.Challenge.rw_dialweir_k31_too_great.Holds :=
  Prf.cw_pre Prf.law_holds
