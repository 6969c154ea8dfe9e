import PyProof.Rows.All
import Wide.All
import OpenK.AllK
import Wide.FinOn
import PyProof.EqAt
import PyProof.EqKinds
import PyProof.TupleCall
import KE.KStateDown
import HandS.ForMost
import HandS.ForExc
import HandS.More
import HandS.Wide
import HandS.Style
import HandS.TupAny
import HandS.IsInst
import HandS.Defaults
import HandS.Conv
import HandS.Steps
import HandS.Codes
import HandS.Head0
import HandS.Head1
import HandS.Head2
import HandS.HeadEnd
import HandS.HeadHook1
import HandS.HeadHook2
import HandS.ExcInit
import HandS.ExcField
import HandS.CallSlots
import HandS.TryMany
import HandS.HeadHook3
import HandS.HeadHook4
import KE.GoesEnum
import PyProof.Draws
import PyProof.EnumMake
import HandS.Comp
import HandS.Iter
import HandS.Zip
import HandS.ListItems
import HandS.ListEq
import HandS.Deep
import HandS.DictComp
import HandS.RaiseMore
import HandS.WordsDict
import HandS.FStr
import HandS.RaiseOp
import HandS.StrMore
import HandS.MakeKwOnly
import HandS.MakeKw
import HandS.Small
import HandS.RaiseFrom
import KE.KCallOwn
import HandS.DictTup
import KE.DataFind
import HandS.Finally
import KE.GoesComp
import HandS.ReplaceLit
import HandS.TupLe
import KE.KSortTup
import HandS.Lambda
import HandS.Nested
import HandS.HeadWalk
import PySem.Challenge.RW_dialweir_k04_stretches
set_option Elab.async false
set_option linter.all false
set_option maxRecDepth 100000
set_option maxHeartbeats 40000000
namespace DW
open PySem L2
section
variable {X : Cx}
/-- // by any divisor but 0, of less than 9000 bits -/
def CDivX (_ j : Int) : Prop := j ≠ 0 ∧ j.natAbs.log2 < 9000
theorem op_fdivX : OpR X (binaryOp .FloorDiv) (rI CDivX fun i j => .int (i.fdiv j)) :=
  opI fun _ _ _ _ _ _ _ hc q => PyProof.Rows.floordiv_int hc.1 q (.inl (PyProof.noPylong_of_log2 hc.2))
end
def Fr (K : PySem.W.Frag) (S : List Addr) (H H' : Hp) : Prop := (∀ a o, a ∉ S → H a = some o → H' a = some o) ∧ ∀ a xs, SqT K H a xs → SqT K H' a xs
theorem Same.tup {K : PySem.W.Frag} {H H' : Hp} {a : Addr} {xs : List V} (e : Same H H') (h : SqT K H a xs) : SqT K H' a xs := by
  rcases h with (h | ⟨o, h⟩) | h
  · exact .inl (.inl (e _ _ h))
  · exact .inl (.inr ⟨o, e _ _ h⟩)
  · exact .inr h
section
variable {K : PySem.W.Frag} {S S' : List Addr} {H H' H1 H2 : Hp} {a p : Addr} {o u : HO} {xs : List V}
theorem Fr.of (e : Same H H') : Fr K [] H H' := ⟨fun a o _ h => e a o h, fun _ _ h => Same.tup e h⟩
theorem Fr.refl (H : Hp) : Fr K [] H H := ⟨fun _ _ _ h => h, fun _ _ h => h⟩
theorem Fr.trans (a : Fr K S H H1) (b : Fr K S H1 H2) : Fr K S H H2 := ⟨fun c o n h => b.1 c o n (a.1 c o n h), fun c xs h => b.2 c xs (a.2 c xs h)⟩
theorem Fr.sub (a : Fr K S H H1) (h : ∀ x, x ∈ S → x ∈ S') : Fr K S' H H1 := ⟨fun c o n => a.1 c o fun z => n (h c z), a.2⟩
theorem Fr.any (a : Fr K [] H H1) : Fr K S H H1 := a.sub (fun _ h => absurd h (by simp))
theorem Fr.new (h : H p = none) : Fr K S H (upd H p o) := (Fr.of (fun b o e => by rw [upd_ne (ne_of_none e h)]; exact e)).any
theorem Fr.get (e : Fr K S H H') (h : H a = some o) (n : a ∉ S) : H' a = some o := e.1 a o n h
/-- a list at p is written -/
theorem Fr.put {xs : List V} (h : H p = some (.lst xs)) : Fr K [p] H (upd H p o) := ⟨fun c u n e => by rw [upd_ne (fun z => n (by rw [z]; simp))]; exact e, fun c ys e => by
  rcases e with (e | ⟨q, e⟩) | e
  · exact .inl (.inl (by rw [upd_ne (fun z => by rw [z, h] at e; cases e)]; exact e))
  · exact .inl (.inr ⟨q, by rw [upd_ne (fun z => by rw [z, h] at e; cases e)]; exact e⟩)
  · exact .inr e⟩
end
mutual
inductive Tp (K : PySem.W.Frag) (H : Hp) : V → PyData → Prop
  | non : Tp K H .non .none
  | bl (b : Bool) : Tp K H (.bl b) (.bool b)
  | int (i : Int) : Tp K H (.int i) (.int i)
  | str (x : Str) : Tp K H (.str x) (.str x)
  | tup {a : Addr} {xs : List V} {ds : List PyData} : SqT K H a xs → TpAll K H xs ds → Tp K H (.ref a) (.tuple ds)
inductive TpAll (K : PySem.W.Frag) (H : Hp) : List V → List PyData → Prop
  | nil : TpAll K H [] []
  | cons {v : V} {vs : List V} {d : PyData} {ds : List PyData} : Tp K H v d → TpAll K H vs ds → TpAll K H (v :: vs) (d :: ds)
end
section
variable {K : PySem.W.Frag} {H H' : Hp}
mutual
theorem Tp.up {S : List Addr} (e : Fr K S H H') : ∀ {v : V} {d : PyData}, Tp K H v d → Tp K H' v d
  | _, _, .non => .non
  | _, _, .bl b => .bl b
  | _, _, .int i => .int i
  | _, _, .str x => .str x
  | _, _, .tup h a => .tup (e.2 _ _ h) (TpAll.up e a)
theorem TpAll.up {S : List Addr} (e : Fr K S H H') : ∀ {vs : List V} {ds : List PyData}, TpAll K H vs ds → TpAll K H' vs ds
  | _, _, .nil => .nil
  | _, _, .cons h a => .cons (Tp.up e h) (TpAll.up e a)
end
mutual
theorem Tp.dp : ∀ {v : V} {d : PyData}, Tp K H v d → Dp K H v d
  | _, _, .non => .non
  | _, _, .bl b => .bl b
  | _, _, .int i => .int i
  | _, _, .str x => .str x
  | _, _, .tup h a => .tup h (TpAll.dp a)
theorem TpAll.dp : ∀ {vs : List V} {ds : List PyData}, TpAll K H vs ds → DpAll K H vs ds
  | _, _, .nil => .nil
  | _, _, .cons h a => .cons (Tp.dp h) (TpAll.dp a)
end
theorem TpAll.get {vs : List V} {ds : List PyData} (h : TpAll K H vs ds) : ∀ {i : Nat} {d : PyData}, ds[i]? = some d → ∃ v, vs[i]? = some v ∧ Tp K H v d := by
  induction ds generalizing vs with
  | nil => intro i d e; simp at e
  | cons d0 ds ih =>
    intro i d e
    cases h with
    | cons h1 h2 =>
      cases i with
      | zero =>
        simp only [List.getElem?_cons_zero, Option.some.injEq] at e
        subst e
        exact ⟨_, rfl, h1⟩
      | succ i => exact ih h2 e
theorem TpAll.len {vs : List V} {ds : List PyData} (h : TpAll K H vs ds) : vs.length = ds.length := by
  induction ds generalizing vs with
  | nil => cases h; rfl
  | cons d0 ds ih =>
    cases h with
    | cons h1 h2 => simp only [List.length_cons, ih h2]
end
abbrev mv (a b : Int) : PyData := .tuple [.int a, .int b]
structure Fn (P : Program) (w : World) (K : PySem.W.Frag) (mg : Str → Option Value) (base : Heap) (CX : CXT) (k : Nat) (x : Str) (ps : List Str) (dvs : List V) (sp : Sp) : Prop where
  ok : ∃ fd ds, FnOk P w K mg base CX k (He.ga K x) fd ps sp ∧ Vals dvs ds ∧ Binds K fd ps ds
  g : mg x = some (.ref (He.ga K x))
  kp : PySem.W.keepIn K (.ref (He.ga K x)) = true
def rPlus (K : PySem.W.Frag) : R2 := fun x y H Q => rI0 (fun i j => .int (i + j)) x y H Q ∨ (∃ i j, x = .str i ∧ y = .str j ∧ i.length + j.length ≤ sizeLine ∧ Q (.str (i ++ j)) H) ∨ rCatA K x y H Q ∨ rCat x y H Q
theorem op_plus {X : Cx} : OpR X (binaryOp .Add) (rPlus X.K) := OpR.or op_add (OpR.or op_add_str (OpR.or op_catA op_cat))
def rEqq (K : PySem.W.Frag) : R2 := fun x y H Q => rEq x y H Q ∨ rEqD K x y H Q
theorem op_eqq {X : Cx} (hu : X.A.units + 64 < cLine) : OpR X (compareOp .Eq) (rEqq X.K) := OpR.or op_eq (op_eqD hu)
def rNee (K : PySem.W.Frag) : R2 := fun x y H Q => rNe x y H Q ∨ rNeD K x y H Q
theorem op_nee {X : Cx} (hu : X.A.units + 64 < cLine) : OpR X (compareOp .NotEq) (rNee X.K) := OpR.or op_ne (op_neD hu)
def rAbs : List V → Hp → VK → Prop := fun xs H Q => ∃ i, xs = [.int i] ∧ Q (.int (if i < 0 then -i else i)) H
def rInt1 : List V → Hp → VK → Prop := fun xs H Q => (∃ i, xs = [.int i] ∧ Q (.int i) H) ∨ ∃ k, xs = [.bl k] ∧ Q (.int (if k then 1 else 0)) H
def rListOf (K : PySem.W.Frag) : List V → Hp → VK → Prop := fun xs H Q => ∃ p ys, xs = [.ref p] ∧ (SqL K H p ys ∨ SqT K H p ys) ∧ ∀ l, H l = none → Q (.ref l) (upd H l (.lst ys))
def rStrInt : List V → Hp → VK → Prop := fun xs H Q => ∃ i, xs = [.int i] ∧ i.natAbs.log2 < 1920 ∧ Q (.str (toString i)) H
def rStrStr : List V → Hp → VK → Prop := fun xs H Q => ∃ a, xs = [.str a] ∧ Q (.str a) H
def rIntStr : List V → Hp → VK → Prop := fun xs H Q => ∃ a n, xs = [.str a] ∧ PySem.intText? a = some n ∧ a.length ≤ 640 ∧ Q (.int n) H
end DW
namespace DW
open PySem L2
structure ClsFn (K : PySem.W.Frag) (C f : Addr) (m : Str) : Prop where
  rd : PySem.W.readsIn K C (.type "type") = true
  ga : PySem.W.specialIn K (.ref C) "__getattribute__" = some (some (.builtin "type.__getattribute__"))
  at_ : PySem.W.findCls K (.ref C) (.type "type") m = some (.val (.ref f))
  kp : PySem.W.keepIn K (.ref f) = true
def tMkO0 (C : Addr) (sp : Sp) : St → Hp → XK → Prop := fun _ H Q => ∀ a, H a = none → sp [.ref a] (upd H a (exo a C none))
  (fun v H2 => v = .non ∧ ∃ (d : Addr) (fs : List (Str × V)), H2 a = some (exo a C (some d)) ∧ H2 d = some (exd d fs) ∧ H d = none ∧ Q (.ref C) (some d) (upd (del H2 a) d (.xd fs))) (fun _ _ _ => False)
def oexB (K : PySem.W.Frag) (C : Addr) : Bool :=
  (match K.lookup C with
  | some ⟨.type c, _, .cls cd, sl⟩ => decide (c = "type") && (match cd.mro, sl.toList with
    | .ref C' :: bm, [_, _, _, _, some (.builtin n), _] => decide (C' = C) && (decide (n = "ValueError.__new__") && (!cd.hasDel && (cd.hasDict && PySem.HandSPX.refsVE bm)))
    | _, _ => false)
  | _ => false) && (decide (PySem.W.findIn K (.ref C) "__setattr__" = some (some (.builtin "object.__setattr__"))) && (decide (PySem.W.subIn K (.ref C) (.type "BaseException") = some true) && (decide (PySem.W.typeIn K (.ref C) = some (.type "type")) && PySem.W.keepIn K (.ref C))))
theorem oexB_ok {K : PySem.W.Frag} {C : Addr} (h : oexB K C = true) : OexC K C := by
  unfold oexB at h
  obtain ⟨h1, h⟩ := Bool.and_eq_true_iff.mp h
  obtain ⟨h2, h⟩ := Bool.and_eq_true_iff.mp h
  obtain ⟨h3, h⟩ := Bool.and_eq_true_iff.mp h
  obtain ⟨h4, h5⟩ := Bool.and_eq_true_iff.mp h
  refine ⟨?_, of_decide_eq_true h2, of_decide_eq_true h3, of_decide_eq_true h4, h5⟩
  cases e : K.lookup C with
  | none => rw [e] at h1; cases h1
  | some o =>
    obtain ⟨oc, od, dt, sl⟩ := o
    rw [e] at h1
    cases oc with
    | type c =>
      cases dt with
      | cls cd =>
        obtain ⟨g1, g2⟩ := Bool.and_eq_true_iff.mp h1
        have e1 := of_decide_eq_true g1
        subst e1
        obtain ⟨nm, bs, mro, ns, qn, hd, sn, sub, ab, col, del⟩ := cd
        obtain ⟨l⟩ := sl
        dsimp only at g2
        split at g2
        · rename_i C' bm k0 k1 k2 k3 n k5
          obtain ⟨a1, g2⟩ := Bool.and_eq_true_iff.mp g2
          obtain ⟨a2, g2⟩ := Bool.and_eq_true_iff.mp g2
          obtain ⟨a3, g2⟩ := Bool.and_eq_true_iff.mp g2
          obtain ⟨a4, a5⟩ := Bool.and_eq_true_iff.mp g2
          have b1 := of_decide_eq_true a1
          have b2 := of_decide_eq_true a2
          have b3 : del = false := by simpa using a3
          subst b1 b2 b3 a4
          exact ⟨_, _, _, _, _, _, _, _, _, _, _, _, _, _, _, rfl, a5⟩
        · cases g2
      | _ => cases h1
    | _ => cases dt <;> cases h1
def clsFnB (K : PySem.W.Frag) (C f : Addr) (m : Str) : Bool := PySem.W.readsIn K C (.type "type") && (decide (PySem.W.specialIn K (.ref C) "__getattribute__" = some (some (.builtin "type.__getattribute__"))) &&
  ((match PySem.W.findCls K (.ref C) (.type "type") m with | some (.val v) => decide (v = .ref f) | _ => false) && PySem.W.keepIn K (.ref f)))
theorem clsFnB_ok {K : PySem.W.Frag} {C f : Addr} {m : Str} (h : clsFnB K C f m = true) : ClsFn K C f m := by
  unfold clsFnB at h
  obtain ⟨h1, h⟩ := Bool.and_eq_true_iff.mp h
  obtain ⟨h2, h⟩ := Bool.and_eq_true_iff.mp h
  obtain ⟨h3, h4⟩ := Bool.and_eq_true_iff.mp h
  refine ⟨h1, of_decide_eq_true h2, ?_, h4⟩
  split at h3
  · rename_i v e
    rw [e, of_decide_eq_true h3]
  · cases h3
/-- all that is wanted of an exception class by its name; fs: the names of its fields -/
structure ExcX (K : PySem.W.Frag) (mg : Str → Option Value) (x : Str) (fs : List Str) : Prop where
  g : mg x = some (.ref (He.ga K x))
  oex : OexC K (He.ga K x)
  xf : XfC K (He.ga K x)
  no : ∀ f ∈ fs, PySem.W.findIn K (.ref (He.ga K x)) f = some none
  init : PySem.W.findIn K (.ref (He.ga K x)) "__init__" = some (some (.ref (He.ma K (He.ga K x) "__init__")))
  tI : PySem.W.typeIn K (.ref (He.ma K (He.ga K x) "__init__")) = some (.type "function")
  cf : ClsFn K (He.ga K x) (He.ma K (He.ga K x) "__init__") "__init__"
def excXB (K : PySem.W.Frag) (x : Str) (fs : List Str) : Bool := oexB K (He.ga K x) && (xfB K (He.ga K x) && (fs.all (fun f => decide (PySem.W.findIn K (.ref (He.ga K x)) f = some none)) &&
  (decide (PySem.W.findIn K (.ref (He.ga K x)) "__init__" = some (some (.ref (He.ma K (He.ga K x) "__init__")))) && (decide (PySem.W.typeIn K (.ref (He.ma K (He.ga K x) "__init__")) = some (.type "function")) && clsFnB K (He.ga K x) (He.ma K (He.ga K x) "__init__") "__init__"))))
theorem excXB_ok {K : PySem.W.Frag} {mg : Str → Option Value} {x : Str} {fs : List Str} (g : mg x = some (.ref (He.ga K x))) (h : excXB K x fs = true) : ExcX K mg x fs := by
  unfold excXB at h
  obtain ⟨h1, h⟩ := Bool.and_eq_true_iff.mp h
  obtain ⟨h2, h⟩ := Bool.and_eq_true_iff.mp h
  obtain ⟨h3, h⟩ := Bool.and_eq_true_iff.mp h
  obtain ⟨h4, h⟩ := Bool.and_eq_true_iff.mp h
  obtain ⟨h5, h6⟩ := Bool.and_eq_true_iff.mp h
  exact ⟨g, oexB_ok h1, xfB_ok h2, fun f hf => of_decide_eq_true (List.all_eq_true.mp h3 f hf), of_decide_eq_true h4, of_decide_eq_true h5, clsFnB_ok h6⟩
def veB (K : PySem.W.Frag) : Bool := match PySem.W.findCls K (.type "ValueError") (.type "type") "__init__" with | some (.val v) => decide (v = .builtin "ValueError.__init__") | _ => false
theorem veB_ok {K : PySem.W.Frag} (h : veB K = true) : PySem.W.findCls K (.type "ValueError") (.type "type") "__init__" = some (.val (.builtin "ValueError.__init__")) := by
  unfold veB at h
  split at h
  · rename_i v e
    rw [e, of_decide_eq_true h]
  · cases h
end DW
namespace DW
open PySem L2
structure FnM (P : Program) (w : World) (K : PySem.W.Frag) (mg : Str → Option Value) (base : Heap) (CX : CXT) (k : Nat) (x m : Str) (ps : List Str) (sp : Sp) : Prop where
  ok : ∃ fd, FnOk P w K mg base CX k (He.ma K (He.ga K x) m) fd ps sp ∧ Binds K fd ps []
section
variable {X : Cx} {CX : CXT} {k : Nat} {ps : List Str} {sp : Sp} {E : XK} {x : Str} {fs : List Str} {p p1 p2 pos : Pos} {e : Expr} {es : List Expr} {ta t : TA}
end
/-- e.f in an except suite, whatever e's class -/
def tXfA (K : PySem.W.Frag) (a : Addr) (cls : Value) (d : Option Addr) (f : Str) (te : TE) : TE := fun σ H Q => ∃ C, cls = .ref C ∧ XfC K C ∧ PySem.W.findIn K (.ref C) f = some none ∧ tXf a cls d C f te σ H Q
theorem pe_xfA {X : Cx} {a : Addr} {oe : Obj} {cls : Value} {d : Option Addr} {pn : List (Addr × Obj)} {e : Expr} {te : TE} {pos : Pos} {n : Str} (hz : Zc cls d oe) (hf : ∃ vs, oe.data = .fields vs) (he : PE (X.suite a ((a, oe) :: pn)) e te)
    (hb : attributeBase e n X.env (eval e X.env) = eval e X.env := by rfl) : PE (X.suite a ((a, oe) :: pn)) (.Attribute e n pos) (tXfA X.K a cls d n te) :=
  ⟨fun pins s σ H Q I ⟨_, _, T, hno, h⟩ => (pe_xf T hno hz hf he hb).run pins s σ H Q I h⟩
section
variable {K : PySem.W.Frag} {σ : St} {H H' : Hp} {Q : VK} {N B C : St → Hp → Prop} {R : VK} {sp : Sp} {dvs : List V} {ES : St → XK} {tr : TA} {te : TE} {E : XK} {W : WX} {tm : St → Hp → XK → Prop} {QX : XK} {x : Str} {fs : List Str} {mg : Str → Option Value}
/-- what an exception's __init__ promises: its fields -/
def spInitAt (K : PySem.W.Frag) (a : Addr) (H : Hp) (Q : VK) (fl : List (Str × V)) : Prop := ∃ C, H a = some (exo a C none) ∧ OexC K C ∧ (∀ f ∈ fl.map (·.1), PySem.W.findIn K (.ref C) f = some none) ∧
  ∀ dx, H dx = none → dx ≠ a → Q .non (upd (upd H dx (exd dx fl)) a (exo a C (some dx)))
theorem mk_heap {H : Hp} {a d : Addr} {o o1 o2 o3 : HO} (ha : H a = none) (hd : d ≠ a) : upd (del (upd (upd (upd H a o) d o1) a o2) a) d o3 = upd H d o3 := by
  funext b
  by_cases h1 : b = d
  · subst h1; rw [upd_same, upd_same]
  · rw [upd_ne h1, upd_ne h1]
    by_cases h2 : b = a
    · subst h2; rw [del_same, ha]
    · rw [del_ne h2, upd_ne h2, upd_ne h1, upd_ne h2]
end
end DW
namespace DW
def allT : List Bool → Bool
  | [] => true
  | b :: r => b && allT r
theorem allT_get : ∀ {l : List Bool}, allT l = true → ∀ (i : Nat) {b : Bool}, l[i]? = some b → b = true
  | [], _, i, _, e => by simp at e
  | c :: r, h, 0, b, e => by
    obtain ⟨h1, _⟩ := Bool.and_eq_true_iff.mp (show (c && allT r) = true from h)
    have e2 : c = b := Option.some.inj e
    rw [← e2]; exact h1
  | c :: r, h, i + 1, b, e => allT_get (Bool.and_eq_true_iff.mp (show (c && allT r) = true from h)).2 i (show r[i]? = some b from e)
end DW
namespace DW
open PySem L2
section
variable {K : PySem.W.Frag} {σ : St} {H H' : Hp} {Q : VK} {N B C : St → Hp → Prop} {R : VK} {c cls : Value} {i : Nat} {tb : WX → TS} {ts : Addr → Value → Option Addr → TS} {Wout : WX} {d : Option Addr} {x f : Str} {fs : List Str} {mg : Str → Option Value} {v : V} {fl : List (Str × V)} {a dd : Addr}
end
end DW
namespace DW
open PySem L2
/-- the classes and their dicts first: they are looked up most -/
def asE (g : Addr → Option Obj) (n : Nat) : List Addr :=
  let base := (List.range n).reverse
  let cs := base.filter fun a => match g a with | some ⟨_, _, .cls _, _⟩ => true | _ => false
  mainGlobals :: cs ++ (cs.filterMap fun a => match g a with | some ⟨_, _, .cls cd, _⟩ => some cd.ns | _ => none) ++ base
abbrev AlE : Type := He.AlD × Bool
def obsK (fa : List He.Fa) (fn : List He.DefD) (ex : PySem.W.Frag → Bool) (K : PySem.W.Frag) : AlE := (He.obsD fa fn K, ex K)
def obsE (n : Nat) (fa : List He.Fa) (fn : List He.DefD) (ex : PySem.W.Frag → Bool) (g : Addr → Option Obj) : AlE := obsK fa fn ex (He.frG g (asE g n))
structure SaysE (fa : List He.Fa) (fn : List He.DefD) (ex : PySem.W.Frag → Bool) (K : PySem.W.Frag) : Prop where
  d : He.SaysD fa fn K
  more : ex K = true
def hookE (n : Nat) (fa : List He.Fa) (fn : List He.DefD) (ex : PySem.W.Frag → Bool) : PySem.W.Hook where
  α := AlE
  obs := fun s => obsE n fa fn ex s.heap.get?
  val := fun _ => (He.valD fn, true)
  says := fun _ h => ∃ K : PySem.W.Frag, K.In h ∧ SaysE fa fn ex K
  of := fun _ _ e => ⟨_, He.frG_in, ⟨congrArg (fun z : AlE => z.1) e, congrArg (fun z : AlE => z.2) e⟩⟩
  keeps := fun _ _ _ ⟨K, hK, c⟩ k => ⟨K, PySem.W.Frag.In.keeps hK k, c⟩
theorem obsE_eq {n : Nat} {fa : List He.Fa} {fn : List He.DefD} {ex : PySem.W.Frag → Bool} {g : Addr → Option Obj} {s : Shared} (h : ∀ a, g a = s.heap.get? a) : obsE n fa fn ex g = (hookE n fa fn ex).obs s := by
  have e : g = s.heap.get? := funext h
  rw [e]
  rfl
end DW
namespace DW
open PySem PySem.Spec PyProof.Rows L2
open Sem (wp)
end DW
namespace MVX
open PySem PySem.W PySem.Spec PySem.Calls PyProof.Rows
section
variable {M : Model} {K : Frag}
end
end MVX
namespace MV
open PySem PySem.Spec PyProof.Rows L2
inductive D where
  | non
  | bl (b : Bool)
  | int (i : Int)
  | str (x : Str)
  | tup (ds : List D)
  | ref (n : Nat)
  | ty (n : String)
  | g (x : Str)
  | exn (a dd : Addr) (c : Str) (ns : List Str) (ds : List D)
  | kl (ds : List D)
/-- tab: the table of a code object in which the functions made by it are kept, all of one name; lst: a list; frz: a list that is only read; dct, dtt: a dict with keys of ints and texts, of tuples of these (lk: a loop walks it); ins: an instance -/
inductive O where
  | lst (ds : List D)
  | frz (ds : List D)
  | dct (lk : Bool) (kvs : List (Key × D))
  | dtt (lk : Bool) (kvs : List (List Key × D))
  | ins (c : Str) (fs : List (Str × D))
  | tab (q : Str)
abbrev Mem := List O
abbrev Ev := List (Option D)
structure Exn where
  c : Str
  ns : List Str
  ds : List D
/-- a list that is never written: the script -/
def RdL (K : PySem.W.Frag) (H : Hp) (a : Addr) (xs : List V) : Prop := (∃ ob, H a = some (.frz ob (.lst xs))) ∨
  ∃ (o : Obj) (its : Array Value) (n : Nat), K.lookup a = some o ∧ o.cls = .type "list" ∧ o.dict = none ∧ o.data = .seq its n ∧ its.size ≤ sizeLine ∧ Vals xs its.toList
theorem RdL.sq {K : PySem.W.Frag} {H : Hp} {a : Addr} {xs : List V} (h : RdL K H a xs) : SqL K H a xs := by
  rcases h with h | h
  · exact .inl (.inr h)
  · exact .inr h
/-- a tuple that begins with a text (keys of dicts do): no written one -/
def hdS : List D → Bool
  | .str _ :: _ => true
  | _ => false
def Tq (K : PySem.W.Frag) (H : Hp) (a : Addr) (ds : List D) (xs : List V) : Prop := SqT K H a xs ∧ (hdS ds = true → H a = some (.tup xs))
mutual
inductive Rel (K : PySem.W.Frag) (as : List Addr) (H : Hp) : D → V → Prop
  | non : Rel K as H .non .non
  | bl (b : Bool) : Rel K as H (.bl b) (.bl b)
  | int (i : Int) : Rel K as H (.int i) (.int i)
  | str (x : Str) : Rel K as H (.str x) (.str x)
  | tup {a : Addr} {xs : List V} {ds : List D} : Tq K H a ds xs → RelL K as H ds xs → Rel K as H (.tup ds) (.ref a)
  | ref {n : Nat} {a : Addr} : as[n]? = some a → Rel K as H (.ref n) (.ref a)
  | ty (n : String) : Rel K as H (.ty n) (.ty n)
  | g (x : Str) : Rel K as H (.g x) (.ref (He.ga K x))
  | exn {a dd : Addr} {c : Str} {ns : List Str} {ds : List D} {xs : List V} : H dd = some (.xd (ns.zip xs)) → RelL K as H ds xs → Rel K as H (.exn a dd c ns ds) (.ref a)
  | kl {a : Addr} {xs : List V} {ds : List D} : RdL K H a xs → RelL K as H ds xs → Rel K as H (.kl ds) (.ref a)
inductive RelL (K : PySem.W.Frag) (as : List Addr) (H : Hp) : List D → List V → Prop
  | nil : RelL K as H [] []
  | cons {d : D} {ds : List D} {v : V} {vs : List V} : Rel K as H d v → RelL K as H ds vs → RelL K as H (d :: ds) (v :: vs)
end
structure Ext (K : PySem.W.Frag) (as : List Addr) (H : Hp) (as' : List Addr) (H' : Hp) : Prop where
  pre : as <+: as'
  tup : ∀ a xs, SqT K H a xs → SqT K H' a xs
  xd : ∀ a fs, H a = some (.xd fs) → H' a = some (.xd fs)
  frz : ∀ a ob u, H a = some (.frz ob u) → H' a = some (.frz ob u)
  tp : ∀ a xs, H a = some (.tup xs) → H' a = some (.tup xs)
  co : ∀ a q, H a = some (LamX.CodeO a q) → H' a = some (LamX.CodeO a q)
section
variable {K : PySem.W.Frag} {as as' as2 : List Addr} {H H' H2 : Hp}
theorem Ext.refl : Ext K as H as H := ⟨List.prefix_refl _, fun _ _ h => h, fun _ _ h => h, fun _ _ _ h => h, fun _ _ h => h, fun _ _ h => h⟩
theorem Ext.trans (a : Ext K as H as' H') (b : Ext K as' H' as2 H2) : Ext K as H as2 H2 :=
  ⟨a.pre.trans b.pre, fun c xs h => b.tup c xs (a.tup c xs h), fun c fs h => b.xd c fs (a.xd c fs h), fun c o u h => b.frz c o u (a.frz c o u h), fun c xs h => b.tp c xs (a.tp c xs h), fun c q h => b.co c q (a.co c q h)⟩
theorem Tq.up {a : Addr} {ds : List D} {xs : List V} (e : Ext K as H as' H') (h : Tq K H a ds xs) : Tq K H' a ds xs := ⟨e.tup _ _ h.1, fun q => e.tp _ _ (h.2 q)⟩
theorem Tq.new {p : Addr} {ds : List D} {xs : List V} : Tq K (upd H p (.tup xs)) p ds xs := ⟨SqT.of upd_same, fun _ => upd_same⟩
theorem pre_get {n : Nat} {a : Addr} (p : as <+: as') (h : as[n]? = some a) : as'[n]? = some a := by
  obtain ⟨t, rfl⟩ := p
  obtain ⟨hn, _⟩ := List.getElem?_eq_some_iff.mp h
  rw [List.getElem?_append_left hn]; exact h
theorem RdL.up (e : Ext K as H as' H') {a : Addr} {xs : List V} (h : RdL K H a xs) : RdL K H' a xs := by
  rcases h with ⟨ob, h⟩ | h
  · exact .inl ⟨ob, e.frz _ _ _ h⟩
  · exact .inr h
mutual
theorem Rel.up (e : Ext K as H as' H') : ∀ {d : D} {v : V}, Rel K as H d v → Rel K as' H' d v
  | _, _, .non => .non
  | _, _, .bl b => .bl b
  | _, _, .int i => .int i
  | _, _, .str x => .str x
  | _, _, .tup h r => .tup (h.up e) (RelL.up e r)
  | _, _, .ref h => .ref (pre_get e.pre h)
  | _, _, .ty n => .ty n
  | _, _, .g x => .g x
  | _, _, .exn h r => .exn (e.xd _ _ h) (RelL.up e r)
  | _, _, .kl h r => .kl (RdL.up e h) (RelL.up e r)
theorem RelL.up (e : Ext K as H as' H') : ∀ {ds : List D} {vs : List V}, RelL K as H ds vs → RelL K as' H' ds vs
  | _, _, .nil => .nil
  | _, _, .cons h r => .cons (Rel.up e h) (RelL.up e r)
end
theorem RelL.len : ∀ {ds : List D} {vs : List V}, RelL K as H ds vs → ds.length = vs.length
  | _, _, .nil => rfl
  | _, _, .cons _ r => by simp only [List.length_cons, RelL.len r]
theorem RelL.get {d : D} : ∀ {ds : List D} {vs : List V} {i : Nat}, RelL K as H ds vs → ds[i]? = some d → ∃ v, vs[i]? = some v ∧ Rel K as H d v
  | _, _, _, .nil, e => by simp at e
  | _, _, 0, .cons h _, e => by
    simp only [List.getElem?_cons_zero, Option.some.injEq] at e
    subst e; exact ⟨_, rfl, h⟩
  | _, _, i + 1, .cons _ r, e => by
    simp only [List.getElem?_cons_succ] at e ⊢
    exact RelL.get r e
theorem RelL.app : ∀ {ds es : List D} {vs ws : List V}, RelL K as H ds vs → RelL K as H es ws → RelL K as H (ds ++ es) (vs ++ ws)
  | _, _, _, _, .nil, s => s
  | _, _, _, _, .cons h r, s => .cons h (RelL.app r s)
theorem RelL.take (n : Nat) : ∀ {ds : List D} {vs : List V}, RelL K as H ds vs → RelL K as H (ds.take n) (vs.take n)
  | _, _, .nil => by simp only [List.take_nil]; exact .nil
  | _, _, .cons h r => by
    cases n with
    | zero => exact .nil
    | succ n => simp only [List.take_succ_cons]; exact .cons h (RelL.take n r)
theorem RelL.drop (n : Nat) : ∀ {ds : List D} {vs : List V}, RelL K as H ds vs → RelL K as H (ds.drop n) (vs.drop n)
  | _, _, .nil => by simp only [List.drop_nil]; exact .nil
  | _, _, .cons h r => by
    cases n with
    | zero => exact .cons h r
    | succ n => simp only [List.drop_succ_cons]; exact RelL.drop n r
theorem RelL.set {d : D} {v : V} (h : Rel K as H d v) : ∀ {ds : List D} {vs : List V} (i : Nat), RelL K as H ds vs → RelL K as H (ds.set i d) (vs.set i v)
  | _, _, _, .nil => by simp only [List.set_nil]; exact .nil
  | _, _, 0, .cons _ r => .cons h r
  | _, _, i + 1, .cons q r => .cons q (RelL.set h i r)
end
/-- pairs of a name or a key and a value -/
def KVR (K : PySem.W.Frag) (as : List Addr) (H : Hp) {κ : Type} (l : List (κ × D)) (m : List (κ × V)) : Prop := Paired (fun (p : κ × D) (q : κ × V) => p.1 = q.1 ∧ Rel K as H p.2 q.2) l m
def OR (K : PySem.W.Frag) (as : List Addr) (H : Hp) (o : O) (a : Addr) : Prop := match o with
  | .lst ds => ∃ xs, H a = some (.lst xs) ∧ RelL K as H ds xs
  | .frz ds => ∃ ob xs, H a = some (.frz ob (.lst xs)) ∧ RelL K as H ds xs
  | .dct lk kvs => ∃ ks, KVR K as H kvs ks ∧ match lk with
    | true => ∃ ob, H a = some (.frz ob (.dK ks))
    | false => H a = some (.dK ks)
  | .dtt lk kvs => ∃ ks, KVR K as H kvs ks ∧ match lk with
    | true => ∃ ob, H a = some (.frz ob (.dT ks))
    | false => H a = some (.dT ks)
  | .ins c fs => ∃ dx ys, H a = some (.ins (He.ga K c) dx ys) ∧ KVR K as H fs ys
  | .tab q => LamX.TabS H a q
structure RepM (K : PySem.W.Frag) (as : List Addr) (H : Hp) (M : Mem) : Prop where
  len : as.length = M.length
  nd : as.Nodup
  ob : ∀ (n : Nat) (a : Addr) (o : O), as[n]? = some a → M[n]? = some o → OR K as H o a
section
variable {K : PySem.W.Frag} {as as' : List Addr} {H H' : Hp} {M : Mem} {κ : Type}
theorem KVR.up (e : Ext K as H as' H') {l : List (κ × D)} {m : List (κ × V)} (h : KVR K as H l m) : KVR K as' H' l m := Paired.mapP h fun _ _ q => ⟨q.1, q.2.up e⟩
theorem KVR.len {l : List (κ × D)} {m : List (κ × V)} (h : KVR K as H l m) : l.length = m.length := Paired.length h
theorem OR.up {o : O} {a : Addr} (e : Ext K as H as' H') (s : H' a = H a) (h : OR K as H o a) : OR K as' H' o a := by
  cases o with
  | lst ds => obtain ⟨xs, h1, h2⟩ := h; exact ⟨xs, s.trans h1, h2.up e⟩
  | frz ds => obtain ⟨ob, xs, h1, h2⟩ := h; exact ⟨ob, xs, s.trans h1, h2.up e⟩
  | dct lk kvs =>
    obtain ⟨ks, h1, h2⟩ := h
    refine ⟨ks, h1.up e, ?_⟩
    cases lk with
    | true => obtain ⟨ob, h2⟩ := h2; exact ⟨ob, s.trans h2⟩
    | false => exact s.trans h2
  | dtt lk kvs =>
    obtain ⟨ks, h1, h2⟩ := h
    refine ⟨ks, h1.up e, ?_⟩
    cases lk with
    | true => obtain ⟨ob, h2⟩ := h2; exact ⟨ob, s.trans h2⟩
    | false => exact s.trans h2
  | ins c fs => obtain ⟨dx, ys, h1, h2⟩ := h; exact ⟨dx, ys, s.trans h1, h2.up e⟩
  | tab q =>
    obtain ⟨ps, h1, h2, h3⟩ := h
    exact ⟨ps, s.trans h1, h2, fun pos cv hc => by
      obtain ⟨c, e1, e2⟩ := h3 pos cv hc
      exact ⟨c, e1, e.co _ _ e2⟩⟩
theorem OR.there {o : O} {a : Addr} (h : OR K as H o a) : ∃ u, H a = some u ∧ (∀ xs, u ≠ .tup xs) ∧ (∀ fs, u ≠ .xd fs) ∧ ∀ b q, u ≠ LamX.CodeO b q := by
  cases o with
  | lst ds => obtain ⟨xs, h1, _⟩ := h; exact ⟨_, h1, (fun _ z => nomatch z), (fun _ z => nomatch z), fun _ _ z => by unfold LamX.CodeO at z; cases z⟩
  | frz ds => obtain ⟨ob, xs, h1, _⟩ := h; exact ⟨_, h1, (fun _ z => nomatch z), (fun _ z => nomatch z), fun _ _ z => by unfold LamX.CodeO at z; cases z⟩
  | dct lk kvs =>
    obtain ⟨ks, _, h2⟩ := h
    cases lk with
    | true => obtain ⟨ob, h2⟩ := h2; exact ⟨_, h2, (fun _ z => nomatch z), (fun _ z => nomatch z), fun _ _ z => by unfold LamX.CodeO at z; cases z⟩
    | false => exact ⟨_, h2, (fun _ z => nomatch z), (fun _ z => nomatch z), fun _ _ z => by unfold LamX.CodeO at z; cases z⟩
  | dtt lk kvs =>
    obtain ⟨ks, _, h2⟩ := h
    cases lk with
    | true => obtain ⟨ob, h2⟩ := h2; exact ⟨_, h2, (fun _ z => nomatch z), (fun _ z => nomatch z), fun _ _ z => by unfold LamX.CodeO at z; cases z⟩
    | false => exact ⟨_, h2, (fun _ z => nomatch z), (fun _ z => nomatch z), fun _ _ z => by unfold LamX.CodeO at z; cases z⟩
  | ins c fs => obtain ⟨dx, ys, h1, _⟩ := h; exact ⟨_, h1, (fun _ z => nomatch z), (fun _ z => nomatch z), fun _ _ z => by unfold LamX.CodeO at z; cases z⟩
  | tab q => obtain ⟨ps, h1, _⟩ := h; exact ⟨_, h1, (fun _ z => nomatch z), (fun _ z => nomatch z), fun _ _ z => by unfold LamX.CodeO at z; cases z⟩
theorem RepM.at_ (r : RepM K as H M) {n : Nat} {o : O} (h : M[n]? = some o) : ∃ a, as[n]? = some a ∧ OR K as H o a := by
  obtain ⟨hn, _⟩ := List.getElem?_eq_some_iff.mp h
  have : n < as.length := by rw [r.len]; exact hn
  exact ⟨as[n], List.getElem?_eq_getElem this, r.ob n _ o (List.getElem?_eq_getElem this) h⟩
theorem RepM.some_ (r : RepM K as H M) {n : Nat} {a : Addr} (h : as[n]? = some a) : ∃ u, H a = some u ∧ (∀ xs, u ≠ .tup xs) ∧ (∀ fs, u ≠ .xd fs) ∧ ∀ b q, u ≠ LamX.CodeO b q := by
  obtain ⟨hn, _⟩ := List.getElem?_eq_some_iff.mp h
  have hm : n < M.length := by rw [← r.len]; exact hn
  exact (r.ob n a _ h (List.getElem?_eq_getElem hm)).there
/-- a new thing at p -/
theorem ext_new {p : Addr} {o : HO} (hp : H p = none) : Ext K as H as (upd H p o) :=
  ⟨List.prefix_refl _, fun a xs h => DW.Same.tup (fun b u e => by rw [upd_ne (ne_of_none e hp)]; exact e) h, fun a fs h => by rw [upd_ne (ne_of_none h hp)]; exact h, fun a o u h => by rw [upd_ne (ne_of_none h hp)]; exact h, fun a xs h => by rw [upd_ne (ne_of_none h hp)]; exact h, fun a q h => by rw [upd_ne (ne_of_none h hp)]; exact h⟩
theorem ext_app {l : List Addr} : Ext K as H (as ++ l) H := ⟨List.prefix_append _ _, fun _ _ h => h, fun _ _ h => h, fun _ _ _ h => h, fun _ _ h => h, fun _ _ h => h⟩
theorem RepM.laid {p : Addr} {o : HO} (r : RepM K as H M) (hp : H p = none) : RepM K as (upd H p o) M :=
  ⟨r.len, r.nd, fun n a u h1 h2 => (r.ob n a u h1 h2).up (ext_new hp) (by
    obtain ⟨w, hw, _⟩ := r.some_ h1
    rw [upd_ne (ne_of_none hw hp)])⟩
theorem RepM.new {p : Addr} {o : O} {u : HO} (r : RepM K as H M) (hp : H p = none) (ho : OR K (as ++ [p]) (upd H p u) o p) : RepM K (as ++ [p]) (upd H p u) (M ++ [o]) := by
  have hn : p ∉ as := fun z => by
    obtain ⟨n, hn, e⟩ := List.getElem_of_mem z
    obtain ⟨w, hw, _⟩ := r.some_ (n := n) (a := p) (by rw [List.getElem?_eq_getElem hn, e])
    rw [hw] at hp; cases hp
  refine ⟨by simp [r.len], ?_, fun n a q h1 h2 => ?_⟩
  · rw [List.nodup_append]
    exact ⟨r.nd, by simp, fun a ha b hb => by simp at hb; subst hb; exact fun z => hn (z ▸ ha)⟩
  · by_cases hl : n < as.length
    · rw [List.getElem?_append_left hl] at h1
      rw [List.getElem?_append_left (by rw [← r.len]; exact hl)] at h2
      refine (r.ob n a q h1 h2).up ((ext_new hp).trans ext_app) ?_
      obtain ⟨w, hw, _⟩ := r.some_ h1
      rw [upd_ne (ne_of_none hw hp)]
    · obtain ⟨h3, _⟩ := List.getElem?_eq_some_iff.mp h1
      have h4 : n = as.length := by simp at h3; omega
      subst h4
      rw [List.getElem?_append_right (Nat.le_refl _)] at h1
      rw [r.len, List.getElem?_append_right (Nat.le_refl _)] at h2
      simp at h1 h2
      subst h1 h2
      exact ho
theorem ext_put {n : Nat} {a : Addr} {u : HO} (r : RepM K as H M) (h : as[n]? = some a) (hz : ∀ ob w, H a ≠ some (.frz ob w)) : Ext K as H as (upd H a u) := by
  obtain ⟨w, hw, nt, nx, nc⟩ := r.some_ h
  refine ⟨List.prefix_refl _, fun b xs q => ?_, fun b fs q => ?_, fun b ob w q => ?_, fun b xs q => ?_, fun b z q => ?_⟩
  · rcases q with (q | ⟨o, q⟩) | q
    · exact .inl (.inl (by rw [upd_ne (fun z => by rw [z, hw] at q; exact nt _ (Option.some.inj q))]; exact q))
    · exact .inl (.inr ⟨o, by rw [upd_ne (fun z => by rw [z] at q; exact hz _ _ q)]; exact q⟩)
    · exact .inr q
  · rw [upd_ne (fun z => by rw [z, hw] at q; exact nx _ (Option.some.inj q))]; exact q
  · rw [upd_ne (fun z => by rw [z] at q; exact hz _ _ q)]; exact q
  · rw [upd_ne (fun z => by rw [z, hw] at q; exact nt _ (Option.some.inj q))]; exact q
  · rw [upd_ne (fun y => by rw [y, hw] at q; exact nc _ _ (Option.some.inj q))]; exact q
/-- the thing at a is written -/
theorem RepM.put {n : Nat} {a : Addr} {o : O} {u : HO} (r : RepM K as H M) (h : as[n]? = some a) (hz : ∀ ob w, H a ≠ some (.frz ob w)) (ho : OR K as (upd H a u) o a) : RepM K as (upd H a u) (M.set n o) := by
  refine ⟨by rw [List.length_set]; exact r.len, r.nd, fun m b q h1 h2 => ?_⟩
  by_cases hm : m = n
  · subst hm
    obtain ⟨hn, _⟩ := List.getElem?_eq_some_iff.mp h
    rw [List.getElem?_set_self (by rw [← r.len]; exact hn)] at h2
    cases h2
    rw [h] at h1
    cases h1
    exact ho
  · rw [List.getElem?_set_ne (Ne.symm hm)] at h2
    refine (r.ob m b q h1 h2).up (ext_put r h hz) ?_
    refine upd_ne fun z => hm ?_
    subst z
    obtain ⟨l1, e1⟩ := List.getElem?_eq_some_iff.mp h1
    obtain ⟨l2, e2⟩ := List.getElem?_eq_some_iff.mp h
    exact (List.getElem_inj r.nd).mp (e1.trans e2.symm)
end
def RelS (K : PySem.W.Frag) (as : List Addr) (H : Hp) (ρ : Ev) (σ : L2.St) : Prop := ρ.length = σ.length ∧ ∀ (i : Nat) (d : D), ρ[i]? = some (some d) → ∃ v, σ[i]? = some (some v) ∧ Rel K as H d v
def RelX (K : PySem.W.Frag) (as : List Addr) (H : Hp) (x : Exn) (cls : Value) (d : Option Addr) : Prop :=
  cls = .ref (He.ga K x.c) ∧ ∃ dd xs, d = some dd ∧ H dd = some (.xd (x.ns.zip xs)) ∧ RelL K as H x.ds xs
section
variable {K : PySem.W.Frag} {as as' : List Addr} {H H' : Hp} {ρ : Ev} {σ : L2.St}
theorem RelS.up (e : Ext K as H as' H') (r : RelS K as H ρ σ) : RelS K as' H' ρ σ := ⟨r.1, fun i d h => let ⟨v, h1, h2⟩ := r.2 i d h; ⟨v, h1, h2.up e⟩⟩
theorem RelS.set {i : Nat} {d : D} {v : V} (r : RelS K as H ρ σ) (h : Rel K as H d v) : RelS K as H (ρ.set i (some d)) (σ.set i (some v)) := by
  refine ⟨by simp [r.1], fun j e q => ?_⟩
  by_cases hj : i = j
  · subst hj
    by_cases hl : i < ρ.length
    · rw [List.getElem?_set_self hl] at q
      cases q
      exact ⟨v, List.getElem?_set_self (by rw [← r.1]; exact hl), h⟩
    · rw [List.getElem?_eq_none_iff.mpr (by simp; omega)] at q; cases q
  · rw [List.getElem?_set_ne hj] at q
    obtain ⟨w, h1, h2⟩ := r.2 j e q
    exact ⟨w, by rw [List.getElem?_set_ne hj]; exact h1, h2⟩
theorem RelS.unset {i : Nat} (r : RelS K as H ρ σ) : RelS K as H (ρ.set i none) (σ.set i none) := by
  refine ⟨by simp [r.1], fun j e q => ?_⟩
  by_cases hj : i = j
  · subst hj
    by_cases hl : i < ρ.length
    · rw [List.getElem?_set_self hl] at q; cases q
    · rw [List.getElem?_eq_none_iff.mpr (by simp; omega)] at q; cases q
  · rw [List.getElem?_set_ne hj] at q
    obtain ⟨w, h1, h2⟩ := r.2 j e q
    exact ⟨w, by rw [List.getElem?_set_ne hj]; exact h1, h2⟩
end
end MV
namespace MV
open PySem PySem.Spec PyProof.Rows L2
abbrev DK := D → Mem → Prop
abbrev XM := Exn → Mem → Prop
abbrev ME := Ev → Mem → DK → XM → Prop
abbrev MT := Ev → Mem → (Bool → Mem → Prop) → XM → Prop
abbrev MA := Ev → Mem → (List D → Mem → Prop) → XM → Prop
structure Nd where
  nx : Ev → Mem → Prop
  rt : DK
  bk : Ev → Mem → Prop
  ct : Ev → Mem → Prop
  ex : Exn → Ev → Mem → Prop
abbrev MS := Nd → Ev → Mem → Prop
def LQ (K : PySem.W.Frag) (as : List Addr) (H : Hp) (Q : VK) : DK := fun d M' => ∀ as' H' v, Ext K as H as' H' → RepM K as' H' M' → Rel K as' H' d v → Q v H'
def LT (K : PySem.W.Frag) (as : List Addr) (H : Hp) (Q : Bool → Hp → Prop) : Bool → Mem → Prop := fun b M' => ∀ as' H', Ext K as H as' H' → RepM K as' H' M' → Q b H'
def LA (K : PySem.W.Frag) (as : List Addr) (H : Hp) (Q : List V → Hp → Prop) : List D → Mem → Prop := fun ds M' => ∀ as' H' vs, Ext K as H as' H' → RepM K as' H' M' → RelL K as' H' ds vs → Q vs H'
def LX (K : PySem.W.Frag) (as : List Addr) (H : Hp) (W : XK) : XM := fun x M' => ∀ as' H' cls d, Ext K as H as' H' → RepM K as' H' M' → RelX K as' H' x cls d → W cls d H'
def LS (K : PySem.W.Frag) (as : List Addr) (H : Hp) (N : L2.St → Hp → Prop) : Ev → Mem → Prop := fun ρ M' => ∀ as' H' σ, Ext K as H as' H' → RepM K as' H' M' → RelS K as' H' ρ σ → N σ H'
def LXS (K : PySem.W.Frag) (as : List Addr) (H : Hp) (W : WX) : Exn → Ev → Mem → Prop := fun x ρ M' => ∀ as' H' σ cls d, Ext K as H as' H' → RepM K as' H' M' → RelS K as' H' ρ σ → RelX K as' H' x cls d → W cls d σ H'
section
variable {K : PySem.W.Frag} {as as' : List Addr} {H H' : Hp} {Q : VK} {d : D} {M : Mem}
theorem LQ.mono (h : LQ K as H Q d M) (e : Ext K as H as' H') : LQ K as' H' Q d M := fun as2 H2 v e2 r q => h as2 H2 v (e.trans e2) r q
theorem LT.mono {Q : Bool → Hp → Prop} {b : Bool} (h : LT K as H Q b M) (e : Ext K as H as' H') : LT K as' H' Q b M := fun as2 H2 e2 r => h as2 H2 (e.trans e2) r
theorem LA.mono {Q : List V → Hp → Prop} {ds : List D} (h : LA K as H Q ds M) (e : Ext K as H as' H') : LA K as' H' Q ds M := fun as2 H2 v e2 r q => h as2 H2 v (e.trans e2) r q
theorem LX.mono {W : XK} {x : Exn} (h : LX K as H W x M) (e : Ext K as H as' H') : LX K as' H' W x M := fun as2 H2 c d e2 r q => h as2 H2 c d (e.trans e2) r q
theorem LS.mono {N : L2.St → Hp → Prop} {ρ : Ev} (h : LS K as H N ρ M) (e : Ext K as H as' H') : LS K as' H' N ρ M := fun as2 H2 c e2 r q => h as2 H2 c (e.trans e2) r q
theorem LXS.mono {W : WX} {x : Exn} {ρ : Ev} (h : LXS K as H W x ρ M) (e : Ext K as H as' H') : LXS K as' H' W x ρ M := fun as2 H2 c d y e2 r q => h as2 H2 c d y (e.trans e2) r q
end
def lf (K : PySem.W.Frag) (W : WX) (m : ME) : TE := fun σ H Q => ∃ as M ρ Q' X', RepM K as H M ∧ RelS K as H ρ σ ∧ m ρ M Q' X' ∧ (∀ d M', Q' d M' → LQ K as H Q d M') ∧ ∀ x M', X' x M' → LX K as H (fun c d H => W c d σ H) x M'
def lfT (K : PySem.W.Frag) (W : WX) (m : MT) : TT := fun σ H Q => ∃ as M ρ Q' X', RepM K as H M ∧ RelS K as H ρ σ ∧ m ρ M Q' X' ∧ (∀ d M', Q' d M' → LT K as H Q d M') ∧ ∀ x M', X' x M' → LX K as H (fun c d H => W c d σ H) x M'
def lfA (K : PySem.W.Frag) (W : WX) (m : MA) : TA := fun σ H Q => ∃ as M ρ Q' X', RepM K as H M ∧ RelS K as H ρ σ ∧ m ρ M Q' X' ∧ (∀ d M', Q' d M' → LA K as H Q d M') ∧ ∀ x M', X' x M' → LX K as H (fun c d H => W c d σ H) x M'
/-- ends of the mirror that are as good as D's -/
structure NdOk (K : PySem.W.Frag) (W : WX) (as : List Addr) (H : Hp) (E : Nd) (D : Ends) : Prop where
  nx : ∀ ρ M, E.nx ρ M → LS K as H D.nx ρ M
  rt : ∀ d M, E.rt d M → LQ K as H D.rt d M
  bk : ∀ ρ M, E.bk ρ M → LS K as H D.bk ρ M
  ct : ∀ ρ M, E.ct ρ M → LS K as H D.ct ρ M
  ex : ∀ x ρ M, E.ex x ρ M → LXS K as H W x ρ M
theorem NdOk.mono {K : PySem.W.Frag} {W : WX} {as as' : List Addr} {H H' : Hp} {E : Nd} {D : Ends} (h : NdOk K W as H E D) (e : Ext K as H as' H') : NdOk K W as' H' E D :=
  ⟨fun _ _ q => (h.nx _ _ q).mono e, fun _ _ q => (h.rt _ _ q).mono e, fun _ _ q => (h.bk _ _ q).mono e, fun _ _ q => (h.ct _ _ q).mono e, fun _ _ _ q => (h.ex _ _ _ q).mono e⟩
def lfS (K : PySem.W.Frag) (W : WX) (m : MS) : TS := fun D σ H => ∃ as M ρ E, RepM K as H M ∧ RelS K as H ρ σ ∧ m E ρ M ∧ NdOk K W as H E D
abbrev QE (X : Cx) (W : WX) (e : Expr) (m : ME) : Prop := PE X e (lf X.K W m)
abbrev QT (X : Cx) (W : WX) (e : Expr) (m : MT) : Prop := PT X e (lfT X.K W m)
abbrev QW (X : Cx) (W : WX) (e : Expr) (m : MT) : Prop := PW X e (lfT X.K W m)
abbrev QA (X : Cx) (W : WX) (es : List Expr) (m : MA) : Prop := PA X es (lfA X.K W m)
abbrev QS (X : Cx) (W : WX) (st : Stmt) (m : MS) : Prop := PS X st (lfS X.K W m)
abbrev QSs (X : Cx) (W : WX) (sts : List Stmt) (m : MS) : Prop := PSs X sts (lfS X.K W m)
section
variable {X : Cx} {e : Expr} {es : List Expr} {st : Stmt} {sts : List Stmt}
theorem PEi {t t' : TE} (h : PE X e t) (i : ∀ σ H Q, t' σ H Q → t σ H Q) : PE X e t' := ⟨fun pins s σ H Q I q => h.run pins s σ H Q I (i σ H Q q)⟩
theorem PTi {t t' : TT} (h : PT X e t) (i : ∀ σ H Q, t' σ H Q → t σ H Q) : PT X e t' := ⟨fun pins s σ H Q I q => h.run pins s σ H Q I (i σ H Q q)⟩
theorem PWi {t t' : TT} (h : PW X e t) (i : ∀ σ H Q, t' σ H Q → t σ H Q) : PW X e t' := ⟨fun wh pins s σ H Q I q => h.run wh pins s σ H Q I (i σ H Q q)⟩
theorem PAi {t t' : TA} (h : PA X es t) (i : ∀ σ H Q, t' σ H Q → t σ H Q) : PA X es t' := ⟨fun pos pins s σ H Q I q => h.run pos pins s σ H Q I (i σ H Q q)⟩
theorem PSi {t t' : TS} (h : PS X st t) (i : ∀ D σ H, t' D σ H → t D σ H) : PS X st t' := ⟨fun pins s σ H D I q => h.run pins s σ H D I (i D σ H q)⟩
theorem PSsi {t t' : TS} (h : PSs X sts t) (i : ∀ D σ H, t' D σ H → t D σ H) : PSs X sts t' := ⟨fun pins s σ H D I q => h.run pins s σ H D I (i D σ H q)⟩
end
section
variable {K : PySem.W.Frag} {W : WX} {as : List Addr} {H : Hp} {M : Mem} {ρ : Ev} {σ : L2.St} {X' : XM}
/-- a value has come: go on -/
theorem lf_bind {m : ME} {k : DK} {Q : VK} (r : RepM K as H M) (rs : RelS K as H ρ σ) (h : m ρ M k X') (hx : ∀ x M', X' x M' → LX K as H (fun c d H => W c d σ H) x M')
    (hk : ∀ d M' as' H' v, k d M' → Ext K as H as' H' → RepM K as' H' M' → RelS K as' H' ρ σ → Rel K as' H' d v → Q v H') : lf K W m σ H Q :=
  ⟨as, M, ρ, k, X', r, rs, h, fun d M' q as' H' v e r' q' => hk d M' as' H' v q e r' (rs.up e) q', hx⟩
theorem lfT_bind {m : MT} {k : Bool → Mem → Prop} {Q : Bool → Hp → Prop} (r : RepM K as H M) (rs : RelS K as H ρ σ) (h : m ρ M k X') (hx : ∀ x M', X' x M' → LX K as H (fun c d H => W c d σ H) x M')
    (hk : ∀ b M' as' H', k b M' → Ext K as H as' H' → RepM K as' H' M' → RelS K as' H' ρ σ → Q b H') : lfT K W m σ H Q :=
  ⟨as, M, ρ, k, X', r, rs, h, fun d M' q as' H' e r' => hk d M' as' H' q e r' (rs.up e), hx⟩
theorem lfA_bind {m : MA} {k : List D → Mem → Prop} {Q : List V → Hp → Prop} (r : RepM K as H M) (rs : RelS K as H ρ σ) (h : m ρ M k X') (hx : ∀ x M', X' x M' → LX K as H (fun c d H => W c d σ H) x M')
    (hk : ∀ ds M' as' H' vs, k ds M' → Ext K as H as' H' → RepM K as' H' M' → RelS K as' H' ρ σ → RelL K as' H' ds vs → Q vs H') : lfA K W m σ H Q :=
  ⟨as, M, ρ, k, X', r, rs, h, fun d M' q as' H' v e r' q' => hk d M' as' H' v q e r' (rs.up e) q', hx⟩
end
section
variable {X : Cx} {W : WX} {pos : Pos}
def mVar (i : Nat) : ME := fun ρ M Q _ => match ρ[i]? with | some (some d) => Q d M | _ => False
def mC (d : D) : ME := fun _ M Q _ => Q d M
theorem qe_var {i : Nat} {x : Str} (hN : X.N[i]? = some x) (hv : Vis X.env.scope x) (hd : (x == ("__debug__" : Str)) = false := by decide) (hcd : (x == ("__classdict__" : Str)) = false := by decide) : QE X W (.Name x pos) (mVar i) :=
  PEi (pe_var hN hv hd hcd) fun σ H Q ⟨as, M, ρ, Q', X', r, rs, h, hq, hx⟩ => by
    unfold mVar at h
    split at h
    · rename_i d e
      obtain ⟨v, e2, rv⟩ := rs.2 i d e
      exact ⟨v, e2, hq d M h as H v .refl r rv⟩
    · exact h.elim
theorem lf_c {K : PySem.W.Frag} {d : D} {v : V} (hr : ∀ as H, Rel K as H d v) (σ : L2.St) (H : Hp) (Q : VK) (h : lf K W (mC d) σ H Q) : tC v σ H Q := by
  obtain ⟨as, M, ρ, Q', X', r, rs, h, hq, hx⟩ := h
  exact hq d M h as H v .refl r (hr as H)
theorem qe_int {i : Int} {j : Nat} : QE X W (.Constant (.int i) j pos) (mC (.int i)) := PEi pe_int (lf_c fun _ _ => .int i)
theorem qe_bl {b : Bool} {j : Nat} : QE X W (.Constant (.bool b) j pos) (mC (.bl b)) := PEi pe_bl (lf_c fun _ _ => .bl b)
theorem qe_non {j : Nat} : QE X W (.Constant .none j pos) (mC .non) := PEi pe_non (lf_c fun _ _ => .non)
theorem qe_str {x : Str} {j : Nat} : QE X W (.Constant (.str x) j pos) (mC (.str x)) := PEi pe_str (lf_c fun _ _ => .str x)
/-- a def or a class of the module -/
theorem qe_g {x : Str} (hg : Gl X x) (hm : X.mg x = some (.ref (He.ga X.K x))) (hd : (x == ("__debug__" : Str)) = false := by decide) : QE X W (.Name x pos) (mC (.g x)) := PEi (pe_glob (v := .ref (He.ga X.K x)) hg hm rfl hd) (lf_c fun _ _ => .g x)
end
abbrev OP := D → D → Mem → DK → Prop
abbrev OU := D → Mem → DK → Prop
abbrev OA := List D → Mem → DK → Prop
def SimO (K : PySem.W.Frag) (r : R2) (o : OP) : Prop := ∀ (as : List Addr) (H : Hp) (M : Mem) (dx dy : D) (x y : V) (k : DK) (Q : VK), RepM K as H M → Rel K as H dx x → Rel K as H dy y → o dx dy M k → (∀ d M', k d M' → LQ K as H Q d M') → r x y H Q
def SimU (K : PySem.W.Frag) (r : V → Hp → VK → Prop) (o : OU) : Prop := ∀ (as : List Addr) (H : Hp) (M : Mem) (dx : D) (x : V) (k : DK) (Q : VK), RepM K as H M → Rel K as H dx x → o dx M k → (∀ d M', k d M' → LQ K as H Q d M') → r x H Q
def SimA (K : PySem.W.Frag) (r : List V → Hp → VK → Prop) (o : OA) : Prop := ∀ (as : List Addr) (H : Hp) (M : Mem) (ds : List D) (vs : List V) (k : DK) (Q : VK), RepM K as H M → RelL K as H ds vs → o ds M k → (∀ d M', k d M' → LQ K as H Q d M') → r vs H Q
def mOp (o : OP) (ma mb : ME) : ME := fun ρ M Q X => ma ρ M (fun x M1 => mb ρ M1 (fun y M2 => o x y M2 Q) X) X
def mUn (o : OU) (ma : ME) : ME := fun ρ M Q X => ma ρ M (fun x M1 => o x M1 Q) X
def mCB (o : OA) (ma : MA) : ME := fun ρ M Q X => ma ρ M (fun xs M1 => o xs M1 Q) X
section
variable {K : PySem.W.Frag} {W : WX}
theorem lf_op {r : R2} {o : OP} {ma mb : ME} (hs : SimO K r o) (σ : L2.St) (H : Hp) (Q : VK) (h : lf K W (mOp o ma mb) σ H Q) : tOp r (lf K W ma) (lf K W mb) σ H Q := by
  obtain ⟨as, M, ρ, Q', X', rp, rs, h, hq, hx⟩ := h
  refine lf_bind rp rs h hx fun dx M1 as1 H1 x h1 e1 r1 rs1 rx => ?_
  refine lf_bind r1 rs1 h1 (fun x M' q => (hx x M' q).mono e1) fun dy M2 as2 H2 y h2 e2 r2 rs2 ry => ?_
  exact hs as2 H2 M2 dx dy x y Q' Q r2 (rx.up e2) ry h2 fun d M' q => (hq d M' q).mono (e1.trans e2)
theorem lf_un {r : V → Hp → VK → Prop} {o : OU} {ma : ME} (hs : SimU K r o) (σ : L2.St) (H : Hp) (Q : VK) (h : lf K W (mUn o ma) σ H Q) : tUn r (lf K W ma) σ H Q := by
  obtain ⟨as, M, ρ, Q', X', rp, rs, h, hq, hx⟩ := h
  refine lf_bind rp rs h hx fun dx M1 as1 H1 x h1 e1 r1 rs1 rx => ?_
  exact hs as1 H1 M1 dx x Q' Q r1 rx h1 fun d M' q => (hq d M' q).mono e1
theorem lf_cb {r : List V → Hp → VK → Prop} {o : OA} {ma : MA} (hs : SimA K r o) (σ : L2.St) (H : Hp) (Q : VK) (h : lf K W (mCB o ma) σ H Q) : tCB r (lfA K W ma) σ H Q := by
  obtain ⟨as, M, ρ, Q', X', rp, rs, h, hq, hx⟩ := h
  refine lfA_bind rp rs h hx fun ds M1 as1 H1 vs h1 e1 r1 rs1 rv => ?_
  exact hs as1 H1 M1 ds vs Q' Q r1 rv h1 fun d M' q => (hq d M' q).mono e1
theorem SimO.or {r r' : R2} {o o' : OP} (h : SimO K r o) (h' : SimO K r' o') : SimO K (fun x y H Q => r x y H Q ∨ r' x y H Q) (fun x y M Q => o x y M Q ∨ o' x y M Q) := fun as H M dx dy x y k Q rp rx ry q hk => by
  rcases q with q | q
  · exact .inl (h as H M dx dy x y k Q rp rx ry q hk)
  · exact .inr (h' as H M dx dy x y k Q rp rx ry q hk)
end
section
variable {X : Cx} {W : WX} {a b : Expr} {es : List Expr} {ma mb mc : ME} {pos : Pos}
theorem qe_op {op : Operator} {r : R2} {o : OP} (ho : OpR X (binaryOp op) r) (hs : SimO X.K r o) (ha : QE X W a ma) (hb : QE X W b mb) : QE X W (.BinOp a op b pos) (mOp o ma mb) := PEi (pe_op ho ha hb) (lf_op hs)
theorem qe_un {op : UnaryOp} {r : V → Hp → VK → Prop} {o : OU} (ho : UnR X (unaryOp op) r) (hs : SimU X.K r o) (ha : QE X W a ma) : QE X W (.UnaryOp op a pos) (mUn o ma) := PEi (pe_un ho ha) (lf_un hs)
theorem qe_cmp {op : CmpOp} {r : R2} {o : OP} (ho : OpR X (compareOp op) r) (hs : SimO X.K r o) (ha : QE X W a ma) (hb : QE X W b mb) (hm : behindInMarks op b = false) : QE X W (.Compare a [op] [b] pos) (mOp o ma mb) := PEi (pe_cmpR ho ha hb hm) (lf_op hs)
theorem qe_ix {r : R2} {o : OP} (hr : IxR X r) (hs : SimO X.K r o) (ha : QE X W a ma) (hb : QE X W b mb) (hp : PlainIx b) : QE X W (.Subscript a b pos) (mOp o ma mb) := PEi (pe_ix hr ha hb hp) (lf_op hs)
def mNil : MA := fun _ M Q _ => Q [] M
def mCons (ma : ME) (mr : MA) : MA := fun ρ M Q X => ma ρ M (fun x M1 => mr ρ M1 (fun xs M2 => Q (x :: xs) M2) X) X
theorem qa_nil : QA X W [] mNil := PAi pa_nil fun σ H Q ⟨as, M, ρ, Q', X', r, rs, h, hq, hx⟩ => hq [] M h as H [] .refl r .nil
theorem qa_cons {mr : MA} (ha : QE X W a ma) (hr : QA X W es mr) (hs : starEach (a :: es) X.env = (false, eval a X.env) :: starEach es X.env := by rfl) : QA X W (a :: es) (mCons ma mr) :=
  PAi (pa_cons ha hr hs) fun σ H Q ⟨as, M, ρ, Q', X', r, rs, h, hq, hx⟩ => by
    refine lf_bind r rs h hx fun dx M1 as1 H1 x h1 e1 r1 rs1 rx => ?_
    refine lfA_bind r1 rs1 h1 (fun x M' q => (hx x M' q).mono e1) fun ds M2 as2 H2 vs h2 e2 r2 rs2 rv => ?_
    exact hq _ _ h2 as2 H2 _ (e1.trans e2) r2 (.cons (rx.up e2) rv)
def oTup : OA := fun ds M Q => ds.length ≤ 1000 ∧ Q (.tup ds) M
def oLst : OA := fun ds M Q => ds.length ≤ 1000 ∧ Q (.ref M.length) (M ++ [.lst ds])
theorem app_at {α : Type} {l : List α} {a : α} : (l ++ [a])[l.length]? = some a := by simp
theorem le_size {n : Nat} (h : n ≤ 1000) : n ≤ sizeLine := Nat.le_trans h (by decide)
/-- a new tuple is laid -/
theorem new_tup {K : PySem.W.Frag} {as : List Addr} {H : Hp} {M : Mem} {ds : List D} {xs : List V} {p : Addr} {k : DK} {Q : VK} (r : RepM K as H M) (rv : RelL K as H ds xs) (hp : H p = none) (h : k (.tup ds) M) (hk : ∀ d M', k d M' → LQ K as H Q d M') : Q (.ref p) (upd H p (.tup xs)) :=
  hk _ _ h as _ _ (ext_new hp) (r.laid hp) (.tup Tq.new (rv.up (ext_new hp)))
theorem new_obj {K : PySem.W.Frag} {as : List Addr} {H : Hp} {M : Mem} {o : O} {u : HO} {p : Addr} {k : DK} {Q : VK} (r : RepM K as H M) (hp : H p = none) (ho : OR K (as ++ [p]) (upd H p u) o p) (h : k (.ref M.length) (M ++ [o])) (hk : ∀ d M', k d M' → LQ K as H Q d M') : Q (.ref p) (upd H p u) :=
  hk _ _ h (as ++ [p]) _ _ ((ext_new hp).trans ext_app) (r.new hp ho) (.ref (by rw [← r.len]; exact app_at))
theorem new_lst {K : PySem.W.Frag} {as : List Addr} {H : Hp} {M : Mem} {ds : List D} {xs : List V} {p : Addr} {k : DK} {Q : VK} (r : RepM K as H M) (rv : RelL K as H ds xs) (hp : H p = none) (h : k (.ref M.length) (M ++ [.lst ds])) (hk : ∀ d M', k d M' → LQ K as H Q d M') : Q (.ref p) (upd H p (.lst xs)) :=
  new_obj (o := .lst ds) r hp ⟨xs, upd_same, rv.up ((ext_new hp).trans ext_app)⟩ h hk
theorem qe_tup {n : Nat} {ma : MA} (ha : QA X W es ma) : QE X W (.Tuple es n pos) (mCB oTup ma) := PEi (pe_tup ha) fun σ H Q ⟨as, M, ρ, Q', X', r, rs, h, hq, hx⟩ => by
  refine lfA_bind r rs h hx fun ds M1 as1 H1 vs h1 e1 r1 rs1 rv => ?_
  exact ⟨by rw [← rv.len]; exact le_size h1.1, fun p hp => new_tup r1 rv hp h1.2 fun d M' q => (hq d M' q).mono e1⟩
theorem qe_lst {ma : MA} (ha : QA X W es ma) : QE X W (.List es pos) (mCB oLst ma) := PEi (pe_lst ha) fun σ H Q ⟨as, M, ρ, Q', X', r, rs, h, hq, hx⟩ => by
  refine lfA_bind r rs h hx fun ds M1 as1 H1 vs h1 e1 r1 rs1 rv => ?_
  exact ⟨by rw [← rv.len]; exact le_size h1.1, fun p hp => new_lst r1 rv hp h1.2 fun d M' q => (hq d M' q).mono e1⟩
end
section
variable {X : Cx} {W : WX} {a b c : Expr} {rest : List Expr} {ma mb mc : ME} {ta tb tc : MT} {pos : Pos}
def mB (ma : ME) : MT := fun ρ M Q X => ma ρ M (fun x M1 => match x with | .bl k => Q k M1 | _ => False) X
def mAnd (t u : MT) : MT := fun ρ M Q X => t ρ M (fun k M1 => if k = true then u ρ M1 Q X else Q false M1) X
def mOr (t u : MT) : MT := fun ρ M Q X => t ρ M (fun k M1 => if k = true then Q true M1 else u ρ M1 Q X) X
def mNot (t : MT) : MT := fun ρ M Q X => t ρ M (fun k M1 => Q (!k) M1) X
theorem lfT_b {K : PySem.W.Frag} {σ : L2.St} {H : Hp} {Q : Bool → Hp → Prop} (h : lfT K W (mB ma) σ H Q) : tTest (lf K W ma) σ H Q := by
  obtain ⟨as, M, ρ, Q', X', r, rs, h, hq, hx⟩ := h
  refine lf_bind r rs h hx fun dx M1 as1 H1 x h1 e1 r1 rs1 rx => ?_
  cases rx with
  | bl k => exact ⟨k, rfl, hq k M1 h1 as1 H1 e1 r1⟩
  | _ => exact h1.elim
theorem qt_cmp {op : CmpOp} {r : R2} {o : OP} (ho : OpR X (compareOp op) r) (hs : SimO X.K r o) (ha : QE X W a ma) (hb : QE X W b mb) (hm : behindInMarks op b = false) : QT X W (.Compare a [op] [b] pos) (mB (mOp o ma mb)) :=
  PTi (pt_cmpR ho ha hb hm) fun σ H Q h => by
    have h2 := lfT_b h
    exact lf_op hs σ H _ h2
theorem qw_or1 (ha : QT X W a ta) : QW X W (.BoolOp .Or [a] pos) ta := pw_or1 ha
theorem qw_or (ha : QT X W a ta) (hb : QW X W (.BoolOp .Or (b :: rest) pos) tb) : QW X W (.BoolOp .Or (a :: b :: rest) pos) (mOr ta tb) := PWi (pw_or ha hb) fun σ H Q ⟨as, M, ρ, Q', X', r, rs, h, hq, hx⟩ => by
  refine lfT_bind r rs h hx fun k M1 as1 H1 h1 e1 r1 rs1 => ?_
  cases k with
  | true => exact hq true M1 h1 as1 H1 e1 r1
  | false => exact ⟨as1, M1, ρ, Q', X', r1, rs1, h1, fun d M' q => (hq d M' q).mono e1, fun x M' q => (hx x M' q).mono e1⟩
theorem qt_not (ha : QT X W a ta) : QT X W (.UnaryOp .Not a pos) (mNot ta) := PTi (pt_not ha) fun σ H Q ⟨as, M, ρ, Q', X', r, rs, h, hq, hx⟩ =>
  lfT_bind r rs h hx fun k M1 as1 H1 h1 e1 r1 _ => hq (!k) M1 h1 as1 H1 e1 r1
/-- a value's truth -/
def tru (x : D) (M : Mem) (Q : Bool → Mem → Prop) : Prop := match x with
  | .non => Q false M
  | .bl b => Q b M
  | .int i => Q (i != 0) M
  | .str y => y.length ≤ 16000000 ∧ Q ((y.length : Int) != 0) M
  | .tup ds => Q (!ds.isEmpty) M
  | .ref n => match M[n]? with
    | some (.lst ds) => Q (!ds.isEmpty) M
    | some (.dct false kvs) => Q (!kvs.isEmpty) M
    | _ => False
  | _ => False
def mTru (ma : ME) : MT := fun ρ M Q X => ma ρ M (fun x M1 => tru x M1 Q) X
theorem RelL.isEmpty {K : PySem.W.Frag} {as : List Addr} {H : Hp} {ds : List D} {vs : List V} (h : RelL K as H ds vs) : ds.isEmpty = vs.isEmpty := by cases h <;> rfl
theorem KVR.isEmpty {K : PySem.W.Frag} {as : List Addr} {H : Hp} {κ : Type} {ds : List (κ × D)} {vs : List (κ × V)} (h : KVR K as H ds vs) : ds.isEmpty = vs.isEmpty := by cases h <;> rfl
theorem tru_ok {K : PySem.W.Frag} {as : List Addr} {H : Hp} {M : Mem} {d : D} {x : V} {k : Bool → Mem → Prop} {Q : Bool → Hp → Prop} (rp : RepM K as H M) (rx : Rel K as H d x) (h : tru d M k) (hk : ∀ b M', k b M' → LT K as H Q b M') : ∃ b, TruV K x H b ∧ Q b H := by
  cases rx with
  | non => exact ⟨false, rfl, hk _ _ h as H .refl rp⟩
  | bl b => exact ⟨b, rfl, hk _ _ h as H .refl rp⟩
  | int i => exact ⟨_, rfl, hk _ _ h as H .refl rp⟩
  | str y => exact ⟨_, ⟨Nat.le_trans h.1 (by decide), rfl⟩, hk _ _ h.2 as H .refl rp⟩
  | tup hs hl => exact ⟨_, .inr (.inl ⟨_, hs.1, rfl⟩), by rw [← hl.isEmpty]; exact hk _ _ h as H .refl rp⟩
  | ref hn =>
    rename_i n a
    dsimp only [tru] at h
    split at h
    · rename_i ds e
      obtain ⟨a', ha, xs, h1, h2⟩ := rp.at_ e
      rw [hn] at ha; cases ha
      exact ⟨_, .inl ⟨xs, SqL.of h1, rfl⟩, by rw [← h2.isEmpty]; exact hk _ _ h as H .refl rp⟩
    · rename_i kvs e
      obtain ⟨a', ha, ks, h1, h2⟩ := rp.at_ e
      rw [hn] at ha; cases ha
      exact ⟨_, .inr (.inr ⟨ks, h2, rfl⟩), by rw [← h1.isEmpty]; exact hk _ _ h as H .refl rp⟩
    · exact h.elim
  | _ => exact h.elim
theorem qt_tru (ha : QE X W a ma) (he : ∀ whole, isTrue a X.env whole = (do let v ← whole; standAt a.pos; holding [v] (truthy v))) : QT X W a (mTru ma) := PTi (pt_truth ha he) fun σ H Q ⟨as, M, ρ, Q', X', r, rs, h, hq, hx⟩ => by
  refine lf_bind r rs h hx fun dx M1 as1 H1 x h1 e1 r1 rs1 rx => ?_
  exact tru_ok r1 rx h1 fun b M' q => (hq b M' q).mono e1
def mAndV (ma mb : ME) : ME := fun ρ M Q X => ma ρ M (fun x M1 => match x with | .bl k => if k = true then mb ρ M1 Q X else Q (.bl false) M1 | _ => False) X
def mOrV (ma mb : ME) : ME := fun ρ M Q X => ma ρ M (fun x M1 => match x with | .bl k => if k = true then Q (.bl true) M1 else mb ρ M1 Q X | _ => False) X
def mNotV (ma : ME) : ME := fun ρ M Q X => ma ρ M (fun x M1 => match x with | .bl k => Q (.bl (!k)) M1 | _ => False) X
def mIf (t : MT) (ma mb : ME) : ME := fun ρ M Q X => t ρ M (fun k M1 => if k = true then ma ρ M1 Q X else mb ρ M1 Q X) X
theorem qe_one {op : BoolOp} (ha : QE X W a ma) : QE X W (.BoolOp op [a] pos) ma := pe_one ha
theorem qe_and (ha : QE X W a ma) (hb : QE X W (.BoolOp .And (b :: rest) pos) mb) : QE X W (.BoolOp .And (a :: b :: rest) pos) (mAndV ma mb) := PEi (pe_and ha hb) fun σ H Q ⟨as, M, ρ, Q', X', r, rs, h, hq, hx⟩ => by
  refine lf_bind r rs h hx fun dx M1 as1 H1 x h1 e1 r1 rs1 rx => ?_
  cases rx with
  | bl k =>
    refine ⟨k, rfl, ?_⟩
    cases k with
    | true => exact ⟨as1, M1, ρ, Q', X', r1, rs1, h1, fun d M' q => (hq d M' q).mono e1, fun x M' q => (hx x M' q).mono e1⟩
    | false => exact hq _ M1 h1 as1 H1 _ e1 r1 (.bl false)
  | _ => exact h1.elim
theorem qe_not (ha : QE X W a ma) : QE X W (.UnaryOp .Not a pos) (mNotV ma) := PEi (pe_not ha) fun σ H Q ⟨as, M, ρ, Q', X', r, rs, h, hq, hx⟩ => by
  refine lf_bind r rs h hx fun dx M1 as1 H1 x h1 e1 r1 rs1 rx => ?_
  cases rx with
  | bl k => exact ⟨k, rfl, hq _ M1 h1 as1 H1 _ e1 r1 (.bl (!k))⟩
  | _ => exact h1.elim
theorem qe_ifExp (hc : QT X W c tc) (ha : QE X W a ma) (hb : QE X W b mb) : QE X W (.IfExp c a b pos) (mIf tc ma mb) := PEi (pe_ifExp hc ha hb) fun σ H Q ⟨as, M, ρ, Q', X', r, rs, h, hq, hx⟩ => by
  refine lfT_bind r rs h hx fun k M1 as1 H1 h1 e1 r1 rs1 => ?_
  cases k with
  | true => exact ⟨as1, M1, ρ, Q', X', r1, rs1, h1, fun d M' q => (hq d M' q).mono e1, fun x M' q => (hx x M' q).mono e1⟩
  | false => exact ⟨as1, M1, ρ, Q', X', r1, rs1, h1, fun d M' q => (hq d M' q).mono e1, fun x M' q => (hx x M' q).mono e1⟩
end
end MV
namespace MV
open PySem PySem.Spec PyProof.Rows L2
/-- from c on, the contexts are those at the addresses l, the last one's is None -/
def Lks (G : Heap) : List Addr → Value → Prop
  | [], c => c = .none
  | x :: l, c => c = .ref x ∧ ∃ o vs c', G.get? x = some o ∧ o.data = .fields vs ∧ vs[2]? = some c' ∧ Lks G l c'
theorem Lks.up {G G' : Heap} : ∀ {l : List Addr} {c : Value}, (∀ x ∈ l, ∀ o, G.get? x = some o → G'.get? x = some o) → Lks G l c → Lks G' l c
  | [], _, _, h => h
  | x :: l, _, k, ⟨e, o, vs, c', h1, h2, h3, r⟩ => ⟨e, o, vs, c', k x (by simp) o h1, h2, h3, Lks.up (fun y hy => k y (by simp [hy])) r⟩
theorem Lks.at_ {G : Heap} : ∀ {l : List Addr} {c : Value}, Lks G l c → ∀ x ∈ l, ∃ o vs, G.get? x = some o ∧ o.data = .fields vs
  | [], _, _, _, hx => by cases hx
  | y :: l, _, ⟨_, o, vs, _, h1, h2, _, r⟩, x, hx => by
    rcases List.mem_cons.mp hx with rfl | hx
    · exact ⟨o, vs, h1, h2⟩
    · exact r.at_ x hx
/-- the object's context leads to None within B; none of its links is tracked -/
def CtxL (B : Heap) (H : Hp) (o : Obj) : Prop := ∀ vs : Array Value, o.data = .fields vs → ∃ c l, vs[2]? = some c ∧ Lks B l c ∧ ∀ x ∈ l, H x = none
theorem CtxL.none {B : Heap} {H : Hp} {o : Obj} {vs : Array Value} (hd : o.data = .fields vs) (h : vs[2]? = some .none) : CtxL B H o := fun vs' e => by
  rw [hd] at e; cases e
  exact ⟨.none, [], h, rfl, fun _ z => by cases z⟩
def Zk (B : Heap) (H : Hp) (cls : Value) (d : Option Addr) : Obj → Prop := fun o => o.cls = cls ∧ o.dict = d ∧ CtxL B H o
theorem Zk.steady {B : Heap} {H : Hp} {cls : Value} {d : Option Addr} : PXN.Steady1 (Zk B H cls d) := fun o v ⟨h1, h2, h3⟩ => by
  refine ⟨PXN.steady_cls o v h1, PXN.steady_dict o v h2, fun vs e => ?_⟩
  obtain ⟨oc, od, dt, sl⟩ := o
  cases dt with
  | fields v0 =>
    have e2 : v0.setIfInBounds 1 v = vs := Data.fields.inj e
    subst e2
    obtain ⟨c, l, g1, g2⟩ := h3 v0 rfl
    exact ⟨c, l, by rw [Array.getElem?_setIfInBounds_ne (by decide)]; exact g1, g2⟩
  | _ => cases e
theorem Zk.zc {B : Heap} {H : Hp} {cls : Value} {d : Option Addr} {o : Obj} (h : Zk B H cls d o) : Zc cls d o := ⟨h.1, h.2.1⟩
/-- an exception in the air of X -/
structure AirAt (X : Cx) (W : WX) (s' : Shared) (a : Addr) (B : Heap) (sI : Shared) (pins : List (Addr × Obj)) (σ : L2.St) (H : Hp) (cls : Value) (d : Option Addr) : Prop where
  inv : Inv X pins σ H sI
  low : ∀ b o, sI.heap.get? b = some o → b ∉ frs X.stack → B.get? b = some o
  up : sI.heap.UpToSlots s'.heap
  sky : Sky B X.stack a (Zk B H cls d) X.env.locals s'.heap
  na : H a = none
  os : s'.os = sI.os
  ag : AllBare s'.gens
  w : W cls d σ H
def XE (X : Cx) (W : WX) (u : Value) (s' : Shared) : Prop := ∃ a B sI pins σ H cls d, u = .ref a ∧ AirAt X W s' a B sI pins σ H cls d
def Takes (X : Cx) (W : WX) : Prop := ∀ u s', XE X W u s' → X.xe u s'
/-- behind a call that let one out -/
structure OutAt (P : Program) (w : World) (outer : List Env) (H : Hp) (s : Shared) (E : XK) (s' : Shared) (a : Addr) (B : Heap) (H' : Hp) (cls : Value) (d : Option Addr) : Prop where
  fl : HandSPX.FlyingZ B outer a (Zk B H' cls d) s'.heap
  hok : HOk P w H' B
  ub : UB (frs outer) H H' s.heap B s'.heap
  na : H' a = none
  os : s'.os = s.os
  ag : AllBare s'.gens
  e : E cls d H'
def CX (P : Program) (w : World) : CXT := fun outer H s E u s' => ∃ a B H' cls d, u = .ref a ∧ OutAt P w outer H s E s' a B H' cls d
section
variable {X : Cx} {pins : List (Addr × Obj)} {σ : L2.St} {H : Hp} {sI s s' : Shared} {B : Heap} {W : WX} {E : XK}
theorem XE.of_call (I : Inv X pins σ H s) (hW : ∀ cls d H', E cls d H' → W cls d σ H') {u : Value} (c : CX X.prog X.w X.stack H s E u s') : XE X W u s' := by
  obtain ⟨a, B, H', cls, d, rfl, c⟩ := c
  obtain ⟨G, gy, gn⟩ := restrict s'.heap fun b => (B.get? b).isSome || decide (b ∈ frs X.stack)
  have inB : ∀ b o, B.get? b = some o → G.get? b = some o := fun b o z => (gy b (by simp [z])).trans (c.fl.1 b o z)
  have inF : ∀ b, b ∈ frs X.stack → G.get? b = s'.heap.get? b := fun b z => gy b (by simp [z])
  have out : ∀ b o, G.get? b = some o → s'.heap.get? b = some o ∧ (b ∉ frs X.stack → B.get? b = some o) := fun b o z => by
    by_cases hF : b ∈ frs X.stack
    · exact ⟨(inF b hF).symm.trans z, fun n => absurd hF n⟩
    · cases q : B.get? b with
      | none =>
        have := gn b (by simp [q, hF])
        rw [this] at z; cases z
      | some o' =>
        have := inB b o' q
        rw [this] at z; cases z
        exact ⟨c.fl.1 b _ q, fun _ => rfl⟩
  refine ⟨a, B, { s with heap := G, gens := s'.gens, drawn := s'.drawn, toks := s'.toks }, pins, σ, H', cls, d, rfl, ?_, fun b o z n => (out b o z).2 n, Heap.UpToSlots.of_keeps fun b o z => (out b o z).1, .inr (.inl c.fl), c.na, c.os, c.ag, hW _ _ _ c.e⟩
  have U : Un (frs X.stack) [] H H' s.heap G := {
    keep := fun b o z n hb _ => inB b o (c.ub.keep b o z n hb)
    slot := fun b o z n hb _ => by
      obtain ⟨sl, q⟩ := c.ub.slot b o z hb
      exact ⟨sl, (inF b hb).trans q⟩
    free := fun b o z n _ => c.ub.free b o z n
    there := fun b o z _ => by
      by_cases hF : b ∈ frs X.stack
      · obtain ⟨sl, q⟩ := c.ub.slot b o z hF
        exact ⟨_, (inF b hF).trans q⟩
      · obtain ⟨o', q⟩ := c.ub.there b o z hF
        exact ⟨o', inB b o' q⟩
    tups := c.ub.tups
    frzs := c.ub.frzs
    tbls := c.ub.tbls }
  exact I.call (ch := []) U (c.hok.kept inB) c.ag (fun _ z => by cases z)
/-- a new one -/
theorem XE.new {a : Addr} {oe : Obj} {vs : Array Value} {cls : Value} {d : Option Addr} {l : List Addr} {c : Value} (I : Inv X pins σ H sI) (k : ∀ b o, sI.heap.get? b = some o → s'.heap.get? b = some o) (hne : sI.heap.get? a = none) (he : s'.heap.get? a = some oe)
    (hc : oe.cls = cls) (hdd : oe.dict = d) (hd : oe.data = .fields vs) (h1 : vs[1]? = some .none) (h2 : vs[2]? = some c) (hl : Lks sI.heap l c) (hF : ∀ x ∈ l, x ∉ frs X.stack) (hH : ∀ x ∈ l, H x = none)
    (na : H a = none) (os : s'.os = sI.os) (ag : AllBare s'.gens) (w : W cls d σ H) : XE X W (.ref a) s' := by
  have hB : (PySem.W.hideAll sI.heap (frs X.stack)).get? a = none := by
    cases q : (PySem.W.hideAll sI.heap (frs X.stack)).get? a with
    | none => rfl
    | some o =>
      have z := PySem.W.of_hideAll _ q
      rw [hne] at z; cases z
  have hz : Zk (PySem.W.hideAll sI.heap (frs X.stack)) H cls d oe := ⟨hc, hdd, fun vs' e => by
    rw [hd] at e; cases e
    exact ⟨c, l, h2, hl.up fun x hx o z => PySem.W.hideAll_get _ z (hF x hx), hH⟩⟩
  refine ⟨a, PySem.W.hideAll sI.heap (frs X.stack), sI, pins, σ, H, cls, d, rfl, I, fun b o e hb => PySem.W.hideAll_get _ e hb, Heap.UpToSlots.of_keeps k, .inl ⟨fun b o e => k b o (PySem.W.of_hideAll _ e), hB, ?_, oe, vs, he, hz, hd, h1⟩, na, os, ag, w⟩
  exact Heap.FunFrames.of_keeps (fun b o e _ => ⟨o, k b o e, rfl⟩) (funFrames_none I.stack fun b hb => PySem.W.hideAll_none _ hb)
/-- it leaves the def -/
theorem XE.leave (hs : X.stack = X.env :: X.outer) (hf : X.env.frame = some X.env.locals) (hex : X.ex = []) {E₁ : Value → Shared → Prop} (hW : ∀ cls d σ H, W cls d σ H → E cls d H) {u : Value} (x : XE X W u s') :
    wpAny (model X.prog X.w) X.A (leaving X.env u) (fun _ s'' => CX X.prog X.w X.outer X.H_0 X.s_0 E u s'') E₁ s' := by
  obtain ⟨a, B, sI, pins, σ, H, cls, d, rfl, x⟩ := x
  have I := x.inv
  have hfr : X.A.frames = some (X.env :: X.outer) := by rw [I.ok.frames, hs]
  have off : ∀ b o, X.s_0.heap.get? b = some o → b ∉ X.fs → b ∉ frs X.stack := fun b o e hb hm => by
    rcases List.mem_cons.mp (I.stkSub b hm) with z | z
    · have h1 := Heap.lt_size e
      have h2 := I.ok.above
      rw [z] at h1
      exact Nat.not_lt.mpr h2 h1
    · exact hb z
  have noex : ∀ b, b ∉ X.ex := fun b hb => by rw [hex] at hb; cases hb
  have fin : ∀ h', HandSPX.FlyingZ B X.outer a (Zk B H cls d) h' → s'.heap.UpToSlots h' → CX X.prog X.w X.outer X.H_0 X.s_0 E (.ref a) { s' with heap := h' } := fun h' fl up' => by
    refine ⟨a, B, H, cls, d, rfl, fl, I.inGround x.low, ?_, x.na, x.os.trans I.os, x.ag, hW _ _ _ _ x.w⟩
    exact {
      keep := fun b o e n hb => x.low b o (I.base.keep b o e n hb (noex b)) (off b o e hb)
      slot := fun b o e hb => by
        obtain ⟨_, o₀, e₀, hnf⟩ := I.ok.funs.mem hb
        rw [e] at e₀; cases e₀
        obtain ⟨sl, e1⟩ := I.base.slot b o e (I.ok.frf b hb) hb (noex b)
        obtain ⟨sl2, e2⟩ := x.up b _ e1 hnf
        obtain ⟨sl3, e3⟩ := up' b _ e2 hnf
        exact ⟨sl3, e3⟩
      free := fun b o e n => I.base.free b o e n (noex b)
      there := fun b o e hb => by
        obtain ⟨o', e1⟩ := I.base.there b o e (noex b)
        exact ⟨o', x.low b o' e1 (off b o e hb)⟩
      tups := I.base.tups
      frzs := I.base.frzs
      tbls := I.base.tbls }
  have sky := x.sky
  rw [hs] at sky
  rcases sky with ⟨hB, hn, hl, oe, vs, he, hz, hd, h1⟩ | fl | hd
  · exact PXN.leaving_firstZ Zk.steady hfr hl hf he hB hn hd h1 hz fin
  · exact PXN.leaves_onZ Zk.steady hfr hf fl fin
  · exact HandSPX.leaves_heldZ hf hd fin
theorem takes_of (hs : X.stack = X.env :: X.outer) (hf : X.env.frame = some X.env.locals) (hex : X.ex = []) {E₁ : Value → Shared → Prop}
    (hx : X.xe = fun e s' => wpAny (model X.prog X.w) X.A (leaving X.env e) (fun _ s'' => CX X.prog X.w X.outer X.H_0 X.s_0 E e s'') E₁ s') : Takes X (fun cls d _ H => E cls d H) := fun u s' x => by
  rw [hx]
  exact XE.leave (W := fun cls d _ H => E cls d H) (E := E) hs hf hex (fun _ _ _ _ h => h) x
theorem passAt (tk : Takes X W) (σ : L2.St) : PassesAt (CX X.prog X.w) X σ (WE W σ) := fun _ _ _ e s' I c => tk e s' (XE.of_call I (fun _ _ _ h => h) c)
end
/-- what stands at a behind raise .. from .. -/
structure RaisedAt (h h' : Heap) (a x1 : Addr) (cls : Value) (d : Option Addr) : Prop where
  keep : ∀ b, b ≠ a → h'.get? b = h.get? b
  obj : ∃ o vs, h'.get? a = some o ∧ o.cls = cls ∧ o.dict = d ∧ o.data = .fields vs ∧ vs[1]? = some .none ∧ vs[2]? = some (.ref x1)
def freshX (cls : Value) (d : Option Addr) (t0 : Addr) : Obj := { cls := cls, dict := d, data := .fields #[.ref t0, .none, .none, .none, .bool false, .none] }
end MV
namespace MV
open PySem PySem.Spec PyProof.Rows L2
abbrev RoomU := L2H.RoomH
theorem roomU_make {k : Nat} {A : Around} (r : RoomU (k + 1) A) (C : Addr) (us : List Value) (kw : List (Str × Value)) : RoomU k (A.under (.builtin "type.__call__" ⟨.ref C :: us, kw⟩)) :=
  ⟨by have := r.dp; rw [make_depth]; omega, by have := r.un; rw [make_units]; omega⟩
structure FnU (P : Program) (w : World) (K : PySem.W.Frag) (mg : Str → Option Value) (base : Heap) (k : Nat) (f : Addr) (fd : FuncData) (ps : List Str) (sp : Sp) : Prop where
  len : ∀ vs H Q E, sp vs H Q E → vs.length = ps.length
  run : ∀ (A : Around) (outer : List Env) (s : Shared) (H : Hp) (args : Args) (us : List Value) (vs : List V) (Q : VK) (E : XK), RoomU k A → Env0 P w K mg base A outer s H → BindsTo s fd args (ps.zip us) → Vals vs us → sp vs H Q E →
    codeAny (model P w) A (.call (.ref f) args) (CR CX0 outer P w H s Q E) s
section
variable {P : Program} {w : World} {K : PySem.W.Frag} {mg : Str → Option Value} {base : Heap} {k : Nat} {f : Addr} {fd : FuncData} {ps : List Str} {sp : Sp}
theorem FnU.ok (F : FnU P w K mg base k f fd ps sp) : FnOk P w K mg base CX0 k f fd ps sp := ⟨F.len, fun A outer s H args us vs Q E hr => F.run A outer s H args us vs Q E (L2H.roomH_of hr)⟩
def cxU (P : Program) (w : World) (K : PySem.W.Frag) (mg : Str → Option Value) (base : Heap) (N : List Str) (qual : Str) (scope : Scope) (f : Addr) (cd : Value) (A : Around) (outer : List Env) (s : Shared) (H : Hp) (E : XK) : Cx :=
  { cxOf CX0 P w K mg base N qual scope f cd A outer s H E with calm := false }
theorem inv_startU {N : List Str} {qual : Str} {scope : Scope} {cd : Value} {A : Around} {outer : List Env} {s s1 : Shared} {H : Hp} {E : XK} {us : List Value} {vs : List V}
    (S : FnScope N ps scope) (e0 : Env0 P w K mg base A outer s H) (hl : vs.length = ps.length) (r : Vals vs us)
    (x : InCallC s s.heap.objs.size (bindL (envOfC qual scope s.heap.objs.size f cd).kindOf (ps.zip us) fun _ => none) (cellsFrom (s.heap.objs.size + 1) scope.names []) (bindC (envOfC qual scope s.heap.objs.size f cd).kindOf (ps.zip us) fun _ => none) s1) :
    Inv (cxU P w K mg base N qual scope f cd A outer s H E) [] (start N vs) H s1 := by
  have I := inv_start (CX := CX0) (A := { A with handled := none }) (E := E) S rfl ⟨e0.frames, e0.mod, e0.bs, e0.bsz, e0.funs, e0.frf, e0.hok, e0.bare⟩ hl r x
  have ok : (cxU P w K mg base N qual scope f cd A outer s H E).Ok := ⟨I.ok.mod, I.ok.kind, I.ok.glob, I.ok.blt, I.ok.above, I.ok.inj, I.ok.has, I.ok.cab, (fun z => Bool.noConfusion (show false = true from z)), Around.frames_deeper e0.frames, I.ok.stk, I.ok.exf, I.ok.bs, I.ok.bsz, I.ok.noex, I.ok.exfs, I.ok.funs, I.ok.frf⟩
  exact ⟨ok, I.os, I.bare, I.base, I.loc, I.cell, I.free, I.freeC, I.pin, I.hok, I.len⟩
theorem _root_.L2.FunD.okU {x qual : Str} {params : Arguments} {body : List Stmt} {scope : Scope} {dvs : List V} {kws : List (Str × V)} {N : List Str} (F : FunD K x qual params body scope dvs kws f fd) (S : FnScope N ps scope) (len : ∀ vs H Q E, sp vs H Q E → vs.length = ps.length)
    (hbody : ∀ (cdv : Value) (A : Around) (outer : List Env) (s : Shared) (H : Hp) (vs : List V) (Q : VK) (E : XK), RoomU k (A.deeper (envOfC qual scope s.heap.objs.size f cdv)) → sp vs H Q E →
      ∃ t, PSs (cxU P w K mg base N qual scope f cdv A outer s H E) body t ∧ t { nx := fun _ H' => Q .non H', rt := Q } (start N vs) H) : FnU P w K mg base (k + 1) f fd ps sp := by
  obtain ⟨oc, od, dV, kV, doc, pm, an, cdv, ct, osl, rfl, lk, hcd, _, _⟩ := F.ex
  refine ⟨len, fun A outer s H args us vs Q E hr e0 hb r hsp => ?_⟩
  have KX : K.In s.heap := e0.mod.kin.keeps fun b o e => (e0.bs b o e).1
  have lim : s.heap.NoLimit := e0.mod.nolimit.keeps fun b o e => (e0.bs b o e).1
  have kinds : ∀ y ∈ ps.zip us, scope.names.lookup y.1 = some .local ∨ (scope.names.lookup y.1 = some .cell ∧ ((cellsFrom (s.heap.objs.size + 1) scope.names []).lookup y.1).isSome = true) := fun y hy => by
    rcases S.par y.1 (List.of_mem_zip (show (y.1, y.2) ∈ _ from hy)).1 with q | q
    · exact .inl q
    · exact .inr ⟨q, PySem.W.cellsFrom_some _ _ _ (.inl q)⟩
  refine codeAny_call_function hr.depth (KX _ _ lk) rfl S.co S.gen rfl (PySem.W.codeRec_of KX hcd) (hb _ _ _ _ ?_)
  refine wpAny_newFunctionEnv_cells S.kind kinds fun env he s1 x => ?_
  subst he
  refine ⟨lim.keeps x.toInCall.keep, codeAny_func ?_⟩
  obtain ⟨t, ht, hq⟩ := hbody cdv A outer s H vs Q E (hr.deeper _) hsp
  have I := inv_startU (E := E) S e0 (len _ _ _ _ hsp) r x
  refine wpAny_mono (ht.run [] s1 (start N vs) H _ I hq) (fun fl s' hs => ?_) fun e s' hs => hs
  have fin : ∀ {σ' : L2.St} {H' : Hp} {v : V} {u : Value}, Inv (cxU P w K mg base N qual scope f cdv A outer s H E) [] σ' H' s' → RelV v u → Q v H' → CE outer P w H s Q u s' :=
    fun {σ' H' v u} J rv q => ⟨v, H', J.os, J.bare, J.base, J.hok, rv, q⟩
  cases fl with
  | ret u => obtain ⟨v, σ', H', J, rv, q⟩ := hs; exact fin J rv q
  | next => obtain ⟨σ', H', J, q⟩ := hs; exact fin (v := V.non) (u := Value.none) J rfl q
  | brk => obtain ⟨_, _, _, q⟩ := hs; exact q.elim
  | cont => obtain ⟨_, _, _, q⟩ := hs; exact q.elim
end
/-- methods by class and name -/
structure FnMU (P : Program) (w : World) (K : PySem.W.Frag) (mg : Str → Option Value) (base : Heap) (k : Nat) (x m : Str) (ps : List Str) (sp : Sp) : Prop where
  ok : ∃ fd, FnU P w K mg base k (He.ma K (He.ga K x) m) fd ps sp ∧ Binds K fd ps []
section
variable {X : Cx} {k : Nat} {f : Addr} {fd : FuncData} {ps : List Str} {sp : Sp} {x : Str} {fs : List Str} {p p1 p2 pos : Pos} {e : Expr} {es : List Expr} {ta t : TA}
theorem run_fU {pins : List (Addr × Obj)} {σ : L2.St} {H : Hp} {s : Shared} {Q : VK} {us : List Value} {vs : List V} (F : FnU X.prog X.w X.K X.mg X.base k f fd ps sp) (hr : RoomU k X.A) (hb : Binds X.K fd ps [])
    (I : Inv X pins σ H s) (r : Vals vs us) (h : sp vs H Q E0) : wpAny (model X.prog X.w) X.A (call (.ref f) us) (EP X pins σ Q) X.xe s := by
  have hl : us.length = ps.length := by rw [← r.length]; exact F.len _ _ _ _ h
  have b := hb s us I.kIn (by rw [List.append_nil]; exact hl)
  rw [List.append_nil] at b
  refine wpAny_call (codeAny_mono (F.run X.A X.stack s H ⟨us, []⟩ us vs Q E0 hr I.env0 b r h) fun r s' hq => ?_)
  cases r with
  | error e => exact (show False from hq).elim
  | ok fl =>
    cases fl with
    | ret u => exact I.after hq
    | next => exact (show False from hq).elim
    | brk => exact (show False from hq).elim
    | cont => exact (show False from hq).elim
/-- C.__init__(self, ..) -/
theorem pe_initU {pl : Sem Bool} (c : DW.ExcX X.K X.mg x fs) (F : FnMU X.prog X.w X.K X.mg X.base k x "__init__" ps sp) (hr : RoomU k X.A) (hg : Gl X x) (ha : PA X (e :: es) t) (hdb : (x == ("__debug__" : Str)) = false := by decide)
    (hc : eval (.Call (.Attribute (.Name x p1) "__init__" p2) (e :: es) [] pos) X.env = (do
      let ov ← eval (.Name x p1) X.env
      standAt p2.atName
      let (f, first) ← holding [ov] (getMethod ov "__init__" pl)
      callWith pos f first (backTo pos (starEach (e :: es) X.env)) (backToKw pos (keywordEach [] X.env))) := by rfl)
    (he : starEach (e :: es) X.env = (false, eval e X.env) :: starEach es X.env := by rfl) (hpl : (backTo pos (starEach es X.env)).any (·.1) = false := by rfl) :
    PE X (.Call (.Attribute (.Name x p1) "__init__" p2) (e :: es) [] pos) (tCall sp [] E0 t) := by
  obtain ⟨fd, G, hb⟩ := F.ok
  refine ⟨fun pins s σ H Q I h => ?_⟩
  refine PySem.W.methodCall_KW (pl := pl) (ld_glob I hg c.g ?_ hdb) hc
  refine PySem.W.method_cls I.kIn c.cf.ga (PySem.W.cls_value I.kIn c.cf.rd c.cf.at_ rfl ?_)
  refine PySem.W.callWith_K (h₀ := X.base) I.ok.mod.kin c.cf.kp (thn (ha.run pos pins _ σ H _ (I.tok (s.toks + 1)) h) fun us s1 ⟨vs, H1, I1, r, q⟩ => ⟨I1.kIn, ?_⟩) he hpl
  have q : sp (vs ++ []) H1 Q E0 := q
  rw [List.append_nil] at q
  exact run_fU G hr hb I1 r q
end
def MkK (X : Cx) (pins : List (Addr × Obj)) (σ : L2.St) (Q : XK) (u : Value) (s' : Shared) : Prop :=
  ∃ a t0 sI H' cls d, u = .ref a ∧ Inv X pins σ H' sI ∧ (∀ b o, sI.heap.get? b = some o → s'.heap.get? b = some o) ∧ sI.heap.get? a = none ∧ s'.heap.get? a = some (freshX cls d t0) ∧ H' a = none ∧ s'.os = sI.os ∧ AllBare s'.gens ∧ Raises X cls ∧ Q cls d H'
def PMkK (X : Cx) (e : Expr) (t : L2.St → Hp → XK → Prop) : Prop :=
  ∀ (pins : List (Addr × Obj)) (s : Shared) (σ : L2.St) (H : Hp) (Q : XK), Inv X pins σ H s → t σ H Q → wpAny (model X.prog X.w) X.A (eval e X.env) (MkK X pins σ Q) X.xe s
section
variable {X : Cx} {k : Nat} {ps : List Str} {sp : Sp} {x : Str} {fs : List Str} {p pos : Pos} {e : Expr} {es : List Expr} {ta : TA}
theorem mk_core {pins : List (Addr × Obj)} {σ : L2.St} {H1 : Hp} {s1 : Shared} {Q : XK} {us : List Value} {vs : List V} (c : DW.ExcX X.K X.mg x fs) (F : FnMU X.prog X.w X.K X.mg X.base k x "__init__" ps sp) (hr : RoomU (k + 1) X.A) (I1 : Inv X pins σ H1 s1) (r1 : Vals vs us) (hz : vs.length ≤ 1000)
    (q1 : ∀ a, H1 a = none → sp (.ref a :: vs) (upd H1 a (exo a (He.ga X.K x) none)) (fun v H2 => v = .non ∧ ∃ (d : Addr) (fs : List (Str × V)), H2 a = some (exo a (He.ga X.K x) (some d)) ∧ H2 d = some (exd d fs) ∧ H1 d = none ∧ Q (.ref (He.ga X.K x)) (some d) (upd (del H2 a) d (.xd fs))) E0) :
    wpAny (model X.prog X.w) X.A (call (.ref (He.ga X.K x)) us) (MkK X pins σ Q) X.xe s1 := by
  obtain ⟨fd, G, hb⟩ := F.ok
  have T := c.oex
  obtain ⟨nm, q, N, bs, bm, sn, sub, ab, col, dd, k0, k1, k2, k3, k5, hC, hbm⟩ := T.cls
  generalize hCe : He.ga X.K x = C at *
  obtain ⟨hp, g, dr, tk, os⟩ := s1
  have up1 : hp.objs.size ≤ hp.objs.size + 1 := Nat.le_succ _
  have hq := q1 (hp.objs.size + 1) (I1.hok.fresh up1)
  have kk : ∀ b o, hp.get? b = some o → ((hp.push (PySem.W.kdv_tup us)).push (PySem.HandSPX.excO C hp.objs.size)).get? b = some o := fun b o z => Heap.get?_push_of_some _ (Heap.get?_push_of_some _ z)
  have hget : ((hp.push (PySem.W.kdv_tup us)).push (PySem.HandSPX.excO C hp.objs.size)).get? (hp.objs.size + 1) = some (PySem.HandSPX.excO C hp.objs.size) := by heap_get
  have I2 : Inv X pins σ (upd H1 (hp.objs.size + 1) (exo (hp.objs.size + 1) C none)) ⟨(hp.push (PySem.W.kdv_tup us)).push (PySem.HandSPX.excO C hp.objs.size), g, dr, tk, os⟩ := I1.laid kk up1 (exo_ok hget)
  have r2 : Vals (V.ref (hp.objs.size + 1) :: vs) (Value.ref (hp.objs.size + 1) :: us) := .cons rfl r1
  have hl : (Value.ref (hp.objs.size + 1) :: us).length = ps.length := by rw [← r2.length]; exact G.len _ _ _ _ hq
  have hus : us.length ≤ sizeLine := by rw [← Paired.length r1, sizeLine_eq]; omega
  have b2 := hb _ (Value.ref (hp.objs.size + 1) :: us) I2.kIn (by rw [List.append_nil]; exact hl)
  rw [List.append_nil] at b2
  have hi : PySem.W.findIn X.K (.ref C) "__init__" = some (some (.ref (He.ma X.K C "__init__"))) := by rw [← hCe]; exact c.init
  have ht : PySem.W.typeIn X.K (.ref (He.ma X.K C "__init__")) = some (.type "function") := by rw [← hCe]; exact c.tI
  refine wpAny_call (PySem.HandSPX.call_own PySem.F.excBase_ValueError (fun Y => PySem.HandSPX.refsVE_contains Y bm hbm) (I1.kIn _ _ hC) (PySem.W.looks_findIn I1.kIn hi) (fun self => PySem.W.bind_fn I1.kIn self ht) hus
    (codeAny_mono (G.run _ X.stack _ _ ⟨Value.ref (hp.objs.size + 1) :: us, []⟩ (Value.ref (hp.objs.size + 1) :: us) _ _ E0 (roomU_make hr C us []) (I2.env0.make C us []) b2 r2 hq) fun r s' hq' => ?_))
  cases r with
  | error er => exact (show False from hq').elim
  | ok fl =>
    cases fl with
    | ret u =>
      obtain ⟨v, H2, os2, bare2, un2, hok2, rv, ev, d, fl, ea, ed, hd1, q2⟩ := hq'
      subst ev
      obtain ⟨h2, g2, d2, t2, os'⟩ := s'
      obtain ⟨t0, G2, J, kG, ge, hoe, na⟩ := mk_end0 (d2 := d2) (t2 := t2) I1 up1 kk un2 hok2 os2 bare2 ea ed hd1
      exact ⟨rv, ⟨_, t0, ⟨G2, g2, d2, t2, os'⟩, _, .ref C, some d, rfl, J, kG, ge, hoe, na, rfl, bare2, raises_own T.exC T.tyC, q2⟩⟩
    | next => exact (show False from hq').elim
    | brk => exact (show False from hq').elim
    | cont => exact (show False from hq').elim
theorem pmk_xU0 (c : DW.ExcX X.K X.mg x fs) (F : FnMU X.prog X.w X.K X.mg X.base k x "__init__" ps sp) (hr : RoomU (k + 1) X.A) (hg : Gl X x) (hdb : (x == ("__debug__" : Str)) = false := by decide) : PMkK X (.Call (.Name x p) [] [] pos) (DW.tMkO0 (He.ga X.K x) sp) := by
  intro pins s σ H Q I h
  refine wpAny_Call_Name_kw (ld_glob I hg c.g ?_ hdb)
  refine PySem.W.callWith_K0 I.kIn c.oex.kC ?_
  exact mk_core c F hr I .nil (by simp) fun a n => h a n
end
end MV
namespace MV
open PySem PySem.Spec PyProof.Rows L2
/-- where nothing is handled -/
theorem ps_raiseK {X : Cx} {W : WX} {e : Expr} {t : L2.St → Hp → XK → Prop} {pos : Pos} (hc : X.calm = true) (tk : Takes X W) (he : PMkK X e t) : PS X (.Raise (some e) none pos) (fun _ σ H => t σ H fun cls d H' => W cls d σ H') := by
  refine ⟨fun pins s σ H D I h => ?_⟩
  show wpAny _ _ (do standAt pos; raiseStmt X.env (some (do let v ← eval e X.env; standAt pos; pure v)) none) _ _ _
  refine wpAny_bind (wpAny_standAt (raise_made (I.ok.hd hc) (wpAny_bind (wpAny_mono (he pins s σ H _ I h) (fun u s1 hu => wpAny_bind (wpAny_standAt (wpAny_pure ?_))) fun _ _ x => x))))
  obtain ⟨a, t0, sI, H', cls, d, rfl, J, k, hne, ha, na, os, ag, r, q⟩ := hu
  obtain ⟨r1, r2⟩ := r (model X.prog X.w) s1.heap (J.kIn.keeps k)
  exact ⟨a, freshX cls d t0, _, cls, rfl, ha, rfl, rfl, rfl, r1, r2, tk _ _ (XE.new (l := []) (c := .none) J k hne ha rfl rfl rfl rfl rfl rfl (fun _ z => by cases z) (fun _ z => by cases z) na os ag q)⟩
/-- the pins hold the exception that is handled and what its contexts lead to -/
def LksP (pn : List (Addr × Obj)) : List Addr → Value → Prop
  | [], c => c = .none
  | x :: l, c => c = .ref x ∧ ∃ o vs c', (x, o) ∈ pn ∧ o.data = .fields vs ∧ vs[2]? = some c' ∧ LksP pn l c'
theorem LksP.lks {pn : List (Addr × Obj)} {G : Heap} (k : ∀ p ∈ pn, G.get? p.1 = some p.2) : ∀ {l : List Addr} {c : Value}, LksP pn l c → Lks G l c
  | [], _, h => h
  | x :: l, _, ⟨e, o, vs, c', h1, h2, h3, r⟩ => ⟨e, o, vs, c', k (x, o) h1, h2, h3, LksP.lks k r⟩
theorem LksP.mem {pn : List (Addr × Obj)} : ∀ {l : List Addr} {c : Value}, LksP pn l c → ∀ x ∈ l, ∃ o, (x, o) ∈ pn
  | [], _, _, _, hx => by cases hx
  | y :: l, _, ⟨_, o, vs, _, h1, _, _, r⟩, x, hx => by
    rcases List.mem_cons.mp hx with rfl | hx
    · exact ⟨o, h1⟩
    · exact r.mem x hx
theorem LksP.more {pn pn' : List (Addr × Obj)} (k : ∀ p ∈ pn, p ∈ pn') : ∀ {l : List Addr} {c : Value}, LksP pn l c → LksP pn' l c
  | [], _, h => h
  | x :: l, _, ⟨e, o, vs, c', h1, h2, h3, r⟩ => ⟨e, o, vs, c', k _ h1, h2, h3, LksP.more k r⟩
/-- such pins out of a heap -/
theorem LksP.of {G : Heap} : ∀ {l : List Addr} {c : Value}, Lks G l c → ∃ pl : List (Addr × Obj), LksP pl l c ∧ ∀ p ∈ pl, p.1 ∈ l ∧ G.get? p.1 = some p.2 ∧ ∃ vs, p.2.data = .fields vs
  | [], _, h => ⟨[], h, fun _ z => by cases z⟩
  | x :: l, _, ⟨e, o, vs, c', h1, h2, h3, r⟩ => by
    obtain ⟨pl, g1, g2⟩ := LksP.of r
    refine ⟨(x, o) :: pl, ⟨e, o, vs, c', by simp, h2, h3, g1.more fun p hp => by simp [hp]⟩, fun p hp => ?_⟩
    rcases List.mem_cons.mp hp with rfl | hp
    · exact ⟨by simp, h1, vs, h2⟩
    · obtain ⟨q1, q2⟩ := g2 p hp
      exact ⟨by simp [q1], q2⟩
def HotK (X : Cx) : Prop := ∃ x1 l, X.A.handled = some (.ref x1) ∧ LksP X.pn (x1 :: l) (.ref x1)
end MV
namespace MV
open PySem PySem.Spec PyProof.Rows L2
/-- noted: on the stack l, its flight is fl -/
structure TrZ (B : Heap) (l : List Env) (a : Addr) (Z : Obj → Prop) (fl : Value) (h : Heap) : Prop where
  st : B.StaysIn h
  no : B.get? a = none
  ff : h.FunFrames B l
  tr : HandSPX.TracedZ h B a Z fl
theorem TrZ.held {B : Heap} {l : List Env} {a L : Addr} {Z : Obj → Prop} {h : Heap} (x : TrZ B l a Z (rawInt L) h) : HandSPX.HeldZ B l a Z L h := ⟨x.st, x.no, x.ff, x.tr⟩
theorem TrZ.of_fly {B : Heap} {l : List Env} {a : Addr} {Z : Obj → Prop} {h : Heap} (x : HandSPX.FlyingZ B l a Z h) : TrZ B l a Z .none h := ⟨x.1, x.2.1, x.2.2.1, x.2.2.2⟩
theorem TrZ.of_held {B : Heap} {l : List Env} {a L : Addr} {Z : Obj → Prop} {h : Heap} (x : HandSPX.HeldZ B l a Z L h) : TrZ B l a Z (rawInt L) h := ⟨x.1, x.2.1, x.2.2.1, x.2.2.2⟩
section
variable {X : Cx} {pins : List (Addr × Obj)} {W : WX}
theorem air_mid {a : Addr} {B : Heap} {sI s3 : Shared} {σ : L2.St} {H : Hp} {cls fl : Value} {d : Option Addr} (hs : X.stack = X.env :: X.outer) (hf : X.env.frame = some X.env.locals) (hex : X.ex = []) (J : Inv X pins σ H sI)
    (low : ∀ b o, sI.heap.get? b = some o → b ∉ frs X.stack → B.get? b = some o) (up : sI.heap.UpToSlots s3.heap) (t : TrZ B (X.env :: X.outer) a (Zk B H cls d) fl s3.heap) (na : H a = none) (os : s3.os = sI.os) (ag : AllBare s3.gens) :
    ∃ (oe : Obj) (vs : Array Value) (T : Addr) (oT : Obj) (cp : List (Addr × Obj)), Zc cls d oe ∧ oe.data = .fields vs ∧ (∃ l, LksP ((a, oe) :: cp) (a :: l) (.ref a)) ∧ Inv X pins σ H s3 ∧
      (∀ p ∈ (a, oe) :: (T, oT) :: cp, s3.heap.get? p.1 = some p.2 ∧ H p.1 = none ∧ p.1 ≠ X.env.locals ∧ p.1 ∉ X.fs ∧ ∀ v, p.2.data ≠ .cell v) ∧
      ∀ (σ6 : L2.St) (H6 : Hp) (s6 : Shared), Inv X pins σ6 H6 s6 → (∀ p ∈ (a, oe) :: (T, oT) :: cp, s6.heap.get? p.1 = some p.2 ∧ H6 p.1 = none) →
        ∃ B6 sI6, Inv X pins σ6 H6 sI6 ∧ (∀ b o, sI6.heap.get? b = some o → b ∉ frs X.stack → B6.get? b = some o) ∧ sI6.heap.UpToSlots s6.heap ∧ TrZ B6 (X.env :: X.outer) a (Zk B6 H6 cls d) fl s6.heap ∧ H6 a = none ∧ s6.os = sI6.os ∧ AllBare s6.gens := by
  have J3 : Inv X pins σ H s3 := J.landed low t.st up os ag
  obtain ⟨oe, vs, T, oT, ts, ea, hz, hd, hv1, hnT, hTe, hT, hdT, ht3⟩ := t.tr
  obtain ⟨c, l, hc, hl, hH⟩ := hz.2.2 vs hd
  obtain ⟨cp, hcp, pcp⟩ := LksP.of hl
  have nT : H T = none := (J.inGround low).gone hnT
  have notFr : ∀ (b : Addr) (o : Obj) (fv : Array Value), s3.heap.get? b = some o → o.data = .fields fv → b ∉ frs (X.env :: X.outer) := fun b o fv e dd hm => by
    obtain ⟨_, o', e', hnf⟩ := t.ff.mem hm
    rw [e] at e'; cases e'
    exact hnf _ dd
  have locF : X.env.locals ∈ frs (X.env :: X.outer) := List.mem_filterMap.mpr ⟨X.env, List.mem_cons_self, hf⟩
  have fsF : ∀ b, b ∈ X.fs → b ∈ frs (X.env :: X.outer) := fun b hm => by
    obtain ⟨e, he, q⟩ := List.mem_filterMap.mp hm
    exact List.mem_filterMap.mpr ⟨e, List.mem_cons_of_mem _ he, q⟩
  have all : ∀ p ∈ (a, oe) :: (T, oT) :: cp, s3.heap.get? p.1 = some p.2 ∧ H p.1 = none ∧ ∃ fv, p.2.data = .fields fv := fun p hp => by
    rcases List.mem_cons.mp hp with rfl | hp
    · exact ⟨ea, na, vs, hd⟩
    rcases List.mem_cons.mp hp with rfl | hp
    · exact ⟨hT, nT, ts, hdT⟩
    · obtain ⟨p1, p2, fv, p3⟩ := pcp p hp
      exact ⟨t.st _ _ p2, hH _ p1, fv, p3⟩
  refine ⟨oe, vs, T, oT, cp, hz.zc, hd, ⟨l, rfl, oe, vs, c, by simp, hd, hc, hcp.more fun p hp => by simp [hp]⟩, J3, fun p hp => ?_, fun σ6 H6 s6 J6 pin6 => ?_⟩
  · obtain ⟨p1, p2, fv, p3⟩ := all p hp
    have nf := notFr _ _ _ p1 p3
    exact ⟨p1, p2, fun z => nf (z ▸ locF), fun z => nf (fsF _ z), fun v z => by rw [p3] at z; cases z⟩
  · obtain ⟨ga, na6⟩ := pin6 (a, oe) (by simp)
    obtain ⟨gT, nT6⟩ := pin6 (T, oT) (by simp)
    have fa : a ∉ frs X.stack := by rw [hs]; exact notFr a oe vs ea hd
    have fT : T ∉ frs X.stack := by rw [hs]; exact notFr T oT ts hT hdT
    have far : ∀ b o, sI.heap.get? b = some o → b ≠ a ∧ b ≠ T := fun b o e => by
      by_cases hb : b ∈ frs X.stack
      · exact ⟨fun z => fa (z ▸ hb), fun z => fT (z ▸ hb)⟩
      · have q := low b o e hb
        exact ⟨(fun z => by rw [z, t.no] at q; cases q), (fun z => by rw [z, hnT] at q; cases q)⟩
    have far0 : ∀ b o, X.s_0.heap.get? b = some o → b ≠ a ∧ b ≠ T := fun b o e => by
      obtain ⟨o', q⟩ := J.base.there b o e (by rw [hex]; simp)
      exact far b o' q
    have farP : ∀ p ∈ X.pn ++ pins, p.1 ≠ a ∧ p.1 ≠ T := fun p hp => far p.1 p.2 (J.pin p hp).1
    obtain ⟨G, gy, gn⟩ := restrict s6.heap fun b => !(decide (b = a) || decide (b = T))
    have gIn : ∀ b o, G.get? b = some o → s6.heap.get? b = some o ∧ b ≠ a ∧ b ≠ T := fun b o e => by
      cases q : (!(decide (b = a) || decide (b = T))) with
      | false => rw [gn b q] at e; cases e
      | true =>
        rw [gy b q] at e
        simp only [Bool.not_eq_true', Bool.or_eq_false_iff, decide_eq_false_iff_not] at q
        exact ⟨e, q.1, q.2⟩
    have gOf : ∀ b o, b ≠ a → b ≠ T → s6.heap.get? b = some o → G.get? b = some o := fun b o h1 h2 e => by
      rw [gy b (by simp [h1, h2])]; exact e
    have I6 : Inv X pins σ6 H6 { s6 with heap := G } := J6.less (fun b o e => (gIn b o e).1) gOf ⟨oe, vs, ga, hd⟩ ⟨oT, ts, gT, hdT⟩ na6 nT6 far0 farP
    have B6in : ∀ b o, (PySem.W.hideAll G (frs X.stack)).get? b = some o → s6.heap.get? b = some o := fun b o e => (gIn b o (PySem.W.of_hideAll _ e)).1
    have Bno : ∀ b, (b = a ∨ b = T) → (PySem.W.hideAll G (frs X.stack)).get? b = none := fun b hb => by
      cases q : (PySem.W.hideAll G (frs X.stack)).get? b with
      | none => rfl
      | some o =>
        obtain ⟨_, n1, n2⟩ := gIn b o (PySem.W.of_hideAll _ q)
        rcases hb with z | z
        · exact absurd z n1
        · exact absurd z n2
    have inB : ∀ p ∈ cp, (PySem.W.hideAll G (frs X.stack)).get? p.1 = some p.2 := fun p hp => by
      obtain ⟨p1, p2, fv, p3⟩ := pcp p hp
      have n1 : p.1 ≠ a := fun z => by rw [z, t.no] at p2; cases p2
      have n2 : p.1 ≠ T := fun z => by rw [z, hnT] at p2; cases p2
      refine PySem.W.hideAll_get _ (gOf _ _ n1 n2 (pin6 p (by simp [hp])).1) ?_
      rw [hs]
      exact notFr _ _ _ (t.st _ _ p2) p3
    have hz6 : Zk (PySem.W.hideAll G (frs X.stack)) H6 cls d oe := ⟨hz.1, hz.2.1, fun vs' e => by
      rw [hd] at e; cases e
      refine ⟨c, l, hc, hcp.lks inB, fun x hx => ?_⟩
      obtain ⟨o, ho⟩ := hcp.mem x hx
      exact (pin6 (x, o) (by simp [ho])).2⟩
    refine ⟨PySem.W.hideAll G (frs X.stack), { s6 with heap := G }, I6, fun b o e hb => PySem.W.hideAll_get _ e hb, Heap.UpToSlots.of_keeps fun b o e => (gIn b o e).1, ⟨B6in, Bno a (.inl rfl), ?_, oe, vs, T, oT, ts, ga, hz6, hd, hv1, Bno T (.inr rfl), hTe, gT, hdT, ht3⟩, na6, rfl, J6.bare⟩
    have ff := funFrames_none (B := PySem.W.hideAll G (frs X.stack)) J6.stack fun b hb => PySem.W.hideAll_none _ hb
    rw [← hs]
    exact ff
/-- it is noted by its frame -/
theorem air_note {M : Model} {A' : Around} {a : Addr} {B : Heap} {sI s' : Shared} {σ : L2.St} {H : Hp} {cls : Value} {d : Option Addr} {Q : Unit → Shared → Prop} {E : Value → Shared → Prop} (hs : X.stack = X.env :: X.outer) (hf : X.env.frame = some X.env.locals) (hfr : A'.frames = some (X.env :: X.outer))
    (x : AirAt X W s' a B sI pins σ H cls d) (hQ : ∀ h1, HandSPX.HeldZ B (X.env :: X.outer) a (Zk B H cls d) X.env.locals h1 → s'.heap.UpToSlots h1 → Q () { s' with heap := h1 }) : wpAny M A' (noteFrame (.ref a) X.env) Q E s' := by
  have sky := x.sky
  rw [hs] at sky
  rcases sky with ⟨hB, hn, hl, oe, vs, he0, hz, hd, hv1⟩ | fl | hh
  · exact PXN.look_newZ Zk.steady hfr hl hf he0 hB hn hd hv1 hz hQ
  · exact PXN.looks_onZ Zk.steady hfr hf fl hQ
  · exact HandSPX.againZ hf hh.2.2.2 (hQ s'.heap hh (Heap.UpToSlots.refl _))
/-- it came back to its frame: on it goes -/
theorem air_back {a : Addr} {B : Heap} {s' : Shared} {H : Hp} {cls : Value} {d : Option Addr} {A' : Around} {E : Value → Shared → Prop} {Q : Unit → Shared → Prop} (hf : X.env.frame = some X.env.locals) (hh : HandSPX.HeldZ B (X.env :: X.outer) a (Zk B H cls d) X.env.locals s'.heap)
    (h : ∀ h1, HandSPX.HeldZ B (X.env :: X.outer) a (Zk B H cls d) X.env.locals h1 → s'.heap.UpToSlots h1 → Q () { s' with heap := h1 }) (what : String) :
    wpAny (model X.prog X.w) A' (do
      if (← field (.ref a) 1) == .none then unsupported what
      setFlight (.ref a) X.env.frame) Q E s' := by
  obtain ⟨oe, vs, T, oT, ts, ea, hz, hd, hv1, _⟩ := hh.2.2.2
  refine wpAny_bind (wpAny_field ea hd hv1 ?_)
  rw [if_neg (show ¬ ((Value.ref T == Value.none) = true) from by simp)]
  have go : wpAny (model X.prog X.w) A' (setFlight (.ref a) X.env.frame) Q E s' := by
    rw [hf]
    exact HandSPX.setFlight_onZ hh h
  first
  | exact wpAny_bind (wpAny_pure go)
  | exact go
end
end MV
namespace MV
open PySem PySem.Spec PyProof.Rows L2
section
variable {prog : Program} {w : World} {A : Around} {E : Value → Shared → Prop} {s : Shared}
end
section
variable {X : Cx} {es : List Expr} {k n : Nat} {t : TGs} {pos : Pos}
end
section
variable {prog : Program} {w : World} {A : Around} {E : Value → Shared → Prop}
end
section
variable {X : Cx} {es : List Expr} {k n : Nat} {t : TGs} {pos : Pos}
end
end MV
namespace MV
open PySem PySem.Spec PyProof.Rows L2
mutual
def deq : D → D → Bool
  | .non, .non => true
  | .bl a, .bl b => a == b
  | .bl a, .int j => (if a then 1 else 0) == j
  | .int i, .bl b => i == (if b then 1 else 0)
  | .int i, .int j => i == j
  | .str x, .str y => x == y
  | .tup xs, .tup ys => deqL xs ys
  | _, _ => false
def deqL : List D → List D → Bool
  | [], [] => true
  | x :: xs, y :: ys => deq x y && deqL xs ys
  | _, _ => false
end
def fine : Nat → D → Bool
  | _, .non => true
  | _, .bl _ => true
  | _, .int _ => true
  | _, .str x => PyData.strOk x
  | k + 1, .tup ds => ds.all (fine k)
  | _, _ => false
mutual
def toPy : D → PyData
  | .non => .none
  | .bl b => .bool b
  | .int i => .int i
  | .str x => .str x
  | .tup ds => .tuple (toPyL ds)
  | _ => .none
def toPyL : List D → List PyData
  | [] => []
  | d :: ds => toPy d :: toPyL ds
end
section
variable {K : PySem.W.Frag} {as : List Addr} {H : Hp}
theorem shaped_of {p : PyData} {k : Nat} (h : p.canLay0 = true) (hd : p.depth ≤ k) (hk : k ≤ 64) : SeqAt.shaped p = true := by
  simp only [SeqAt.shaped, Bool.and_eq_true, decide_eq_true_eq]
  exact ⟨h, Nat.le_trans hd hk⟩
end
theorem eqv_deq (k : Nat) : ∀ {d e : D}, fine k d = true → fine k e = true → PyData.eqv (toPy d) (toPy e) = deq d e := by
  induction k with
  | zero =>
    intro d e f g
    cases d <;> cases e <;> first | (simp [fine] at f; done) | (simp [fine] at g; done) | simp [toPy, PyData.eqv, deq]
  | succ k ih =>
    intro d e f g
    cases d <;> cases e <;> first | (simp [fine] at f; done) | (simp [fine] at g; done) | skip
    case tup.tup ds es =>
      simp only [toPy, PyData.eqv, deq]
      simp only [fine] at f g
      revert es
      induction ds with
      | nil => intro es g; cases es <;> simp [toPyL, PyData.eqvAll, deqL]
      | cons d ds ihd =>
        intro es g
        cases es with
        | nil => simp [toPyL, PyData.eqvAll, deqL]
        | cons e es =>
          simp only [List.all_cons, Bool.and_eq_true] at f g
          simp only [toPyL, PyData.eqvAll, deqL]
          rw [ih f.1 g.1, ihd f.2 es g.2]
    all_goals simp [toPy, PyData.eqv, deq]
def okMul (i j : Int) : Prop := CMul i j ∨ CMulW i j
def okDiv (j : Int) : Prop := j ≠ 0 ∧ j.natAbs.log2 < 9000
def oAdd : OP := fun x y M Q => match x, y with
  | .int i, .int j => Q (.int (i + j)) M
  | .str a, .str b => a.length + b.length ≤ 16000000 ∧ Q (.str (a ++ b)) M
  | .tup a, .tup b => a.length + b.length ≤ 16000000 ∧ Q (.tup (a ++ b)) M
  | .ref m, .ref n => match M[m]?, M[n]? with
    | some (.lst a), some (.lst b) => a.length + b.length ≤ 16000000 ∧ Q (.ref M.length) (M ++ [.lst (a ++ b)])
    | _, _ => False
  | _, _ => False
def oSub : OP := fun x y M Q => match x, y with | .int i, .int j => Q (.int (i - j)) M | _, _ => False
def oMul : OP := fun x y M Q => match x, y with | .int i, .int j => okMul i j ∧ Q (.int (i * j)) M | _, _ => False
def oDiv : OP := fun x y M Q => match x, y with | .int i, .int j => okDiv j ∧ Q (.int (i.fdiv j)) M | _, _ => False
def oMod : OP := fun x y M Q => match x, y with | .int i, .int j => j ≠ 0 ∧ Q (.int (i.fmod j)) M | _, _ => False
def oPow : OP := fun x y M Q => match x, y with | .int i, .int j => CPow i j ∧ Q (.int (i ^ j.toNat)) M | _, _ => False
def oNeg : OU := fun x M Q => match x with | .int i => Q (.int (-i)) M | _ => False
def oLt : OP := fun x y M Q => match x, y with | .int i, .int j => Q (.bl (decide (i < j))) M | _, _ => False
def oLe : OP := fun x y M Q => match x, y with | .int i, .int j => Q (.bl (decide (i ≤ j))) M | _, _ => False
def oGt : OP := fun x y M Q => match x, y with | .int i, .int j => Q (.bl (decide (j < i))) M | _, _ => False
def oGe : OP := fun x y M Q => match x, y with | .int i, .int j => Q (.bl (decide (j ≤ i))) M | _, _ => False
mutual
/-- d, with all that it holds, is the plain data p -/
inductive See (M : Mem) : Nat → D → PyData → Prop
  | non (k : Nat) : See M k .non .none
  | bl (k : Nat) (b : Bool) : See M k (.bl b) (.bool b)
  | int (k : Nat) (i : Int) : See M k (.int i) (.int i)
  | str (k : Nat) {x : Str} : PyData.strOk x = true → See M k (.str x) (.str x)
  | tup {k : Nat} {ds : List D} {ps : List PyData} : SeeL M k ds ps → See M (k + 1) (.tup ds) (.tuple ps)
  | lst {k n : Nat} {ds : List D} {ps : List PyData} : M[n]? = some (.lst ds) → SeeL M k ds ps → See M (k + 1) (.ref n) (.list ps)
inductive SeeL (M : Mem) : Nat → List D → List PyData → Prop
  | nil {k : Nat} : SeeL M k [] []
  | cons {k : Nat} {d : D} {ds : List D} {p : PyData} {ps : List PyData} : See M k d p → SeeL M k ds ps → SeeL M k (d :: ds) (p :: ps)
end
/-- x == y (of all that can be seen as plain data) -/
def oEqB (x y : D) (M : Mem) (k : Bool → Prop) : Prop := match x, y with
  | .str a, .str b => k (decide (a = b))
  | .int i, .int j => k (decide (i = j))
  | x, y => ∃ p q, See M 20 x p ∧ See M 20 y q ∧ k (PyData.eqv p q)
def oEq : OP := fun x y M Q => oEqB x y M fun b => Q (.bl b) M
def oNe : OP := fun x y M Q => oEqB x y M fun b => Q (.bl (!b)) M
def oIsN : OU := fun x M Q => Q (.bl (match x with | .non => true | _ => false)) M
def oNotN : OU := fun x M Q => Q (.bl (match x with | .non => false | _ => true)) M
section
variable {K : PySem.W.Frag}
theorem at_lst {as : List Addr} {H : Hp} {M : Mem} {n : Nat} {a : Addr} {ds : List D} (rp : RepM K as H M) (hn : as[n]? = some a) (e : M[n]? = some (.lst ds)) : ∃ xs, H a = some (.lst xs) ∧ RelL K as H ds xs := by
  obtain ⟨a', ha, xs, h1, h2⟩ := rp.at_ e
  rw [hn] at ha; cases ha
  exact ⟨xs, h1, h2⟩
theorem sim_i0 {f : Int → Int → Int} {o : OP} (ho : ∀ x y M Q, o x y M Q → ∃ i j, x = .int i ∧ y = .int j ∧ Q (.int (f i j)) M) : SimO K (rI0 fun i j => .int (f i j)) o := fun as H M dx dy x y k Q rp rx ry h hk => by
  obtain ⟨i, j, rfl, rfl, q⟩ := ho _ _ _ _ h
  cases rx; cases ry
  exact ⟨i, j, rfl, rfl, hk _ _ q as H _ .refl rp (.int _)⟩
theorem sim_b0 {f : Int → Int → Bool} {o : OP} (ho : ∀ x y M Q, o x y M Q → ∃ i j, x = .int i ∧ y = .int j ∧ Q (.bl (f i j)) M) : SimO K (rI0 fun i j => .bl (f i j)) o := fun as H M dx dy x y k Q rp rx ry h hk => by
  obtain ⟨i, j, rfl, rfl, q⟩ := ho _ _ _ _ h
  cases rx; cases ry
  exact ⟨i, j, rfl, rfl, hk _ _ q as H _ .refl rp (.bl _)⟩
theorem sim_i {C : Int → Int → Prop} {f : Int → Int → Int} {o : OP} (ho : ∀ x y M Q, o x y M Q → ∃ i j, x = .int i ∧ y = .int j ∧ C i j ∧ Q (.int (f i j)) M) : SimO K (rI C fun i j => .int (f i j)) o := fun as H M dx dy x y k Q rp rx ry h hk => by
  obtain ⟨i, j, rfl, rfl, c, q⟩ := ho _ _ _ _ h
  cases rx; cases ry
  exact ⟨i, j, rfl, rfl, c, hk _ _ q as H _ .refl rp (.int _)⟩
theorem sim_sub : SimO K (rI0 fun i j => .int (i - j)) oSub := sim_i0 fun x y M Q h => by
  cases x <;> cases y <;> first | exact h.elim | exact ⟨_, _, rfl, rfl, h⟩
theorem sim_mod : SimO K (rI (fun _ j => j ≠ 0) fun i j => .int (i.fmod j)) oMod := sim_i fun x y M Q h => by
  cases x <;> cases y <;> first | exact h.elim | exact ⟨_, _, rfl, rfl, h⟩
theorem sim_div : SimO K (rI DW.CDivX fun i j => .int (i.fdiv j)) oDiv := sim_i fun x y M Q h => by
  cases x <;> cases y <;> first | exact h.elim | exact ⟨_, _, rfl, rfl, h⟩
theorem sim_pow : SimO K (rI CPow fun i j => .int (i ^ j.toNat)) oPow := sim_i fun x y M Q h => by
  cases x <;> cases y <;> first | exact h.elim | exact ⟨_, _, rfl, rfl, h⟩
theorem sim_lt : SimO K (rI0 fun i j => .bl (decide (i < j))) oLt := sim_b0 fun x y M Q h => by
  cases x <;> cases y <;> first | exact h.elim | exact ⟨_, _, rfl, rfl, h⟩
theorem sim_gt : SimO K (rI0 fun i j => .bl (decide (j < i))) oGt := sim_b0 fun x y M Q h => by
  cases x <;> cases y <;> first | exact h.elim | exact ⟨_, _, rfl, rfl, h⟩
theorem sim_ge : SimO K (rI0 fun i j => .bl (decide (j ≤ i))) oGe := sim_b0 fun x y M Q h => by
  cases x <;> cases y <;> first | exact h.elim | exact ⟨_, _, rfl, rfl, h⟩
def rMulA : R2 := fun x y H Q => rI CMul (fun i j => .int (i * j)) x y H Q ∨ rI CMulW (fun i j => .int (i * j)) x y H Q
theorem op_mulA {X : Cx} : OpR X (binaryOp .Mult) rMulA := OpR.or op_mul op_mulW
theorem sim_mul : SimO K rMulA oMul := fun as H M dx dy x y k Q rp rx ry h hk => by
  cases dx <;> cases dy <;> first | exact h.elim | skip
  cases rx; cases ry
  rcases h.1 with c | c
  · exact .inl ⟨_, _, rfl, rfl, c, hk _ _ h.2 as H _ .refl rp (.int _)⟩
  · exact .inr ⟨_, _, rfl, rfl, c, hk _ _ h.2 as H _ .refl rp (.int _)⟩
theorem sim_neg : SimU K (rU fun i => .int (-i)) oNeg := fun as H M dx x k Q rp rx h hk => by
  cases dx <;> first | exact h.elim | skip
  cases rx
  exact ⟨_, rfl, hk _ _ h as H _ .refl rp (.int _)⟩
theorem sim_add : SimO K (DW.rPlus K) oAdd := fun as H M dx dy x y k Q rp rx ry h hk => by
  cases rx with
  | int i =>
    cases ry with
    | int j => exact .inl ⟨i, j, rfl, rfl, hk _ _ h as H _ .refl rp (.int _)⟩
    | _ => exact h.elim
  | str a =>
    cases ry with
    | str b => exact .inr (.inl ⟨a, b, rfl, rfl, Nat.le_trans h.1 (by decide), hk _ _ h.2 as H _ .refl rp (.str _)⟩)
    | _ => exact h.elim
  | tup hs hl =>
    cases ry with
    | tup hs2 hl2 =>
      refine .inr (.inr (.inl ⟨_, _, _, _, rfl, rfl, hs.1, hs2.1, ?_, fun z => ?_, fun _ z => ?_, fun _ _ p hp => ?_⟩))
      · rw [← hl.len, ← hl2.len]; exact Nat.le_trans h.1 (by decide)
      · subst z
        cases hl
        exact hk _ _ h.2 as H _ .refl rp (.tup hs2 hl2)
      · subst z
        cases hl2
        exact hk _ _ h.2 as H _ .refl rp (by rw [List.append_nil]; exact .tup hs hl)
      · exact new_tup rp (hl.app hl2) hp h.2 hk
    | _ => exact h.elim
  | ref hn =>
    cases ry with
    | ref hm =>
      dsimp only [oAdd] at h
      split at h
      · rename_i a b e1 e2
        obtain ⟨xs, h1, h2⟩ := at_lst rp hn e1
        obtain ⟨ys, h3, h4⟩ := at_lst rp hm e2
        refine .inr (.inr (.inr ⟨_, _, xs, ys, rfl, rfl, h1, h3, ?_, fun p hp => new_lst rp (h2.app h4) hp h.2 hk⟩))
        rw [← h2.len, ← h4.len]; exact Nat.le_trans h.1 (by decide)
      · exact h.elim
    | _ => exact h.elim
  | _ => cases ry <;> exact h.elim
end
end MV
namespace MV
open PySem PySem.Spec PyProof.Rows L2
section
variable {K : PySem.W.Frag} {as : List Addr} {H : Hp} {M : Mem}
mutual
theorem See.ok (rp : RepM K as H M) : ∀ {k : Nat} {d : D} {p : PyData} {v : V}, See M k d p → Rel K as H d v → Dp K H v p ∧ p.canLay0 = true ∧ p.depth ≤ k
  | _, _, _, _, .non _, .non => ⟨.non, by simp [PyData.canLay0], by simp [PyData.depth]⟩
  | _, _, _, _, .bl _ b, .bl _ => ⟨.bl b, by simp [PyData.canLay0], by simp [PyData.depth]⟩
  | _, _, _, _, .int _ b, .int _ => ⟨.int b, by simp [PyData.canLay0], by simp [PyData.depth]⟩
  | _, _, _, _, .str _ f, .str _ => ⟨.str _, by simp only [PyData.canLay0]; exact f, by simp [PyData.depth]⟩
  | _, _, _, _, .tup l, .tup hs hl => by
    obtain ⟨a1, a2, a3⟩ := SeeL.ok rp l hl
    exact ⟨.tup hs.1 a1, by simp only [PyData.canLay0]; exact a2, by simp only [PyData.depth]; omega⟩
  | _, _, _, _, .lst e l, .ref hn => by
    obtain ⟨xs, h1, h2⟩ := at_lst rp hn e
    obtain ⟨a1, a2, a3⟩ := SeeL.ok rp l h2
    exact ⟨.lst (SqL.of h1) a1, by simp only [PyData.canLay0]; exact a2, by simp only [PyData.depth]; omega⟩
theorem SeeL.ok (rp : RepM K as H M) : ∀ {k : Nat} {ds : List D} {ps : List PyData} {vs : List V}, SeeL M k ds ps → RelL K as H ds vs → DpAll K H vs ps ∧ PyData.canLayAll0 ps = true ∧ PyData.depthAll ps ≤ k
  | _, _, _, _, .nil, .nil => ⟨.nil, by simp [PyData.canLayAll0], by simp [PyData.depthAll]⟩
  | _, _, _, _, .cons a b, .cons h1 h2 => by
    obtain ⟨a1, a2, a3⟩ := See.ok rp a h1
    obtain ⟨b1, b2, b3⟩ := SeeL.ok rp b h2
    refine ⟨.cons a1 b1, by simp [PyData.canLayAll0, a2, b2], ?_⟩
    simp only [PyData.depthAll]
    omega
end
theorem eqB_ok {dx dy : D} {x y : V} {k : Bool → Prop} (rp : RepM K as H M) (rx : Rel K as H dx x) (ry : Rel K as H dy y) (h : oEqB dx dy M k) :
    (scal x y = true ∧ k (decide (x = y))) ∨ ∃ d e, Dp K H x d ∧ Dp K H y e ∧ SeqAt.shaped d = true ∧ SeqAt.shaped e = true ∧ k (PyData.eqv d e) := by
  unfold oEqB at h
  split at h
  · rename_i a b
    cases rx
    cases ry
    refine .inl ⟨rfl, ?_⟩
    have e : decide ((V.str a) = V.str b) = decide (a = b) := by simp
    rw [e]; exact h
  · rename_i a b
    cases rx
    cases ry
    · refine .inr ⟨.int a, .int b, .int a, .int b, by simp [SeqAt.shaped, PyData.canLay0, PyData.depth], by simp [SeqAt.shaped, PyData.canLay0, PyData.depth], ?_⟩
      simp only [PyData.eqv]
      have e : (a == b) = decide (a = b) := rfl
      rw [e]; exact h
  · obtain ⟨p, q, s1, s2, h⟩ := h
    obtain ⟨a1, a2, a3⟩ := s1.ok rp rx
    obtain ⟨b1, b2, b3⟩ := s2.ok rp ry
    exact .inr ⟨p, q, a1, b1, shaped_of a2 a3 (by decide), shaped_of b2 b3 (by decide), h⟩
theorem sim_eq : SimO K (DW.rEqq K) oEq := fun as H M dx dy x y k Q rp rx ry h hk => by
  rcases eqB_ok rp rx ry h with ⟨s, q⟩ | ⟨d, e, h1, h2, h3, h4, q⟩
  · exact .inl ⟨s, hk _ _ q as H _ .refl rp (.bl _)⟩
  · exact .inr ⟨d, e, h1, h2, h3, h4, hk _ _ q as H _ .refl rp (.bl _)⟩
theorem sim_ne : SimO K (DW.rNee K) oNe := fun as H M dx dy x y k Q rp rx ry h hk => by
  rcases eqB_ok rp rx ry h with ⟨s, q⟩ | ⟨d, e, h1, h2, h3, h4, q⟩
  · exact .inl ⟨s, hk _ _ q as H _ .refl rp (.bl _)⟩
  · exact .inr ⟨d, e, h1, h2, h3, h4, hk _ _ q as H _ .refl rp (.bl _)⟩
end
def oIs : OP := fun x y M Q => match y with | .non => oIsN x M Q | _ => False
def oIsNot : OP := fun x y M Q => match y with | .non => oNotN x M Q | _ => False
section
variable {K : PySem.W.Frag}
theorem sim_isnot : SimO K rNotN oIsNot := fun as H M dx dy x y k Q rp rx ry h hk => by
  cases ry <;> first | exact h.elim | skip
  refine ⟨rfl, ?_⟩
  cases rx <;> exact hk _ _ h as H _ .refl rp (.bl _)
end
def keyOf : D → Option Key
  | .int i => some (.inl i)
  | .str x => some (.inr x)
  | _ => none
def dget {κ : Type} [DecidableEq κ] (kvs : List (κ × D)) (k : κ) : Option D := (kvs.find? fun kv => decide (kv.1 = k)).map (·.2)
def dput {κ : Type} [DecidableEq κ] (kvs : List (κ × D)) (k : κ) (v : D) : List (κ × D) := if (kvs.any fun kv => decide (kv.1 = k)) then kvs.map (fun kv => if kv.1 = k then (kv.1, v) else kv) else kvs ++ [(k, v)]
def ddrop {κ : Type} [DecidableEq κ] (kvs : List (κ × D)) (k : κ) : List (κ × D) := kvs.filter fun kv => decide (kv.1 ≠ k)
section
variable {K : PySem.W.Frag} {as : List Addr} {H : Hp} {M : Mem} {κ : Type} [DecidableEq κ]
theorem KVR.get {l : List (κ × D)} {m : List (κ × V)} (h : KVR K as H l m) (k : κ) : (dget l k = none ∧ valV m k = none) ∨ ∃ d v, dget l k = some d ∧ valV m k = some v ∧ Rel K as H d v := by
  induction h with
  | nil => exact .inl ⟨rfl, rfl⟩
  | cons h t ih =>
    rename_i p q l m
    obtain ⟨h1, h2⟩ := h
    by_cases e : q.1 = k
    · refine .inr ⟨p.2, q.2, ?_, valV_pos e, h2⟩
      simp [dget, List.find?_cons, h1, e]
    · have e2 : ¬ p.1 = k := by rw [h1]; exact e
      have e3 : dget (p :: l) k = dget l k := by simp [dget, List.find?_cons, e2]
      rw [e3, valV_neg e]; exact ih
theorem KVR.any {l : List (κ × D)} {m : List (κ × V)} (h : KVR K as H l m) (k : κ) : (l.any fun kv => decide (kv.1 = k)) = m.any fun kv => decide (kv.1 = k) := by
  induction h with
  | nil => rfl
  | cons h t ih => simp only [List.any_cons, h.1, ih]
theorem KVR.put {l : List (κ × D)} {m : List (κ × V)} (h : KVR K as H l m) (k : κ) {d : D} {v : V} (r : Rel K as H d v) : KVR K as H (dput l k d) (putK m k v) := by
  unfold dput putK
  rw [h.any k]
  split
  · rename_i hx; clear hx
    induction h with
    | nil => exact .nil
    | cons h t ih =>
      rename_i p q l m
      simp only [List.map_cons]
      refine .cons ?_ ih
      rw [h.1]
      split
      · exact ⟨rfl, r⟩
      · exact h
  · exact Paired.snoc h ⟨rfl, r⟩
theorem KVR.drop {l : List (κ × D)} {m : List (κ × V)} (h : KVR K as H l m) (k : κ) : KVR K as H (ddrop l k) (dropK m k) := by
  unfold ddrop dropK
  induction h with
  | nil => exact .nil
  | cons h t ih =>
    rename_i p q l m
    simp only [List.filter_cons, h.1]
    split
    · exact .cons h ih
    · exact ih
theorem keyOf_ok {d : D} {v : V} {k : Key} (r : Rel K as H d v) (e : keyOf d = some k) : v = kV k := by
  cases r <;> simp [keyOf] at e <;> subst e <;> rfl
/-- the dict at n, read -/
theorem at_dct {n : Nat} {a : Addr} {lk : Bool} {kvs : List (Key × D)} (rp : RepM K as H M) (hn : as[n]? = some a) (e : M[n]? = some (.dct lk kvs)) : ∃ ks, KVR K as H kvs ks ∧ Rd H a (.dK ks) := by
  obtain ⟨a', ha, ks, h1, h2⟩ := rp.at_ e
  rw [hn] at ha; cases ha
  cases lk with
  | true => obtain ⟨ob, h2⟩ := h2; exact ⟨ks, h1, .inr ⟨ob, h2⟩⟩
  | false => exact ⟨ks, h1, .inl h2⟩
theorem at_frz {n : Nat} {a : Addr} {ds : List D} (rp : RepM K as H M) (hn : as[n]? = some a) (e : M[n]? = some (.frz ds)) : ∃ ob xs, H a = some (.frz ob (.lst xs)) ∧ RelL K as H ds xs := by
  obtain ⟨a', ha, ob, xs, h1, h2⟩ := rp.at_ e
  rw [hn] at ha; cases ha
  exact ⟨ob, xs, h1, h2⟩
end
def flat : D → Bool
  | .non => true
  | .bl _ => true
  | .int _ => true
  | .str _ => true
  | _ => false
def inOk (x : D) (ds : List D) : Prop := ((flat x && ds.all flat) || (fine 20 x && ds.all (fine 20))) = true
def oInB (x y : D) (M : Mem) (k : Bool → Prop) : Prop := match y with
  | .str z => match x with
    | .str c => match c.cps.toList with
      | [c] => k (decide (c ∈ z.cps.toList))
      | _ => False
    | _ => False
  | .tup ds => (flat x && ds.all flat) = true ∧ k (ds.any fun e => deq e x)
  | .ref n => match M[n]? with
    | some (.lst ds) => inOk x ds ∧ k (ds.any fun e => deq e x)
    | some (.dct _ kvs) => match keyOf x with
      | some q => k (dget kvs q).isSome
      | none => False
    | _ => False
  | _ => False
def oIn : OP := fun x y M Q => oInB x y M fun b => Q (.bl b) M
def oNotIn : OP := fun x y M Q => oInB x y M fun b => Q (.bl (!b)) M
section
variable {X : Cx}
end
section
variable {K : PySem.W.Frag} {as : List Addr} {H : Hp} {M : Mem}
end
def oIx : OP := fun x y M Q => match x with
  | .tup ds => match y with
    | .int i => match atI ds i with | some d => Q d M | none => False
    | _ => False
  | .str z => match y with
    | .int i => z.length ≤ 16000000 ∧ match atI z.cps.toList i with | some c => Q (.str ⟨#[c]⟩) M | none => False
    | _ => False
  | .ref n => match M[n]? with
    | some (.lst ds) => match y with
      | .int i => match atI ds i with | some d => Q d M | none => False
      | _ => False
    | some (.frz ds) => match y with
      | .int i => match atI ds i with | some d => Q d M | none => False
      | _ => False
    | some (.dct _ kvs) => match keyOf y with
      | some q => match dget kvs q with | some d => Q d M | none => False
      | none => False
    | _ => False
  | _ => False
def rIxD : R2 := fun x y H Q => ∃ a v, x = .ref a ∧ DGet H a y (some v) ∧ Q v H
theorem ix_dict {X : Cx} (hu : X.A.units + 1 < cLine) : IxR X rIxD := by
  intro value slice pins s σ H x y v u Q I rx ry h hs
  obtain ⟨a, w, rfl, g, q⟩ := h
  obtain rfl : v = Value.ref a := rx
  have hT := dict_typeIs I g
  unfold subscriptTail
  refine wpAny_bind ?_
  rw [getitemInPython_of_ne hT.not_modules]
  refine wpAny_bind (wpAny_specialOf hT PySem.F.slot_dict_getitem.lookup ?_)
  have fin : wpAny (model X.prog X.w) X.A (subscripted slice false (.ref a) u) (fun r s₃ => wpAny (model X.prog X.w) X.A (letTemporaryGo value (.ref a) r >>= fun _ => pure r) (EP X pins σ Q) X.xe s₃) X.xe s := by
    rw [hs]
    exact wpAny_operating (wpAny_mono (d_getItem hu I g ry fun w' s3 I3 rw' => (⟨w, H, I3, rw', q⟩ : EP X pins σ Q w' s3)) (fun r s₃ h₃ => wpAny_bind (wpAny_letTemporaryGo (wpAny_pure h₃))) fun _ _ x => x)
  first
    | exact wpAny_pure (wpAny_bind fin)
    | exact wpAny_bind (wpAny_pure (wpAny_bind fin))
    | exact wpAny_bind fin
def rIxA (K : PySem.W.Frag) : R2 := fun x y H Q => rIx K x y H Q ∨ rIxD x y H Q
theorem ix_any {X : Cx} (hu : X.A.units + 1 < cLine) : IxR X (rIxA X.K) := IxR.or ix_seq (ix_dict hu)
section
variable {K : PySem.W.Frag} {as : List Addr} {H : Hp} {M : Mem}
theorem atI_rel {ds : List D} {vs : List V} {i : Int} {d : D} (r : RelL K as H ds vs) (e : atI ds i = some d) : ∃ v, atI vs i = some v ∧ Rel K as H d v := by
  unfold atI at e ⊢
  rw [← r.len]
  cases h : ixN ds.length i with
  | none => rw [h] at e; cases e
  | some j =>
    rw [h] at e
    exact r.get (show ds[j]? = some d from e)
theorem sim_ix : SimO K (rIxA K) oIx := fun as H M dx dy x y k Q rp rx ry h hk => by
  cases rx with
  | tup hs hl =>
    cases ry <;> first | exact h.elim | skip
    rename_i i
    dsimp only [oIx] at h
    split at h
    · rename_i d e
      obtain ⟨v, e2, rv⟩ := atI_rel hl e
      exact .inl (.inr (.inl ⟨_, _, i, v, rfl, rfl, hs.1, e2, hk _ _ h as H _ .refl rp rv⟩))
    · exact h.elim
  | str z =>
    cases ry <;> first | exact h.elim | skip
    rename_i i
    obtain ⟨hz, h⟩ := h
    split at h
    · rename_i c e
      exact .inl (.inr (.inr ⟨z, i, c, rfl, rfl, Nat.le_trans hz (by decide), e, hk _ _ h as H _ .refl rp (.str _)⟩))
    · exact h.elim
  | ref hn =>
    dsimp only [oIx] at h
    split at h
    · rename_i ds e
      cases ry <;> first | exact h.elim | skip
      rename_i i
      dsimp only at h
      split at h
      · rename_i d e1
        obtain ⟨xs, h1, h2⟩ := at_lst rp hn e
        obtain ⟨v, e2, rv⟩ := atI_rel h2 e1
        exact .inl (.inl ⟨_, xs, i, v, rfl, rfl, SqL.of h1, e2, hk _ _ h as H _ .refl rp rv⟩)
      · exact h.elim
    · rename_i ds e
      cases ry <;> first | exact h.elim | skip
      rename_i i
      dsimp only at h
      split at h
      · rename_i d e1
        obtain ⟨ob, xs, h1, h2⟩ := at_frz rp hn e
        obtain ⟨v, e2, rv⟩ := atI_rel h2 e1
        exact .inl (.inl ⟨_, xs, i, v, rfl, rfl, .inl (.inr ⟨ob, h1⟩), e2, hk _ _ h as H _ .refl rp rv⟩)
      · exact h.elim
    · rename_i lk kvs e
      split at h
      · rename_i q0 eq
        split at h
        · rename_i d e1
          obtain ⟨ks, h1, h2⟩ := at_dct rp hn e
          rcases h1.get q0 with ⟨g1, g2⟩ | ⟨d', v, g1, g2, rv⟩
          · rw [g1] at e1; cases e1
          · rw [g1] at e1; cases e1
            exact .inr ⟨_, v, rfl, .inl ⟨ks, q0, h2, keyOf_ok ry eq, g2.symm⟩, hk _ _ h as H _ .refl rp rv⟩
        · exact h.elim
      · exact h.elim
    · exact h.elim
  | _ => exact h.elim
end
end MV
namespace MV
open PySem PySem.Spec PyProof.Rows L2
abbrev MO := Ev → Mem → (Option Int → Mem → Prop) → XM → Prop
def lfO (K : PySem.W.Frag) (W : WX) (m : MO) : TO := fun σ H Q => ∃ as M ρ Q' X', RepM K as H M ∧ RelS K as H ρ σ ∧ m ρ M Q' X' ∧ (∀ d M', Q' d M' → ∀ as' H', Ext K as H as' H' → RepM K as' H' M' → Q d H') ∧ ∀ x M', X' x M' → LX K as H (fun c d H => W c d σ H) x M'
abbrev QO (X : Cx) (W : WX) (e : Option Expr) (m : MO) : Prop := PO X e (lfO X.K W m)
def mNoPart : MO := fun _ M Q _ => Q none M
def mPart (m : ME) : MO := fun ρ M Q X => m ρ M (fun x M1 => match x with | .int i => Q (some i) M1 | _ => False) X
def cutD {α : Type} (xs : List α) (lo hi : Option Int) : List α := (xs.drop (HT.sIx xs.length 0 lo)).take (HT.sIx xs.length xs.length hi - HT.sIx xs.length 0 lo)
def oSl (x : D) (lo hi : Option Int) (M : Mem) (Q : DK) : Prop := match x with
  | .str z => z.length ≤ 16000000 ∧ Q (.str (cutS z lo hi)) M
  | .tup ds => Q (.tup (cutD ds lo hi)) M
  | .kl ds => Q (.ref M.length) (M ++ [.lst (cutD ds lo hi)])
  | .ref n => match M[n]? with
    | some (.lst ds) => Q (.ref M.length) (M ++ [.lst (cutD ds lo hi)])
    | some (.frz ds) => Q (.ref M.length) (M ++ [.lst (cutD ds lo hi)])
    | _ => False
  | _ => False
def mSl (me : ME) (ml mh : MO) : ME := fun ρ M Q X => me ρ M (fun x M1 => ml ρ M1 (fun l M2 => mh ρ M2 (fun h M3 => oSl x l h M3 Q) X) X) X
def rSlAll (K : PySem.W.Frag) : V → Option Int → Option Int → Hp → VK → Prop := fun x lo hi H Q => rSlS x lo hi H Q ∨ rSlA K x lo hi H Q ∨ rSlL K x lo hi H Q
section
variable {X : Cx} {W : WX} {e : Expr} {lo hi : Option Expr} {me : ME} {ml mh : MO} {pos p2 : Pos}
theorem po_imp {t t' : TO} {o : Option Expr} (h : PO X o t) (i : ∀ σ H Q, t' σ H Q → t σ H Q) : PO X o t' := ⟨fun pins s σ H Q I q => h.run pins s σ H Q I (i σ H Q q)⟩
theorem qo_none : QO X W none mNoPart := po_imp po_none fun σ H Q ⟨as, M, ρ, Q', X', r, rs, h, hq, hx⟩ => hq _ _ h as H .refl r
theorem qo_some (he : QE X W e me) : QO X W (some e) (mPart me) := po_imp (po_some he) fun σ H Q ⟨as, M, ρ, Q', X', r, rs, h, hq, hx⟩ => by
  refine lf_bind r rs h hx fun dx M1 as1 H1 x h1 e1 r1 rs1 rx => ?_
  cases rx <;> first | exact h1.elim | skip
  exact ⟨_, rfl, hq _ _ h1 as1 H1 e1 r1⟩
theorem SlR_or {r r' : V → Option Int → Option Int → Hp → VK → Prop} (h : SlR X r) (h' : SlR X r') : SlR X (fun x lo hi H Q => r x lo hi H Q ∨ r' x lo hi H Q) := by
  intro pins s σ H x v vl vu lo hi sl Q I rx hs pl pu q
  rcases q with q | q
  · exact h pins s σ H x v vl vu lo hi sl Q I rx hs pl pu q
  · exact h' pins s σ H x v vl vu lo hi sl Q I rx hs pl pu q
theorem cut_rel {K : PySem.W.Frag} {as : List Addr} {H : Hp} {ds : List D} {vs : List V} (r : RelL K as H ds vs) (lo hi : Option Int) : RelL K as H (cutD ds lo hi) (cutV vs lo hi) := by
  unfold cutD cutV
  rw [← r.len]
  exact (r.drop _).take _
theorem cut_whole {α : Type} {xs : List α} {lo hi : Option Int} (h : HT.sIx xs.length 0 lo = 0 ∧ HT.sIx xs.length xs.length hi = xs.length) : cutD xs lo hi = xs := by
  unfold cutD; rw [h.1, h.2]; simp
theorem sim_sl {K : PySem.W.Frag} {as : List Addr} {H : Hp} {M : Mem} {dx : D} {x : V} {lo hi : Option Int} {k : DK} {Q : VK} (rp : RepM K as H M) (rx : Rel K as H dx x) (h : oSl dx lo hi M k) (hk : ∀ d M', k d M' → LQ K as H Q d M') : rSlAll K x lo hi H Q := by
  cases rx with
  | str z => exact .inl ⟨z, rfl, Nat.le_trans h.1 (by decide), hk _ _ h.2 as H _ .refl rp (.str _)⟩
  | tup hs hl =>
    refine .inr (.inl ⟨_, _, rfl, hs.1, fun w => ?_, fun _ p hp => new_tup rp (cut_rel hl lo hi) hp h hk⟩)
    refine hk _ _ h as H _ .refl rp ?_
    rw [← hl.len] at w
    rw [cut_whole w]
    exact .tup hs hl
  | kl hs hl => exact .inr (.inr ⟨_, _, rfl, hs.sq, fun p hp => new_lst rp (cut_rel hl lo hi) hp h hk⟩)
  | ref hn =>
    dsimp only [oSl] at h
    split at h
    · rename_i ds e
      obtain ⟨xs, h1, h2⟩ := at_lst rp hn e
      exact .inr (.inr ⟨_, xs, rfl, SqL.of h1, fun p hp => new_lst rp (cut_rel h2 lo hi) hp h hk⟩)
    · rename_i ds e
      obtain ⟨ob, xs, h1, h2⟩ := at_frz rp hn e
      exact .inr (.inr ⟨_, xs, rfl, .inl (.inr ⟨ob, h1⟩), fun p hp => new_lst rp (cut_rel h2 lo hi) hp h hk⟩)
    · exact h.elim
  | _ => exact h.elim
theorem qe_slice (he : QE X W e me) (hl : QO X W lo ml) (hh : QO X W hi mh) : QE X W (.Subscript e (.Slice lo hi none p2) pos) (mSl me ml mh) :=
  PEi (pe_slice (r := rSlAll X.K) (SlR_or sl_str (SlR_or sl_tupA sl_list)) he hl hh) fun σ H Q ⟨as, M, ρ, Q', X', r, rs, h, hq, hx⟩ => by
    refine lf_bind r rs h hx fun dx M1 as1 H1 x h1 e1 r1 rs1 rx => ?_
    refine ⟨as1, M1, ρ, _, X', r1, rs1, h1, fun l M2 h2 as2 H2 e2 r2 => ?_, fun x M' q => (hx x M' q).mono e1⟩
    refine ⟨as2, M2, ρ, _, X', r2, rs1.up e2, h2, fun h M3 h3 as3 H3 e3 r3 => ?_, fun x M' q => (hx x M' q).mono (e1.trans e2)⟩
    exact sim_sl r3 (rx.up (e2.trans e3)) h3 fun d M' q => (hq d M' q).mono ((e1.trans e2).trans e3)
end
def oLen : OA := fun xs M Q => match xs with
  | [.str z] => z.length ≤ 16000000 ∧ Q (.int z.length) M
  | [.tup ds] => Q (.int ds.length) M
  | [.ref n] => match M[n]? with
    | some (.lst ds) => Q (.int ds.length) M
    | some (.frz ds) => Q (.int ds.length) M
    | some (.dct _ kvs) => Q (.int kvs.length) M
    | _ => False
  | _ => False
def oAbs : OA := fun xs M Q => match xs with | [.int i] => Q (.int (if i < 0 then -i else i)) M | _ => False
def oMin2 : OA := fun xs M Q => match xs with | [.int i, .int j] => Q (.int (if j < i then j else i)) M | _ => False
def oMax2 : OA := fun xs M Q => match xs with | [.int i, .int j] => Q (.int (if j > i then j else i)) M | _ => False
def oInt1 : OA := fun xs M Q => match xs with
  | [.int i] => Q (.int i) M
  | [.bl k] => Q (.int (if k then 1 else 0)) M
  | [.str a] => match PySem.intText? a with | some n => a.length ≤ 640 ∧ Q (.int n) M | none => False
  | _ => False
def oStr1 : OA := fun xs M Q => match xs with
  | [.int i] => i.natAbs.log2 < 1920 ∧ Q (.str (toString i)) M
  | [.str a] => Q (.str a) M
  | _ => False
def kD : Key → D
  | .inl i => .int i
  | .inr x => .str x
def oList1 : OA := fun xs M Q => match xs with
  | [.tup ds] => Q (.ref M.length) (M ++ [.lst ds])
  | [.ref n] => match M[n]? with
    | some (.lst ds) => Q (.ref M.length) (M ++ [.lst ds])
    | some (.frz ds) => Q (.ref M.length) (M ++ [.lst ds])
    | some (.dct false kvs) => Q (.ref M.length) (M ++ [.lst (kvs.map fun kv => kD kv.1)])
    | _ => False
  | _ => False
def oTuple1 : OA := fun xs M Q => match xs with
  | [.tup ds] => Q (.tup ds) M
  | [.ref n] => match M[n]? with
    | some (.lst ds) => Q (.tup ds) M
    | some (.frz ds) => Q (.tup ds) M
    | _ => False
  | _ => False
def oDict1 : OA := fun xs M Q => match xs with
  | [.ref n] => match M[n]? with
    | some (.dct _ kvs) => Q (.ref M.length) (M ++ [.dct false kvs])
    | _ => False
  | _ => False
def rLenA (K : PySem.W.Frag) : List V → Hp → VK → Prop := fun xs H Q => (∃ x n, xs = [x] ∧ LenV K x H n ∧ Q (.int n) H) ∨ ∃ a kvs, xs = [V.ref a] ∧ Rd H a (.dK kvs) ∧ Q (.int kvs.length) H
theorem CallR_or {X : Cx} {f : Value} {r r' : List V → Hp → VK → Prop} (h : CallR X f r) (h' : CallR X f r') : CallR X f (fun xs H Q => r xs H Q ∨ r' xs H Q) := by
  intro pins s σ H xs us Q I r q
  rcases q with q | q
  · exact h pins s σ H xs us Q I r q
  · exact h' pins s σ H xs us Q I r q
section
variable {X : Cx} {K : PySem.W.Frag}
theorem call_lenR : CallR X (.builtin "len") (fun xs H Q => ∃ a kvs, xs = [V.ref a] ∧ Rd H a (.dK kvs) ∧ Q (.int kvs.length) H) := by
  intro pins s σ H xs us Q I r h
  obtain ⟨a, kvs, rfl, e, q⟩ := h
  obtain ⟨u, rfl, rx⟩ := vals1 r
  cases rx
  exact d_len I e fun t s' I' => ⟨.int _, H, I', ⟨_, rfl⟩, q⟩
theorem call_lenA : CallR X (.builtin "len") (rLenA X.K) := CallR_or call_len call_lenR
theorem RelL.one {as : List Addr} {H : Hp} {d : D} {vs : List V} (h : RelL K as H [d] vs) : ∃ v, vs = [v] ∧ Rel K as H d v := by
  cases h with
  | cons h r => cases r; exact ⟨_, rfl, h⟩
theorem RelL.two {as : List Addr} {H : Hp} {d e : D} {vs : List V} (h : RelL K as H [d, e] vs) : ∃ v w, vs = [v, w] ∧ Rel K as H d v ∧ Rel K as H e w := by
  cases h with
  | cons h r => obtain ⟨w, rfl, h2⟩ := r.one; exact ⟨_, _, rfl, h, h2⟩
theorem sim_len : SimA K (rLenA K) oLen := fun as H M ds vs k Q rp rv h hk => by
  unfold oLen at h
  split at h
  · obtain ⟨v, rfl, rx⟩ := rv.one
    cases rx
    exact .inl ⟨_, _, rfl, ⟨Nat.le_trans h.1 (by decide), rfl⟩, hk _ _ h.2 as H _ .refl rp (.int _)⟩
  · obtain ⟨v, rfl, rx⟩ := rv.one
    cases rx with
    | tup hs hl => exact .inl ⟨_, _, rfl, .inr ⟨_, hs.1, rfl⟩, by rw [← hl.len]; exact hk _ _ h as H _ .refl rp (.int _)⟩
  · obtain ⟨v, rfl, rx⟩ := rv.one
    cases rx with
    | ref hn =>
      split at h
      · rename_i ds e
        obtain ⟨xs, h1, h2⟩ := at_lst rp hn e
        exact .inl ⟨_, _, rfl, .inl ⟨_, SqL.of h1, rfl⟩, by rw [← h2.len]; exact hk _ _ h as H _ .refl rp (.int _)⟩
      · rename_i ds e
        obtain ⟨ob, xs, h1, h2⟩ := at_frz rp hn e
        exact .inl ⟨_, _, rfl, .inl ⟨_, .inl (.inr ⟨ob, h1⟩), rfl⟩, by rw [← h2.len]; exact hk _ _ h as H _ .refl rp (.int _)⟩
      · rename_i lk kvs e
        obtain ⟨ks, h1, h2⟩ := at_dct rp hn e
        exact .inr ⟨_, ks, rfl, h2, by rw [← h1.len]; exact hk _ _ h as H _ .refl rp (.int _)⟩
      · exact h.elim
  · exact h.elim
theorem sim_abs : SimA K DW.rAbs oAbs := fun as H M ds vs k Q rp rv h hk => by
  unfold oAbs at h
  split at h
  · obtain ⟨v, rfl, rx⟩ := rv.one
    cases rx
    exact ⟨_, rfl, hk _ _ h as H _ .refl rp (.int _)⟩
  · exact h.elim
def rIntA : List V → Hp → VK → Prop := fun xs H Q => DW.rInt1 xs H Q ∨ DW.rIntStr xs H Q
theorem call_intA : CallR X (.type "int") rIntA := CallR_or call_int1 call_int_str
theorem sim_int : SimA K rIntA oInt1 := fun as H M ds vs k Q rp rv h hk => by
  unfold oInt1 at h
  split at h
  · obtain ⟨v, rfl, rx⟩ := rv.one
    cases rx
    exact .inl (.inl ⟨_, rfl, hk _ _ h as H _ .refl rp (.int _)⟩)
  · obtain ⟨v, rfl, rx⟩ := rv.one
    cases rx
    exact .inl (.inr ⟨_, rfl, hk _ _ h as H _ .refl rp (.int _)⟩)
  · obtain ⟨v, rfl, rx⟩ := rv.one
    cases rx
    split at h
    · rename_i n e
      exact .inr ⟨_, n, rfl, e, h.1, hk _ _ h.2 as H _ .refl rp (.int _)⟩
    · exact h.elim
  · exact h.elim
def rStrA : List V → Hp → VK → Prop := fun xs H Q => DW.rStrInt xs H Q ∨ DW.rStrStr xs H Q
theorem call_strA : CallR X (.type "str") rStrA := CallR_or call_str_int SkE.call_str_str
theorem sim_str : SimA K rStrA oStr1 := fun as H M ds vs k Q rp rv h hk => by
  unfold oStr1 at h
  split at h
  · obtain ⟨v, rfl, rx⟩ := rv.one
    cases rx
    exact .inl ⟨_, rfl, h.1, hk _ _ h.2 as H _ .refl rp (.str _)⟩
  · obtain ⟨v, rfl, rx⟩ := rv.one
    cases rx
    exact .inr ⟨_, rfl, hk _ _ h as H _ .refl rp (.str _)⟩
  · exact h.elim
theorem kD_rel {as : List Addr} {H : Hp} (k : Key) : Rel K as H (kD k) (kV k) := by
  cases k with
  | inl i => exact .int i
  | inr x => exact .str x
theorem KVR.keys {as : List Addr} {H : Hp} {l : List (Key × D)} {m : List (Key × V)} (h : KVR K as H l m) : RelL K as H (l.map fun kv => kD kv.1) (m.map fun kv => kV kv.1) := by
  induction h with
  | nil => exact .nil
  | cons h t ih =>
    simp only [List.map_cons]
    rw [h.1]
    exact .cons (kD_rel _) ih
def rListA (K : PySem.W.Frag) : List V → Hp → VK → Prop := fun xs H Q => DW.rListOf K xs H Q ∨ rListD xs H Q
theorem sim_list : SimA K (rListA K) oList1 := fun as H M ds vs k Q rp rv h hk => by
  unfold oList1 at h
  split at h
  · obtain ⟨v, rfl, rx⟩ := rv.one
    cases rx with
    | tup hs hl => exact .inl ⟨_, _, rfl, .inr hs.1, fun p hp => new_lst rp hl hp h hk⟩
  · obtain ⟨v, rfl, rx⟩ := rv.one
    cases rx with
    | ref hn =>
      split at h
      · rename_i ds e
        obtain ⟨xs, h1, h2⟩ := at_lst rp hn e
        exact .inl ⟨_, _, rfl, .inl (SqL.of h1), fun p hp => new_lst rp h2 hp h hk⟩
      · rename_i ds e
        obtain ⟨ob, xs, h1, h2⟩ := at_frz rp hn e
        exact .inl ⟨_, _, rfl, .inl (.inl (.inr ⟨ob, h1⟩)), fun p hp => new_lst rp h2 hp h hk⟩
      · rename_i kvs e
        obtain ⟨a', ha, ks, h1, h2⟩ := rp.at_ e
        rw [hn] at ha; cases ha
        exact .inr ⟨_, ks, rfl, h2, fun p hp => new_lst rp h1.keys hp h hk⟩
      · exact h.elim
  · exact h.elim
end
section
variable {X : Cx} {W : WX} {e : Expr} {es : List Expr} {ma : MA} {p pos : Pos} {x : Str}
theorem qe_callB {id : String} {r : List V → Hp → VK → Prop} {o : OA} (hc : CallR X (.builtin id) r) (hs : SimA X.K r o) (hg : Gl X x) (hm : X.mg x = none) (hv : bootBuiltins x = some (.builtin id)) (ha : QA X W (e :: es) ma) (hn : x ≠ "__name__" := by decide) (hdb : (x == ("__debug__" : Str)) = false := by decide)
    (he : starEach (e :: es) X.env = (false, eval e X.env) :: starEach es X.env := by rfl) (hpl : (backTo pos (starEach es X.env)).any (·.1) = false := by rfl) : QE X W (.Call (.Name x p) (e :: es) [] pos) (mCB o ma) :=
  PEi (pe_callB hc hg hm hv ha hn hdb he hpl) (lf_cb hs)
theorem qe_callTy {T : String} {r : List V → Hp → VK → Prop} {o : OA} (hc : CallR X (.type T) r) (hs : SimA X.K r o) (hg : Gl X x) (hm : X.mg x = none) (hv : bootBuiltins x = some (.type T)) (ha : QA X W (e :: es) ma) (hn : x ≠ "__name__" := by decide) (hdb : (x == ("__debug__" : Str)) = false := by decide)
    (he : starEach (e :: es) X.env = (false, eval e X.env) :: starEach es X.env := by rfl) (hpl : (backTo pos (starEach es X.env)).any (·.1) = false := by rfl) : QE X W (.Call (.Name x p) (e :: es) [] pos) (mCB o ma) :=
  PEi (pe_callTy hc hg hm hv ha hn hdb he hpl) (lf_cb hs)
end
end MV
namespace MV
open PySem PySem.Spec PyProof.Rows L2
def mNext : MS := fun E ρ M => E.nx ρ M
def mRetN : MS := fun E _ M => E.rt .non M
def mSeq (a b : MS) : MS := fun E ρ M => a ⟨fun ρ' M' => b E ρ' M', E.rt, E.bk, E.ct, E.ex⟩ ρ M
def mDrop (m : ME) : MS := fun E ρ M => m ρ M (fun _ M1 => E.nx ρ M1) (fun x M1 => E.ex x ρ M1)
def mRet (m : ME) : MS := fun E ρ M => m ρ M E.rt (fun x M1 => E.ex x ρ M1)
def mIfS (t : MT) (a b : MS) : MS := fun E ρ M => t ρ M (fun k M1 => if k = true then a E ρ M1 else b E ρ M1) (fun x M1 => E.ex x ρ M1)
section
variable {X : Cx} {W : WX} {st : Stmt} {rest a b : List Stmt} {m n : MS} {e c : Expr} {me : ME} {mt : MT} {pos : Pos}
theorem exS {K : PySem.W.Frag} {as : List Addr} {H : Hp} {E : Nd} {D : Ends} {ρ : Ev} {σ : L2.St} (hE : NdOk K W as H E D) (rs : RelS K as H ρ σ) : ∀ x M', E.ex x ρ M' → LX K as H (fun c d H => W c d σ H) x M' :=
  fun x M' q as' H' c d e r' rx => hE.ex x ρ M' q as' H' σ c d e r' (rs.up e) rx
theorem qss_nil : QSs X W [] mNext := PSsi pss_nil fun D σ H ⟨as, M, ρ, E, r, rs, h, hE⟩ => hE.nx _ _ h as H σ .refl r rs
theorem qss_cons (h1 : QS X W st m) (h2 : QSs X W rest n) : QSs X W (st :: rest) (mSeq m n) := PSsi (pss_cons h1 h2) fun D σ H ⟨as, M, ρ, E, r, rs, h, hE⟩ =>
  ⟨as, M, ρ, _, r, rs, h, ⟨fun ρ' M' q as' H' σ' e' r' rs' => ⟨as', M', ρ', E, r', rs', q, hE.mono e'⟩, hE.rt, hE.bk, hE.ct, hE.ex⟩⟩
theorem qss_one (h1 : QS X W st m) : QSs X W [st] m := pss_one h1
theorem qs_expr (he : QE X W e me) (hs : swapsWith e none pos.line X.env = pure false := by rfl) : QS X W (.Expr e pos) (mDrop me) := PSi (ps_expr he hs) fun D σ H ⟨as, M, ρ, E, r, rs, h, hE⟩ =>
  lf_bind r rs h (exS hE rs) fun d M1 as1 H1 v h1 e1 r1 rs1 rv => hE.nx _ _ h1 as1 H1 σ e1 r1 rs1
theorem qs_ret (he : QE X W e me) : QS X W (.Return (some e) pos) (mRet me) := PSi (ps_ret he) fun D σ H ⟨as, M, ρ, E, r, rs, h, hE⟩ =>
  lf_bind r rs h (exS hE rs) fun d M1 as1 H1 v h1 e1 r1 rs1 rv => hE.rt _ _ h1 as1 H1 v e1 r1 rv
theorem qs_if (hc : QT X W c mt) (ha : QSs X W a m) (hb : QSs X W b n) : QS X W (.If c a b pos) (mIfS mt m n) := PSi (ps_if hc ha hb) fun D σ H ⟨as, M, ρ, E, r, rs, h, hE⟩ => by
  refine lfT_bind r rs h (exS hE rs) fun k M1 as1 H1 h1 e1 r1 rs1 => ?_
  cases k with
  | true => exact ⟨as1, M1, ρ, E, r1, rs1, h1, hE.mono e1⟩
  | false => exact ⟨as1, M1, ρ, E, r1, rs1, h1, hE.mono e1⟩
end
mutual
inductive Tg where
  | nm (i : Nat)
  | tp (n : Nat) (l : Tgs)
inductive Tgs where
  | nil
  | cons (t : Tg) (l : Tgs)
end
abbrev MG := D → Ev → Mem → (Ev → Prop) → Prop
abbrev MGs := List D → Ev → Mem → (Ev → Prop) → Prop
mutual
/-- HandS's reading of a target -/
def Tg.rd (K : PySem.W.Frag) : Tg → TG
  | .nm i => gName i
  | .tp n l => fun v σ H Q => gTup K n (l.rd K) v σ H Q ∨ gLst K n (l.rd K) v σ H Q
def Tgs.rd (K : PySem.W.Frag) : Tgs → TGs
  | .nil => gNil
  | .cons t l => gCons (t.rd K) (l.rd K)
end
mutual
/-- the mirror's -/
def Tg.mg : Tg → MG
  | .nm i => fun d ρ _ N => N (ρ.set i (some d))
  | .tp n l => fun d ρ M N => match d with
    | .tup ds => ds.length = n ∧ l.mg ds ρ M N
    | .ref a => match M[a]? with
      | some (.lst ds) => ds.length = n ∧ l.mg ds ρ M N
      | _ => False
    | _ => False
def Tgs.mg : Tgs → MGs
  | .nil => fun ds ρ _ N => match ds with | [] => N ρ | _ => False
  | .cons t l => fun ds ρ M N => match ds with | d :: r => t.mg d ρ M fun ρ' => l.mg r ρ' M N | _ => False
end
mutual
def Tg.slots : Tg → List Nat
  | .nm i => [i]
  | .tp _ l => l.slots
def Tgs.slots : Tgs → List Nat
  | .nil => []
  | .cons t l => t.slots ++ l.slots
end
mutual
theorem Tg.sim {K : PySem.W.Frag} : ∀ (T : Tg) {as : List Addr} {H : Hp} {M : Mem} {ρ : Ev} {σ : L2.St} {d : D} {v : V} {N : Ev → Prop} {Q : L2.St → Hp → Prop}, RepM K as H M → RelS K as H ρ σ → Rel K as H d v → T.mg d ρ M N →
    (∀ ρ' σ', N ρ' → RelS K as H ρ' σ' → Q σ' H) → T.rd K v σ H Q
  | .nm i, as, H, M, ρ, σ, d, v, N, Q, r, rs, rd, h, hq => by
    simp only [Tg.mg] at h
    simp only [Tg.rd]
    exact hq _ _ h (rs.set rd)
  | .tp n l, as, H, M, ρ, σ, d, v, N, Q, r, rs, rd, h, hq => by
    simp only [Tg.mg] at h
    simp only [Tg.rd]
    cases rd with
    | tup hs hl => exact .inl ⟨_, _, rfl, hs.1, by rw [← hl.len]; exact h.1, Tgs.sim l r rs hl h.2 hq⟩
    | ref ha =>
      dsimp only at h
      split at h
      · rename_i ds e
        obtain ⟨xs, h1, h2⟩ := at_lst r ha e
        exact .inr ⟨_, xs, rfl, SqL.of h1, by rw [← h2.len]; exact h.1, Tgs.sim l r rs h2 h.2 hq⟩
      · exact h.elim
    | _ => exact h.elim
theorem Tgs.sim {K : PySem.W.Frag} : ∀ (T : Tgs) {as : List Addr} {H : Hp} {M : Mem} {ρ : Ev} {σ : L2.St} {ds : List D} {vs : List V} {N : Ev → Prop} {Q : L2.St → Hp → Prop}, RepM K as H M → RelS K as H ρ σ → RelL K as H ds vs → T.mg ds ρ M N →
    (∀ ρ' σ', N ρ' → RelS K as H ρ' σ' → Q σ' H) → T.rd K vs σ H Q
  | .nil, as, H, M, ρ, σ, ds, vs, N, Q, r, rs, rd, h, hq => by
    simp only [Tgs.mg] at h
    simp only [Tgs.rd]
    cases rd with
    | nil => exact ⟨rfl, hq _ _ h rs⟩
    | cons _ _ => exact h.elim
  | .cons t l, as, H, M, ρ, σ, ds, vs, N, Q, r, rs, rd, h, hq => by
    simp only [Tgs.mg] at h
    simp only [Tgs.rd]
    cases rd with
    | nil => exact h.elim
    | cons rd rr => exact ⟨_, _, rfl, Tg.sim t r rs rd h fun ρ' σ' h' rs' => Tgs.sim l r rs' rr h' hq⟩
end
theorem set_set_comm {α : Type} (l : List α) {i j : Nat} (a b : α) (h : i ≠ j) : (l.set i a).set j b = (l.set j b).set i a := by
  apply List.ext_getElem?
  intro k
  simp only [List.getElem?_set]
  split <;> split <;> simp_all
theorem wipe_set {σ : L2.St} {i : Nat} {v : Option V} : ∀ {vs : List Nat}, i ∈ vs → wipe (σ.set i v) vs = wipe σ vs
  | w :: vs, h => by
    show (wipe (σ.set i v) vs).set w none = (wipe σ vs).set w none
    by_cases e : i ∈ vs
    · rw [wipe_set e]
    · have hw : i = w := by
        rcases List.mem_cons.mp h with z | z
        · exact z
        · exact absurd z e
      subst hw
      have key : ∀ vs : List Nat, i ∉ vs → wipe (σ.set i v) vs = (wipe σ vs).set i v := by
        intro vs
        induction vs with
        | nil => intro _; rfl
        | cons u vs ih =>
          intro hn
          show (wipe (σ.set i v) vs).set u none = ((wipe σ vs).set u none).set i v
          rw [ih (fun z => hn (List.mem_cons_of_mem _ z)), set_set_comm _ _ _ (fun z => hn (by rw [z]; exact List.mem_cons_self))]
      rw [key vs e, List.set_set]
mutual
/-- only the slots vs are stored -/
theorem Tg.keep {K : PySem.W.Frag} {vs : List Nat} : ∀ (T : Tg), (∀ i ∈ T.slots, i ∈ vs) → ∀ {v : V} {σ : L2.St} {H : Hp} {Q Q' : L2.St → Hp → Prop}, (∀ σ2 H2, wipe σ2 vs = wipe σ vs → Q σ2 H2 → Q' σ2 H2) → T.rd K v σ H Q → T.rd K v σ H Q'
  | .nm i, hi, v, σ, H, Q, Q', im, h => by
    simp only [Tg.rd] at h ⊢
    exact im _ _ (wipe_set (hi i (by simp [Tg.slots]))) h
  | .tp n l, hi, v, σ, H, Q, Q', im, h => by
    simp only [Tg.rd] at h ⊢
    have hi' : ∀ i ∈ l.slots, i ∈ vs := fun i z => hi i (by simpa [Tg.slots] using z)
    rcases h with ⟨a, xs, e, hs, hl, h⟩ | ⟨a, xs, e, hs, hl, h⟩
    · exact .inl ⟨a, xs, e, hs, hl, Tgs.keep l hi' im h⟩
    · exact .inr ⟨a, xs, e, hs, hl, Tgs.keep l hi' im h⟩
theorem Tgs.keep {K : PySem.W.Frag} {vs : List Nat} : ∀ (T : Tgs), (∀ i ∈ T.slots, i ∈ vs) → ∀ {v : List V} {σ : L2.St} {H : Hp} {Q Q' : L2.St → Hp → Prop}, (∀ σ2 H2, wipe σ2 vs = wipe σ vs → Q σ2 H2 → Q' σ2 H2) → T.rd K v σ H Q → T.rd K v σ H Q'
  | .nil, hi, v, σ, H, Q, Q', im, h => by
    simp only [Tgs.rd] at h ⊢
    exact ⟨h.1, im _ _ rfl h.2⟩
  | .cons t l, hi, v, σ, H, Q, Q', im, h => by
    simp only [Tgs.rd] at h ⊢
    obtain ⟨w, ws, e, h⟩ := h
    refine ⟨w, ws, e, Tg.keep t (fun i z => hi i (by simp [Tgs.slots, z])) (fun σ1 H1 e1 q => ?_) h⟩
    exact Tgs.keep l (fun i z => hi i (by simp [Tgs.slots, z])) (fun σ2 H2 e2 q2 => im _ _ (e2.trans e1) q2) q
end
section
variable {X : Cx} {W : WX} {pos : Pos}
def QG (X : Cx) (tg : Expr) (T : Tg) : Prop := PG X tg (T.rd X.K)
theorem qg_name {i : Nat} {x : Str} (hN : X.N.Nodup) (hi : X.N[i]? = some x) (hx : Loc X.env.scope x) (hf : X.fn x = true ∨ X.env.scope.names.lookup x = some .local := by first | exact .inl rfl | exact .inr rfl | assumption) : QG X (.Name x pos) (.nm i) := by
  have h := pg_name (pos := pos) hN hi hx hf
  unfold QG; simp only [Tg.rd]; exact h
variable {e : Expr} {me : ME}
def mSet (i : Nat) (m : ME) : MS := fun E ρ M => m ρ M (fun d M1 => E.nx (ρ.set i (some d)) M1) (fun x M1 => E.ex x ρ M1)
def mAsg (m : ME) (T : Tg) : MS := fun E ρ M => m ρ M (fun d M1 => T.mg d ρ M1 fun ρ' => E.nx ρ' M1) (fun x M1 => E.ex x ρ M1)
theorem qs_set {i : Nat} {x : Str} {pos' : Pos} (hN : X.N.Nodup) (hi : X.N[i]? = some x) (hx : Loc X.env.scope x) (he : QE X W e me) (hs : swapsWith e (some (.Name x pos')) pos.line X.env = pure false := by rfl) (hf : X.fn x = true ∨ X.env.scope.names.lookup x = some .local := by first | exact .inl rfl | exact .inr rfl | assumption) :
    QS X W (.Assign [.Name x pos'] e pos) (mSet i me) := PSi (ps_set hN hi hx he hs hf) fun D σ H ⟨as, M, ρ, E, r, rs, h, hE⟩ =>
  lf_bind r rs h (exS hE rs) fun d M1 as1 H1 v h1 e1 r1 rs1 rv => hE.nx _ _ h1 as1 H1 _ e1 r1 (rs1.set rv)
def mPar (i j : Nat) (ma : MA) : MS := fun E ρ M => ma ρ M (fun ds M1 => match ds with | [d, e] => E.nx ((ρ.set i (some d)).set j (some e)) M1 | _ => False) (fun x M1 => E.ex x ρ M1)
theorem qs_par {i j : Nat} {x y : Str} {a b : Expr} {ma : MA} {px py pt : Pos} {kt k2 pt2} (hc : X.calm = true) (hN : X.N.Nodup) (hi : X.N[i]? = some x) (hj : X.N[j]? = some y) (hij : i ≠ j)
    (hx : X.env.scope.names.lookup x = some .local) (hy : X.env.scope.names.lookup y = some .local) (ha : QA X W [a, b] ma)
    (hw : swappedStores [.Tuple [.Name x px, .Name y py] kt pt] (.Tuple [a, b] k2 pt2) X.env = pure (some [x, y]))
    (hs : swapsWithSole [.Tuple [.Name x px, .Name y py] kt pt] (.Tuple [a, b] k2 pt2) pos.line X.env = pure false := by rfl) :
    QS X W (.Assign [.Tuple [.Name x px, .Name y py] kt pt] (.Tuple [a, b] k2 pt2) pos) (mPar i j ma) := PSi (ps_par hc hN hi hj hij hx hy ha hw hs) fun D σ H ⟨as, M, ρ, E, r, rs, h, hE⟩ => by
  refine lfA_bind r rs h (exS hE rs) fun ds M1 as1 H1 vs h1 e1 r1 rs1 rv => ?_
  split at h1
  · obtain ⟨v, w, rfl, r2, r3⟩ := rv.two
    exact ⟨v, w, rfl, hE.nx _ _ h1 as1 H1 _ e1 r1 ((rs1.set r2).set r3)⟩
  · exact h1.elim
def oSetIx (o i v : D) (M : Mem) (N : Mem → Prop) : Prop := match o with
  | .ref n => match M[n]? with
    | some (.lst ds) => match i with
      | .int k => match ixN ds.length k with
        | some j => N (M.set n (.lst (ds.set j v)))
        | none => False
      | _ => False
    | some (.dct false kvs) => match keyOf i with
      | some q => kvs.length < 16000000 ∧ N (M.set n (.dct false (dput kvs q v)))
      | none => False
    | _ => False
  | _ => False
def mSetIx (mv mo mi : ME) : MS := fun E ρ M => mv ρ M (fun v M1 => mo ρ M1 (fun o M2 => mi ρ M2 (fun i M3 => oSetIx o i v M3 fun M4 => E.nx ρ M4) (fun x M3 => E.ex x ρ M3)) (fun x M2 => E.ex x ρ M2)) (fun x M1 => E.ex x ρ M1)
def rSetD : TSet := fun o y v H Q => ∃ a H', o = .ref a ∧ DPut H a y v H' ∧ Q H'
theorem set_dict (hu : X.A.units + 1 < cLine) : PSet X rSetD := fun pins s σ H o i v ov iv u Q I ro ri rv h => by
  obtain ⟨a, H', rfl, g, q⟩ := h
  obtain rfl : ov = Value.ref a := ro
  exact d_setItem hu I g ri rv fun s4 I4 => ⟨H', I4, q⟩
theorem PSet_or {t u : TSet} (h : PSet X t) (h' : PSet X u) : PSet X (fun o i v H Q => t o i v H Q ∨ u o i v H Q) := fun pins s σ H o i v ov iv w Q I ro ri rv q => by
  rcases q with q | q
  · exact h pins s σ H o i v ov iv w Q I ro ri rv q
  · exact h' pins s σ H o i v ov iv w Q I ro ri rv q
theorem nfrz_lst {H : Hp} {a : Addr} {xs : List V} (h : H a = some (.lst xs)) : ∀ ob w, H a ≠ some (.frz ob w) := fun ob w z => by rw [h] at z; cases z
theorem nfrz_dK {H : Hp} {a : Addr} {xs : List (Key × V)} (h : H a = some (.dK xs)) : ∀ ob w, H a ≠ some (.frz ob w) := fun ob w z => by rw [h] at z; cases z
theorem nfrz_ins {H : Hp} {a C dx : Addr} {xs : List (Str × V)} (h : H a = some (.ins C dx xs)) : ∀ ob w, H a ≠ some (.frz ob w) := fun ob w z => by rw [h] at z; cases z
/-- a list is written -/
theorem put_lst {K : PySem.W.Frag} {as : List Addr} {H : Hp} {M : Mem} {n : Nat} {a : Addr} {xs ys : List V} {ds : List D} (rp : RepM K as H M) (hn : as[n]? = some a) (h1 : H a = some (.lst xs)) (r : RelL K as H ds ys) :
    Ext K as H as (upd H a (.lst ys)) ∧ RepM K as (upd H a (.lst ys)) (M.set n (.lst ds)) :=
  have e := ext_put (u := .lst ys) rp hn (nfrz_lst h1)
  ⟨e, rp.put hn (nfrz_lst h1) ⟨ys, upd_same, r.up e⟩⟩
theorem put_dct {K : PySem.W.Frag} {as : List Addr} {H : Hp} {M : Mem} {n : Nat} {a : Addr} {xs ys : List (Key × V)} {ds : List (Key × D)} (rp : RepM K as H M) (hn : as[n]? = some a) (h1 : H a = some (.dK xs)) (r : KVR K as H ds ys) :
    Ext K as H as (upd H a (.dK ys)) ∧ RepM K as (upd H a (.dK ys)) (M.set n (.dct false ds)) :=
  have e := ext_put (u := .dK ys) rp hn (nfrz_dK h1)
  ⟨e, rp.put hn (nfrz_dK h1) ⟨ys, r.up e, upd_same⟩⟩
theorem at_dK {K : PySem.W.Frag} {as : List Addr} {H : Hp} {M : Mem} {n : Nat} {a : Addr} {kvs : List (Key × D)} (rp : RepM K as H M) (hn : as[n]? = some a) (e : M[n]? = some (.dct false kvs)) : ∃ ks, KVR K as H kvs ks ∧ H a = some (.dK ks) := by
  obtain ⟨a', ha, ks, h1, h2⟩ := rp.at_ e
  rw [hn] at ha; cases ha
  exact ⟨ks, h1, h2⟩
theorem setIx_ok {K : PySem.W.Frag} {as : List Addr} {H : Hp} {M : Mem} {o i v : D} {vo vi vv : V} {N : Mem → Prop} {Q : Hp → Prop} (rp : RepM K as H M) (ro : Rel K as H o vo) (ri : Rel K as H i vi) (rv : Rel K as H v vv) (h : oSetIx o i v M N)
    (hq : ∀ M' H', N M' → Ext K as H as H' → RepM K as H' M' → Q H') : rSetL vo vi vv H Q ∨ rSetD vo vi vv H Q := by
  cases ro <;> first | exact h.elim | skip
  rename_i n a hn
  dsimp only [oSetIx] at h
  split at h
  · rename_i ds e
    cases ri <;> first | exact h.elim | skip
    rename_i k
    dsimp only at h
    split at h
    · rename_i j ej
      obtain ⟨xs, h1, h2⟩ := at_lst rp hn e
      obtain ⟨e1, r1⟩ := put_lst rp hn h1 (h2.set rv j)
      exact .inl ⟨a, xs, k, j, rfl, rfl, h1, by rw [← h2.len]; exact ej, hq _ _ h e1 r1⟩
    · exact h.elim
  · rename_i kvs e
    split at h
    · rename_i q0 eq
      obtain ⟨ks, h1, h2⟩ := at_dK rp hn e
      obtain ⟨e1, r1⟩ := put_dct rp hn h2 (h1.put q0 rv)
      refine .inr ⟨a, _, rfl, .inl ⟨ks, q0, h2, keyOf_ok ri eq, ?_, rfl⟩, hq _ _ h.2 e1 r1⟩
      rw [← h1.len]; exact Nat.lt_of_lt_of_le h.1 (by decide)
    · exact h.elim
  · exact h.elim
theorem qs_setIx {o i : Expr} {mo mi : ME} {pos' : Pos} (hu : X.A.units + 1 < cLine) (he : QE X W e me) (ho : QE X W o mo) (hi : QE X W i mi)
    (ha : ∀ v, assign (.Subscript o i pos') X.env v = (do
      let ov ← holding [v] (eval o X.env)
      let iv ← holding [v, ov] (eval i X.env)
      standAt pos'
      holding [v, ov, iv] (setItem ov iv v)
      release [v, ov, iv] []) := by intro _; rfl)
    (hs : swapsWithSole [.Subscript o i pos'] e pos.line X.env = pure false := by rfl) (hw : swappedStores [.Subscript o i pos'] e X.env = pure none := by rfl)
    (h1 : (assignEach [.Subscript o i pos'] X.env).map (·.2) = [assign (.Subscript o i pos') X.env] := by rfl) : QS X W (.Assign [.Subscript o i pos'] e pos) (mSetIx me mo mi) :=
  PSi (ps_asg he (pg_sub ho hi (PSet_or set_list (set_dict hu)) ha) hs hw h1) fun D σ H ⟨as, M, ρ, E, r, rs, h, hE⟩ => by
    refine lf_bind r rs h (exS hE rs) fun v M1 as1 H1 vv h1 e1 r1 rs1 rv => ?_
    refine lf_bind r1 rs1 h1 (fun x M' q => (exS hE rs x M' q).mono e1) fun o M2 as2 H2 vo h2 e2 r2 rs2 ro => ?_
    refine lf_bind r2 rs2 h2 (fun x M' q => (exS hE rs x M' q).mono (e1.trans e2)) fun i M3 as3 H3 vi h3 e3 r3 rs3 ri => ?_
    exact setIx_ok r3 (ro.up e3) ri (rv.up (e2.trans e3)) h3 fun M' H' q e4 r4 => hE.nx _ _ q as3 H' _ (((e1.trans e2).trans e3).trans e4) r4 (rs3.up e4)
end
end MV
namespace MV
open PySem PySem.Spec PyProof.Rows L2
abbrev MI := Ev → Mem → (List D → (Mem → Prop) → Mem → Prop) → XM → Prop
/-- J walks the items while guard stands -/
def ItOk (K : PySem.W.Frag) (as : List Addr) (H : Hp) (J : It) (items : List D) (guard : Mem → Prop) : Prop := ∀ (as' : List Addr) (H' : Hp) (M' : Mem) (i : Nat), Ext K as H as' H' → RepM K as' H' M' → guard M' →
  (i = items.length → J.stop i H') ∧ ∀ d, items[i]? = some d → J.go i H' ∧ ∀ x H2, J.yld i H' x H2 → Ext K as' H' as' H2 ∧ RepM K as' H2 M' ∧ Rel K as' H2 d x
def lfI (K : PySem.W.Frag) (W : WX) (m : MI) : TI := fun σ H R => ∃ as M ρ k X', RepM K as H M ∧ RelS K as H ρ σ ∧ m ρ M k X' ∧
  (∀ items guard M' as' H' J, k items guard M' → Ext K as H as' H' → RepM K as' H' M' → ItOk K as' H' J items guard → R J H') ∧ ∀ x M', X' x M' → LX K as H (fun c d H => W c d σ H) x M'
abbrev QI (X : Cx) (W : WX) (tg iter : Expr) (m : MI) : Prop := PI X tg iter (lfI X.K W m)
theorem PIi {X : Cx} {tg e : Expr} {t t' : TI} (h : PI X tg e t) (i : ∀ σ H R, t' σ H R → t σ H R) : PI X tg e t' := ⟨fun pins s σ H R I q => h.run pins s σ H R I (i σ H R q)⟩
def mForL (guard : Mem → Prop) (T : Tg) (b : MS) (E : Nd) : List D → Ev → Mem → Prop
  | [], ρ, M => guard M ∧ E.nx ρ M
  | d :: ds, ρ, M => guard M ∧ T.mg d ρ M fun ρ1 => b ⟨fun ρ2 M2 => mForL guard T b E ds ρ2 M2, E.rt, E.nx, fun ρ2 M2 => mForL guard T b E ds ρ2 M2, E.ex⟩ ρ1 M
def mFor (mi : MI) (T : Tg) (b : MS) : MS := fun E ρ M => mi ρ M (fun items guard M1 => mForL guard T b E items ρ M1) (fun x M1 => E.ex x ρ M1)
theorem drop_cons {α : Type} {l : List α} {i : Nat} (h : i < l.length) : l.drop i = l[i] :: l.drop (i + 1) := List.drop_eq_getElem_cons h
section
variable {X : Cx} {W : WX} {tg iter : Expr} {body : List Stmt} {mi : MI} {T : Tg} {mb : MS} {pos : Pos}
theorem qs_for (hp : PassesOwn (model X.prog X.w) X.A X.env X.xe) (hc : X.calm = true) (hi : QI X W tg iter mi) (hg : QG X tg T) (hb : QSs X W body mb) (hs : ∀ x, foldedSetIterable iter X.env x = pure x := by intro _; rfl) :
    QS X W (.For tg iter body [] pos) (mFor mi T mb) := PSi (ps_for hp hc hi hg hb hs) fun D σ H ⟨as, M, ρ, E, r, rs, h, hE⟩ => by
  refine ⟨as, M, ρ, _, _, r, rs, h, fun items guard M1 as1 H1 J h1 e1 r1 ok => ?_, exS hE rs⟩
  refine ⟨fun i m σ' H' => ∃ as' M' ρ', Ext X.K as1 H1 as' H' ∧ RepM X.K as' H' M' ∧ RelS X.K as' H' ρ' σ' ∧ i + m = items.length ∧ mForL guard T mb E (items.drop i) ρ' M', ⟨items.length, as1, M1, ρ, .refl, r1, rs.up e1, by simp, h1⟩, ?_⟩
  rintro i m σ' H' ⟨as', M', ρ', e', r', rs', hm, h'⟩
  by_cases hl : i < items.length
  · right
    rw [drop_cons hl] at h'
    obtain ⟨hgd, h'⟩ := h'
    obtain ⟨_, ok2⟩ := ok as' H' M' i e' r' hgd
    obtain ⟨go, yld⟩ := ok2 _ (List.getElem?_eq_getElem hl)
    refine ⟨go, fun σ2 H2 => ∃ as2 M2 ρ2, Ext X.K as1 H1 as2 H2 ∧ RepM X.K as2 H2 M2 ∧ RelS X.K as2 H2 ρ2 σ2 ∧ mForL guard T mb E (items.drop (i + 1)) ρ2 M2, fun σ2 H2 ⟨as2, M2, ρ2, a, b, c, d⟩ => ⟨m - 1, by omega, as2, M2, ρ2, a, b, c, by omega, d⟩, fun x H2 y => ?_⟩
    obtain ⟨e2, r2, rx⟩ := yld x H2 y
    refine T.sim r2 (rs'.up e2) rx h' fun ρ3 σ3 h3 rs3 => ?_
    have e3 := e'.trans e2
    exact ⟨as', M', ρ3, _, r2, rs3, h3, ⟨fun ρ4 M4 q as4 H4 σ4 e4 r4 rs4 => ⟨as4, M4, ρ4, e3.trans e4, r4, rs4, q⟩, (hE.mono (e1.trans e3)).rt, (hE.mono (e1.trans e3)).nx, fun ρ4 M4 q as4 H4 σ4 e4 r4 rs4 => ⟨as4, M4, ρ4, e3.trans e4, r4, rs4, q⟩, (hE.mono (e1.trans e3)).ex⟩⟩
  · left
    have hi' : i = items.length := by omega
    rw [List.drop_eq_nil_of_le (by omega)] at h'
    exact ⟨(ok as' H' M' i e' r' h'.1).1 hi', hE.nx _ _ h'.2 as' H' σ' (e1.trans e') r' rs'⟩
def mWhile (c : MT) (b : MS) : MS := fun E ρ M => ∃ I : Nat → Ev → Mem → Prop, (∃ m, I m ρ M) ∧ ∀ m ρ M, I m ρ M →
  c ρ M (fun k M1 => if k = true then ∃ N : Ev → Mem → Prop, (∀ ρ' M', N ρ' M' → ∃ m', m' < m ∧ I m' ρ' M') ∧ b ⟨N, E.rt, E.nx, N, E.ex⟩ ρ M1 else E.nx ρ M1) (fun x M1 => E.ex x ρ M1)
theorem qs_while {c : Expr} {mc : MT} (hp : PassesOwn (model X.prog X.w) X.A X.env X.xe) (hc : QT X W c mc) (hb : QSs X W body mb) : QS X W (.While c body [] pos) (mWhile mc mb) := PSi (ps_while hp hc hb) fun D σ H ⟨as, M, ρ, E, r, rs, h, hE⟩ => by
  obtain ⟨I, ⟨m0, i0⟩, hI⟩ := h
  refine ⟨fun m σ' H' => ∃ as' M' ρ', Ext X.K as H as' H' ∧ RepM X.K as' H' M' ∧ RelS X.K as' H' ρ' σ' ∧ I m ρ' M', ⟨m0, as, M, ρ, .refl, r, rs, i0⟩, ?_⟩
  rintro m σ' H' ⟨as', M', ρ', e', r', rs', h'⟩
  refine lfT_bind r' rs' (hI m ρ' M' h') (exS (hE.mono e') rs') fun k M1 as1 H1 h1 e1 r1 rs1 => ?_
  cases k with
  | true =>
    rw [if_pos rfl] at h1 ⊢
    obtain ⟨N, hN, h1⟩ := h1
    have e2 := e'.trans e1
    refine ⟨fun σ2 H2 => ∃ as2 M2 ρ2, Ext X.K as H as2 H2 ∧ RepM X.K as2 H2 M2 ∧ RelS X.K as2 H2 ρ2 σ2 ∧ N ρ2 M2, fun σ2 H2 ⟨as2, M2, ρ2, a, b, c, d⟩ => ?_, ?_⟩
    · obtain ⟨m', hm, hI'⟩ := hN ρ2 M2 d
      exact ⟨m', hm, as2, M2, ρ2, a, b, c, hI'⟩
    · exact ⟨as1, M1, ρ', _, r1, rs1, h1, ⟨fun ρ4 M4 q as4 H4 σ4 e4 r4 rs4 => ⟨as4, M4, ρ4, e2.trans e4, r4, rs4, q⟩, (hE.mono e2).rt, (hE.mono e2).nx, fun ρ4 M4 q as4 H4 σ4 e4 r4 rs4 => ⟨as4, M4, ρ4, e2.trans e4, r4, rs4, q⟩, (hE.mono e2).ex⟩⟩
  | false =>
    rw [if_neg Bool.false_ne_true] at h1 ⊢
    exact hE.nx _ _ h1 as1 H1 _ (e'.trans e1) r1 rs1
end
def mISeq (me : ME) : MI := fun ρ M k X => me ρ M (fun x M1 => match x with
  | .tup ds => k ds (fun _ => True) M1
  | .str z => k (z.cps.toList.map fun c => .str ⟨#[c]⟩) (fun _ => True) M1
  | .ref n => match M1[n]? with
    | some (.lst ds) => k ds (fun M => M[n]? = some (.lst ds)) M1
    | some (.frz ds) => k ds (fun M => M[n]? = some (.frz ds)) M1
    | some (.dct true kvs) => k (kvs.map fun kv => kD kv.1) (fun M => M[n]? = some (.dct true kvs)) M1
    | _ => False
  | _ => False) X
def iSeqA (K : PySem.W.Frag) (tl : TE) : TI := fun σ H R => tl σ H fun x H1 =>
  (∃ a, x = .ref a ∧ (∃ xs, SqL K H1 a xs) ∧ R (Itl K a) H1) ∨ (∃ a, x = .ref a ∧ (∃ xs, SqT K H1 a xs) ∧ R (Itt K a) H1) ∨ (∃ z, x = .str z ∧ R (Its z) H1) ∨
  ∃ d o kvs, x = .ref d ∧ H1 d = some (.frz o (.dK kvs)) ∧ R (Itk d o kvs) H1
section
variable {X : Cx} {W : WX} {tg e e2 : Expr} {me : ME} {pos : Pos}
theorem pi_seqA {tl : TE} (hl : PE X e tl) : PI X tg e (iSeqA X.K tl) := by
  refine ⟨fun pins s σ H R I h => ?_⟩
  refine thn (hl.run pins s σ H _ I h) fun v s1 ⟨x, H1, I1, r1, q1⟩ => ?_
  rcases q1 with ⟨a, e, ⟨xs, hq⟩, q⟩ | ⟨a, e, ⟨xs, hq⟩, q⟩ | ⟨z, e, q⟩ | ⟨d, o, kvs, e, hd, q⟩
  · subst e
    cases r1
    obtain ⟨its, rv, p, hz⟩ := I1.list hq
    refine wpAny_pyIter_list p.isList ?_
    refine ⟨s1.heap.objs.size, [s1.heap.objs.size], _, _, H1, rfl, I1.kept (t' := s1.toks) fun b o e => Heap.get?_push_of_some _ e, turn_list a _, ⟨_, Heap.get?_push_size _ rfl, rfl, rfl⟩, fun b hb => ?_, q⟩
    have e : b = s1.heap.objs.size := by simpa using hb
    subst e
    exact I1.fpOk (Nat.le_refl _) (I1.hok.fresh (Nat.le_refl _))
  · subst e
    cases r1
    obtain ⟨its, rv, p, hz⟩ := I1.tuple hq
    refine wpAny_pyIter_tuple (show s1.heap.IsTuple a its.toArray from p) ?_
    refine ⟨s1.heap.objs.size, [s1.heap.objs.size], _, _, H1, rfl, I1.kept (t' := s1.toks) fun b o e => Heap.get?_push_of_some _ e, turn_tuple a _, ⟨_, Heap.get?_push_size _ rfl, rfl, rfl⟩, fun b hb => ?_, q⟩
    have e : b = s1.heap.objs.size := by simpa using hb
    subst e
    exact I1.fpOk (Nat.le_refl _) (I1.hok.fresh (Nat.le_refl _))
  · subst e
    obtain ⟨t, rfl⟩ := r1
    cases ha : z.cps.all (· < 128)
    · exact wpAny_pyIter_wide ha (pi_one (tk := s1.toks) I1 _ (turn_str _ z t "str_iterator" (.inr rfl)) ⟨_, Heap.get?_push_size _ rfl, rfl, rfl⟩ q)
    · exact wpAny_pyIter_ascii ha (pi_one (tk := s1.toks) I1 _ (turn_str _ z t "str_ascii_iterator" (.inl rfl)) ⟨_, Heap.get?_push_size _ rfl, rfl, rfl⟩ q)
  · subst e
    obtain rfl : v = Value.ref d := r1
    obtain ⟨hs, hgd, hx, es, ep, vs, hdt, hsz, kv, hm⟩ := I1.frzK hd
    refine iter_keys hs hgd hx hdt (pi_one (tk := s1.toks) I1 _ (turn_keys _ hdt) ⟨_, Heap.get?_push_size _ rfl, rfl, ?_⟩ q)
    rw [hsz] <;> rfl
theorem itok_lst {K : PySem.W.Frag} {as : List Addr} {H : Hp} {n : Nat} {a : Addr} {ds : List D} (hn : as[n]? = some a) : ItOk K as H (Itl K a) ds (fun M => M[n]? = some (.lst ds)) := fun as' H' M' i e r g => by
  obtain ⟨xs, h1, h2⟩ := at_lst r (pre_get e.pre hn) g
  refine ⟨fun hi => ⟨xs, SqL.of h1, by rw [← h2.len]; omega⟩, fun d hd => ?_⟩
  obtain ⟨v, hv, rv⟩ := h2.get hd
  refine ⟨⟨xs, v, SqL.of h1, hv⟩, fun x H2 ⟨e2, y⟩ => ?_⟩
  have e3 := y xs (SqL.of h1)
  rw [hv] at e3; cases e3
  subst e2
  exact ⟨.refl, r, rv⟩
theorem itok_frz {K : PySem.W.Frag} {as : List Addr} {H : Hp} {n : Nat} {a : Addr} {ds : List D} (hn : as[n]? = some a) : ItOk K as H (Itl K a) ds (fun M => M[n]? = some (.frz ds)) := fun as' H' M' i e r g => by
  obtain ⟨ob, xs, h1, h2⟩ := at_frz r (pre_get e.pre hn) g
  refine ⟨fun hi => ⟨xs, .inl (.inr ⟨ob, h1⟩), by rw [← h2.len]; omega⟩, fun d hd => ?_⟩
  obtain ⟨v, hv, rv⟩ := h2.get hd
  refine ⟨⟨xs, v, .inl (.inr ⟨ob, h1⟩), hv⟩, fun x H2 ⟨e2, y⟩ => ?_⟩
  have e3 := y xs (.inl (.inr ⟨ob, h1⟩))
  rw [hv] at e3; cases e3
  subst e2
  exact ⟨.refl, r, rv⟩
theorem itok_tup {K : PySem.W.Frag} {as : List Addr} {H : Hp} {a : Addr} {ds : List D} {xs : List V} (hs : SqT K H a xs) (hl : RelL K as H ds xs) : ItOk K as H (Itt K a) ds (fun _ => True) := fun as' H' M' i e r g => by
  have h1 := e.tup _ _ hs
  have h2 := hl.up e
  refine ⟨fun hi => ⟨xs, h1, by rw [← h2.len]; omega⟩, fun d hd => ?_⟩
  obtain ⟨v, hv, rv⟩ := h2.get hd
  refine ⟨⟨xs, v, h1, hv⟩, fun x H2 ⟨e2, y⟩ => ?_⟩
  have e3 := y xs h1
  rw [hv] at e3; cases e3
  subst e2
  exact ⟨.refl, r, rv⟩
theorem itok_str {K : PySem.W.Frag} {as : List Addr} {H : Hp} {z : Str} : ItOk K as H (Its z) (z.cps.toList.map fun c => .str ⟨#[c]⟩) (fun _ => True) := fun as' H' M' i e r g => by
  refine ⟨fun hi => ?_, fun d hd => ?_⟩
  · simp at hi
    show z.cps.size ≤ i
    omega
  · rw [List.getElem?_map] at hd
    cases hc : z.cps.toList[i]? with
    | none => rw [hc] at hd; cases hd
    | some c =>
      rw [hc] at hd
      simp only [Option.map_some, Option.some.injEq] at hd
      have hc2 : z.cps[i]? = some c := by rw [← hc]; simp
      refine ⟨(Array.getElem?_eq_some_iff.mp hc2).1, fun x H2 ⟨e2, c', hc', hx⟩ => ?_⟩
      rw [hc2] at hc'; cases hc'
      subst e2 hx hd
      exact ⟨.refl, r, .str _⟩
theorem itok_keys {K : PySem.W.Frag} {as : List Addr} {H : Hp} {n : Nat} {a : Addr} {o : Obj} {kvs : List (Key × D)} {ks : List (Key × V)} (h2 : H a = some (.frz o (.dK ks))) (h1 : KVR K as H kvs ks) : ItOk K as H (Itk a o ks) (kvs.map fun kv => kD kv.1) (fun M => M[n]? = some (.dct true kvs)) := fun as' H' M' i e r g => by
  have h3 := e.frz _ _ _ h2
  have h4 := (h1.up e)
  refine ⟨fun hi => ⟨h3, by rw [← h4.len]; simp at hi; omega⟩, fun d hd => ?_⟩
  obtain ⟨v, hv, rv⟩ := h4.keys.get hd
  rw [List.getElem?_map] at hv
  cases hk : ks[i]? with
  | none => rw [hk] at hv; cases hv
  | some kv =>
    rw [hk] at hv
    simp only [Option.map_some, Option.some.injEq] at hv
    refine ⟨⟨h3, (List.getElem?_eq_some_iff.mp hk).1⟩, fun x H2 ⟨e2, k', v', hk', hx⟩ => ?_⟩
    rw [hk] at hk'; cases hk'
    subst e2 hx hv
    exact ⟨.refl, r, rv⟩
theorem qi_seq (he : QE X W e me) : QI X W tg e (mISeq me) := PIi (pi_seqA he) fun σ H R ⟨as, M, ρ, k, X', r, rs, h, hq, hx⟩ => by
  refine lf_bind r rs h hx fun d M1 as1 H1 v h1 e1 r1 rs1 rv => ?_
  cases rv with
  | tup hs hl => exact .inr (.inl ⟨_, rfl, ⟨_, hs.1⟩, hq _ _ M1 as1 H1 _ h1 e1 r1 (itok_tup hs.1 hl)⟩)
  | str z => exact .inr (.inr (.inl ⟨z, rfl, hq _ _ M1 as1 H1 _ h1 e1 r1 itok_str⟩))
  | ref hn =>
    dsimp only at h1
    split at h1
    · rename_i ds e2
      obtain ⟨xs, h2, h3⟩ := at_lst r1 hn e2
      exact .inl ⟨_, rfl, ⟨xs, SqL.of h2⟩, hq _ _ M1 as1 H1 _ h1 e1 r1 (itok_lst hn)⟩
    · rename_i ds e2
      obtain ⟨ob, xs, h2, h3⟩ := at_frz r1 hn e2
      exact .inl ⟨_, rfl, ⟨xs, .inl (.inr ⟨ob, h2⟩)⟩, hq _ _ M1 as1 H1 _ h1 e1 r1 (itok_frz hn)⟩
    · rename_i kvs e2
      obtain ⟨a', ha, ks, h2, ob, h3⟩ := r1.at_ e2
      rw [hn] at ha; cases ha
      exact .inr (.inr (.inr ⟨_, ob, ks, rfl, h3, hq _ _ M1 as1 H1 _ h1 e1 r1 (itok_keys h3 h2)⟩))
    · exact h1.elim
  | _ => exact h1.elim
def rangeD (lo : Int) (n : Nat) : List D := (List.range n).map fun i => .int (lo + (i : Nat))
def mIRng1 (ma : MA) : MI := fun ρ M k X => ma ρ M (fun ds M1 => match ds with | [.int j] => (-(2 ^ 62) ≤ j ∧ j < 2 ^ 62) ∧ k (rangeD 0 j.toNat) (fun _ => True) M1 | _ => False) X
def mIRng2 (ma : MA) : MI := fun ρ M k X => ma ρ M (fun ds M1 => match ds with | [.int i, .int j] => (-(2 ^ 62) ≤ i ∧ i < 2 ^ 62 ∧ -(2 ^ 62) ≤ j ∧ j < 2 ^ 62) ∧ k (rangeD i (j - i).toNat) (fun _ => True) M1 | _ => False) X
theorem itok_rng {K : PySem.W.Frag} {as : List Addr} {H : Hp} {lo : Int} {n : Nat} : ItOk K as H (Itr lo n) (rangeD lo n) (fun _ => True) := fun as' H' M' i e r g => by
  refine ⟨fun hi => ?_, fun d hd => ?_⟩
  · simp [rangeD] at hi
    show n ≤ i
    omega
  · have hl : i < n := by
      have := (List.getElem?_eq_some_iff.mp hd).1
      simpa [rangeD] using this
    refine ⟨hl, fun x H2 ⟨e2, hx⟩ => ?_⟩
    subst e2 hx
    simp only [rangeD, List.getElem?_map, List.getElem?_range hl, Option.map_some, Option.some.injEq] at hd
    subst hd
    exact ⟨.refl, r, .int _⟩
theorem qi_range1 {ma : MA} {p : Pos} (hg : Gl X "range") (hm : X.mg "range" = none) (ha : QA X W [e] ma) (hs : starEach [e] X.env = [(false, eval e X.env)] := by rfl) : QI X W tg (.Call (.Name "range" p) [e] [] pos) (mIRng1 ma) :=
  PIi (pi_range1 hg hm ha hs) fun σ H R ⟨as, M, ρ, k, X', r, rs, h, hq, hx⟩ => by
    refine lfA_bind r rs h hx fun ds M1 as1 H1 vs h1 e1 r1 rs1 rv => ?_
    split at h1
    · obtain ⟨v, rfl, rx⟩ := rv.one
      cases rx
      exact ⟨_, rfl, h1.1.1, h1.1.2, hq _ _ M1 as1 H1 _ h1.2 e1 r1 itok_rng⟩
    · exact h1.elim
def enumD (ds : List D) : List D := ds.mapIdx fun i d => .tup [.int (i : Nat), d]
def mIEnumT (ma : MA) : MI := fun ρ M k X => ma ρ M (fun ds M1 => match ds with
  | [.tup ds] => k (enumD ds) (fun _ => True) M1
  | _ => False) X
end
end MV
namespace MV
open PySem PySem.Spec PyProof.Rows L2
section
variable {X : Cx} {W : WX} {st : Stmt} {e : Expr}
end
end MV
namespace MV
open PySem PySem.Spec PyProof.Rows L2
def wipeE (ρ : Ev) : List Nat → Ev
  | [] => ρ
  | v :: vs => (wipeE ρ vs).set v none
def mYes : MT := fun _ M Q _ => Q true M
def noX : XM := fun _ _ => False
def mLcL (guard : Mem → Prop) (T : Tg) (tt : MT) (me : ME) (ρ : Ev) (n : Nat) (Q : Mem → Prop) : List D → Mem → Prop
  | [], M => guard M ∧ Q M
  | d :: ds, M => guard M ∧ T.mg d ρ M fun ρ2 => tt ρ2 M (fun b M3 => if b = true then me ρ2 M3 (fun y M4 => match M4[n]? with
      | some (.lst acc) => acc.length < 16000000 ∧ mLcL guard T tt me ρ n Q ds (M4.set n (.lst (acc ++ [y])))
      | _ => False) noX else mLcL guard T tt me ρ n Q ds M3) noX
def mLc (mi : MI) (T : Tg) (tt : MT) (me : ME) (vs : List Nat) : ME := fun ρ M Q X => mi ρ M (fun items guard M1 => mLcL guard T tt me (wipeE ρ vs) M1.length (fun M2 => Q (.ref M1.length) M2) items (M1 ++ [.lst []])) X
abbrev W0 : WX := fun _ _ _ _ => False
section
variable {K : PySem.W.Frag} {as : List Addr} {H : Hp} {M : Mem}
theorem RelS.wipe {ρ : Ev} {σ : L2.St} (r : RelS K as H ρ σ) : ∀ vs : List Nat, RelS K as H (wipeE ρ vs) (L2.wipe σ vs)
  | [] => r
  | v :: vs => (RelS.wipe r vs).unset
theorem noX_ok {σ : L2.St} : ∀ x M', noX x M' → LX K as H (fun c d H => W0 c d σ H) x M' := fun _ _ h => h.elim
theorem lf_lc {W : WX} {mi : MI} {T : Tg} {tt : MT} {me : ME} {vs : List Nat} (hT : ∀ i ∈ T.slots, i ∈ vs) {σ : L2.St} {H : Hp} {Q : VK} (h : lf K W (mLc mi T tt me vs) σ H Q) : tLc (lfI K W mi) (T.rd K) (lfT K W0 tt) (lf K W0 me) vs σ H Q := by
  obtain ⟨as, M, ρ, Q', X', r, rs, h, hq, hx⟩ := h
  refine ⟨as, M, ρ, _, X', r, rs, h, fun items guard M1 as1 H1 J h1 e1 r1 ok D hD => ?_, hx⟩
  have rD : RepM K (as1 ++ [D]) (upd H1 D (.lst [])) (M1 ++ [.lst []]) := r1.new (o := .lst []) hD ⟨[], upd_same, .nil⟩
  have eD : Ext K as1 H1 (as1 ++ [D]) (upd H1 D (.lst [])) := (ext_new hD).trans ext_app
  have nD : (as1 ++ [D])[M1.length]? = some D := by rw [← r1.len]; exact app_at
  refine ⟨fun i m H' => ∃ as' M', Ext K (as1 ++ [D]) (upd H1 D (.lst [])) as' H' ∧ RepM K as' H' M' ∧ i + m = items.length ∧ mLcL guard T tt me (wipeE ρ vs) M1.length (fun M2 => Q' (.ref M1.length) M2) (items.drop i) M', ⟨items.length, _, _, .refl, rD, by simp, h1⟩, ?_⟩
  rintro i m H' ⟨as', M', e', r', hm, h'⟩
  have e2 := eD.trans e'
  have nD' := pre_get e'.pre nD
  by_cases hl : i < items.length
  · right
    rw [drop_cons hl] at h'
    obtain ⟨hgd, h'⟩ := h'
    obtain ⟨_, ok2⟩ := ok as' H' M' i e2 r' hgd
    obtain ⟨go, yld⟩ := ok2 _ (List.getElem?_eq_getElem hl)
    refine ⟨go, fun H2 => ∃ as2 M2, Ext K (as1 ++ [D]) (upd H1 D (.lst [])) as2 H2 ∧ RepM K as2 H2 M2 ∧ mLcL guard T tt me (wipeE ρ vs) M1.length (fun M2 => Q' (.ref M1.length) M2) (items.drop (i + 1)) M2, fun H2 ⟨as2, M2, a, b, c⟩ => ⟨m - 1, by omega, as2, M2, a, b, by omega, c⟩, fun x H2 y => ?_⟩
    obtain ⟨e3, r3, rx⟩ := yld x H2 y
    have e4 := e'.trans e3
    have rs3 : RelS K as' H2 (wipeE ρ vs) (L2.wipe σ vs) := (rs.up (e1.trans (e2.trans e3))).wipe vs
    refine T.keep hT (fun σ2 H2' ew q => ⟨?_, q⟩) (T.sim r3 rs3 rx h' fun ρ4 σ4 h4 rs4 => ?_)
    · rw [ew]
      have : ∀ (vs : List Nat) (τ : L2.St), L2.wipe (L2.wipe τ vs) vs = L2.wipe τ vs := fun vs τ => by
        apply List.ext_getElem?
        intro j
        by_cases hj : j ∈ vs
        · have key : ∀ (us : List Nat) (τ : L2.St), j ∈ us → (L2.wipe τ us)[j]? = (if j < τ.length then some none else none) := fun us τ hj => by
            induction us with
            | nil => cases hj
            | cons u us ih =>
              show ((L2.wipe τ us).set u none)[j]? = _
              by_cases hu : u = j
              · subst hu
                by_cases hl : u < τ.length
                · rw [List.getElem?_set_self (by rw [wipe_length]; exact hl), if_pos hl]
                · rw [List.getElem?_eq_none_iff.mpr (by rw [List.length_set, wipe_length]; omega), if_neg hl]
              · rw [List.getElem?_set_ne hu]
                exact ih (by rcases List.mem_cons.mp hj with z | z; exact absurd z.symm hu; exact z)
          rw [key vs _ hj, key vs _ hj, wipe_length]
        · rw [wipe_out hj]
      exact this vs σ
    · refine lfT_bind r3 rs4 h4 noX_ok fun b M3 as3 H3 h5 e5 r5 rs5 => ?_
      cases b with
      | true =>
        rw [if_pos rfl] at h5 ⊢
        refine lf_bind r5 rs5 h5 noX_ok fun dy M4 as4 H4 y h6 e6 r6 rs6 ry => ?_
        split at h6
        · rename_i acc ea
          have n4 := pre_get (e4.trans (e5.trans e6)).pre nD
          obtain ⟨ys, g1, g2⟩ := at_lst r6 n4 ea
          obtain ⟨e7, r7⟩ := put_lst r6 n4 g1 (g2.app (.cons ry .nil))
          exact ⟨ys, g1, by rw [← g2.len]; exact Nat.lt_of_lt_of_le h6.1 (by decide), as4, _, (e4.trans (e5.trans e6)).trans e7, r7, h6.2⟩
        · exact h6.elim
      | false =>
        rw [if_neg Bool.false_ne_true] at h5 ⊢
        exact ⟨as3, M3, e4.trans e5, r5, h5⟩
  · left
    have hi' : i = items.length := by omega
    rw [List.drop_eq_nil_of_le (by omega)] at h'
    exact ⟨(ok as' H' M' i e2 r' h'.1).1 hi', hq _ _ h'.2 as' H' _ (e1.trans e2) r' (.ref nD')⟩
end
section
variable {X : Cx} {W : WX} {elt tg iter : Expr} {ifs : List Expr} {scope : Scope} {own : List (Str × Nat)} {pos spos : Pos} {mi : MI} {T : Tg} {tt : MT} {me : ME}
abbrev QTs (X : Cx) (W : WX) (ifs : List Expr) (m : MT) : Prop := PTs X ifs (lfT X.K W m)
theorem qts_nil : QTs X W [] mYes := ⟨fun pins s σ H Q I ⟨as, M, ρ, Q', X', r, rs, h, hq, hx⟩ => pts_nil.run pins s σ H Q I (hq true M h as H .refl r)⟩
theorem qs_setLc {i : Nat} {y : Str} {py : Pos} (hc : X.calm = true) (hN : X.N.Nodup) (hy : X.N[i]? = some y) (hyl : X.env.scope.names.lookup y = some .local)
    (hsw : swapsWith (.ListComp elt [⟨tg, iter, ifs, 0⟩] scope pos) (some (.Name y py)) spos.line X.env = pure true) (hi : QI X W tg iter mi) (ok : BlkOk X.N X.env.scope scope own)
    (hg : ∀ (s : Shared) (H : Hp) (C : Addr) (cl : List (Str × Addr)) (fp : List Addr), QG (X.blk s H scope (compEnvC scope cl C X.env) fp) tg T) (ht : ∀ (s : Shared) (H : Hp) (C : Addr) (cl : List (Str × Addr)) (fp : List Addr), QTs (X.blk s H scope (compEnvC scope cl C X.env) fp) W0 ifs tt)
    (he : ∀ (s : Shared) (H : Hp) (C : Addr) (cl : List (Str × Addr)) (fp : List Addr), QE (X.blk s H scope (compEnvC scope cl C X.env) fp) W0 elt me) (hT : ∀ i ∈ T.slots, i ∈ own.map (·.2)) (hs : ∀ x, foldedSetIterable iter X.env x = pure x := by intro _; rfl) :
    QS X W (.Assign [.Name y py] (.ListComp elt [⟨tg, iter, ifs, 0⟩] scope pos) spos) (mSet i (mLc mi T tt me (own.map (·.2)))) := PSi (ps_setLc (g := T.rd X.K) (tt := lfT X.K W0 tt) (te := lf X.K W0 me) hc hN hy hyl hsw hi ok hg ht he hs) fun D σ H ⟨as, M, ρ, E, r, rs, h, hE⟩ => by
  have h : mLc mi T tt me (own.map (·.2)) ρ M (fun d M1 => E.nx (ρ.set i (some d)) M1) (fun x M1 => E.ex x ρ M1) := h
  exact lf_lc hT (lf_bind (k := fun d M1 => E.nx (ρ.set i (some d)) M1) (X' := fun x M1 => E.ex x ρ M1) r rs h (exS hE rs) fun d M1 as1 H1 v h1 e1 r1 rs1 rv => hE.nx _ _ h1 as1 H1 _ e1 r1 (rs1.set rv))
end
def putD (f : Str) (y : D) : List (Str × D) → List (Str × D)
  | [] => [(f, y)]
  | (g, z) :: r => if g = f then (g, y) :: r else (g, z) :: putD f y r
/-- what is known of the classes by their names; fs: the names of fields and of methods that are asked -/
structure ClsN (K : PySem.W.Frag) (cs : List Str) (fs : List Str) : Prop where
  cls : ∀ c ∈ cs, Cls K (He.ga K c)
  no : ∀ c ∈ cs, ∀ f ∈ fs, NoAttr K (He.ga K c) f
def mFld (cs : List Str) (ma : ME) (f : Str) : ME := fun ρ M Q X => ma ρ M (fun x M1 => match x with
  | .ref n => match M1[n]? with
    | some (.ins c fs) => c ∈ cs ∧ match fs.lookup f with
      | some d => Q d M1
      | none => False
    | _ => False
  | _ => False) X
def mSetFld (cs : List Str) (ma mv : ME) (f : Str) : MS := fun E ρ M => mv ρ M (fun y M1 => ma ρ M1 (fun x M2 => match x with
  | .ref n => match M2[n]? with
    | some (.ins c fs) => c ∈ cs ∧ fs.length < 100 ∧ E.nx ρ (M2.set n (.ins c (putD f y fs)))
    | _ => False
  | _ => False) (fun x M2 => E.ex x ρ M2)) (fun x M1 => E.ex x ρ M1)
section
variable {K : PySem.W.Frag} {as : List Addr} {H : Hp} {M : Mem}
theorem KVR.look {l : List (Str × D)} {m : List (Str × V)} (h : KVR K as H l m) (f : Str) : (l.lookup f = none ∧ m.lookup f = none) ∨ ∃ d v, l.lookup f = some d ∧ m.lookup f = some v ∧ Rel K as H d v := by
  induction h with
  | nil => exact .inl ⟨rfl, rfl⟩
  | cons h t ih =>
    rename_i p q l m
    obtain ⟨h1, h2⟩ := h
    obtain ⟨p1, p2⟩ := p
    obtain ⟨q1, q2⟩ := q
    cases h1
    simp only [List.lookup_cons]
    cases e : (f == p1) with
    | true => exact .inr ⟨p2, q2, rfl, rfl, h2⟩
    | false => exact ih
theorem putF_eq (f : Str) (y : V) : ∀ l : List (Str × V), putF f y l = match l with | [] => [(f, y)] | (g, z) :: r => if g = f then (g, y) :: r else (g, z) :: putF f y r
  | [] => by simp [putF]
  | (g, z) :: r => by simp [putF]
theorem KVR.putF {l : List (Str × D)} {m : List (Str × V)} (h : KVR K as H l m) (f : Str) {d : D} {v : V} (r : Rel K as H d v) : KVR K as H (putD f d l) (L2.putF f v m) := by
  induction h with
  | nil => rw [putF_eq]; exact .cons ⟨rfl, r⟩ .nil
  | cons h t ih =>
    rename_i p q l m
    obtain ⟨h1, h2⟩ := h
    obtain ⟨p1, p2⟩ := p
    obtain ⟨q1, q2⟩ := q
    cases h1
    rw [putF_eq]
    simp only [putD]
    split
    · exact .cons ⟨rfl, r⟩ t
    · exact .cons ⟨rfl, h2⟩ ih
theorem at_ins {n : Nat} {a : Addr} {c : Str} {fs : List (Str × D)} (rp : RepM K as H M) (hn : as[n]? = some a) (e : M[n]? = some (.ins c fs)) : ∃ dx ys, H a = some (.ins (He.ga K c) dx ys) ∧ KVR K as H fs ys := by
  obtain ⟨a', ha, dx, ys, h1, h2⟩ := rp.at_ e
  rw [hn] at ha; cases ha
  exact ⟨dx, ys, h1, h2⟩
end
section
variable {X : Cx} {W : WX} {o e value : Expr} {f : Str} {pos pos' apos cpos : Pos} {ma mv : ME} {cs : List Str} {all : List Str} {es : List Expr}
theorem qe_fld (c : ClsN X.K cs all) (hf : f ∈ all) (he : QE X W e ma) (hb : attributeBase e f X.env (eval e X.env) = eval e X.env := by rfl) : QE X W (.Attribute e f pos) (mFld cs ma f) := PEi (pe_fld he hb) fun σ H Q ⟨as, M, ρ, Q', X', r, rs, h, hq, hx⟩ => by
  refine lf_bind r rs h hx fun d M1 as1 H1 v h1 e1 r1 rs1 rv => ?_
  cases rv <;> first | exact h1.elim | skip
  rename_i n a hn
  dsimp only at h1
  split at h1
  · rename_i cc fs em
    obtain ⟨hc, h1⟩ := h1
    obtain ⟨dx, ys, g1, g2⟩ := at_ins r1 hn em
    rcases g2.look f with ⟨l1, l2⟩ | ⟨d, v, l1, l2, rv⟩
    · rw [l1] at h1; exact h1.elim
    · rw [l1] at h1
      exact ⟨_, _, dx, ys, v, rfl, g1, c.cls cc hc, c.no cc hc f hf, l2, hq _ _ h1 as1 H1 _ e1 r1 rv⟩
  · exact h1.elim
theorem qs_fld (c : ClsN X.K cs all) (hf : f ∈ all) (ha : QE X W o ma) (hv : QE X W value mv) (hs : swapsWith value (some (.Attribute o f pos')) pos.line X.env = pure false := by rfl) : QS X W (.Assign [.Attribute o f pos'] value pos) (mSetFld cs ma mv f) := PSi (ps_fld ha hv hs) fun D σ H ⟨as, M, ρ, E, r, rs, h, hE⟩ => by
  refine lf_bind r rs h (exS hE rs) fun y M1 as1 H1 vy h1 e1 r1 rs1 ry => ?_
  refine lf_bind r1 rs1 h1 (fun x M' q => (exS hE rs x M' q).mono e1) fun x M2 as2 H2 v h2 e2 r2 rs2 rv => ?_
  cases rv <;> first | exact h2.elim | skip
  rename_i n a hn
  dsimp only at h2
  split at h2
  · rename_i cc fs em
    obtain ⟨hc, hl, h2⟩ := h2
    obtain ⟨dx, ys, g1, g2⟩ := at_ins r2 hn em
    refine ⟨_, _, dx, ys, rfl, g1, c.cls cc hc, c.no cc hc f hf, by rw [← g2.len]; omega, ?_⟩
    have e3 := ext_put (u := .ins (He.ga X.K cc) dx (L2.putF f vy ys)) r2 hn (nfrz_ins g1)
    have r3 : RepM X.K as2 _ (M2.set n (.ins cc (putD f y fs))) := r2.put hn (nfrz_ins g1) ⟨dx, _, upd_same, (g2.putF f (ry.up e2)).up e3⟩
    exact hE.nx _ _ h2 as2 _ σ ((e1.trans e2).trans e3) r3 (rs2.up e3)
  · exact h2.elim
abbrev OM := D → List D → Mem → DK → Prop
def isT (T : String) (x : D) (M : Mem) : Prop := match x with
  | .str _ => T = "str"
  | .ref n => T = "list" ∧ match M[n]? with | some (.lst _) => True | _ => False
  | _ => False
def mBM (T : String) (r : OM) (mo : ME) (ma : MA) : ME := fun ρ M Q X => mo ρ M (fun x M1 => isT T x M1 ∧ ma ρ M1 (fun xs M2 => r x xs M2 Q) X) X
end
section
variable {K : PySem.W.Frag}
end
def oFmt : OU := fun x M Q => match x with
  | .str y => y.length ≤ 16000000 ∧ Q (.str y) M
  | .int i => i.natAbs.log2 < 1920 ∧ Q (.str (toString i)) M
  | _ => False
def mJs : List ME → Str → Ev → Mem → DK → XM → Prop
  | [], acc, _, M, Q, _ => Q (.str acc) M
  | m :: ms, acc, ρ, M, Q, X => m ρ M (fun x M1 => match x with | .str y => (acc ++ y).length ≤ 16000000 ∧ mJs ms (acc ++ y) ρ M1 Q X | _ => False) X
inductive QJ (X : Cx) (W : WX) : List Expr → List ME → Prop where
  | nil : QJ X W [] []
  | cons {e : Expr} {m : ME} {es : List Expr} {ms : List ME} (h : QE X W e m) (r : QJ X W es ms) : QJ X W (e :: es) (m :: ms)
section
variable {X : Cx} {W : WX} {e : Expr} {me : ME} {pos : Pos}
theorem qe_fmt (he : QE X W e me) : QE X W (.FormattedValue e (-1) none pos) (mUn oFmt me) := PEi (pe_fmt he) fun σ H Q ⟨as, M, ρ, Q', X', r, rs, h, hq, hx⟩ => by
  refine lf_bind r rs h hx fun d M1 as1 H1 v h1 e1 r1 rs1 rv => ?_
  cases rv <;> first | exact h1.elim | skip
  · exact .inr ⟨_, rfl, h1.1, hq _ _ h1.2 as1 H1 _ e1 r1 (.str _)⟩
  · exact .inl ⟨_, rfl, Nat.le_trans h1.1 (by decide), hq _ _ h1.2 as1 H1 _ e1 r1 (.str _)⟩
theorem QJ.pj {es : List Expr} {ms : List ME} (h : QJ X W es ms) : PJ X es (ms.map (lf X.K W)) := by
  induction h with
  | nil => exact .nil
  | cons h r ih => exact .cons h ih
theorem js_ok {K : PySem.W.Frag} {ρ : Ev} {σ : L2.St} {Q : VK} {Q' : DK} {X' : XM} : ∀ (ms : List ME) (acc : Str) (as : List Addr) (H : Hp) (M : Mem), RepM K as H M → RelS K as H ρ σ → mJs ms acc ρ M Q' X' → (∀ d M', Q' d M' → LQ K as H Q d M') → (∀ x M', X' x M' → LX K as H (fun c d H => W c d σ H) x M') → tJs (ms.map (lf K W)) acc σ H fun out H1 => Q (.str out) H1
  | [], acc, as, H, M, r, rs, h, hq, hx => hq _ _ h as H _ .refl r (.str _)
  | m :: ms, acc, as, H, M, r, rs, h, hq, hx => lf_bind r rs h hx fun d M1 as1 H1 v h1 e1 r1 rs1 rv => by
    cases rv <;> first | exact h1.elim | skip
    exact ⟨_, rfl, Nat.le_trans h1.1 (by decide), js_ok ms _ as1 H1 M1 r1 rs1 h1.2 (fun d M' q => (hq d M' q).mono e1) fun x M' q => (hx x M' q).mono e1⟩
theorem qe_joined {v1 v2 : Expr} {rest : List Expr} {ms : List ME} (h : QJ X W (v1 :: v2 :: rest) ms) : QE X W (.JoinedStr (v1 :: v2 :: rest) pos) (mJs ms Str.empty) := PEi (pe_joined h.pj) fun σ H Q ⟨as, M, ρ, Q', X', r, rs, h, hq, hx⟩ => js_ok ms _ as H M r rs h hq hx
end
end MV
namespace MV
open PySem PySem.Spec PyProof.Rows L2
abbrev WF := List D → Mem → DK → XM → Prop
/-- the promise: what the mirror says -/
def spM (K : PySem.W.Frag) (n : Nat) (w : WF) : Sp := fun vs H Q E => ∃ as M ds Q' X', vs.length = n ∧ RepM K as H M ∧ RelL K as H ds vs ∧ w ds M Q' X' ∧ (∀ d M', Q' d M' → LQ K as H Q d M') ∧ ∀ x M', X' x M' → LX K as H E x M'
/-- how a call of n positional values and keywords ks binds -/
structure DBn (K : PySem.W.Frag) (fd : FuncData) (ps : List Str) (n : Nat) (ks : List Str) (gD : List D → List D → List D) : Prop where
  ex : ∃ g gV, KBn K fd ps n ks g gV ∧ ∀ (as : List Addr) (H : Hp) (ds es : List D) (vs zs : List V), ds.length = n → es.length = ks.length → RelL K as H ds vs → RelL K as H es zs → RelL K as H (gD ds es) (gV vs zs)
structure Fn (P : Program) (w : World) (K : PySem.W.Frag) (mg : Str → Option Value) (base : Heap) (k : Nat) (f : Addr) (ps : List Str) (W : WF) (n : Nat) (ks : List Str) (gD : List D → List D → List D) : Prop where
  ok : ∃ fd, FnOk P w K mg base (CX P w) k f fd ps (spM K ps.length W) ∧ DBn K fd ps n ks gD
  kp : PySem.W.keepIn K (.ref f) = true
abbrev TA2 := L2.St → Hp → (List V → List V → Hp → Prop) → Prop
abbrev MA2 := Ev → Mem → (List D → List D → Mem → Prop) → XM → Prop
def PCW (X : Cx) (es : List Expr) (kws : List Keyword) (ks : List Str) (pos : Pos) (t : TA2) : Prop := ∀ (f : Value) (first : List Value) (pins : List (Addr × Obj)) (s : Shared) (σ : L2.St) (H : Hp) (R : List V → List V → Hp → Prop) (Qv : Value → Shared → Prop), Inv X pins σ H s → PySem.W.keepIn X.K f = true → t σ H R →
  (∀ us ws vs zs H2 s2, Inv X pins σ H2 s2 → Vals vs us → Vals zs ws → R vs zs H2 → wpAny (model X.prog X.w) X.A (call f (first ++ us) (ks.zip ws)) Qv X.xe s2) →
  wpAny (model X.prog X.w) X.A (callWith pos f first (backTo pos (starEach es X.env)) (backToKw pos (keywordEach kws X.env))) Qv X.xe s
def lfA2 (K : PySem.W.Frag) (W : WX) (m : MA2) : TA2 := fun σ H R => ∃ as M ρ k X', RepM K as H M ∧ RelS K as H ρ σ ∧ m ρ M k X' ∧ (∀ ds es M' as' H' vs zs, k ds es M' → Ext K as H as' H' → RepM K as' H' M' → RelL K as' H' ds vs → RelL K as' H' es zs → R vs zs H') ∧ ∀ x M', X' x M' → LX K as H (fun c d H => W c d σ H) x M'
abbrev QCW (X : Cx) (W : WX) (es : List Expr) (kws : List Keyword) (ks : List Str) (pos : Pos) (m : MA2) : Prop := PCW X es kws ks pos (lfA2 X.K W m)
def mArgs0 : MA2 := fun _ M k _ => k [] [] M
def mArgsP (ma : MA) : MA2 := fun ρ M k X => ma ρ M (fun ds M1 => k ds [] M1) X
def mArgsK (mk : MA) : MA2 := fun ρ M k X => mk ρ M (fun es M1 => k [] es M1) X
def mArgsPK (ma mk : MA) : MA2 := fun ρ M k X => ma ρ M (fun ds M1 => mk ρ M1 (fun es M2 => k ds es M2) X) X
section
variable {X : Cx} {W : WX} {e : Expr} {es : List Expr} {kws : List Keyword} {ks : List Str} {pos : Pos} {ma mk : MA} {me : ME}
theorem qcw0 : QCW X W [] [] [] pos mArgs0 := fun f first pins s σ H R Qv I kp ⟨as, M, ρ, k, X', r, rs, h, hq, hx⟩ hk =>
  PySem.W.callWith_K0 I.kIn kp (hk [] [] [] [] H s I .nil .nil (hq [] [] M as H [] [] h .refl r .nil .nil))
theorem qcwP (ha : QA X W (e :: es) ma) (he : starEach (e :: es) X.env = (false, eval e X.env) :: starEach es X.env := by rfl) (hpl : (backTo pos (starEach es X.env)).any (·.1) = false := by rfl) : QCW X W (e :: es) [] [] pos (mArgsP ma) := fun f first pins s σ H R Qv I kp ⟨as, M, ρ, k, X', r, rs, h, hq, hx⟩ hk =>
  PySem.W.callWith_K (h₀ := X.base) I.ok.mod.kin kp (thn (ha.run pos pins s σ H (fun vs H' => R vs [] H') I ⟨as, M, ρ, _, X', r, rs, h, fun ds M' q as' H' vs e r' rv => hq ds [] M' as' H' vs [] q e r' rv .nil, hx⟩) fun us s1 ⟨vs, H1, I1, rv, q⟩ => ⟨I1.kIn, hk us [] vs [] H1 s1 I1 rv .nil q⟩) he hpl
end
def mCall (w : WF) (n m : Nat) (gD : List D → List D → List D) (ma : MA2) : ME := fun ρ M Q X => ma ρ M (fun ds es M1 => (ds.length = n ∧ es.length = m) ∧ w (gD ds es) M1 Q X) X
def mMeth (c : Str) (mn : Str) (w : WF) (n m : Nat) (gD : List D → List D → List D) (mo : ME) (ma : MA2) : ME := fun ρ M Q X => mo ρ M (fun x M1 => match x with
  | .ref a => match M1[a]? with
    | some (.ins c' fs) => (c' = c ∧ fs.lookup mn = none) ∧ ma ρ M1 (fun ds es M2 => ((x :: ds).length = n ∧ es.length = m) ∧ w (gD (x :: ds) es) M2 Q X) X
    | _ => False
  | _ => False) X
def mMake (c : Str) (w : WF) (n m : Nat) (gD : List D → List D → List D) (ma : MA2) : ME := fun ρ M Q X => ma ρ M (fun ds es M1 => (ds.length + 1 = n ∧ es.length = m) ∧ w (gD (.ref M1.length :: ds) es) (M1 ++ [.ins c []]) (fun v M2 => match v with | .non => Q (.ref M1.length) M2 | _ => False) X) X
section
variable {X : Cx} {W : WX} {x m : Str} {es : List Expr} {kws : List Keyword} {ks ps : List Str} {p pos apos : Pos} {ma : MA2} {k n : Nat} {w : WF} {gD : List D → List D → List D} {f C : Addr} {o : Expr} {mo : ME}
theorem run_fnU {fd : FuncData} {sp : Sp} {E : XK} {g : List Value → List Value → List Value} {gV : List V → List V → List V} {pins : List (Addr × Obj)} {σ : L2.St} {H : Hp} {s : Shared} {Q : VK} {us ws : List Value} {vs zs : List V} (F : FnOk X.prog X.w X.K X.mg X.base (CX X.prog X.w) k f fd ps sp) (hr : Room k X.A) (hb : KBn X.K fd ps n ks g gV) (hx : PassesAt (CX X.prog X.w) X σ E)
    (I : Inv X pins σ H s) (r : Vals vs us) (rz : Vals zs ws) (l1 : vs.length = n) (l2 : zs.length = ks.length) (h : sp (gV vs zs) H Q E) : wpAny (model X.prog X.w) X.A (call (.ref f) us (ks.zip ws)) (EP X pins σ Q) X.xe s := by
  have r2 := hb.rel r rz
  refine wpAny_call (codeAny_mono (F.run X.A X.stack s H ⟨us, ks.zip ws⟩ (g us ws) (gV vs zs) Q E hr I.env0 (hb.to s us ws I.kIn (r.length.symm.trans l1) (rz.length.symm.trans l2)) r2 h) fun r s' hq => ?_)
  cases r with
  | error e => exact hx pins H s e s' I hq
  | ok fl =>
    cases fl with
    | ret u => exact I.after hq
    | next => exact False.elim hq
    | brk => exact False.elim hq
    | cont => exact False.elim hq
/-- the mirror's word as the promise -/
theorem spM_of {K : PySem.W.Frag} {as : List Addr} {H : Hp} {M : Mem} {ds : List D} {vs : List V} {N : Nat} {Q : VK} {E : XK} {k : DK} {X' : XM} (r : RepM K as H M) (rv : RelL K as H ds vs) (hl : vs.length = N) (h : w ds M k X') (hq : ∀ d M', k d M' → LQ K as H Q d M') (hx : ∀ x M', X' x M' → LX K as H E x M') : spM K N w vs H Q E := ⟨as, M, ds, k, X', hl, r, rv, h, hq, hx⟩
/-- f(..) -/
theorem qe_call (F : Fn X.prog X.w X.K X.mg X.base k f ps w n ks gD) (hr : Room k X.A) (hg : Gl X x) (hm : X.mg x = some (.ref f)) (tk : Takes X W) (ha : QCW X W es kws ks pos ma) (hgl : ∀ (ds es : List D), ds.length = n → es.length = ks.length → (gD ds es).length = ps.length) (hdb : (x == ("__debug__" : Str)) = false := by decide) :
    QE X W (.Call (.Name x p) es kws pos) (mCall w n ks.length gD ma) := by
  obtain ⟨⟨fd, G, ⟨g, gV, hb, hrel⟩⟩, kp⟩ := F
  refine ⟨fun pins s σ H Q I ⟨as, M, ρ, Q', X', r, rs, h, hq, hx⟩ => ?_⟩
  refine wpAny_Call_Name_kw (ld_glob I hg hm ?_ hdb)
  refine ha (.ref f) [] pins s σ H (fun vs zs H1 => (vs.length = n ∧ zs.length = ks.length) ∧ spM X.K ps.length w (gV vs zs) H1 Q (WE W σ)) _ I kp ⟨as, M, ρ, _, X', r, rs, h, fun ds es M1 as1 H1 vs zs q e1 r1 rv rz => ?_, hx⟩ fun us ws vs zs H2 s2 I2 rv rz q => ?_
  · obtain ⟨⟨l1, l2⟩, q⟩ := q
    have rg := hrel as1 H1 ds es vs zs l1 l2 rv rz
    exact ⟨⟨by rw [← rv.len]; exact l1, by rw [← rz.len]; exact l2⟩, spM_of r1 rg (by rw [← rg.len]; exact hgl ds es l1 l2) q (fun d M' q => (hq d M' q).mono e1) fun x M' q => (hx x M' q).mono e1⟩
  · exact run_fnU G hr hb (passAt tk σ) I2 rv rz q.1.1 q.1.2 q.2
/-- o.m(..) -/
theorem qe_meth {c : Str} {pl : Sem Bool} (he : QE X W o mo) (cl : Cls X.K (He.ga X.K c)) (hm : Meth X.K (He.ga X.K c) m f) (F : Fn X.prog X.w X.K X.mg X.base k f ps w n ks gD) (hr : Room k X.A) (tk : Takes X W) (ha : QCW X W es kws ks pos ma) (hgl : ∀ (ds es : List D), ds.length = n → es.length = ks.length → (gD ds es).length = ps.length)
    (ht : eval (.Call (.Attribute o m apos) es kws pos) X.env = (do
      let ov ← eval o X.env
      standAt apos.atName
      let (f, first) ← holding [ov] (getMethod ov m pl)
      callWith pos f first (backTo pos (starEach es X.env)) (backToKw pos (keywordEach kws X.env))) := by rfl) :
    QE X W (.Call (.Attribute o m apos) es kws pos) (mMeth c m w n ks.length gD mo ma) := by
  obtain ⟨⟨fd, G, ⟨g, gV, hb, hrel⟩⟩, kp⟩ := F
  refine ⟨fun pins s σ H Q I ⟨as, M, ρ, Q', X', r, rs, h, hq, hx⟩ => ?_⟩
  refine PySem.W.methodCall_KW (pl := pl) (thn (he.run pins s σ H (fun v H1 => ∃ a dx fs, v = .ref a ∧ H1 a = some (.ins (He.ga X.K c) dx fs) ∧ fs.lookup m = none ∧ lfA2 X.K W (fun ρ M k X => ma ρ M k X) σ H1 fun vs zs H2 => (vs.length + 1 = n ∧ zs.length = ks.length) ∧ spM X.K ps.length w (gV (.ref a :: vs) zs) H2 Q (WE W σ)) I ?_) fun u s1 ⟨v, H1, I1, rx, a, dx, fs, ex, ea, l, q⟩ => ?_) ht
  · refine lf_bind r rs h hx fun d M1 as1 H1 v h1 e1 r1 rs1 rv => ?_
    cases rv <;> first | exact h1.elim | skip
    rename_i nn a hn
    dsimp only at h1
    split at h1
    · rename_i c' fs em
      obtain ⟨⟨ec, el⟩, h1⟩ := h1
      subst ec
      obtain ⟨dx, ys, g1, g2⟩ := at_ins r1 hn em
      have l2 : ys.lookup m = none := by
        rcases g2.look m with ⟨_, z⟩ | ⟨d, v, z, _⟩
        · exact z
        · rw [z] at el; cases el
      refine ⟨a, dx, ys, rfl, g1, l2, as1, M1, ρ, _, X', r1, rs1, h1, fun ds es M2 as2 H2 vs zs q e2 r2 rv rz => ?_, fun x M' q => (hx x M' q).mono e1⟩
      obtain ⟨⟨l1, l3⟩, q⟩ := q
      have rv2 : RelL X.K as2 H2 (.ref nn :: ds) (.ref a :: vs) := .cons (.ref (pre_get e2.pre hn)) rv
      have rg := hrel as2 H2 _ es _ zs l1 l3 rv2 rz
      have e3 := e1.trans e2
      exact ⟨⟨by rw [← rv.len]; exact l1, by rw [← rz.len]; exact l3⟩, spM_of r2 rg (by rw [← rg.len]; exact hgl _ es l1 l3) q (fun d M' q => (hq d M' q).mono e3) fun x M' q => (hx x M' q).mono e3⟩
    · exact h1.elim
  · subst ex
    obtain rfl : u = Value.ref a := rx
    refine getmeth_ok I1 ea cl hm l ?_
    refine ha (.ref f) [.ref a] pins s1 σ H1 _ _ I1 kp q fun us ws vs zs H2 s2 I2 rv rz q => ?_
    exact run_fnU (us := .ref a :: us) (vs := .ref a :: vs) G hr hb (passAt tk σ) I2 (.cons rfl rv) rz q.1.1 q.1.2 q.2
/-- C(..) -/
theorem run_makeU {fd : FuncData} {sp : Sp} {E : XK} {g : List Value → List Value → List Value} {gV : List V → List V → List V} {pins : List (Addr × Obj)} {σ : L2.St} {H : Hp} {s : Shared} {Q : VK} {us ws : List Value} {vs zs : List V} (Mk' : Mk X.K C f) (F : FnOk X.prog X.w X.K X.mg X.base (CX X.prog X.w) k f fd ps sp) (hr : Room (k + 1) X.A) (hb : KBn X.K fd ps n ks g gV) (hx : ∀ (pins : List (Addr × Obj)) (H : Hp) (s : Shared) (e : Value) (s' : Shared), Inv X pins σ H s → CX X.prog X.w X.stack H s E e s' → X.xe e s')
    (I : Inv X pins σ H s) (r : Vals vs us) (rz : Vals zs ws) (l1 : vs.length + 1 = n) (l2 : zs.length = ks.length)
    (h : ∀ x dx, H x = none → H dx = none → dx ≠ x → sp (gV (.ref x :: vs) zs) (upd (upd H dx (.own x)) x (.ins C dx [])) (fun v H2 => v = .non ∧ Q (.ref x) H2) E) :
    wpAny (model X.prog X.w) X.A (call (.ref C) us (ks.zip ws)) (EP X pins σ Q) X.xe s := by
  have hq := h (s.heap.objs.size + 1) s.heap.objs.size (I.hok.fresh (Nat.le_succ _)) (I.hok.fresh (Nat.le_refl _)) (Nat.ne_of_lt (Nat.lt_succ_self _))
  have I2 := Inv.made (C := C) I
  have r1 : Vals (V.ref (s.heap.objs.size + 1) :: vs) (Value.ref (s.heap.objs.size + 1) :: us) := .cons rfl r
  have r2 := hb.rel r1 rz
  have n1 : (Value.ref (s.heap.objs.size + 1) :: us).length = n := by
    rw [List.length_cons, ← r.length, l1]
  refine wpAny_call (make_map (f := f) I.kIn Mk'.makes Mk'.init (beq_iff_eq.mp Mk'.fn) (codeAny_mono (F.run _ X.stack _ _ ⟨Value.ref (s.heap.objs.size + 1) :: us, ks.zip ws⟩ (g (Value.ref (s.heap.objs.size + 1) :: us) ws) _ _ E (hr.make C us (ks.zip ws))
    (I2.env0.make C us (ks.zip ws)) (hb.to _ (Value.ref (s.heap.objs.size + 1) :: us) ws I2.kIn n1 (rz.length.symm.trans l2)) r2 hq) fun r s' hq' => ?_))
  cases r with
  | error e => exact hx pins _ _ e s' I2 hq'
  | ok fl =>
    cases fl with
    | ret u =>
      obtain ⟨v, H', I3, rv, ev, q3⟩ := I2.after hq'
      subst ev
      exact ⟨rv, ⟨V.ref (s.heap.objs.size + 1), H', I3, rfl, q3⟩⟩
    | next => exact False.elim hq'
    | brk => exact False.elim hq'
    | cont => exact False.elim hq'
theorem qe_make (Mk' : Mk X.K (He.ga X.K x) f) (F : Fn X.prog X.w X.K X.mg X.base k f ps w n ks gD) (hr : Room (k + 1) X.A) (hg : Gl X x) (hm : X.mg x = some (.ref (He.ga X.K x))) (tk : Takes X W) (ha : QCW X W es kws ks pos ma) (hgl : ∀ (ds es : List D), ds.length = n → es.length = ks.length → (gD ds es).length = ps.length) (hdb : (x == ("__debug__" : Str)) = false := by decide) :
    QE X W (.Call (.Name x p) es kws pos) (mMake x w n ks.length gD ma) := by
  obtain ⟨⟨fd, G, ⟨g, gV, hb, hrel⟩⟩, _⟩ := F
  refine ⟨fun pins s σ H Q I ⟨as, M, ρ, Q', X', r, rs, h, hq, hx⟩ => ?_⟩
  refine wpAny_Call_Name_kw (ld_glob I hg hm ?_ hdb)
  refine ha (.ref (He.ga X.K x)) [] pins s σ H (fun vs zs H1 => (vs.length + 1 = n ∧ zs.length = ks.length) ∧ ∀ y dx, H1 y = none → H1 dx = none → dx ≠ y → spM X.K ps.length w (gV (.ref y :: vs) zs) (upd (upd H1 dx (.own y)) y (.ins (He.ga X.K x) dx [])) (fun v H2 => v = .non ∧ Q (.ref y) H2) (WE W σ)) _ I Mk'.kp ⟨as, M, ρ, _, X', r, rs, h, fun ds es M1 as1 H1 vs zs q e1 r1 rv rz => ?_, hx⟩ fun us ws vs zs H2 s2 I2 rv rz q => ?_
  · obtain ⟨⟨l1, l2⟩, q⟩ := q
    refine ⟨⟨by rw [← rv.len]; exact l1, by rw [← rz.len]; exact l2⟩, fun y dx hy hdx hne => ?_⟩
    have hy2 : upd H1 dx (.own y) y = none := by rw [upd_ne (Ne.symm hne)]; exact hy
    have e2 : Ext X.K as1 H1 (as1 ++ [y]) (upd (upd H1 dx (.own y)) y (.ins (He.ga X.K x) dx [])) := ((ext_new hdx).trans (ext_new hy2)).trans ext_app
    have r2 : RepM X.K (as1 ++ [y]) (upd (upd H1 dx (.own y)) y (.ins (He.ga X.K x) dx [])) (M1 ++ [.ins x []]) := (r1.laid hdx).new hy2 ⟨dx, [], upd_same, .nil⟩
    have ny : (as1 ++ [y])[M1.length]? = some y := by rw [← r1.len]; exact app_at
    have rv2 : RelL X.K (as1 ++ [y]) _ (.ref M1.length :: ds) (.ref y :: vs) := .cons (.ref ny) (rv.up e2)
    have l1' : (D.ref M1.length :: ds).length = n := l1
    have rg := hrel _ _ _ es _ zs l1' l2 rv2 (rz.up e2)
    have e3 := e1.trans e2
    refine spM_of r2 rg (by rw [← rg.len]; exact hgl _ es l1' l2) q (fun d M' q as' H' v e r' rd => ?_) fun x M' q => (hx x M' q).mono e3
    cases rd <;> first | exact q.elim | skip
    exact ⟨rfl, hq _ _ q as' H' _ (e3.trans e) r' (.ref (pre_get e.pre ny))⟩
  · exact run_makeU Mk' G hr hb (passAt tk σ) I2 rv rz q.1.1 q.1.2 q.2
end
def startE (N : List Str) (ds : List D) : Ev := ds.map some ++ List.replicate (N.length - ds.length) none
theorem RelL.start {K : PySem.W.Frag} {as : List Addr} {H : Hp} {ds : List D} {vs : List V} (N : List Str) (r : RelL K as H ds vs) : RelS K as H (startE N ds) (L2.start N vs) := by
  refine ⟨by simp [startE, L2.start, r.len], fun i d h => ?_⟩
  unfold startE at h
  unfold L2.start
  by_cases hl : i < ds.length
  · rw [List.getElem?_append_left (by simpa using hl), List.getElem?_map] at h
    cases e : ds[i]? with
    | none => rw [e] at h; cases h
    | some d0 =>
      rw [e] at h
      simp at h
      subst h
      obtain ⟨v, e2, rv⟩ := r.get e
      exact ⟨v, by rw [List.getElem?_append_left (by simpa [← r.len] using hl), List.getElem?_map, e2]; rfl, rv⟩
  · rw [List.getElem?_append_right (by simpa using hl), List.getElem?_replicate] at h
    split at h <;> cases h
/-- the mirror of a def by its body -/
def wOf (N : List Str) (m : MS) : WF := fun ds M Q X => m ⟨fun _ M' => Q .non M', Q, fun _ _ => False, fun _ _ => False, fun x _ M' => X x M'⟩ (startE N ds) M
theorem body_ok {K : PySem.W.Frag} {N : List Str} {m : MS} {n : Nat} {vs : List V} {H : Hp} {Q : VK} {E : XK} (h : spM K n (wOf N m) vs H Q E) : lfS K (fun c d _ H => E c d H) m { nx := fun _ H' => Q .non H', rt := Q } (L2.start N vs) H := by
  obtain ⟨as, M, ds, Q', X', hl, r, rv, h, hq, hx⟩ := h
  refine ⟨as, M, startE N ds, _, r, rv.start N, h, ⟨fun ρ M' q as' H' σ e r' _ => hq _ _ q as' H' _ e r' .non, hq, fun _ _ q => q.elim, fun _ _ q => q.elim, fun x ρ M' q as' H' σ c d e r' _ rx => hx _ _ q as' H' c d e r' rx⟩⟩
theorem spM_len {K : PySem.W.Frag} {n : Nat} {w : WF} (vs : List V) (H : Hp) (Q : VK) (E : XK) (h : spM K n w vs H Q E) : vs.length = n := let ⟨_, _, _, _, _, hl, _⟩ := h; hl
/-- the def: from the derivation of its body -/
theorem fn_ok {P : Program} {w : World} {K : PySem.W.Frag} {mg : Str → Option Value} {base : Heap} {x qual : Str} {params : Arguments} {body : List Stmt} {scope : Scope} {dvs : List V} {kws : List (Str × V)} {f : Addr} {fd : FuncData} {N ps : List Str} {k : Nat} {m : MS}
    (F : FunD K x qual params body scope dvs kws f fd) (S : FnScope N ps scope)
    (hb : ∀ (cdv : Value) (A : Around) (outer : List Env) (s : Shared) (H : Hp) (E : XK), Room k (A.deeper (envOfC qual scope s.heap.objs.size f cdv)) → Takes (cxOf (CX P w) P w K mg base N qual scope f cdv A outer s H E) (fun c d _ H => E c d H) → PassesOwn (model P w) (A.deeper (envOfC qual scope s.heap.objs.size f cdv)) (envOfC qual scope s.heap.objs.size f cdv) (cxOf (CX P w) P w K mg base N qual scope f cdv A outer s H E).xe →
      QSs (cxOf (CX P w) P w K mg base N qual scope f cdv A outer s H E) (fun c d _ H => E c d H) body m) : FnOk P w K mg base (CX P w) (k + 1) f fd ps (spM K ps.length (wOf N m)) :=
  F.ok S spM_len fun cdv A outer s H vs Q E hr h => ⟨_, hb cdv A outer s H E hr (takes_of rfl rfl rfl rfl) (passes_of rfl), body_ok h⟩
end MV
namespace MV
open PySem PySem.Spec PyProof.Rows L2
/-- the test of a clause: the classes cs -/
def TyOk (X : Cx) (ty : Expr) (cs : List Value) : Prop := ∀ (a : Addr) (pn pins : List (Addr × Obj)) (s : Shared) (σ : L2.St) (H : Hp) (cls : Value) (b : Bool) (Q : Value → Shared → Prop) (E : Value → Shared → Prop), Inv (X.suite a pn) pins σ H s →
  PySem.W.Looks (model X.prog X.w) s.heap (typeOf (.ref a)) cls → PySem.W.exmAny X.K cls cs = some b →
  (∀ v h', (∀ c o, s.heap.get? c = some o → h'.get? c = some o) → PySem.W.Looks (model X.prog X.w) h' (excMatches (.ref a) v) b → Q v { s with heap := h' }) → wpAny (model X.prog X.w) (X.A.mark (some (.ref a))) (eval ty X.env) Q E s
theorem ld_name {X : Cx} {a : Addr} {pn pins : List (Addr × Obj)} {σ : L2.St} {H : Hp} {s : Shared} {x : Str} {c : Value} {np : Pos} {Q : Value → Shared → Prop} {E : Value → Shared → Prop} (hc : Names X x c) (I : Inv (X.suite a pn) pins σ H s) (h : Q c s) : wpAny (model X.prog X.w) (X.A.mark (some (.ref a))) (eval (.Name x np) X.env) Q E s := by
  obtain ⟨hg, hdbg, hm | ⟨hm, hv, hnn⟩⟩ := hc
  · exact ld_glob (X := X.suite a pn) I hg hm h hdbg
  · exact ld_blt (X := X.suite a pn) I hg hm hv h hnn hdbg
theorem ty_one {X : Cx} {x : Str} {c : Value} {np : Pos} (hc : Names X x c) : TyOk X (.Name x np) [c] := fun a pn pins s σ H cls b Q E I LT hb h => by
  obtain ⟨b1, d1, h1, h2, rfl⟩ := PySem.W.exmAny_cons hb
  cases h2
  rw [Bool.or_false] at h
  exact ld_name hc I (h c s.heap (fun _ _ q => q) (PySem.W.exm_one (M := model X.prog X.w) I.kIn LT h1))
theorem flying_keeps {B h h' : Heap} {l : List Env} {a : Addr} {Z : Obj → Prop} (k : ∀ b o, h.get? b = some o → h'.get? b = some o) (x : HandSPX.FlyingZ B l a Z h) : HandSPX.FlyingZ B l a Z h' := by
  obtain ⟨h1, h2, h3, oe, vs, T, oT, ts, g1, g2, g3, g4, g5, g6, g7, g8, g9⟩ := x
  exact ⟨fun b o q => k b o (h1 b o q), h2, PySem.Heap.FunFrames.of_keeps (fun b o q _ => ⟨o, k b o q, rfl⟩) h3, oe, vs, T, oT, ts, k _ _ g1, g2, g3, g4, g5, g6, k _ _ g7, g8, g9⟩
theorem upTo_keeps {h h' h2 : Heap} (x : h.UpToSlots h') (k : ∀ b o, h'.get? b = some o → h2.get? b = some o) : h.UpToSlots h2 := fun b o q hn => by
  obtain ⟨sl, e⟩ := x b o q hn
  exact ⟨sl, k _ _ e⟩
/-- the context of such a suite; xe: what is wished of an exception that leaves it -/
abbrev suiteY (X : Cx) (a : Addr) (pn : List (Addr × Obj)) (xe : Value → Shared → Prop) : Cx := { X with A := X.A.mark (some (.ref a)), calm := false, pn := pn, xe := xe }
section
variable {X : Cx} {pins : List (Addr × Obj)} {σ : L2.St} {H : Hp} {s : Shared}
theorem inv_suiteY {a : Addr} {pn : List (Addr × Obj)} {xe : Value → Shared → Prop} (J : Inv X pins σ H s) (h : ∀ p ∈ pn, s.heap.get? p.1 = some p.2 ∧ H p.1 = none ∧ p.1 ≠ X.env.locals ∧ p.1 ∉ X.fs ∧ ∀ v, p.2.data ≠ .cell v) : Inv (suiteY X a pn xe) [] σ H s := by
  have ok := J.ok.suite a pn
  exact ⟨⟨ok.mod, ok.kind, ok.glob, ok.blt, ok.above, ok.inj, ok.has, ok.cab, (fun z => absurd (show false = true from z) Bool.false_ne_true), ok.frames, ok.stk, ok.exf, ok.bs, ok.bsz, ok.noex, ok.exfs, ok.funs, ok.frf⟩,
    J.os, J.bare, J.base, J.loc, J.cell, J.free, J.freeC, fun p hp => h p (by rw [List.append_nil] at hp; exact hp), J.hok, J.len⟩
theorem inv_unsuiteY {a : Addr} {pn pn' : List (Addr × Obj)} {xe : Value → Shared → Prop} (I : Inv (suiteY X a pn xe) pn' σ H s) (ok : X.Ok) (h : ∀ p ∈ X.pn ++ pins, p ∈ pn) : Inv X pins σ H s :=
  ⟨ok, I.os, I.bare, I.base, I.loc, I.cell, I.free, I.freeC, fun p hp => I.pin p (List.mem_append_left _ (h p hp)), I.hok, I.len⟩
theorem air_unsuite {a0 : Addr} {pn : List (Addr × Obj)} {xe : Value → Shared → Prop} {W : WX} {u : Value} {s' : Shared} (ok : X.Ok) (h : ∀ p ∈ X.pn ++ pins, p ∈ pn) (x : XE (suiteY X a0 pn xe) W u s') :
    ∃ a B sI σ H cls d, u = .ref a ∧ AirAt X W s' a B sI pins σ H cls d := by
  obtain ⟨a, B, sI, pins', σ, H, cls, d, rfl, x⟩ := x
  exact ⟨a, B, sI, σ, H, cls, d, rfl, ⟨inv_unsuiteY x.inv ok h, x.low, x.up, x.sky, x.na, x.os, x.ag, x.w⟩⟩
end
/-- a clause: its classes, the slot of its name, its suite -/
abbrev ClauseK := List Value × Option Nat × (Addr → Value → Option Addr → TS)
def endsK (i : Nat) (D : Ends) : Ends := { nx := fun σ' H' => D.nx (σ'.set i none) H', rt := D.rt, bk := fun σ' H' => D.bk (σ'.set i none) H', ct := fun σ' H' => D.ct (σ'.set i none) H' }
def wUn (oi : Option Nat) (W : WX) : WX := fun c d σ H => W c d (match oi with | none => σ | some i => σ.set i none) H
def wManyK (K : PySem.W.Frag) (Wout : WX) (D : Ends) : List ClauseK → WX
  | [] => Wout
  | (cs, oi, ts) :: r => fun cls d σ H => ∃ b, PySem.W.exmAny K cls cs = some b ∧ (b = true → ∀ a, H a = none → match oi with
      | none => ts a cls d D σ H
      | some i => ts a cls d (endsK i D) (σ.set i (some (.ref a))) H) ∧ (b = false → wManyK K Wout D r cls d σ H)
def SuiteOk (X : Cx) (W : WX) (sts : List Stmt) (ts : Addr → Value → Option Addr → TS) : Prop :=
  ∀ (a : Addr) (oe : Obj) (cls : Value) (d : Option Addr) (pn : List (Addr × Obj)) (xe : Value → Shared → Prop), Zc cls d oe → (∃ vs, oe.data = .fields vs) → HotK (suiteY X a ((a, oe) :: pn) xe) → Takes (suiteY X a ((a, oe) :: pn) xe) W → PSs (suiteY X a ((a, oe) :: pn) xe) sts (ts a cls d)
inductive HdK (X : Cx) (W : WX) : List ExceptHandler → List ClauseK → Prop
  | nil : HdK X W [] []
  | one {ty : Expr} {cs : List Value} {ts : Addr → Value → Option Addr → TS} {b₀ : Stmt} {suite : List Stmt} {pos' : Pos} {hds : List ExceptHandler} {l : List ClauseK} (hc : TyOk X ty cs) (hsu : SuiteOk X W (b₀ :: suite) ts) (r : HdK X W hds l) :
      HdK X W (.ExceptHandler (some ty) none (b₀ :: suite) pos' :: hds) ((cs, none, ts) :: l)
  | as_ {ty : Expr} {n : Str} {i : Nat} {cs : List Value} {ts : Addr → Value → Option Addr → TS} {b₀ : Stmt} {suite : List Stmt} {pos' : Pos} {hds : List ExceptHandler} {l : List ClauseK} (hc : TyOk X ty cs) (hN : X.N.Nodup) (hi : X.N[i]? = some n) (hln : X.env.kindOf n = some .local)
      (hsu : SuiteOk X (wUn (some i) W) (b₀ :: suite) ts) (r : HdK X W hds l) : HdK X W (.ExceptHandler (some ty) (some n) (b₀ :: suite) pos' :: hds) ((cs, some i, ts) :: l)
section
variable {X : Cx} {body : List Stmt} {h₀ : ExceptHandler} {hds : List ExceptHandler} {l : List ClauseK} {pos : Pos} {tb : WX → TS} {Wout : WX}
theorem try_core (hs : X.stack = X.env :: X.outer) (hf : X.env.frame = some X.env.locals) (hex : X.ex = []) (tk : Takes X Wout)
    (hb : ∀ (W : WX) (pn : List (Addr × Obj)) (xe : Value → Shared → Prop), Takes (X.tr pn xe) W → PassesOwn (model X.prog X.w) X.A X.env xe → PSs (X.tr pn xe) body (tb W))
    (hh : HdK X Wout (h₀ :: hds) l) (pins : List (Addr × Obj)) (s : Shared) (σ : L2.St) (H : Hp) (D : Ends) (I : Inv X pins σ H s) (h : tb (wManyK X.K Wout D l) D σ H) :
    wpAny (model X.prog X.w) X.A (execs body X.env) (fun f s₁ => match f with | .next => wpAny (model X.prog X.w) X.A (execs [] X.env) (SP X pins D) X.xe s₁ | f => SP X pins D f s₁)
      (fun e s₁ => wpAny (model X.prog X.w) X.A (noteFrame e X.env) (fun _ s₂ => wpAny (model X.prog X.w) X.A (setFlight e none) (fun _ s₃ => wpAny (model X.prog X.w) X.A (handleBy e X.env (h₀ :: hds)) (SP X pins D) X.xe s₃) X.xe s₂) X.xe s₁) s := by
  have ok := I.ok
  have hfr : X.A.frames = some (X.env :: X.outer) := by rw [ok.frames, hs]
  refine wpAny_mono ((hb (wManyK X.K Wout D l) (X.pn ++ pins) (fun e s₁ => wpAny (model X.prog X.w) X.A (noteFrame e X.env) (fun _ s₂ => wpAny (model X.prog X.w) X.A (setFlight e none) (fun _ s₃ =>
    wpAny (model X.prog X.w) X.A (handleBy e X.env (h₀ :: hds)) (SP X pins D) X.xe s₃) X.xe s₂) X.xe s₁) (fun u s' xx => ?_) PassesOwn.looking).run [] s σ H D (I.toTry _) h) (fun f s1 hsp => ?_) (fun e s1 he => he)
  · obtain ⟨a, B, sI, pins', σ', H', cls, d, rfl, x⟩ := xx
    have J : Inv X pins σ' H' sI := x.inv.ofTry ok
    have x' : AirAt X (wManyK X.K Wout D l) s' a B sI pins σ' H' cls d := ⟨J, x.low, x.up, x.sky, x.na, x.os, x.ag, x.w⟩
    show wpAny (model X.prog X.w) X.A (noteFrame (.ref a) X.env) _ _ _
    refine air_note hs hf hfr x' fun h1 hh1 up1 => ?_
    refine HandSPX.landsZ hh1 fun h3 fl3 up3 => ?_
    have go : ∀ {hds' : List ExceptHandler} {l' : List ClauseK}, HdK X Wout hds' l' → wManyK X.K Wout D l' cls d σ' H' → ∀ h3 : Heap, HandSPX.FlyingZ B (X.env :: X.outer) a (Zk B H' cls d) h3 → sI.heap.UpToSlots h3 →
        wpAny (model X.prog X.w) X.A (handleBy (.ref a) X.env hds') (SP X pins D) X.xe { s' with heap := h3 } := by
      intro hds' l' hk
      induction hk with
      | nil =>
        intro w h3 fl3 up3
        refine wpAny_handleBy_nil ?_
        obtain ⟨k1, k2, k3, oe, vs, T, oT, ts', he, hz, hd, h1, hr⟩ := id fl3
        unfold PySem.passOn
        refine wpAny_bind (wpAny_field he hd h1 ?_)
        rw [if_neg (show ¬ ((Value.ref T == Value.none) = true) from by simp)]
        have fin : wpAny (model X.prog X.w) X.A (setFlight (.ref a) X.env.frame) (fun _ s4 => wpAny (model X.prog X.w) X.A (throw (.ref a) : Sem Flow) (SP X pins D) X.xe s4) X.xe { s' with heap := h3 } := by
          rw [hf]
          refine HandSPX.setFlight_upZ fl3 fun h4 hh4 up4 => wpAny_throw (tk _ _ ?_)
          exact ⟨a, B, sI, pins, σ', H', cls, d, rfl, ⟨J, x.low, up3.trans up4, .inr (.inr (by rw [hs]; exact hh4)), x.na, x.os, x.ag, w⟩⟩
        first
          | exact wpAny_bind (wpAny_pure (wpAny_bind fin))
          | exact wpAny_bind fin
      | one hc hsu r ih =>
        rename_i ty cs ts b₀ suite pos' hds2 l2
        intro w h3 fl3 up3
        obtain ⟨b, hb1, hyes, hno⟩ := w
        obtain ⟨oe3, vs3, T3, oT3, cp3, hz3, hd3, hl3, J3, pn3, _⟩ := air_mid (s3 := { s' with heap := h3 }) hs hf hex J x.low up3 (.of_fly fl3) x.na x.os x.ag
        have S3 : Inv (X.suite a ((a, oe3) :: (X.pn ++ pins))) [] σ' H' { s' with heap := h3 } := J3.suite (pn3 (a, oe3) (by simp)).1 hd3 x.na (pn3 (a, oe3) (by simp)).2.2.1 (pn3 (a, oe3) (by simp)).2.2.2.1
        refine wpAny_handleBy_cons (codeAny_handlers_test ?_) (by intro q; cases q)
        have LT : PySem.W.Looks (model X.prog X.w) h3 (typeOf (.ref a)) cls := fun A Q E s k q => wpAny_typeOf_ref (k _ _ (pn3 (a, oe3) (by simp)).1) (by rw [hz3.1]; exact q)
        refine hc a _ _ { s' with heap := h3 } σ' H' cls b _ _ S3 LT hb1 fun v h4 k4 LM => LM.here ?_
        have fl4 := flying_keeps k4 fl3
        have up4 := upTo_keeps up3 k4
        cases b with
        | true =>
          refine codeAny_handlers_suite ?_
          refine HandSPX.lands_againZ fl4 fun h5 fl5 up5 => ?_
          obtain ⟨oe5, vs5, T5, oT5, cp5, hz5, hd5, ⟨l5, hl5⟩, J5, pn5, _⟩ := air_mid (s3 := { s' with heap := h5 }) hs hf hex J x.low (up4.trans up5) (.of_fly fl5) x.na x.os x.ag
          have sub : ∀ p ∈ X.pn ++ pins, p ∈ (a, oe5) :: (cp5 ++ (X.pn ++ pins)) := fun p hp => List.mem_cons_of_mem _ (List.mem_append_right _ hp)
          have S5 : ∀ xe, Inv (suiteY X a ((a, oe5) :: (cp5 ++ (X.pn ++ pins))) xe) [] σ' H' { s' with heap := h5 } := fun xe => inv_suiteY J5 fun p hp => by
            rcases List.mem_cons.mp hp with rfl | hp
            · exact pn5 _ (by simp)
            rcases List.mem_append.mp hp with hp | hp
            · exact pn5 _ (by simp [hp])
            · exact J5.pin p hp
          have hot : ∀ xe, HotK (suiteY X a ((a, oe5) :: (cp5 ++ (X.pn ++ pins))) xe) := fun xe => ⟨a, l5, rfl, hl5.more fun p hp => by
            rcases List.mem_cons.mp hp with rfl | hp
            · exact List.mem_cons_self
            · exact List.mem_cons_of_mem _ (List.mem_append_left _ hp)⟩
          refine wpAny_mono ((hsu a oe5 cls d (cp5 ++ (X.pn ++ pins)) (fun u s2 => ∃ a2 B2 sI2 σ2 H2 cls2 d2, u = .ref a2 ∧ AirAt X Wout s2 a2 B2 sI2 pins σ2 H2 cls2 d2) hz5 ⟨_, hd5⟩ (hot _) fun u s2 y => air_unsuite ok sub y).run [] _ _ H' _ (S5 _) (hyes rfl a x.na)) (fun f s6 hsp => ?_) (fun e6 s6 z => ?_)
          · cases f with
            | next =>
              obtain ⟨σ6, H6, S6, q6⟩ := hsp
              exact ⟨_, _, inv_unsuiteY S6 ok sub, q6⟩
            | brk =>
              obtain ⟨σ6, H6, S6, q6⟩ := hsp
              exact ⟨_, _, inv_unsuiteY S6 ok sub, q6⟩
            | cont =>
              obtain ⟨σ6, H6, S6, q6⟩ := hsp
              exact ⟨_, _, inv_unsuiteY S6 ok sub, q6⟩
            | ret u =>
              obtain ⟨v6, σ6, H6, S6, r6, q6⟩ := hsp
              exact ⟨_, _, _, inv_unsuiteY S6 ok sub, r6, q6⟩
          · obtain ⟨a2, B2, sI2, σ2, H2, cls2, d2, rfl, y⟩ := z
            show wpAny _ _ (noteFrame (.ref a2) X.env) _ _ _
            refine air_note hs hf hfr y fun h7 hh7 up7 => ?_
            exact air_back hf hh7 (fun h8 hh8 up8 => tk (.ref a2) { s6 with heap := h8 } ⟨a2, B2, sI2, pins, σ2, H2, cls2, d2, rfl, ⟨y.inv, y.low, (y.up.trans up7).trans up8, .inr (.inr (by rw [hs]; exact hh8)), y.na, y.os, y.ag, y.w⟩⟩) _
        | false =>
          show wpAny _ X.A (handleBy (.ref a) X.env hds2) _ _ _
          exact ih (hno rfl) h4 fl4 up4
      | as_ hc hN hi hln hsu r ih =>
        rename_i ty n i cs ts b₀ suite pos' hds2 l2
        intro w h3 fl3 up3
        obtain ⟨b, hb1, hyes, hno⟩ := w
        obtain ⟨oe3, vs3, T3, oT3, cp3, hz3, hd3, hl3, J3, pn3, _⟩ := air_mid (s3 := { s' with heap := h3 }) hs hf hex J x.low up3 (.of_fly fl3) x.na x.os x.ag
        have S3 : Inv (X.suite a ((a, oe3) :: (X.pn ++ pins))) [] σ' H' { s' with heap := h3 } := J3.suite (pn3 (a, oe3) (by simp)).1 hd3 x.na (pn3 (a, oe3) (by simp)).2.2.1 (pn3 (a, oe3) (by simp)).2.2.2.1
        refine wpAny_handleBy_cons (codeAny_handlers_test ?_) (by intro q; cases q)
        have LT : PySem.W.Looks (model X.prog X.w) h3 (typeOf (.ref a)) cls := fun A Q E s k q => wpAny_typeOf_ref (k _ _ (pn3 (a, oe3) (by simp)).1) (by rw [hz3.1]; exact q)
        refine hc a _ _ { s' with heap := h3 } σ' H' cls b _ _ S3 LT hb1 fun v h4 k4 LM => LM.here ?_
        have fl4 := flying_keeps k4 fl3
        have up4 := upTo_keeps up3 k4
        cases b with
        | true =>
          refine codeAny_handlers_suite_as ?_
          refine HandSPX.lands_againZ fl4 fun h5 fl5 up5 => ?_
          obtain ⟨oe5, vs5, T5, oT5, cp5, hz5, hd5, ⟨l5, hl5⟩, J5, pn5, _⟩ := air_mid (s3 := { s' with heap := h5 }) hs hf hex J x.low (up4.trans up5) (.of_fly fl5) x.na x.os x.ag
          have sub : ∀ p ∈ X.pn ++ pins, p ∈ (a, oe5) :: (cp5 ++ (X.pn ++ pins)) := fun p hp => List.mem_cons_of_mem _ (List.mem_append_right _ hp)
          have S5 : ∀ xe, Inv (suiteY X a ((a, oe5) :: (cp5 ++ (X.pn ++ pins))) xe) [] σ' H' { s' with heap := h5 } := fun xe => inv_suiteY J5 fun p hp => by
            rcases List.mem_cons.mp hp with rfl | hp
            · exact pn5 _ (by simp)
            rcases List.mem_append.mp hp with hp | hp
            · exact pn5 _ (by simp [hp])
            · exact J5.pin p hp
          have hot : ∀ xe, HotK (suiteY X a ((a, oe5) :: (cp5 ++ (X.pn ++ pins))) xe) := fun xe => ⟨a, l5, rfl, hl5.more fun p hp => by
            rcases List.mem_cons.mp hp with rfl | hp
            · exact List.mem_cons_self
            · exact List.mem_cons_of_mem _ (List.mem_append_left _ hp)⟩
          refine store_ok (X := suiteY X a ((a, oe5) :: (cp5 ++ (X.pn ++ pins))) (fun u s2 => ∃ a2 B2 sI2 σ2 H2 cls2 d2, u = .ref a2 ∧ AirAt X (wUn (some i) Wout) s2 a2 B2 sI2 pins σ2 H2 cls2 d2)) (v := .ref a) (S5 _) hN hi (.inl hln) rfl (fun s6 S6 => ?_) (.inr hln)
          refine wpAny_mono ((hsu a oe5 cls d (cp5 ++ (X.pn ++ pins)) (fun u s2 => ∃ a2 B2 sI2 σ2 H2 cls2 d2, u = .ref a2 ∧ AirAt X (wUn (some i) Wout) s2 a2 B2 sI2 pins σ2 H2 cls2 d2) hz5 ⟨_, hd5⟩ (hot _) fun u s2 y => air_unsuite ok sub y).run [] s6 _ H' _ S6 (hyes rfl a x.na)) (fun f s7 hsp => ?_) (fun e7 s7 z => ?_)
          · have end_ : ∀ {σ6 : L2.St} {H6 : Hp} {Q : Shared → Prop}, Inv (suiteY X a ((a, oe5) :: (cp5 ++ (X.pn ++ pins))) (fun u s2 => ∃ a2 B2 sI2 σ2 H2 cls2 d2, u = .ref a2 ∧ AirAt X (wUn (some i) Wout) s2 a2 B2 sI2 pins σ2 H2 cls2 d2)) [] σ6 H6 s7 → (∀ s8, Inv X pins (σ6.set i none) H6 s8 → Q s8) →
                wpAny (model X.prog X.w) X.A (do bindName X.env n .none; unbindBehindTheSuite X.env n pos') (fun _ s8 => Q s8) X.xe s7 := fun {σ6 H6 Q} S6 hq => gone_ok (inv_unsuiteY S6 ok sub) hN hi hln hq
            cases f with
            | next =>
              obtain ⟨σ6, H6, S6, q6⟩ := hsp
              exact end_ S6 fun s7 J7 => ⟨_, _, J7, q6⟩
            | brk =>
              obtain ⟨σ6, H6, S6, q6⟩ := hsp
              exact end_ S6 fun s7 J7 => ⟨_, _, J7, q6⟩
            | cont =>
              obtain ⟨σ6, H6, S6, q6⟩ := hsp
              exact end_ S6 fun s7 J7 => ⟨_, _, J7, q6⟩
            | ret u =>
              obtain ⟨v6, σ6, H6, S6, r6, q6⟩ := hsp
              exact end_ S6 fun s7 J7 => ⟨_, _, _, J7, r6, q6⟩
          · obtain ⟨a2, B2, sI2, σ2, H2, cls2, d2, rfl, y⟩ := z
            show wpAny _ _ (noteFrame (.ref a2) X.env) _ _ _
            refine air_note hs hf hfr y fun h8 hh8 up8 => ?_
            obtain ⟨oe8, vs8, T8, oT8, cp8, hz8, hd8, _, J8, pn8, back8⟩ := air_mid (s3 := { s7 with heap := h8 }) hs hf hex y.inv y.low (y.up.trans up8) (.of_held hh8) y.na y.os y.ag
            have P8 : Inv X (((a2, oe8) :: (T8, oT8) :: cp8) ++ pins) σ2 H2 { s7 with heap := h8 } := J8.pins_of fun p hp => by
              rcases List.mem_append.mp hp with hp | hp
              · exact pn8 p hp
              · exact J8.pin p (List.mem_append_right _ hp)
            refine gone_ok P8 hN hi hln fun s9 P9 => ?_
            obtain ⟨B9, sI9, J9, low9, up9, tr9, na9, os9, ag9⟩ := back8 _ _ s9 (P9.pins_of fun p hp => P9.pin p (List.mem_append_right _ (List.mem_append_right _ hp))) fun p hp => by
              have := P9.pin p (List.mem_append_right _ (List.mem_append_left _ hp))
              exact ⟨this.1, this.2.1⟩
            have hh9 := tr9.held
            have last : ∀ h10 : Heap, HandSPX.HeldZ B9 (X.env :: X.outer) a2 (Zk B9 H2 cls2 d2) X.env.locals h10 → s9.heap.UpToSlots h10 → notedBy (model X.prog X.w) (X.A.mark (some (.ref a))) X.env (cameBackBy (model X.prog X.w) X.A X.env X.xe) (.ref a2) { s9 with heap := h10 } := fun h10 hh10 up10 => by
              show wpAny _ _ (noteFrame (.ref a2) X.env) _ _ _
              refine HandSPX.againZ hf hh10.2.2.2 ?_
              exact air_back hf hh10 (fun h11 hh11 up11 => tk (.ref a2) { s9 with heap := h11 } ⟨a2, B9, sI9, pins, _, H2, cls2, d2, rfl, ⟨J9, low9, (up9.trans up10).trans up11, .inr (.inr (by rw [hs]; exact hh11)), na9, os9, ag9, y.w⟩⟩) _
            obtain ⟨oe9, vs9, T9, oT9, ts9, ea9, hz9, hd9, hv9, _⟩ := hh9.2.2.2
            unfold PySem.passOn
            refine wpAny_bind (wpAny_field ea9 hd9 hv9 ?_)
            rw [if_neg (show ¬ ((Value.ref T9 == Value.none) = true) from by simp)]
            have fin : wpAny (model X.prog X.w) (X.A.mark (some (.ref a))) (setFlight (.ref a2) X.env.frame) (fun _ s4 => wpAny (model X.prog X.w) (X.A.mark (some (.ref a))) (throw (.ref a2) : Sem Flow) (fun _ _ => False) (notedBy (model X.prog X.w) (X.A.mark (some (.ref a))) X.env (cameBackBy (model X.prog X.w) X.A X.env X.xe)) s4) (notedBy (model X.prog X.w) (X.A.mark (some (.ref a))) X.env (cameBackBy (model X.prog X.w) X.A X.env X.xe)) s9 := by
              rw [hf]
              exact HandSPX.setFlight_onZ hh9 fun h10 hh10 up10 => wpAny_throw (last h10 hh10 up10)
            first
              | exact wpAny_bind (wpAny_pure (wpAny_bind fin))
              | exact wpAny_bind fin
        | false =>
          show wpAny _ X.A (handleBy (.ref a) X.env hds2) _ _ _
          exact ih (hno rfl) h4 fl4 up4
    exact go hh x.w h3 fl3 ((x.up.trans up1).trans up3)
  · cases f with
    | next =>
      obtain ⟨σ', H', J', q⟩ := hsp
      exact wpAny_execs_nil ⟨σ', H', J'.ofTry ok, q⟩
    | brk =>
      obtain ⟨σ', H', J', q⟩ := hsp
      exact ⟨σ', H', J'.ofTry ok, q⟩
    | cont =>
      obtain ⟨σ', H', J', q⟩ := hsp
      exact ⟨σ', H', J'.ofTry ok, q⟩
    | ret u =>
      obtain ⟨v, σ', H', J', r, q⟩ := hsp
      exact ⟨v, σ', H', J'.ofTry ok, r, q⟩
end
end MV
namespace MV
open PySem PySem.Spec PyProof.Rows L2
section
variable {X : Cx} {body : List Stmt} {h₀ : ExceptHandler} {hds : List ExceptHandler} {l : List ClauseK} {pos : Pos} {tb : WX → TS} {Wout : WX} {f₀ : Stmt} {fs : List Stmt} {tf : TS}
theorem ps_try_K (hs : X.stack = X.env :: X.outer) (hf : X.env.frame = some X.env.locals) (hex : X.ex = []) (tk : Takes X Wout)
    (hb : ∀ (W : WX) (pn : List (Addr × Obj)) (xe : Value → Shared → Prop), Takes (X.tr pn xe) W → PassesOwn (model X.prog X.w) X.A X.env xe → PSs (X.tr pn xe) body (tb W))
    (hh : HdK X Wout (h₀ :: hds) l) : PS X (.Try body (h₀ :: hds) [] [] pos) (fun D σ H => tb (wManyK X.K Wout D l) D σ H) :=
  ⟨fun pins s σ H D I h => wpAny_Try_except (try_core hs hf hex tk hb hh pins s σ H D I h)⟩
end
end MV
namespace MV
open PySem PySem.Spec PyProof.Rows L2
/-- a clause: the names of its classes, the slot of its name, its suite by the exception's addresses and class -/
structure MCl where
  cs : List Str
  i : Option Nat
  s : Addr → Addr → Str → MS
/-- sub x y: whether the class x is a subclass of y (of the program's exceptions) -/
def ndAs (i : Nat) (E : Nd) : Nd := ⟨fun ρ M => E.nx (ρ.set i none) M, E.rt, fun ρ M => E.bk (ρ.set i none) M, fun ρ M => E.ct (ρ.set i none) M, E.ex⟩
def mCatch (sub : Str → Str → Option Bool) (E : Nd) : List MCl → Exn → Ev → Mem → Prop
  | [], x, ρ, M => E.ex x ρ M
  | c :: r, x, ρ, M => (∀ y ∈ c.cs, (sub x.c y).isSome = true) ∧ if (c.cs.any fun y => sub x.c y == some true) = true then (∀ a dd, match c.i with
      | none => c.s a dd x.c ⟨E.nx, E.rt, E.bk, E.ct, E.ex⟩ ρ M
      | some i => c.s a dd x.c ⟨(ndAs i E).nx, E.rt, (ndAs i E).bk, (ndAs i E).ct, fun y ρ M => E.ex y (ρ.set i none) M⟩ (ρ.set i (some (.exn a dd x.c x.ns x.ds))) M) else mCatch sub E r x ρ M
def mTry (sub : Str → Str → Option Bool) (b : MS) (cl : List MCl) : MS := fun E ρ M => b ⟨E.nx, E.rt, E.bk, E.ct, mCatch sub E cl⟩ ρ M
/-- e.f of the caught exception -/
def mXf (a dd : Addr) (c : Str) (i : Nat) (f : Str) : ME := fun ρ M Q _ => match ρ[i]? with
  | some (some (.exn a' dd' c' ns ds)) => (a' = a ∧ dd' = dd ∧ c' = c) ∧ match (ns.zip ds).lookup f with
    | some d => Q d M
    | none => False
  | _ => False
/-- what the head tells of the exceptions -/
def XOk (K : PySem.W.Frag) (fl : List Str) (c : Str) : Prop := XfC K (He.ga K c) ∧ ∀ f ∈ fl, PySem.W.findIn K (.ref (He.ga K c)) f = some none
structure XcN (K : PySem.W.Frag) (sub : Str → Str → Option Bool) (fl : List Str) : Prop where
  exm : ∀ x y b, sub x y = some b → PySem.W.exmOne K (.ref (He.ga K x)) (.ref (He.ga K y)) = some b
  xf : ∀ x y b, sub x y = some b → XOk K fl x
theorem exm_all {K : PySem.W.Frag} {sub : Str → Str → Option Bool} {fl : List Str} (xc : XcN K sub fl) {x : Str} : ∀ {ys : List Str}, (∀ y ∈ ys, (sub x y).isSome = true) → PySem.W.exmAny K (.ref (He.ga K x)) (ys.map fun y => .ref (He.ga K y)) = some (ys.any fun y => sub x y == some true)
  | [], _ => rfl
  | y :: ys, h => by
    obtain ⟨b, hb⟩ := Option.isSome_iff_exists.mp (h y (by simp))
    have ih := exm_all xc (x := x) (ys := ys) fun z hz => h z (by simp [hz])
    simp only [List.map_cons, PySem.W.exmAny, xc.exm x y b hb, ih, List.any_cons, hb]
    cases b <;> simp
def SuiteM (X : Cx) (W : WX) (fl : List Str) (sts : List Stmt) (s : Addr → Addr → Str → MS) : Prop :=
  ∀ (a : Addr) (oe : Obj) (cls : Value) (d : Option Addr) (pn : List (Addr × Obj)) (xe : Value → Shared → Prop) (dd : Addr) (c : Str), Zc cls d oe → (∃ vs, oe.data = .fields vs) → HotK (suiteY X a ((a, oe) :: pn) xe) → Takes (suiteY X a ((a, oe) :: pn) xe) W →
    cls = .ref (He.ga X.K c) → d = some dd → XOk X.K fl c → QSs (suiteY X a ((a, oe) :: pn) xe) W sts (s a dd c)
inductive HdM (X : Cx) (W : WX) (fl : List Str) : List ExceptHandler → List MCl → Prop
  | nil : HdM X W fl [] []
  | one {ty : Expr} {c0 : Str} {cs : List Str} {s : Addr → Addr → Str → MS} {b₀ : Stmt} {suite : List Stmt} {pos' : Pos} {hds : List ExceptHandler} {l : List MCl} (hc : TyOk X ty ((c0 :: cs).map fun y => .ref (He.ga X.K y)))
      (hsu : SuiteM X (wUn none W) fl (b₀ :: suite) s) (r : HdM X W fl hds l) : HdM X W fl (.ExceptHandler (some ty) none (b₀ :: suite) pos' :: hds) (⟨c0 :: cs, none, s⟩ :: l)
  | as_ {ty : Expr} {n : Str} {i : Nat} {c0 : Str} {cs : List Str} {s : Addr → Addr → Str → MS} {b₀ : Stmt} {suite : List Stmt} {pos' : Pos} {hds : List ExceptHandler} {l : List MCl} (hc : TyOk X ty ((c0 :: cs).map fun y => .ref (He.ga X.K y))) (hN : X.N.Nodup) (hi : X.N[i]? = some n) (hln : X.env.kindOf n = some .local)
      (hsu : SuiteM X (wUn (some i) W) fl (b₀ :: suite) s) (r : HdM X W fl hds l) : HdM X W fl (.ExceptHandler (some ty) (some n) (b₀ :: suite) pos' :: hds) (⟨c0 :: cs, some i, s⟩ :: l)
def clTs (K : PySem.W.Frag) (W : WX) (fl : List Str) (s : Addr → Addr → Str → MS) : Addr → Value → Option Addr → TS := fun a cls d D σ H => ∃ dd c, cls = .ref (He.ga K c) ∧ d = some dd ∧ XOk K fl c ∧ lfS K W (s a dd c) D σ H
def clA (K : PySem.W.Frag) (W : WX) (fl : List Str) (m : MCl) : ClauseK := (m.cs.map fun y => .ref (He.ga K y), m.i, clTs K (wUn m.i W) fl m.s)
section
variable {X : Cx} {W : WX} {body : List Stmt} {h₀ : ExceptHandler} {hds : List ExceptHandler} {cl : List MCl} {pos : Pos} {mb : MS} {sub : Str → Str → Option Bool} {fl : List Str}
theorem SuiteM.ok {s : Addr → Addr → Str → MS} {sts : List Stmt} (h : SuiteM X W fl sts s) : SuiteOk X W sts (clTs X.K W fl s) := fun a oe cls d pn xe hz hf hot tk => ⟨fun pins s' σ H D I ⟨dd, c, e1, e2, hx, q⟩ => (h a oe cls d pn xe dd c hz hf hot tk e1 e2 hx).run pins s' σ H D I q⟩
theorem HdM.hdA (h : HdM X W fl hds cl) : HdK X W hds (cl.map (clA X.K W fl)) := by
  induction h with
  | nil => exact .nil
  | one hc hsu r ih => exact .one hc hsu.ok ih
  | as_ hc hN hi hln hsu r ih => exact .as_ hc hN hi hln hsu.ok ih
theorem catch_ok {K : PySem.W.Frag} (xc : XcN K sub fl) {E : Nd} {D : Ends} : ∀ {cl : List MCl} {as : List Addr} {H : Hp} {M : Mem} {ρ : Ev} {σ : L2.St} {x : Exn} {cls : Value} {d : Option Addr}, (∀ m ∈ cl, m.cs ≠ []) → NdOk K W as H E D → RepM K as H M → RelS K as H ρ σ → RelX K as H x cls d → mCatch sub E cl x ρ M → wManyK K W D (cl.map (clA K W fl)) cls d σ H
  | [], as, H, M, ρ, σ, x, cls, d, _, hE, r, rs, rx, h => hE.ex _ _ _ h as H σ cls d .refl r rs rx
  | m :: cl, as, H, M, ρ, σ, x, cls, d, hne, hE, r, rs, rx, h => by
    obtain ⟨h1, h2⟩ := h
    obtain ⟨e1, dd, xs, e2, hx, hl⟩ := id rx
    have hx0 : XOk K fl x.c := by
      obtain ⟨y, ys, ey⟩ := List.exists_cons_of_ne_nil (hne m (by simp))
      obtain ⟨b, hb⟩ := Option.isSome_iff_exists.mp (h1 y (by rw [ey]; simp))
      exact xc.xf _ _ _ hb
    refine ⟨_, by rw [e1]; exact exm_all xc h1, fun hb a ha => ?_, fun hb => ?_⟩
    · rw [if_pos hb] at h2
      have h3 := h2 a dd
      show match m.i with
        | none => clTs K (wUn m.i W) fl m.s a cls d D σ H
        | some i => clTs K (wUn m.i W) fl m.s a cls d (endsK i D) (σ.set i (some (.ref a))) H
      cases em : m.i with
      | none =>
        rw [em] at h3
        exact ⟨dd, x.c, e1, e2, hx0, as, M, ρ, _, r, rs, h3, ⟨hE.nx, hE.rt, hE.bk, hE.ct, hE.ex⟩⟩
      | some i =>
        rw [em] at h3
        have rs2 : RelS K as H (ρ.set i (some (.exn a dd x.c x.ns x.ds))) (σ.set i (some (.ref a))) := rs.set (.exn hx hl)
        refine ⟨dd, x.c, e1, e2, hx0, as, M, _, _, r, rs2, h3, ⟨fun ρ' M' q as' H' σ' e r' rs' => ?_, hE.rt, fun ρ' M' q as' H' σ' e r' rs' => ?_, fun ρ' M' q as' H' σ' e r' rs' => ?_, fun y ρ' M' q as' H' σ' c' d' e r' rs' ry => ?_⟩⟩
        · exact hE.nx _ _ q as' H' _ e r' rs'.unset
        · exact hE.bk _ _ q as' H' _ e r' rs'.unset
        · exact hE.ct _ _ q as' H' _ e r' rs'.unset
        · exact hE.ex _ _ _ q as' H' _ c' d' e r' rs'.unset ry
    · rw [if_neg (by rw [hb]; exact Bool.false_ne_true)] at h2
      exact catch_ok xc (fun m hm => hne m (by simp [hm])) hE r rs rx h2
theorem HdM.ne (h : HdM X W fl hds cl) : ∀ m ∈ cl, m.cs ≠ [] := by
  induction h with
  | nil => intro m hm; cases hm
  | one hc hsu r ih =>
    intro m hm
    rcases List.mem_cons.mp hm with z | z
    · rw [z]; simp
    · exact ih m z
  | as_ hc hN hi hln hsu r ih =>
    intro m hm
    rcases List.mem_cons.mp hm with z | z
    · rw [z]; simp
    · exact ih m z
theorem qs_try (hs : X.stack = X.env :: X.outer) (hf : X.env.frame = some X.env.locals) (hex : X.ex = []) (xc : XcN X.K sub fl) (tk : Takes X W)
    (hb : ∀ (W' : WX) (pn : List (Addr × Obj)) (xe : Value → Shared → Prop), Takes (X.tr pn xe) W' → PassesOwn (model X.prog X.w) X.A X.env xe → QSs (X.tr pn xe) W' body mb)
    (hh : HdM X W fl (h₀ :: hds) cl) : QS X W (.Try body (h₀ :: hds) [] [] pos) (mTry sub mb cl) :=
  PSi (ps_try_K (tb := fun W' => lfS X.K W' mb) hs hf hex tk hb hh.hdA) fun D σ H ⟨as, M, ρ, E, r, rs, h, hE⟩ =>
    ⟨as, M, ρ, _, r, rs, h, ⟨hE.nx, hE.rt, hE.bk, hE.ct, fun x ρ' M' q as' H' σ' cls d e r' rs' rx => catch_ok xc hh.ne (hE.mono e) r' rs' rx q⟩⟩
theorem zip_look {K : PySem.W.Frag} {as : List Addr} {H : Hp} {f : Str} {d : D} : ∀ {ns : List Str} {ds : List D} {xs : List V}, RelL K as H ds xs → (ns.zip ds).lookup f = some d → ∃ v, (ns.zip xs).lookup f = some v ∧ Rel K as H d v
  | [], _, _, _, e => by simp at e
  | n :: ns, _, _, .nil, e => by simp at e
  | n :: ns, _, _, .cons h r, e => by
    simp only [List.zip_cons_cons, List.lookup_cons] at e ⊢
    cases q : (f == n) with
    | true => rw [q] at e; cases e; exact ⟨_, rfl, h⟩
    | false => rw [q] at e; exact zip_look r e
theorem qe_xf {a dd : Addr} {c : Str} {oe : Obj} {cls : Value} {d : Option Addr} {pn : List (Addr × Obj)} {xe : Value → Shared → Prop} {n f : Str} {i : Nat} {p : Pos} (hz : Zc cls d oe) (hf : ∃ vs, oe.data = .fields vs) (e1 : cls = .ref (He.ga X.K c)) (e2 : d = some dd) (hx : XOk X.K fl c) (hfl : f ∈ fl) (hN : X.N[i]? = some n) (hv : Vis X.env.scope n)
    (hd : (n == ("__debug__" : Str)) = false := by decide) (hcd : (n == ("__classdict__" : Str)) = false := by decide) (hb : attributeBase (.Name n p) f X.env (eval (.Name n p) X.env) = eval (.Name n p) X.env := by rfl) : QE (suiteY X a ((a, oe) :: pn) xe) W (.Attribute (.Name n p) f pos) (mXf a dd c i f) :=
  PEi (PE.nox (X := suiteY X a ((a, oe) :: pn) xe) (DW.pe_xfA hz hf (pe_var (X := X.suite a ((a, oe) :: pn)) hN hv hd hcd) hb)) fun σ H Q ⟨as, M, ρ, Q', X', r, rs, h, hq, _⟩ => by
    unfold mXf at h
    split at h
    · rename_i a' dd' c' ns ds eρ
      obtain ⟨⟨rfl, rfl, rfl⟩, h⟩ := h
      obtain ⟨v, ev, rv⟩ := rs.2 i _ eρ
      cases rv with
      | exn h1 h2 =>
        split at h
        · rename_i d0 el
          obtain ⟨w, ew, rw'⟩ := zip_look h2 el
          exact ⟨_, e1, hx.1, hx.2 f hfl, _, ev, rfl, e1, _, _, w, e2, h1, ew, hq _ _ h as H _ .refl r rw'⟩
        · exact h.elim
    · exact h.elim
end
inductive Src where
  | arg (j : Nat)
  | word (s : Str)
def Src.v (ws : List V) : Src → V
  | .arg j => ws.getD j .non
  | .word s => .str s
def Src.d (ds : List D) : Src → D
  | .arg j => ds.getD j .non
  | .word s => .str s
def flV (sp : List (Str × Src)) (ws : List V) : List (Str × V) := sp.map fun p => (p.1, p.2.v ws)
/-- what the __init__ of an exception promises: its fields -/
def spIn (K : PySem.W.Frag) (n : Nat) (sp : List (Str × Src)) : Sp := fun vs H Q _ => ∃ a ws, vs = .ref a :: ws ∧ ws.length = n ∧ DW.spInitAt K a H Q (flV sp ws)
def mRaise (x : Str) (n : Nat) (sp : List (Str × Src)) (ma : MA) : MS := fun E ρ M => ma ρ M (fun ds M1 => ds.length = n ∧ E.ex ⟨x, sp.map (·.1), sp.map fun p => p.2.d ds⟩ ρ M1) (fun y M1 => E.ex y ρ M1)
section
variable {X : Cx} {W : WX} {x : Str} {e : Expr} {es : List Expr} {ma : MA} {n k : Nat} {sp : List (Str × Src)} {fs ps : List Str} {p pos pos' : Pos}
theorem src_rel {K : PySem.W.Frag} {as : List Addr} {H : Hp} {ds : List D} {ws : List V} (r : RelL K as H ds ws) : ∀ s : Src, Rel K as H (s.d ds) (s.v ws)
  | .arg j => by
    simp only [Src.d, Src.v, List.getD_eq_getElem?_getD]
    cases h : ds[j]? with
    | none =>
      have : ws[j]? = none := by
        rw [List.getElem?_eq_none_iff] at h ⊢
        rw [← r.len]; exact h
      rw [this]; exact .non
    | some d =>
      obtain ⟨v, e, rv⟩ := r.get h
      rw [e]; exact rv
  | .word s => .str s
theorem zip_flV (sp : List (Str × Src)) (ws : List V) : (sp.map (·.1)).zip (sp.map fun p => p.2.v ws) = flV sp ws := by
  induction sp with
  | nil => rfl
  | cons p sp ih => simp [flV, ih]
theorem srcs_rel {K : PySem.W.Frag} {as : List Addr} {H : Hp} {ds : List D} {ws : List V} (r : RelL K as H ds ws) : ∀ sp : List (Str × Src), RelL K as H (sp.map fun p => p.2.d ds) (sp.map fun p => p.2.v ws)
  | [] => .nil
  | p :: sp => .cons (src_rel r p.2) (srcs_rel r sp)
theorem mk_in {K : PySem.W.Frag} {mg : Str → Option Value} {H : Hp} {QX : XK} {vs : List V} (c : DW.ExcX K mg x fs) (hl : vs.length = n) (hn : n ≤ 1000) (hfl : ∀ f ∈ sp.map (·.1), f ∈ fs) (q : ∀ d, H d = none → QX (.ref (He.ga K x)) (some d) (upd H d (.xd (flV sp vs)))) :
    vs.length ≤ 1000 ∧ ∀ a, H a = none → spIn K n sp (.ref a :: (vs ++ [])) (upd H a (exo a (He.ga K x) none))
      (fun v H2 => v = .non ∧ ∃ (d : Addr) (fl : List (Str × V)), H2 a = some (exo a (He.ga K x) (some d)) ∧ H2 d = some (exd d fl) ∧ H d = none ∧ QX (.ref (He.ga K x)) (some d) (upd (del H2 a) d (.xd fl))) (fun _ _ _ => False) := by
  refine ⟨by omega, fun a ha => ?_⟩
  rw [List.append_nil]
  refine ⟨a, vs, rfl, hl, _, upd_same, c.oex, fun f hf => c.no f (hfl f (by simpa [flV] using hf)), fun dx hdx hne => ⟨rfl, dx, flV sp vs, upd_same, ?_, ?_, ?_⟩⟩
  · rw [upd_ne hne, upd_same]
  · rw [upd_ne hne] at hdx; exact hdx
  · rw [upd_ne hne] at hdx
    rw [DW.mk_heap ha hne]
    exact q dx hdx
theorem mk_end1 {sp : List (Str × Src)} {De : Ends} {E : Nd} {as : List Addr} {H : Hp} {σ : L2.St} {ρ : Ev} {M1 : Mem} {as1 : List Addr} {H1 : Hp} {ds : List D} {vs : List V} (hE : NdOk X.K W as H E De) (h1 : E.ex ⟨x, sp.map (·.1), sp.map fun p => p.2.d ds⟩ ρ M1) (e1 : Ext X.K as H as1 H1) (r1 : RepM X.K as1 H1 M1) (rs1 : RelS X.K as1 H1 ρ σ) (rv : RelL X.K as1 H1 ds vs) {d : Addr} (hd : H1 d = none) :
    W (.ref (He.ga X.K x)) (some d) σ (upd H1 d (.xd (flV sp vs))) := by
  have e2 : Ext X.K as1 H1 as1 (upd H1 d (.xd (flV sp vs))) := ext_new hd
  exact hE.ex _ _ _ h1 as1 _ σ _ _ (e1.trans e2) (r1.laid hd) (rs1.up e2) ⟨rfl, d, _, rfl, by rw [upd_same, ← zip_flV], srcs_rel (rv.up e2) sp⟩
theorem qs_raise0 (hc : X.calm = true) (tk : Takes X W) (c : DW.ExcX X.K X.mg x fs) (F : FnMU X.prog X.w X.K X.mg X.base k x "__init__" ps (spIn X.K 0 sp)) (hr : Room (k + 1) X.A) (hg : Gl X x) (hfl : ∀ f ∈ sp.map (·.1), f ∈ fs) (hdb : (x == ("__debug__" : Str)) = false := by decide) : QS X W (.Raise (some (.Call (.Name x p) [] [] pos)) none pos') (mRaise x 0 sp mNil) :=
  PSi (ps_raiseK hc tk (pmk_xU0 c F (L2H.roomH_of hr) hg hdb)) fun D σ H ⟨as, M, ρ, E, r, rs, h, hE⟩ => by
    have k := mk_in (K := X.K) (H := H) (vs := []) (QX := fun cls d H' => W cls d σ H') c rfl (Nat.zero_le _) hfl fun d hd => mk_end1 (ds := []) hE h.2 .refl r rs .nil hd
    intro a ha
    exact k.2 a ha
end
/-- the law's start -/
theorem law_st {K : PySem.W.Frag} {w : WF} (hw : ∀ ns : List Int, ns.length ≤ 63 → w [.kl (ns.map .int)] [] (fun d _ => d = .bl true) (fun _ _ => False)) (H : Hp) (a : Addr) (ns : List Int) (hl : ns.length ≤ 63) (hO : Only H) (hS : SqL K H a (ns.map V.int)) :
    spM K 1 w [.ref a] H (fun v _ => v = .bl true) E0 := by
  have hR : RdL K H a (ns.map V.int) := by
    rcases hS with (h | h) | h
    · rcases hO a with z | ⟨o, xs, z⟩
      · rw [z] at h; cases h
      · rw [z] at h; cases h
    · exact .inl h
    · exact .inr h
  have hL : ∀ ns : List Int, RelL K [] H (ns.map .int) (ns.map V.int) := fun ns => by
    induction ns with
    | nil => exact .nil
    | cons i ns ih => exact .cons (.int i) ih
  refine ⟨[], [], [.kl (ns.map .int)], _, _, rfl, ⟨rfl, by simp, fun n b o h1 h2 => by simp at h1⟩, .cons (.kl hR (hL ns)) .nil, hw ns hl, fun d M' q as' H' v _ _ rv => ?_, fun _ _ q => q.elim⟩
  subst q
  cases rv
  rfl
end MV
namespace MV
open PySem PySem.Spec PyProof.Rows L2
section
variable {X : Cx} {W : WX}
theorem qv (i : Nat) {x : Str} {pos : Pos} (hN : X.N[i]? = some x := by rfl) (hv : Vis X.env.scope x := by first | exact Or.inl rfl | exact Or.inr (Or.inl rfl) | exact Or.inr (Or.inr rfl)) (hd : (x == ("__debug__" : Str)) = false := by decide)
    (hcd : (x == ("__classdict__" : Str)) = false := by decide) : QE X W (.Name x pos) (mVar i) := qe_var hN hv hd hcd
theorem units65 {k : Nat} {A : Around} (r : Room k A) : A.units + 65 < cLine := by have := r.un; omega
theorem units1 {k : Nat} {A : Around} (r : Room k A) : A.units + 1 < cLine := by have := r.un; omega
end
theorem call_listA {X : Cx} (hc : X.calm = true) : CallR X (.type "list") (rListA X.K) := CallR_or call_list_of (call_list_dK hc)
/-- every parameter is given -/
theorem dbn_all {K : PySem.W.Frag} {fd : FuncData} {ps : List Str} (h : Binds K fd ps []) : DBn K fd ps ps.length [] (fun ds _ => ds) :=
  ⟨⟨fun us _ => us, fun vs _ => vs, ⟨fun s us ws X l1 _ => by
    have := h s us X (by simp [l1])
    simpa using this, fun r _ => r⟩, fun as H ds es vs zs _ _ r _ => r⟩⟩
theorem relL_app {K : PySem.W.Frag} {as : List Addr} {H : Hp} {ds es : List D} {vs ws : List V} (h : RelL K as H ds vs) (h' : RelL K as H es ws) : RelL K as H (ds ++ es) (vs ++ ws) := h.app h'
end MV
namespace MV
open PySem PySem.Spec PyProof.Rows L2
def tyD (x : D) (M : Mem) : Option String := match x with
  | .non => some "NoneType"
  | .bl _ => some "bool"
  | .int _ => some "int"
  | .str _ => some "str"
  | .tup _ => some "tuple"
  | .ref n => match M[n]? with
    | some (.lst _) => some "list"
    | some (.dct false _) => some "dict"
    | _ => none
  | _ => none
/-- of the five types: is t a u? -/
def subTy (t u : String) : Bool := t == u || (t == "bool" && u == "int")
def oIsi : OA := fun xs M Q => match xs with
  | [x, .ty u] => match tyD x M with
    | some t => (["int", "str", "tuple", "list", "bool", "dict"].contains u = true) ∧ Q (.bl (subTy t u)) M
    | none => match x with
      | .ref n => match M[n]? with
        | some (.ins _ _) => False
        | _ => False
      | _ => False
  | _ => False
theorem SqT_ty {K : PySem.W.Frag} {H : Hp} {a : Addr} {xs : List V} (h : SqT K H a xs) : TyX K H (.ref a) (.type "tuple") := by
  rcases h with (h | ⟨o, h⟩) | ⟨o, its, n, h1, h2, h3⟩
  · exact .base (.tup h)
  · exact .fTuple h
  · exact .kTuple h1 h2
def oIsB : OP := fun x y M Q => match x, y with | .bl a, .bl b => Q (.bl (a == b)) M | _, _ => False
def mDict0 : ME := fun _ M Q _ => Q (.ref M.length) (M ++ [.dct false []])
section
variable {X : Cx} {W : WX} {pos : Pos}
inductive QPs (X : Cx) (W : WX) (pos : Pos) : List (Option Expr) → List Expr → List (ME × ME) → Prop where
  | nil : QPs X W pos [] [] []
  | cons {k v : Expr} {ks : List (Option Expr)} {vs : List Expr} {mk mv : ME} {trs : List (ME × ME)} (hk : QE X W k mk) (hv : QE X W v mv) (hr : QPs X W pos ks vs trs) : QPs X W pos (some k :: ks) (v :: vs) ((mk, mv) :: trs)
end
end MV
namespace MV
open PySem PySem.Spec PyProof.Rows L2
theorem dbn_dfl {K : PySem.W.Frag} {fd : FuncData} {ps : List Str} {n : Nat} {dv : List Value} {dz : List V} {gD : List D → List D → List D} (hb : Binds K fd ps dv) (hd : Vals dz dv) (hl : n + dz.length = ps.length)
    (hr : ∀ as H (ds : List D) (vs : List V), ds.length = n → RelL K as H ds vs → RelL K as H (gD ds []) (vs ++ dz)) : DBn K fd ps n [] gD :=
  ⟨⟨fun us _ => us ++ dv, fun vs _ => vs ++ dz, ⟨fun s us ws X l1 _ => by
    have := hb s us X (by rw [List.length_append, ← hd.length, l1, hl])
    simpa using this, fun r _ => r.append hd⟩, fun as H ds es vs zs l1 l2 r _ => by
    cases es with
    | nil => exact hr as H ds vs l1 r
    | cons e es => simp at l2⟩⟩
end MV
namespace MV
open PySem PySem.Spec PyProof.Rows L2
section
variable {K : PySem.W.Frag}
end
section
variable {X : Cx} {W : WX} {elt tg iter tg1 iter1 : Expr} {ifs ifs1 : List Expr} {scope : Scope} {own : List (Str × Nat)} {vs1 : List Nat} {pos spos : Pos} {mi mi1 : MI} {T T1 : Tg} {tt tt1 : MT} {me : ME}
end
theorem xok_of {K : PySem.W.Frag} {x : Str} {fs : List Str} (h : DW.excXB K x fs = true) : XOk K fs x := by
  have e := DW.excXB_ok (mg := fun _ => some (.ref (He.ga K x))) (x := x) rfl h
  exact ⟨e.xf, fun f hf => e.no f hf⟩
/-- the table sub is the head's -/
def XP (K : PySem.W.Frag) (fl : List Str) (sub : Str → Str → Option Bool) : Prop := ∀ x y b, sub x y = some b → PySem.W.exmOne K (.ref (He.ga K x)) (.ref (He.ga K y)) = some b ∧ XOk K fl x
theorem xcn_mk {K : PySem.W.Frag} {fl : List Str} {sub : Str → Str → Option Bool} (h : XP K fl sub) : XcN K sub fl := ⟨fun x y b e => (h x y b e).1, fun x y b e => (h x y b e).2⟩
end MV
namespace MV
open PySem PySem.Spec PyProof.Rows L2
def oStrO (c : Str) (w : WF) (gD : List D → List D → List D) : OA := fun xs M Q => match xs with
  | [.ref a] => match M[a]? with
    | some (.ins c' _) => c' = c ∧ w (gD [.ref a] []) M (fun d M' => match d with | .str z => Q (.str z) M' | _ => False) (fun _ _ => False)
    | _ => False
  | _ => False
section
variable {X : Cx} {W : WX} {c x : Str} {e : Expr} {es : List Expr} {p pos : Pos} {ma : MA} {k : Nat} {ps : List Str} {w : WF} {gD : List D → List D → List D} {f : Addr} {gV : List V → List V → List V}
def rOwn (K : PySem.W.Frag) (c : Str) (N : Nat) (w : WF) (gV : List V → List V → List V) (T : V → Prop) : List V → Hp → VK → Prop := fun xs H Q => ∃ a dx fs, xs = [V.ref a] ∧ H a = some (.ins (He.ga K c) dx fs) ∧ spM K N w (gV [.ref a] []) H (fun v H' => T v ∧ Q v H') (fun _ _ _ => False)
def isStrV (v : V) : Prop := ∃ z, v = .str z
theorem env_sub {A : Around} {pins : List (Addr × Obj)} {σ : L2.St} {H : Hp} {s : Shared} (I : Inv X pins σ H s) (fr : A.frames = X.A.frames) : Env0 X.prog X.w X.K X.mg X.base A X.stack s H := by
  have e := I.env0
  exact ⟨by rw [fr]; exact e.frames, e.mod, e.bs, e.bsz, e.funs, e.frf, e.hok, e.bare⟩
theorem run_own {A : Around} {fd : FuncData} {sp : Sp} {g : List Value → List Value → List Value} {pins : List (Addr × Obj)} {σ : L2.St} {H : Hp} {s : Shared} {Q : VK} {a : Addr} {B : Value → Shared → Prop} (F : FnOk X.prog X.w X.K X.mg X.base (CX X.prog X.w) k f fd ps sp) (hr : Room k A) (fr : A.frames = X.A.frames) (hb : KBn X.K fd ps 1 [] g gV)
    (I : Inv X pins σ H s) (h : sp (gV [.ref a] []) H Q (fun _ _ _ => False)) (hB : ∀ v u H' s', Inv X pins σ H' s' → RelV v u → Q v H' → B u s') : wpAny (model X.prog X.w) A (call (.ref f) [.ref a]) B X.xe s := by
  have r1 : Vals [V.ref a] [Value.ref a] := .cons rfl .nil
  have r2 := hb.rel r1 (zs := []) (ws := []) .nil
  refine wpAny_call (codeAny_mono (F.run A X.stack s H ⟨[.ref a], []⟩ (g [.ref a] []) (gV [.ref a] []) Q _ hr (env_sub I fr) (hb.to s [.ref a] [] I.kIn rfl rfl) r2 h) fun r s' hq => ?_)
  cases r with
  | error e =>
    obtain ⟨a, B, H', cls, d, _, _, _, _, _, _, _, z⟩ := hq
    exact z.elim
  | ok fl =>
    cases fl with
    | ret u =>
      obtain ⟨v, H', I', rv, q⟩ := I.after hq
      exact hB v u H' s' I' rv q
    | next => exact False.elim hq
    | brk => exact False.elim hq
    | cont => exact False.elim hq
theorem call_strO {fd : FuncData} {g : List Value → List Value → List Value} {N : Nat} (hmt : Meth X.K (He.ga X.K c) "__str__" f) (F : FnOk X.prog X.w X.K X.mg X.base (CX X.prog X.w) k f fd ps (spM X.K N w)) (hr : Room (k + 2) X.A) (hb : KBn X.K fd ps 1 [] g gV) : CallR X (.type "str") (rOwn X.K c N w gV isStrV) := by
  rintro pins s σ H xs us Q I rv ⟨a, dx, fs, rfl, ha, hsp⟩
  obtain ⟨u, us', rfl, ru, rus⟩ : ∃ u us', us = u :: us' ∧ RelV (.ref a) u ∧ Vals [] us' := by cases rv with | cons h t => exact ⟨_, _, rfl, h, t⟩
  cases rus
  obtain rfl : u = Value.ref a := ru
  obtain ⟨mA, J, _⟩ := ins_get I.hok ha
  obtain ⟨od, J, _⟩ := J.look
  have hr2 : Room k X.A.in1.in1 := hr.in1.in1
  refine PySem.W.kso_call hr2.units0 I.kIn J hmt.at_ hmt.fn ?_
  refine run_own F hr2 rfl hb I hsp fun v u H' s' I' rv q => ?_
  obtain ⟨⟨z, rfl⟩, q⟩ := q
  obtain ⟨t, rfl⟩ : ∃ t, u = Value.str z t := rv
  exact ⟨.str z, H', I', ⟨t, rfl⟩, q⟩
theorem sim_own {N : Nat} {gV : List V → List V → List V} {T : V → Prop} {o : D → (D → Prop) → Prop}
    (hrel : ∀ (as : List Addr) (H : Hp) (ds es : List D) (vs zs : List V), ds.length = 1 → es.length = 0 → RelL X.K as H ds vs → RelL X.K as H es zs → RelL X.K as H (gD ds es) (gV vs zs)) (hgl : ∀ (ds es : List D), ds.length = 1 → es.length = 0 → (gD ds es).length = N)
    (hT : ∀ as H d v (q : D → Prop), Rel X.K as H d v → o d q → T v ∧ q d) : SimA X.K (rOwn X.K c N w gV T) (fun xs M Q => match xs with
  | [.ref a] => match M[a]? with
    | some (.ins c' _) => c' = c ∧ w (gD [.ref a] []) M (fun d M' => o d fun d => Q d M') (fun _ _ => False)
    | _ => False
  | _ => False) := fun as H M ds vs k Q rp rv h hk => by
  dsimp only at h
  split at h
  · rename_i n
    split at h
    · rename_i c' fs em
      obtain ⟨rfl, h⟩ := h
      cases rv with
      | cons hd ht =>
        cases ht
        cases hd
        rename_i a hn
        obtain ⟨dx, ys, g1, g2⟩ := at_ins rp hn em
        have rg := hrel as H [.ref n] [] [.ref a] [] rfl rfl (.cons (.ref hn) .nil) .nil
        refine ⟨a, dx, ys, rfl, g1, spM_of rp rg (by rw [← rg.len]; exact hgl _ _ rfl rfl) h (fun d M' q as' H' v e r' rd => ?_) fun x M' q => q.elim⟩
        obtain ⟨h1, h2⟩ := hT as' H' d v _ rd q
        exact ⟨h1, hk d M' h2 as' H' v e r' rd⟩
    · exact h.elim
  · exact h.elim
theorem qe_strO (hmt : Meth X.K (He.ga X.K c) "__str__" f) (F : Fn X.prog X.w X.K X.mg X.base k f ps w 1 [] gD) (hr : Room (k + 2) X.A) (hgl : ∀ (ds es : List D), ds.length = 1 → es.length = ([] : List Str).length → (gD ds es).length = ps.length) (hg : Gl X x) (hm : X.mg x = none) (hv : bootBuiltins x = some (.type "str")) (ha : QA X W (e :: es) ma) (hn : x ≠ "__name__" := by decide) (hdb : (x == ("__debug__" : Str)) = false := by decide)
    (he : starEach (e :: es) X.env = (false, eval e X.env) :: starEach es X.env := by rfl) (hpl : (backTo pos (starEach es X.env)).any (·.1) = false := by rfl) : QE X W (.Call (.Name x p) (e :: es) [] pos) (mCB (oStrO c w gD) ma) := by
  obtain ⟨⟨fd, G, ⟨g, gV, hb, hrel⟩⟩, kp⟩ := F
  refine qe_callTy (call_strO hmt G hr hb) (o := oStrO c w gD) ?_ hg hm hv ha hn hdb he hpl
  refine sim_own (o := fun d q => match d with | .str z => q (.str z) | _ => False) hrel hgl fun as H d v q rd h => ?_
  cases rd <;> first | exact h.elim | exact ⟨⟨_, rfl⟩, h⟩
end
end MV
namespace MV
open PySem PySem.Spec PyProof.Rows L2
section
variable {K : PySem.W.Frag} {as : List Addr} {H : Hp} {M : Mem}
end
section
variable {X : Cx} {W : WX} {kx vx tg iter : Expr} {ifs : List Expr} {scope : Scope} {own : List (Str × Nat)} {pos spos : Pos} {mi : MI} {T : Tg} {tt : MT} {mk mv : ME}
end
end MV
namespace MV
open PySem PySem.Spec PyProof.Rows L2
def tabSub (ys : List Str) (rows : List (Str × List Bool)) (x y : Str) : Option Bool := (rows.find? fun r => decide (r.1 = x)).bind fun r => ((ys.zip r.2).find? fun e => decide (e.1 = y)).map (·.2)
/-- the numbers worked out first -/
def frL : List Nat → (List Nat → Bool) → Bool
  | [], k => k []
  | n :: r, k => HandSHeadRun.frNat n fun n => frL r fun r => k (n :: r)
theorem frL_eq : ∀ (l : List Nat) (k : List Nat → Bool), frL l k = k l
  | [], _ => rfl
  | n :: r, k => by
    show HandSHeadRun.frNat n (fun n => frL r fun r => k (n :: r)) = _
    rw [HandSHeadRun.frNat_eq, frL_eq r]
def exmA (K : PySem.W.Frag) (x y : Nat) (b : Bool) : Bool := decide (PySem.W.exmOne K (.ref x) (.ref y) = some b)
def tabOk (K : PySem.W.Frag) (fl : List Str) (ys : List Str) (rows : List (Str × List Bool)) : Bool := frL (ys.map fun y => He.ga K y) fun bs => rows.all fun r => DW.excXB K r.1 fl && frL [He.ga K r.1] fun ax => (bs.zip r.2).all fun e => exmA K (ax.getD 0 0) e.1 e.2
theorem xcn_tab {K : PySem.W.Frag} {fl : List Str} {ys : List Str} {rows : List (Str × List Bool)} (h : tabOk K fl ys rows = true) : XcN K (tabSub ys rows) fl := xcn_mk fun x y b e => by
  unfold tabOk at h
  rw [frL_eq] at h
  unfold tabSub at e
  cases hf : rows.find? fun r => decide (r.1 = x) with
  | none => rw [hf] at e; cases e
  | some r =>
    rw [hf] at e
    have hm := List.mem_of_find?_eq_some hf
    have hx : r.1 = x := of_decide_eq_true (List.find?_some (p := fun r : Str × List Bool => decide (r.1 = x)) hf)
    subst hx
    have hr := List.all_eq_true.mp h r hm
    rw [Bool.and_eq_true, frL_eq] at hr
    refine ⟨?_, xok_of hr.1⟩
    replace e : ((ys.zip r.2).find? fun e => decide (e.1 = y)).map (·.2) = some b := e
    cases hz : (ys.zip r.2).find? fun e => decide (e.1 = y) with
    | none => rw [hz] at e; cases e
    | some z =>
      rw [hz] at e
      have hy : z.1 = y := of_decide_eq_true (List.find?_some (p := fun e : Str × Bool => decide (e.1 = y)) hz)
      have hb : z.2 = b := by injection e
      subst hy; subst hb
      have hzm := List.mem_of_find?_eq_some hz
      have hm2 : (He.ga K z.1, z.2) ∈ (ys.map fun y => He.ga K y).zip r.2 := by
        have : (ys.map fun y => He.ga K y).zip r.2 = (ys.zip r.2).map fun e => (He.ga K e.1, e.2) := by
          have h2 := List.zip_map_left (f := fun y => He.ga K y) (l₁ := ys) (l₂ := r.2)
          rw [h2]; rfl
        rw [this]
        exact List.mem_map.mpr ⟨z, hzm, rfl⟩
      exact of_decide_eq_true (List.all_eq_true.mp hr.2 _ hm2)
end MV
namespace MV
open PySem PySem.Spec PyProof.Rows L2
section
variable {K : PySem.W.Frag}
end
end MV
namespace MV
open PySem PySem.Spec PyProof.Rows L2
end MV
namespace MV
open PySem PySem.Spec PyProof.Rows L2
section
variable {X : Cx}
end
end MV
namespace MV
open PySem PySem.Spec PyProof.Rows L2
section
variable {X : Cx}
end
section
variable {X : Cx} {W : WX} {kx vx tg iter : Expr} {ifs : List Expr} {scope : Scope} {own : List (Str × Nat)} {pos spos : Pos} {mi : MI} {T : Tg} {tt : MT} {mk mv : ME}
end
end MV
namespace MV
open PySem PySem.Spec PyProof.Rows L2
section
variable {X : Cx} {o : Expr} {f : Str} {pos : Pos}
end
section
variable {X : Cx} {W : WX} {e : Expr} {es : List Expr} {me : ME} {pos pos' : Pos} {cs all fns : List Str} {i : Nat} {k : Nat}
end
end MV
namespace MV
open PySem PySem.Spec PyProof.Rows L2
def bts : List String := ["NoneType", "bool", "int", "str", "tuple", "list", "dict"]
def ownTB (K : PySem.W.Frag) (d : Str) : Bool := decide (PySem.W.findIn K (.ref (He.ga K d)) "__class__" = some (some (.builtin "object.__class__"))) &&
  (decide (PySem.W.specialIn K (.builtin "object.__class__") "__get__" = some (some (.builtin "getset_descriptor.__get__"))) && (decide (PySem.W.takesIn K (.builtin "object.__class__") = some true) && decide (PySem.W.mroIn K (He.ga K d) (.type "object") = some true)))
def ownB (K : PySem.W.Frag) (cs : List Str) (c : Str) : Bool := (bts.all fun t => decide (PySem.W.kitOne K (.type t) (.ref (He.ga K c)) = some false) && PySem.W.notFirst K (He.ga K c) (.type t)) &&
  (cs.all fun d => decide (PySem.W.kitOne K (.ref (He.ga K d)) (.ref (He.ga K c)) = some (decide (d = c))) && (PySem.W.notFirst K (He.ga K c) (.ref (He.ga K d)) && ownTB K d))
inductive TyK where
  | b (t : String)
  | c (d : Str)
def TyK.v (K : PySem.W.Frag) : TyK → Value
  | .b t => .type t
  | .c d => .ref (He.ga K d)
def TyK.ok (cs : List Str) : TyK → Prop
  | .b t => t ∈ bts
  | .c d => d ∈ cs
def TyK.is (c : Str) : TyK → Bool
  | .b _ => false
  | .c d => decide (d = c)
structure OwnC (K : PySem.W.Frag) (cs : List Str) (c : Str) : Prop where
  kit : ∀ t : TyK, t.ok cs → PySem.W.kitOne K (t.v K) (.ref (He.ga K c)) = some (t.is c)
  nf : ∀ t : TyK, t.ok cs → PySem.W.notFirst K (He.ga K c) (t.v K) = true
  ot : ∀ d ∈ cs, ownTB K d = true
theorem ownC_ok {K : PySem.W.Frag} {cs : List Str} {c : Str} (h : ownB K cs c = true) : OwnC K cs c := by
  obtain ⟨h1, h2⟩ := Bool.and_eq_true_iff.mp h
  refine ⟨fun t ht => ?_, fun t ht => ?_, fun d hd => ?_⟩
  · cases t with
    | b t => exact of_decide_eq_true (Bool.and_eq_true_iff.mp (List.all_eq_true.mp h1 t ht)).1
    | c d => exact of_decide_eq_true (Bool.and_eq_true_iff.mp (List.all_eq_true.mp h2 d ht)).1
  · cases t with
    | b t => exact (Bool.and_eq_true_iff.mp (List.all_eq_true.mp h1 t ht)).2
    | c d => exact (Bool.and_eq_true_iff.mp (Bool.and_eq_true_iff.mp (List.all_eq_true.mp h2 d ht)).2).1
  · exact (Bool.and_eq_true_iff.mp (Bool.and_eq_true_iff.mp (List.all_eq_true.mp h2 d hd)).2).2
theorem ownA_ok {K : PySem.W.Frag} {cs : List Str} (h : cs.all (ownB K cs) = true) : ∀ c ∈ cs, OwnC K cs c := fun c hc => ownC_ok (List.all_eq_true.mp h c hc)
def tyK (x : D) (M : Mem) : Option TyK := match x with
  | .non => some (.b "NoneType")
  | .bl _ => some (.b "bool")
  | .int _ => some (.b "int")
  | .str _ => some (.b "str")
  | .tup _ => some (.b "tuple")
  | .ref n => match M[n]? with
    | some (.lst _) => some (.b "list")
    | some (.dct false _) => some (.b "dict")
    | some (.ins c _) => some (.c c)
    | _ => none
  | _ => none
theorem tyK_x {K : PySem.W.Frag} {cs : List Str} {as : List Addr} {H : Hp} {M : Mem} {d : D} {v : V} {t : TyK} (hcl : ∀ c ∈ cs, Cls K (He.ga K c)) (ho : ∀ c ∈ cs, ownTB K c = true) (rp : RepM K as H M) (rd : Rel K as H d v) (e : tyK d M = some t) (ok : t.ok cs) : TyX K H v (t.v K) := by
  cases rd with
  | non => cases e; exact .base .non
  | bl b => cases e; exact .base (.bl b)
  | int b => cases e; exact .base (.int b)
  | str b => cases e; exact .base (.str b)
  | tup hs hl => cases e; exact SqT_ty hs.1
  | ref hn =>
    simp only [tyK] at e
    split at e
    · rename_i l el
      obtain ⟨xs, g1, g2⟩ := at_lst rp hn el
      cases e; exact .base (.lst g1)
    · rename_i kvs el
      obtain ⟨a', ha, ks, h1, h2⟩ := rp.at_ el
      rw [hn] at ha; cases ha
      cases e; exact .base (.dK h2)
    · rename_i c fs el
      obtain ⟨dx, ys, g1, g2⟩ := at_ins rp hn el
      cases e
      have h := ho c ok
      unfold ownTB at h
      obtain ⟨h1, h⟩ := Bool.and_eq_true_iff.mp h
      obtain ⟨h2, h⟩ := Bool.and_eq_true_iff.mp h
      obtain ⟨h3, h4⟩ := Bool.and_eq_true_iff.mp h
      exact .base (.ins g1 (hcl c ok) (of_decide_eq_true h1) (of_decide_eq_true h2) (of_decide_eq_true h3) (of_decide_eq_true h4))
    · cases e
  | _ => cases e
/-- isinstance(x, C) -/
def oIsiC (cs : List Str) : OA := fun xs M Q => match xs with
  | [x, .g c] => c ∈ cs ∧ match tyK x M with
    | some t => t.ok cs ∧ Q (.bl (t.is c)) M
    | none => False
  | _ => False
theorem sim_isiC {K : PySem.W.Frag} {cs all : List Str} (T : ∀ c ∈ cs, OwnC K cs c) (C : ClsN K cs all) : SimA K (rIsi K) (oIsiC cs) := fun as H M ds vs k Q rp rv h hk => by
  unfold oIsiC at h
  split at h
  · rename_i x c
    obtain ⟨v, w, rfl, rx, ry⟩ := rv.two
    cases ry
    obtain ⟨hc, h⟩ := h
    split at h
    · rename_i t et
      obtain ⟨ok, h⟩ := h
      exact ⟨_, _, _, _, _, rfl, .own _, tyK_x C.cls (T c hc).ot rp rx et ok, (T c hc).kit t ok, hk _ _ h as H _ .refl rp (.bl _)⟩
    · exact h.elim
  · exact h.elim
/-- x == y -/
def oEqO (cs : List Str) (c : Str) (w : WF) (gD : List D → List D → List D) : OP := fun x y M Q => match x with
  | .ref a => match M[a]? with
    | some (.ins c' _) => c' = c ∧ match tyK y M with
      | some t => t.ok cs ∧ w (gD [.ref a, y] []) M (fun d M' => match d with | .bl z => Q (.bl z) M' | _ => False) (fun _ _ => False)
      | none => False
    | _ => False
  | _ => False
def isBlV (v : V) : Prop := ∃ z, v = .bl z
def rEqO (K : PySem.W.Frag) (c : Str) (N : Nat) (w : WF) (gV : List V → List V → List V) : R2 := fun x y H Q => ∃ a dx fs t, x = V.ref a ∧ H a = some (.ins (He.ga K c) dx fs) ∧ TyX K H y t ∧ PySem.W.notFirst K (He.ga K c) t = true ∧ spM K N w (gV [x, y] []) H (fun v H' => isBlV v ∧ Q v H') (fun _ _ _ => False)
section
variable {X : Cx} {W : WX} {c : Str} {k : Nat} {ps : List Str} {w : WF} {gD : List D → List D → List D} {f : Addr} {gV : List V → List V → List V}
theorem run_own2 {A : Around} {fd : FuncData} {sp : Sp} {g : List Value → List Value → List Value} {pins : List (Addr × Obj)} {σ : L2.St} {H : Hp} {s : Shared} {Q : VK} {a : Addr} {y : V} {u : Value} {B : Value → Shared → Prop} (F : FnOk X.prog X.w X.K X.mg X.base (CX X.prog X.w) k f fd ps sp) (hr : Room k A) (fr : A.frames = X.A.frames) (hb : KBn X.K fd ps 2 [] g gV)
    (I : Inv X pins σ H s) (ry : RelV y u) (h : sp (gV [.ref a, y] []) H Q (fun _ _ _ => False)) (hB : ∀ v u H' s', Inv X pins σ H' s' → RelV v u → Q v H' → B u s') : wpAny (model X.prog X.w) A (call (.ref f) [.ref a, u]) B X.xe s := by
  have r1 : Vals [V.ref a, y] [Value.ref a, u] := .cons rfl (.cons ry .nil)
  have r2 := hb.rel r1 (zs := []) (ws := []) .nil
  refine wpAny_call (codeAny_mono (F.run A X.stack s H ⟨[.ref a, u], []⟩ (g [.ref a, u] []) (gV [.ref a, y] []) Q _ hr (env_sub I fr) (hb.to s [.ref a, u] [] I.kIn rfl rfl) r2 h) fun r s' hq => ?_)
  cases r with
  | error e =>
    obtain ⟨a, B, H', cls, d, _, _, _, _, _, _, _, z⟩ := hq
    exact z.elim
  | ok fl =>
    cases fl with
    | ret u =>
      obtain ⟨v, H', I', rv, q⟩ := I.after hq
      exact hB v u H' s' I' rv q
    | next => exact False.elim hq
    | brk => exact False.elim hq
    | cont => exact False.elim hq
theorem op_eqO {fd : FuncData} {g : List Value → List Value → List Value} {N : Nat} (hmt : Meth X.K (He.ga X.K c) "__eq__" f) (F : FnOk X.prog X.w X.K X.mg X.base (CX X.prog X.w) k f fd ps (spM X.K N w)) (hr : Room (k + 2) X.A) (hb : KBn X.K fd ps 2 [] g gV) : OpR X (compareOp .Eq) (rEqO X.K c N w gV) := by
  rintro pins s σ H x y v u Q I rx ry ⟨a, dx, fs, t, rfl, ha, ty, hn, hsp⟩
  obtain rfl : v = Value.ref a := rx
  obtain ⟨mA, J, _⟩ := ins_get I.hok ha
  obtain ⟨od, J, _⟩ := J.look
  obtain ⟨m, hF⟩ := I.fr
  obtain ⟨P, Z, hP, _⟩ := kit_of I ry ty
  have hr2 : Room k X.A := hr.mono (by omega)
  show wpAny _ _ (richCompare .Eq (.ref a) u) _ _ _
  refine PySem.W.cmp_K (op := .Eq) (tb := t) hr2.units0 hF I.ok.mod.kin J (Z.ty _ _ I.kIn hP) hn hmt.at_ hmt.fn ?_
  refine run_own2 F hr2 rfl hb I ry hsp fun v u H' s' I' rv q => ?_
  obtain ⟨⟨z, rfl⟩, q⟩ := q
  obtain rfl : u = Value.bool z := rv
  exact ⟨.bl z, H', I', rfl, q⟩
theorem sim_eqO {cs all : List Str} {N : Nat} (C : ClsN X.K cs all) (T : OwnC X.K cs c)
    (hrel : ∀ (as : List Addr) (H : Hp) (ds es : List D) (vs zs : List V), ds.length = 2 → es.length = 0 → RelL X.K as H ds vs → RelL X.K as H es zs → RelL X.K as H (gD ds es) (gV vs zs)) (hgl : ∀ (ds es : List D), ds.length = 2 → es.length = 0 → (gD ds es).length = N) : SimO X.K (rEqO X.K c N w gV) (oEqO cs c w gD) := fun as H M dx dy x y k Q rp rx ry h hk => by
  unfold oEqO at h
  split at h
  · rename_i n
    split at h
    · rename_i c' fs em
      obtain ⟨rfl, h⟩ := h
      split at h
      · rename_i t et
        obtain ⟨ok, h⟩ := h
        cases rx with
        | ref hn =>
          rename_i a
          obtain ⟨dx, ys, g1, g2⟩ := at_ins rp hn em
          have rg := hrel as H [.ref n, dy] [] [.ref a, y] [] rfl rfl (.cons (.ref hn) (.cons ry .nil)) .nil
          refine ⟨a, dx, ys, _, rfl, g1, tyK_x C.cls T.ot rp ry et ok, T.nf t ok, spM_of rp rg (by rw [← rg.len]; exact hgl _ _ rfl rfl) h (fun d M' q as' H' v e r' rd => ?_) fun x M' q => q.elim⟩
          cases rd <;> first | exact q.elim | exact ⟨⟨_, rfl⟩, hk _ M' q as' H' _ e r' (.bl _)⟩
      · exact h.elim
    · exact h.elim
  · exact h.elim
theorem qe_eqO {cs all : List Str} {a b : Expr} {ma mb : ME} {pos : Pos} (C : ClsN X.K cs all) (T : OwnC X.K cs c) (hmt : Meth X.K (He.ga X.K c) "__eq__" f) (F : Fn X.prog X.w X.K X.mg X.base k f ps w 2 [] gD) (hr : Room (k + 2) X.A) (hgl : ∀ (ds es : List D), ds.length = 2 → es.length = ([] : List Str).length → (gD ds es).length = ps.length) (ha : QE X W a ma) (hb : QE X W b mb) :
    QE X W (.Compare a [.Eq] [b] pos) (mOp (oEqO cs c w gD) ma mb) := by
  obtain ⟨⟨fd, G, ⟨g, gV, hb', hrel⟩⟩, kp⟩ := F
  exact qe_cmp (op_eqO hmt G hr hb') (sim_eqO C T hrel hgl) ha hb (nomark _)
theorem qt_eqO {cs all : List Str} {a b : Expr} {ma mb : ME} {pos : Pos} (C : ClsN X.K cs all) (T : OwnC X.K cs c) (hmt : Meth X.K (He.ga X.K c) "__eq__" f) (F : Fn X.prog X.w X.K X.mg X.base k f ps w 2 [] gD) (hr : Room (k + 2) X.A) (hgl : ∀ (ds es : List D), ds.length = 2 → es.length = ([] : List Str).length → (gD ds es).length = ps.length) (ha : QE X W a ma) (hb : QE X W b mb) :
    QT X W (.Compare a [.Eq] [b] pos) (mB (mOp (oEqO cs c w gD) ma mb)) := by
  obtain ⟨⟨fd, G, ⟨g, gV, hb', hrel⟩⟩, kp⟩ := F
  exact qt_cmp (op_eqO hmt G hr hb') (sim_eqO C T hrel hgl) ha hb (nomark _)
end
end MV
namespace MV
open PySem PySem.Spec PyProof.Rows L2
section
variable {X : Cx} {pins : List (Addr × Obj)} {σ : L2.St} {H : Hp} {s : Shared}
end
section
variable {X : Cx}
end
section
variable {P : Program} {w : World} {K : PySem.W.Frag} {d : Addr} {o : Obj} {es : Array DictEntry} {ep : Nat}
end
end MV
namespace MV
open PySem PySem.Spec PyProof.Rows L2
section
variable {K : PySem.W.Frag} {as : List Addr} {H : Hp} {M : Mem}
end
section
variable {X : Cx} {W : WX} {e : Expr} {me : ME} {pos : Pos}
end
section
variable {X : Cx} {W : WX}
end
section
variable {X : Cx} {W : WX} {e : Expr} {me : ME}
end
section
variable {K : PySem.W.Frag} {as : List Addr} {H : Hp} {M : Mem}
end
section
variable {X : Cx} {W : WX} {kx vx tg iter : Expr} {ifs : List Expr} {scope : Scope} {own : List (Str × Nat)} {pos spos : Pos} {mi : MI} {T : Tg} {tt : MT} {mk mv : ME}
end
section
variable {X : Cx}
end
section
variable {X : Cx} {W : WX} {kx vx tg iter : Expr} {ifs : List Expr} {scope : Scope} {own : List (Str × Nat)} {pos spos : Pos} {mi : MI} {T : Tg} {tt : MT} {mk mv : ME}
end
section
variable {X : Cx} {W : WX} {st : Stmt} {e : Expr}
end
end MV
namespace MV
open PySem PySem.Spec PyProof.Rows L2
end MV
namespace MV
open PySem PySem.Spec PyProof.Rows L2
section
variable {X : Cx} {W : WX} {e o1 i1 o2 i2 : Expr} {me mo1 mi1 mo2 mi2 : ME} {pos p0 p1 p2 : Pos} {k : Nat}
end
end MV
namespace MV
open PySem PySem.Spec PyProof.Rows L2
section
variable {prog : Program} {w : World} {A : Around} {E : Value → Shared → Prop} {s : Shared}
end
section
variable {X : Cx}
end
section
variable {X : Cx} {W : WX} {e : Expr} {me : ME} {pos : Pos}
end
end MV
namespace MV
open PySem PySem.Spec PyProof.Rows L2
theorem DpAll.len {K : PySem.W.Frag} {H : Hp} : ∀ {xs : List V} {ds : List PyData}, DpAll K H xs ds → xs.length = ds.length
  | _, _, .nil => rfl
  | _, _, .cons _ r => by simp only [List.length_cons, DpAll.len r]
end MV
namespace MV
open PySem PySem.Spec PyProof.Rows L2
end MV
namespace MV
open PySem PySem.Spec PyProof.Rows L2
section
variable {M : Model} {prog : Program} {w : World} {A : Around} {E : Value → Shared → Prop} {s : Shared} {K : PySem.W.Frag} {x C L f : Addr} {h₀ : Heap} {mm : Str → Option Value} {ox : Obj} {od : Option Obj} {b tb : Value}
end
structure OwnN (K : PySem.W.Frag) (c : Str) : Prop where
  ne : PySem.W.findIn K (.ref (He.ga K c)) "__ne__" = some (some (.builtin "object.__ne__"))
  mro : PySem.W.mroIn K (He.ga K c) (.type "object") = some true
section
variable {X : Cx} {W : WX} {c : Str} {k : Nat} {ps : List Str} {w : WF} {gD : List D → List D → List D} {f : Addr} {gV : List V → List V → List V}
end
end MV
namespace MV
open PySem PySem.Spec PyProof.Rows L2
structure FmtO (K : PySem.W.Frag) (c : Str) : Prop where
  fm : PySem.W.findIn K (.ref (He.ga K c)) "__format__" = some (some (.builtin "object.__format__"))
  mro : PySem.W.mroIn K (He.ga K c) (.type "object") = some true
section
variable {X : Cx} {W : WX} {c x : Str} {e : Expr} {es : List Expr} {p pos : Pos} {ma : MA} {me : ME} {k : Nat} {ps : List Str} {w : WF} {gD : List D → List D → List D} {f : Addr} {gV : List V → List V → List V}
end
end MV
namespace MV
open PySem PySem.Spec PyProof.Rows L2
end MV
namespace MV
open PySem PySem.Spec PyProof.Rows L2
section
variable {X : Cx} {W : WX} {e : Expr} {es : List Expr} {me : ME} {l : Tgs} {pos pos' p : Pos} {k n : Nat}
end
/-- the table at a: the texts and what stands there -/
structure TabK (K : PySem.W.Frag) (w : World) (a : Addr) (tab : List (Str × D)) : Prop where
  d : He.dicW K a = some (He.keysIn w.params (tab.map (·.1)))
  v : ∀ p ∈ tab, ∃ u, PySem.W.nsIn K a p.1 = some (some u) ∧ ∀ as H, ∃ v, Rel K as H p.2 v ∧ RelV v u
section
variable {X : Cx} {W : WX} {x : Str} {a : Addr} {tab : List (Str × D)} {e f : Expr} {mk md : ME} {p apos cpos : Pos}
inductive TabF (P : Program) (w : World) (K : PySem.W.Frag) (mg : Str → Option Value) (base : Heap) (k n : Nat) : List (Str × WF) → Prop
  | nil : TabF P w K mg base k n []
  | cons {x : Str} {ps : List Str} {W : WF} {j : Nat} {r : List (Str × WF)} (F : Fn P w K mg base j (He.ga K x) ps W n [] (fun ds _ => ds)) (hj : j ≤ k) (hl : ps.length = n) (h : TabF P w K mg base k n r) : TabF P w K mg base k n ((x, W) :: r)
theorem TabF.at_ {P : Program} {w : World} {K : PySem.W.Frag} {mg : Str → Option Value} {base : Heap} {k n : Nat} {t : List (Str × WF)} (h : TabF P w K mg base k n t) {x : Str} {W : WF} (e : t.lookup x = some W) : ∃ ps j, Fn P w K mg base j (He.ga K x) ps W n [] (fun ds _ => ds) ∧ j ≤ k ∧ ps.length = n := by
  induction h with
  | nil => cases e
  | @cons y ps V j r F hj hl h ih =>
    rw [List.lookup_cons] at e
    cases q : (x == y) with
    | true =>
      rw [q] at e
      cases e
      have : x = y := by simpa using q
      subst this
      exact ⟨ps, j, F, hj, hl⟩
    | false => rw [q] at e; exact ih e
end
structure SaysF (fa : List He.Fa) (fn : List He.DefD) (ts : List (Str × List Str)) (ex : PySem.W.Frag → Bool) (w : World) (K : PySem.W.Frag) : Prop where
  d : He.SaysD fa fn K
  tb : (ts.map fun t => He.dicW K (He.ga K t.1)) = ts.map fun t => some (He.keysIn w.params t.2)
  more : ex K = true
theorem SaysF.tab {fa : List He.Fa} {fn : List He.DefD} {ts : List (Str × List Str)} {ex : PySem.W.Frag → Bool} {w : World} {K : PySem.W.Frag} (c : SaysF fa fn ts ex w K) (i : Nat) {t : Str × List Str} (h : ts[i]? = some t := by rfl) : He.dicW K (He.ga K t.1) = some (He.keysIn w.params t.2) := by
  have e : (ts.map fun t => He.dicW K (He.ga K t.1))[i]? = (ts.map fun t => some (He.keysIn w.params t.2))[i]? := by rw [c.tb]
  rw [List.getElem?_map, List.getElem?_map, h] at e
  exact Option.some.inj e
theorem takesN {X : Cx} : MV.Takes X (fun _ _ _ _ => False) := fun _ _ h => by
  obtain ⟨_, _, _, _, _, _, _, _, _, x⟩ := h
  exact x.w.elim
end MV
namespace MV
open PySem PySem.Spec PyProof.Rows L2
section
variable {M : Model} {A : Around} {E : Value → Shared → Prop} {env : Env} {outer l : List Env} {f C a : Addr} {B : Heap} {Z : Obj → Prop} {s : Shared}
end
section
variable {X : Cx} {W : WX} {pins q : List (Addr × Obj)} {σ : L2.St} {H H₃ : Hp} {s₃ s' : Shared} {scope : Scope} {cl : List (Str × Addr)} {fp : List Addr} {xe : Value → Shared → Prop}
end
section
variable {X : Cx} {W : WX} {wi : TI} {g : TG} {tt : TT} {te : WX → TE} {elt tg iter : Expr} {ifs : List Expr} {scope : Scope} {own : List (Str × Nat)} {pos pos' : Pos}
end
section
variable {K : PySem.W.Frag} {as : List Addr} {H : Hp} {M : Mem}
end
section
variable {X : Cx} {W : WX} {elt tg iter : Expr} {ifs : List Expr} {scope : Scope} {own : List (Str × Nat)} {pos spos : Pos}
variable {mi : MI} {T : Tg} {tt : MT} {me : ME}
end
end MV
namespace MV
open PySem PySem.Spec PyProof.Rows L2
section
variable {K : PySem.W.Frag}
end
end MV
namespace MV
open PySem PySem.Spec PyProof.Rows L2 PySem.Builtin PySem.Builtin.Str
section
variable {X : Cx} {o : Expr} {to ta : TE} {y z : Str} {j k l : Nat} {c0 c1 c2 apos pos p p' : Pos}
end
section
variable {X : Cx} {W : WX} {a o : Expr} {ma mo : ME} {y z : Str} {j k l n : Nat} {c0 c1 c2 c3 apos cpos rpos p pos : Pos} {op : CmpOp} {r : R2} {oc : OP} {i : Int} {B : List Stmt} {mb : MS}
end
end MV
namespace MV
open PySem PySem.Spec PyProof.Rows L2
section
variable {pg : Program} {wd : World} {Ar : Around} {Rz : Result → Shared → Prop} {y0 : Shared} {kx vx ta ia tb ib : Expr} {fa fb : List Expr} {sc : Scope} {po : Pos} {itr : Value} {D : Addr} {ev : Env}
end
section
variable {X : Cx}
end
section
variable {K : PySem.W.Frag}
end
section
variable {X : Cx} {W : WX} {kx vx tg iter tg1 iter1 : Expr} {ifs ifs1 : List Expr} {scope : Scope} {own : List (Str × Nat)} {vs1 : List Nat} {pos spos : Pos} {mi mi1 : MI} {T T1 : Tg} {tt tt1 : MT} {mk mv : ME}
end
end MV
namespace MV
open PySem PySem.Spec PyProof.Rows L2
end MV
namespace MV
open PySem PySem.Spec PyProof.Rows L2
section
variable {X : Cx} {W : WX} {tg : Expr} {e e2 e3 : Expr}
end
end MV
namespace MV
open PySem PySem.Spec PyProof.Rows L2
theorem sim_isB {K : PySem.W.Frag} : SimO K rIsB oIsB := fun as H M dx dy x y k Q rp rx ry h hk => by
  unfold oIsB at h
  cases dx <;> cases dy <;> first | exact h.elim | skip
  rename_i a b
  cases rx; cases ry
  refine ⟨a, b, rfl, rfl, ?_⟩
  have e : (a == b) = decide (a = b) := by cases a <;> cases b <;> rfl
  rw [← e]
  exact hk _ _ h as H _ .refl rp (.bl _)
end MV
namespace MV
open PySem PySem.Spec PyProof.Rows L2
end MV
namespace MV
open PySem PySem.Spec PyProof.Rows L2
section
variable {X : Cx} {W : WX} {e : Expr} {me : ME}
end
end MV
namespace MV
open PySem PySem.Spec PyProof.Rows L2
def refsIn (g : Addr → Option Obj) (n : Addr) : List Addr := match g n with
  | some ⟨_, _, .dict es _, _⟩ => es.toList.filterMap fun e => match e.val with | .ref a => some a | _ => none
  | _ => []
def codesIn (g : Addr → Option Obj) (l : List Addr) : List Addr := l.filterMap fun a => match g a with
  | some ⟨_, _, .func fd, _⟩ => (match fd.code with | .ref c => some c | _ => none)
  | _ => none
def asG (g : Addr → Option Obj) (n : Nat) : List Addr :=
  let m := refsIn g mainGlobals
  let cs := m.filterMap fun a => match g a with | some ⟨_, _, .cls cd, _⟩ => some cd.ns | _ => none
  let ms := cs.flatMap (refsIn g)
  mainGlobals :: (m ++ cs ++ ms ++ codesIn g m ++ codesIn g ms ++ DW.asE g n)
end MV
namespace MV
open PySem PySem.W PySem.Spec PyProof.Rows L2
section
variable {α : Type} {M : Model} {s : Shared} {o : Option α} {f : α → (α → KasT (Option α)) → KasT (Option α)} {Q : α → Prop}
end
def frV {α : Type} (v : Value) (k : Value → α) : α := match v with
  | .ref a => HandSHeadRun.frNat a fun a => k (.ref a)
  | v => k v
def frVs {α : Type} (l : List Value) (k : List Value → α) : α := match l with
  | [] => k []
  | v :: r => frV v fun v => frVs r fun r => k (v :: r)
def frEn {α : Type} (e : DictEntry) (k : DictEntry → α) : α := match e with
  | ⟨h, key, val⟩ => frV key fun key => frV val fun val => k ⟨h, key, val⟩
def frEs {α : Type} (l : List DictEntry) (k : List DictEntry → α) : α := match l with
  | [] => k []
  | v :: r => frEn v fun v => frEs r fun r => k (v :: r)
def frD {α : Type} (d : Data) (k : Data → α) : α := match d with
  | .dict es n => HandSHeadRun.frNat n fun n => frEs es.toList fun l => k (.dict ⟨l⟩ n)
  | .func ⟨a1, a2, a3, a4, a5, a6, a7, a8, a9, a10, a11, a12, a13, a14, a15⟩ => HandSHeadRun.frNat a6 fun a6 => frV a8 fun a8 => frV a9 fun a9 => frV a10 fun a10 => frV a11 fun a11 => frV a13 fun a13 => frV a14 fun a14 => HandSHeadRun.frNat a15 fun a15 => k (.func ⟨a1, a2, a3, a4, a5, a6, a7, a8, a9, a10, a11, a12, a13, a14, a15⟩)
  | .cls ⟨a1, a2, a3, a4, a5, a6, a7, a8, a9, a10, a11⟩ => frVs a2 fun a2 => frVs a3 fun a3 => HandSHeadRun.frNat a4 fun a4 => frVs a8 fun a8 => k (.cls ⟨a1, a2, a3, a4, a5, a6, a7, a8, a9, a10, a11⟩)
  | .fields vs => frVs vs.toList fun l => k (.fields ⟨l⟩)
  | .seq vs n => HandSHeadRun.frNat n fun n => frVs vs.toList fun l => k (.seq ⟨l⟩ n)
  | d => k d
def frO {α : Type} (o : Obj) (k : Obj → α) : α := match o with
  | ⟨c, d, dt, sl⟩ => frV c fun c => frD dt fun dt => k ⟨c, d, dt, sl⟩
def frK {α : Type} (l : PySem.W.Frag) (k : PySem.W.Frag → α) : α := match l with
  | [] => k []
  | (a, o) :: r => HandSHeadRun.frNat a fun a => frO o fun o => frK r fun r => k ((a, o) :: r)
structure FactsK (fa : List He.Fa) (fn : List He.DefD) (ts : List (Str × List Str)) (ex : PySem.W.Frag → Bool) (w : World) (K : PySem.W.Frag) : Prop where
  a : (fa.all fun f => f.ok K) = true
  b : (fn.all fun d => d.ok K) = true
  c : (fn.map fun d => He.fnW K d.at_) = fn.map He.DefD.val
  d : (ts.map fun t => He.dicW K (He.ga K t.1)) = ts.map fun t => some (He.keysIn w.params t.2)
  e : ex K = true
def kG (S : SharedT) : PySem.W.Frag := He.frG (HandSHeadRun.getT S) (asG (HandSHeadRun.getT S) 2048)
structure FactsS (R : PySem.W.OpenRow) (q : Program) (loose : List Str) (fa : List He.Fa) (fn : List He.DefD) (ts : List (Str × List Str)) (ex : PySem.W.Frag → Bool) (w : World) (S : SharedT) : Prop where
  a : HandSHeadRun.looksF R.prog (PySem.W.boot_heap w.params) S.abs = true
  b : HandSHeadRun.seenQ q loose (importedModules R.prog.main.body) (fun s => PySem.W.xlAt q [] s && PySem.W.recOk R.toRowW.records s) S.abs = PySem.W.openGood q loose
  c : frK (kG S) (fun K => ((fa.all fun f => f.ok K), ex K)) = (true, true)
  d : frK (kG S) (fun K => ((fn.all fun d => d.ok K), (fn.map fun d => He.fnW K d.at_))) = (true, fn.map He.DefD.val)
  e : frK (kG S) (fun K => ts.map fun t => He.dicW K (He.ga K t.1)) = ts.map fun t => some (He.keysIn w.params t.2)
end MV
namespace MV
open PySem PySem.Spec PyProof.Rows L2
section
variable {X : Cx} {W : WX} {o value : Expr} {f : Str} {pos tpos : Pos} {ma mv : ME} {cs : List Str} {all : List Str}
end
end MV
namespace MV
open PySem PySem.Spec PyProof.Rows L2
end MV
namespace MV
open PySem PySem.Spec PyProof.Rows L2
section
variable {P : Program} {w : World} {K : PySem.W.Frag} {mg : Str → Option Value} {base : Heap} {x qual : Str} {params : Arguments} {body : List Stmt} {scope : Scope} {dvs : List V} {kws : List (Str × V)} {f : Addr} {fd : FuncData} {N ps : List Str} {k : Nat} {m : MS}
theorem call_guard (F : FunD K x qual params body scope dvs kws f fd) (S : FnScope N ps scope) {A : Around} {outer : List Env} {s : Shared} {H : Hp} {args : Args} {us : List Value} {vs : List V} {Q : VK} {E : XK} (hg : A.guards = some []) (hr : Room (k + 1) A) (e0 : Env0 P w K mg base A outer s H) (hb : BindsTo s fd args (ps.zip us)) (r : Vals vs us) (hsp : spM K ps.length (wOf N m) vs H Q E)
    (der : ∀ (cdv : Value) (A : Around) (outer : List Env) (s : Shared) (H : Hp) (E : XK), A.guards = some [] → Room k (A.deeper (envOfC qual scope s.heap.objs.size f cdv)) → Takes (cxOf (CX P w) P w K mg base N qual scope f cdv A outer s H E) (fun c d _ H => E c d H) → PassesOwn (model P w) (A.deeper (envOfC qual scope s.heap.objs.size f cdv)) (envOfC qual scope s.heap.objs.size f cdv) (cxOf (CX P w) P w K mg base N qual scope f cdv A outer s H E).xe →
      QSs (cxOf (CX P w) P w K mg base N qual scope f cdv A outer s H E) (fun c d _ H => E c d H) body m) : codeAny (model P w) A (.call (.ref f) args) (CR (CX P w) outer P w H s Q E) s := by
  obtain ⟨oc, od, dV, kV, doc, pm, an, cdv, ct, osl, rfl, lk, hcd, _, _⟩ := F.ex
  have hl := spM_len _ _ _ _ hsp
  have inK : K.In s.heap := e0.mod.kin.keeps fun b o e => (e0.bs b o e).1
  refine codeAny_call_function hr.depth (inK _ _ lk) rfl S.co S.gen rfl (PySem.W.codeRec_of inK hcd) (hb _ _ _ _ ?_)
  refine wpAny_newFunctionEnv_cells S.kind (fun ⟨n, v⟩ hy => (S.par n (List.of_mem_zip hy).1).imp_right fun q => ⟨q, PySem.W.cellsFrom_some _ _ _ (.inl q)⟩) fun env he s1 y => ?_
  cases he
  refine ⟨Heap.NoLimit.keeps (e0.mod.nolimit.keeps fun b o e => (e0.bs b o e).1) y.toInCall.keep, codeAny_func ?_⟩
  have run := der cdv A outer s H E hg (hr.deeper _) (takes_of rfl rfl rfl rfl) (passes_of rfl)
  refine wpAny_mono (run.run [] s1 (start N vs) H _ (inv_start S hr.hd e0 hl r y) (body_ok hsp)) (fun fl s' hs => ?_) fun e s' hs => hs
  cases fl with
  | brk =>
    obtain ⟨_, _, _, q⟩ := hs
    exact q.elim
  | cont =>
    obtain ⟨_, _, _, q⟩ := hs
    exact q.elim
  | next =>
    obtain ⟨σ', H', J, q⟩ := hs
    exact ⟨V.non, H', J.os, J.bare, J.base, J.hok, rfl, q⟩
  | ret u =>
    obtain ⟨v, σ', H', J, rv, q⟩ := hs
    exact ⟨v, H', J.os, J.bare, J.base, J.hok, rv, q⟩
end
/-- what is tracked at a law's start: its script, unless the script is one of the module's own objects -/
noncomputable def scrH (K : PySem.W.Frag) (a : Addr) (ob : Obj) (xs : List V) : Hp := fun b => if b = a ∧ K.lookup a = none then some (.frz ob (.lst xs)) else none
theorem scrH_at {K : PySem.W.Frag} {a b : Addr} {ob : Obj} {xs : List V} {u : HO} (h : scrH K a ob xs b = some u) : b = a ∧ K.lookup a = none ∧ u = .frz ob (.lst xs) := by
  unfold scrH at h
  split at h
  · rename_i q
    exact ⟨q.1, q.2, (Option.some.inj h).symm⟩
  · cases h
section
variable {P : Program} {w : World} {K : PySem.W.Frag} {mg mb : Str → Option Value} {CX : CXT} {fa a : Addr} {x : Str} {sp : Sp} {s₁ : Shared} {vs : List Value} {ns : List Int}
/-- a law's promise from the run of its def at the caller's place alone -/
theorem law_guard (KX : K.In s₁.heap) (hns : s₁.heap.Ns mainGlobals mg) (hb : s₁.heap.Ns builtinsNs mb) (hbb : ∀ x : Str, x ≠ "__name__" → mb x = bootBuiltins x) (hlim : s₁.heap.NoLimit) (hgn : s₁.gens = #[])
    (ha : s₁.heap.get? a = some { cls := .type "list", data := .seq vs.toArray }) (hi : IntsAre vs ns) (hl : ns.length ≤ sizeLine)
    (run : ∀ (base : Heap) (H : Hp), K.In base → base.Ns mainGlobals mg → Env0 P w K mg base callerA [] s₁ H → Only H → SqL K H a (ns.map V.int) → codeAny (model P w) callerA (.call (.ref fa) ⟨[.ref a], []⟩) (CR CX [] P w H s₁ (fun v _ => v = .bl true) fun _ _ _ => False) s₁)
    (hCX : ∀ H e s', CX [] H s₁ (fun _ _ _ => False) e s' → False) :
    codeAny (model P w) callerA (.call (.ref fa) ⟨[.ref a], []⟩) (fun r s' => r = .ok (.ret (.bool true)) ∧ OldK s₁.heap s'.heap ∧ s'.os = s₁.os ∧ AllBare s'.gens) s₁ := by
  have rv : Vals (ns.map V.int) vs := vals_ints hi
  have ln : vs.length = ns.length := hi.length
  -- nothing but the script is tracked
  generalize hH : scrH K a { cls := .type "list", data := .seq vs.toArray } (ns.map V.int) = H
  have at_ : ∀ {b u}, H b = some u → b = a ∧ K.lookup a = none ∧ u = .frz { cls := .type "list", data := .seq vs.toArray } (.lst (ns.map V.int)) := fun {b u} h => scrH_at (hH ▸ h)
  have free : ∀ {b : Addr} {o : Obj}, s₁.heap.get? b = some o → (b = a → False) → H b = none := fun {b o} e n => by
    cases q : H b with
    | none => rfl
    | some u => exact (n (at_ q).1).elim
  have low : ∀ {b : Addr} {o : Obj}, s₁.heap.get? b = some o → H b = none → (hidT s₁.heap H).get? b = some o := fun e n => hidT_get e n
  have dict : ∀ {b : Addr} {m : Str → Option Value}, s₁.heap.Ns b m → (hidT s₁.heap H).Ns b m := fun {b m} ⟨o, es, ep, e, d, r⟩ => ⟨o, es, ep, low e (free e fun z => by
    subst z
    rw [ha] at e
    cases e
    cases d), d, r⟩
  have kin : K.In (hidT s₁.heap H) := fun b o e => low (KX b o e) (by
    cases q : H b with
    | none => rfl
    | some u =>
      obtain ⟨z1, z2, _⟩ := at_ q
      rw [z1, z2] at e
      cases e)
  have only : Only H := fun b => by
    cases q : H b with
    | none => exact .inl rfl
    | some u => exact .inr ⟨_, _, congrArg some (at_ q).2.2⟩
  have sql : SqL K H a (ns.map V.int) := by
    cases hk : K.lookup a with
    | none => exact .inl (.inr ⟨_, by rw [← hH]; exact if_pos ⟨rfl, hk⟩⟩)
    | some o =>
      have e := KX a o hk
      rw [ha] at e
      cases e
      exact .inr ⟨_, vs.toArray, _, hk, rfl, rfl, rfl, by rw [List.size_toArray, ln]; exact hl, by simpa using rv⟩
  have hok : HOk P w H s₁.heap := fun b u q => by
    obtain ⟨z1, _, z3⟩ := at_ q
    subst z1 z3
    exact ⟨ha, by rw [List.length_map]; exact hl, vs, _, rv, ha⟩
  have hM : Mod K mg (hidT s₁.heap H) := ⟨kin, dict hns, ⟨mb, dict hb, hbb⟩, let ⟨mc, h1, h2⟩ := hlim; ⟨mc, dict h1, h2⟩⟩
  have e0 : Env0 P w K mg (hidT s₁.heap H) callerA [] s₁ H := ⟨rfl, hM, fun b o e => of_hidT e, Nat.le_of_eq (hidT_size _ _), trivial, fun b hb => (nomatch hb), hok, .of_eq hgn⟩
  refine codeAny_mono (run _ H kin (dict hns) e0 only sql) fun r s' h => ?_
  match r, h with
  | .error e, h => exact (hCX H e s' h).elim
  | .ok (.ret u), h =>
    obtain ⟨v, H', os, bare, un, hok', r', q⟩ := h
    have q : v = .bl true := q
    subst q
    obtain rfl : u = Value.bool true := r'
    refine ⟨rfl, OldK.of_keep fun b o e => ?_, os, bare⟩
    cases q : H b with
    | none => exact un.keep b o e q (by intro z; exact absurd (show b ∈ ([] : List Addr) from z) (by simp)) (by simp)
    | some u =>
      obtain ⟨_, _, z3⟩ := at_ q
      subst z3
      obtain ⟨e1, _⟩ := hok b _ q
      obtain ⟨e2, _⟩ := hok' b _ (un.frzs b _ _ q)
      rw [e] at e1
      cases e1
      exact e2
end
end MV
namespace MV
open PySem PySem.Spec PyProof.Rows L2
def rShow (K : PySem.W.Frag) : List V → Hp → VK → Prop := fun xs H Q => ∃ a d, xs = [V.ref a] ∧ Dp K H (.ref a) d ∧ d.showable = true ∧ d.hasDict = false ∧ d.depth ≤ 20 ∧ d.shown.length ≤ sizeLine ∧ Q (.str d.shown) H
section
variable {X : Cx} {W : WX} {e : Expr} {me : ME} {pos : Pos}
theorem call_strD (hg : X.A.guards = some []) (hu : X.A.units + 64 < cLine) : CallR X (.type "str") (rShow X.K) := by
  intro pins s σ H xs us Q I r h
  obtain ⟨a, d, rfl, hd, hs, hn, hdp, hz, q⟩ := h
  obtain ⟨u, rfl, ru⟩ := vals1 r
  obtain ⟨as, rd⟩ := Dp.reads I d _ _ hd ru
  obtain rfl : u = Value.ref a := ru
  exact str_of_reads rd hs (fun h => by rw [hn] at h; cases h) hg (by omega) (fun _ _ e => e) (fun h' t tk hk => ⟨.str d.shown, H, I.kept hk, ⟨t, rfl⟩, q⟩) hz
/-- {x}, x a list or a tuple -/
def tFmtD (K : PySem.W.Frag) (te : TE) : TE := fun σ H Q => te σ H fun x H1 => rShow K [x] H1 Q
theorem pe_fmtD {te : TE} (hg : X.A.guards = some []) (hu : X.A.units + 64 < cLine) (he : PE X e te) : PE X (.FormattedValue e (-1) none pos) (tFmtD X.K te) := by
  refine ⟨fun pins s σ H Q I h => ?_⟩
  refine wpAny_FormattedValue_plain (thn (he.run pins s σ H _ I h) fun v s1 hv => ?_)
  obtain ⟨x, H1, I1, r1, a, d, ex, hd, hs, hn, hdp, hz, q⟩ := hv
  injection ex with ex _
  subst ex
  obtain ⟨as, rd⟩ := Dp.reads I1 d _ _ hd r1
  obtain rfl : v = Value.ref a := r1
  exact formatField_of_reads rd hs (fun h => by rw [hn] at h; cases h) hg (by omega) (fun _ _ e => e) (fun h' t tk hk => ⟨.str d.shown, H1, I1.kept hk, ⟨t, rfl⟩, q⟩) hz
end
/-- what stands for a list or a tuple -/
def holdD : D → Bool
  | .tup _ => true
  | .ref _ => true
  | _ => false
def oRepr : OA := fun xs M Q => match xs with
  | [d] => holdD d = true ∧ ∃ p, See M 20 d p ∧ p.showable = true ∧ p.shown.length ≤ sizeLine ∧ Q (.str p.shown) M
  | _ => False
theorem show_of {K : PySem.W.Frag} {as : List Addr} {H : Hp} {M : Mem} {d : D} {v : V} {k : DK} {Q : VK} (rp : RepM K as H M) (rv : Rel K as H d v) (h : oRepr [d] M k) (hk : ∀ d M', k d M' → LQ K as H Q d M') : rShow K [v] H Q := by
  obtain ⟨hh, p, hs, h1, h2, q⟩ := h
  obtain ⟨b1, b2, b3⟩ := See.ok rp hs rv
  have hd := PyData.hasDict_of_canLay p b2
  have fin := hk _ _ q as H _ .refl rp (.str _)
  cases rv <;> first | (cases hh; done) | exact ⟨_, p, rfl, b1, h1, hd, b3, h2, fin⟩
theorem sim_repr {K : PySem.W.Frag} : SimA K (rShow K) oRepr := fun as H M ds vs k Q rp rv h hk => by
  match ds, h with
  | [d], h =>
    obtain ⟨v, rfl, r1⟩ := rv.one
    exact show_of rp r1 h hk
def oFmtD : OU := fun x M Q => oRepr [x] M Q
section
variable {X : Cx} {W : WX} {e : Expr} {me : ME} {pos : Pos}
theorem qe_fmtD (hg : X.A.guards = some []) (hu : X.A.units + 64 < cLine) (he : QE X W e me) : QE X W (.FormattedValue e (-1) none pos) (mUn oFmtD me) := PEi (pe_fmtD hg hu he) fun σ H Q ⟨as, M, ρ, Q', X', r, rs, h, hq, hx⟩ => by
  refine lf_bind r rs h hx fun d M1 as1 H1 v h1 e1 r1 rs1 rv => ?_
  exact show_of r1 rv h1 fun d2 M2 q as2 H2 v2 e2 r2 rv2 => hq _ _ q as2 H2 _ (e1.trans e2) r2 rv2
end
end MV
namespace MV
open PySem PySem.Spec PyProof.Rows L2
structure FnOkG (P : Program) (w : World) (K : PySem.W.Frag) (mg : Str → Option Value) (base : Heap) (CX : CXT) (k : Nat) (f : Addr) (fd : FuncData) (ps : List Str) (sp : Sp) : Prop where
  len : ∀ vs H Q E, sp vs H Q E → vs.length = ps.length
  run : ∀ (A : Around) (outer : List Env) (s : Shared) (H : Hp) (args : Args) (us : List Value) (vs : List V) (Q : VK) (E : XK), A.guards = some [] → Room k A → Env0 P w K mg base A outer s H → BindsTo s fd args (ps.zip us) → Vals vs us → sp vs H Q E →
    codeAny (model P w) A (.call (.ref f) args) (CR CX outer P w H s Q E) s
structure FnG (P : Program) (w : World) (K : PySem.W.Frag) (mg : Str → Option Value) (base : Heap) (k : Nat) (f : Addr) (ps : List Str) (W : WF) (n : Nat) (ks : List Str) (gD : List D → List D → List D) : Prop where
  ok : ∃ fd, FnOkG P w K mg base (CX P w) k f fd ps (spM K ps.length W) ∧ DBn K fd ps n ks gD
  kp : PySem.W.keepIn K (.ref f) = true
theorem fn_okG {P : Program} {w : World} {K : PySem.W.Frag} {mg : Str → Option Value} {base : Heap} {x qual : Str} {params : Arguments} {body : List Stmt} {scope : Scope} {dvs : List V} {kws : List (Str × V)} {f : Addr} {fd : FuncData} {N ps : List Str} {k : Nat} {m : MS}
    (F : FunD K x qual params body scope dvs kws f fd) (S : FnScope N ps scope)
    (der : ∀ (cdv : Value) (A : Around) (outer : List Env) (s : Shared) (H : Hp) (E : XK), A.guards = some [] → Room k (A.deeper (envOfC qual scope s.heap.objs.size f cdv)) → Takes (cxOf (CX P w) P w K mg base N qual scope f cdv A outer s H E) (fun c d _ H => E c d H) → PassesOwn (model P w) (A.deeper (envOfC qual scope s.heap.objs.size f cdv)) (envOfC qual scope s.heap.objs.size f cdv) (cxOf (CX P w) P w K mg base N qual scope f cdv A outer s H E).xe →
      QSs (cxOf (CX P w) P w K mg base N qual scope f cdv A outer s H E) (fun c d _ H => E c d H) body m) : FnOkG P w K mg base (CX P w) (k + 1) f fd ps (spM K ps.length (wOf N m)) :=
  ⟨fun vs H Q E h => spM_len vs H Q E h, fun A outer s H args us vs Q E hg hr e0 hb r hsp => call_guard F S hg hr e0 hb r hsp der⟩
section
variable {X : Cx} {W : WX} {c x : Str} {e : Expr} {es : List Expr} {p pos : Pos} {ma : MA} {me : ME} {k : Nat} {ps : List Str} {w : WF} {gD : List D → List D → List D} {f : Addr} {gV : List V → List V → List V}
theorem run_ownG {A : Around} {fd : FuncData} {sp : Sp} {g : List Value → List Value → List Value} {pins : List (Addr × Obj)} {σ : L2.St} {H : Hp} {s : Shared} {Q : VK} {a : Addr} {B : Value → Shared → Prop} (F : FnOkG X.prog X.w X.K X.mg X.base (CX X.prog X.w) k f fd ps sp) (hgd : A.guards = some []) (hr : Room k A) (fr : A.frames = X.A.frames) (hb : KBn X.K fd ps 1 [] g gV)
    (I : Inv X pins σ H s) (h : sp (gV [.ref a] []) H Q (fun _ _ _ => False)) (hB : ∀ v u H' s', Inv X pins σ H' s' → RelV v u → Q v H' → B u s') : wpAny (model X.prog X.w) A (call (.ref f) [.ref a]) B X.xe s := by
  have r1 : Vals [V.ref a] [Value.ref a] := .cons rfl .nil
  have r2 := hb.rel r1 (zs := []) (ws := []) .nil
  refine wpAny_call (codeAny_mono (F.run A X.stack s H ⟨[.ref a], []⟩ (g [.ref a] []) (gV [.ref a] []) Q _ hgd hr (env_sub I fr) (hb.to s [.ref a] [] I.kIn rfl rfl) r2 h) fun r s' hq => ?_)
  cases r with
  | error e =>
    obtain ⟨a, B, H', cls, d, _, _, _, _, _, _, _, z⟩ := hq
    exact z.elim
  | ok fl =>
    cases fl with
    | ret u =>
      obtain ⟨v, H', I', rv, q⟩ := I.after hq
      exact hB v u H' s' I' rv q
    | next => exact False.elim hq
    | brk => exact False.elim hq
    | cont => exact False.elim hq
theorem call_reprOG {fd : FuncData} {g : List Value → List Value → List Value} {N : Nat} (hgd : X.A.guards = some []) (hmt : Meth X.K (He.ga X.K c) "__repr__" f) (F : FnOkG X.prog X.w X.K X.mg X.base (CX X.prog X.w) k f fd ps (spM X.K N w)) (hr : Room (k + 2) X.A) (hb : KBn X.K fd ps 1 [] g gV) : CallR X (.builtin "repr") (rOwn X.K c N w gV isStrV) := by
  rintro pins s σ H xs us Q I rv ⟨a, dx, fs, rfl, ha, hsp⟩
  obtain ⟨u, us', rfl, ru, rus⟩ : ∃ u us', us = u :: us' ∧ RelV (.ref a) u ∧ Vals [] us' := by cases rv with | cons h t => exact ⟨_, _, rfl, h, t⟩
  cases rus
  obtain rfl : u = Value.ref a := ru
  obtain ⟨mA, J, _⟩ := ins_get I.hok ha
  obtain ⟨od, J, _⟩ := J.look
  obtain ⟨m, hF⟩ := I.fr
  have hr2 : Room k X.A.in1 := (hr.mono (by omega)).in1
  refine PySem.W.repr_K hr2.units0 hF I.ok.mod.kin J hmt.at_ hmt.fn ?_
  refine run_ownG F hgd hr2 rfl hb I hsp fun v u H' s' I' rv q => ?_
  obtain ⟨⟨z, rfl⟩, q⟩ := q
  obtain ⟨t, rfl⟩ : ∃ t, u = Value.str z t := rv
  exact ⟨.str z, H', I', ⟨t, rfl⟩, q⟩
theorem qe_reprOG (hgd : X.A.guards = some []) (hmt : Meth X.K (He.ga X.K c) "__repr__" f) (F : FnG X.prog X.w X.K X.mg X.base k f ps w 1 [] gD) (hr : Room (k + 2) X.A) (hgl : ∀ (ds es : List D), ds.length = 1 → es.length = ([] : List Str).length → (gD ds es).length = ps.length) (hg : Gl X x) (hm : X.mg x = none) (hv : bootBuiltins x = some (.builtin "repr")) (ha : QA X W (e :: es) ma) (hn : x ≠ "__name__" := by decide) (hdb : (x == ("__debug__" : Str)) = false := by decide)
    (he : starEach (e :: es) X.env = (false, eval e X.env) :: starEach es X.env := by rfl) (hpl : (backTo pos (starEach es X.env)).any (·.1) = false := by rfl) : QE X W (.Call (.Name x p) (e :: es) [] pos) (mCB (oStrO c w gD) ma) := by
  obtain ⟨⟨fd, G, ⟨g, gV, hb, hrel⟩⟩, kp⟩ := F
  refine qe_callB (call_reprOG hgd hmt G hr hb) (o := oStrO c w gD) ?_ hg hm hv ha hn hdb he hpl
  refine sim_own (o := fun d q => match d with | .str z => q (.str z) | _ => False) hrel hgl fun as H d v q rd h => ?_
  cases rd <;> first | exact h.elim | exact ⟨⟨_, rfl⟩, h⟩
end
/-- a law, known so, from the caller's place -/
theorem law_runG {P : Program} {w : World} {K : PySem.W.Frag} {mg mb : Str → Option Value} {fa a : Addr} {x : Str} {fd : FuncData} {k : Nat} {W : WF} {s₁ : Shared} {vs : List Value} {ns : List Int} (KX : K.In s₁.heap) (hns : s₁.heap.Ns mainGlobals mg) (hb : s₁.heap.Ns builtinsNs mb) (hbb : ∀ x : Str, x ≠ "__name__" → mb x = bootBuiltins x) (hlim : s₁.heap.NoLimit) (hgn : s₁.gens = #[])
    (ha : s₁.heap.get? a = some { cls := .type "list", data := .seq vs.toArray }) (hi : IntsAre vs ns) (hl : ns.length ≤ sizeLine) (hr : Room k callerA) (F : ∀ base : Heap, FnOkG P w K mg base (CX P w) k fa fd [x] (spM K 1 W)) (hbd : ∀ (s : Shared) (u : Value), BindsTo s fd ⟨[u], []⟩ [(x, u)])
    (hsp : ∀ H : Hp, Only H → SqL K H a (ns.map V.int) → spM K 1 W [.ref a] H (fun v _ => v = .bl true) fun _ _ _ => False) :
    codeAny (model P w) callerA (.call (.ref fa) ⟨[.ref a], []⟩) (fun r s' => r = .ok (.ret (.bool true)) ∧ OldK s₁.heap s'.heap ∧ s'.os = s₁.os ∧ AllBare s'.gens) s₁ := by
  refine law_guard (CX := CX P w) KX hns hb hbb hlim hgn ha hi hl (fun base H kin hns' e0 hO hS => ?_) fun H e s' h => ?_
  · exact (F base).run callerA [] s₁ H ⟨[.ref a], []⟩ [.ref a] [.ref a] _ _ rfl hr e0 (hbd s₁ (.ref a)) (.cons rfl .nil) (hsp H hO hS)
  · obtain ⟨a, B, H', cls, d, _, _, _, _, _, _, _, z⟩ := h
    exact z.elim
end MV
namespace Prf
open PySem L2 MV
def xfl : List Str := ["word"]
def cfl : List Str := ["low", "high"]
def ccs : List Str := ["Span"]
def xs_WeirError : List (Str × Src) := [("word", .arg 0)]
def xs_FormError : List (Str × Src) := [("word", .arg 0)]
def xs_BadSpan : List (Str × Src) := [("word", .word "bad span")]
def xs_NoFraction : List (Str × Src) := [("word", .word "no fraction")]
def xys : List Str := (["BadSpan"] : List Str)
def xtab : List (Str × List Bool) := ([("BadSpan", [true]), ("NoFraction", [false])] : List (Str × List Bool))
def xsub : Str → Str → Option Bool := tabSub xys xtab
def N_Lfeed : List Str := ["_law_script"]
def m_Lfeed : MS :=
  (mRet (mCB oLst (mCons (mCB oList1 (mCons (mSl (mVar 0) mNoPart (mPart (mC (.int 63)))) mNil)) (mCons (mC (.int 0)) (mCons (mC (.int 0)) (mCons (mC (.int 1)) mNil))))))
def w_Lfeed : WF := wOf N_Lfeed m_Lfeed
def N_Ldraw : List Str := ["_law_feed_here", "_law_many", "_law_got", "_law_cell", "_law_spread"]
def m_Ldraw : MS :=
  (mSeq (mIfS (mB (mOp oGt (mOp oIx (mVar 0) (mC (.int 2))) (mC (.int 0)))) (mSeq (mSet 2 (mOp oMod (mOp oIx (mVar 0) (mC (.int 2))) (mVar 1)))
    (mSeq (mSetIx (mOp oDiv (mOp oIx (mVar 0) (mC (.int 2))) (mVar 1)) (mVar 0) (mC (.int 2)))
    (mRet (mVar 2)))) mNext)
    (mSeq (mSet 3 (mC (.int 0)))
    (mSeq (mIfS (mB (mOp oLt (mOp oIx (mVar 0) (mC (.int 1))) (mCB oLen (mCons (mOp oIx (mVar 0) (mC (.int 0))) mNil)))) (mSeq (mSet 3 (mOp oIx (mOp oIx (mVar 0) (mC (.int 0))) (mOp oIx (mVar 0) (mC (.int 1)))))
    (mSetIx (mOp oAdd (mOp oIx (mVar 0) (mC (.int 1))) (mC (.int 1))) (mVar 0) (mC (.int 1)))) mNext)
    (mSeq (mIfS (mB (mOp oGe (mVar 3) (mC (.int 1000000000000000000)))) (mSeq (mSetIx (mOp oDiv (mVar 3) (mVar 1)) (mVar 0) (mC (.int 2)))
    (mRet (mOp oMod (mVar 3) (mVar 1)))) mNext)
    (mSeq (mSetIx (mOp oMod (mOp oAdd (mOp oAdd (mOp oMul (mOp oIx (mVar 0) (mC (.int 3))) (mC (.int 48271))) (mOp oMod (mVar 3) (mC (.int 1000003)))) (mC (.int 11))) (mC (.int 2147483647))) (mVar 0) (mC (.int 3)))
    (mSeq (mSet 4 (mOp oIx (mCB oLst (mCons (mOp oIx (mVar 0) (mC (.int 3))) (mCons (mOp oPow (mOp oIx (mVar 0) (mC (.int 3))) (mC (.int 4))) mNil))) (mCB oInt1 (mCons (mOp oGt (mVar 1) (mC (.int 100000))) mNil))))
    (mRet (mOp oMod (mOp oAdd (mOp oDiv (mVar 4) (mC (.int 16))) (mVar 3)) (mVar 1)))))))))
def w_Ldraw : WF := wOf N_Ldraw m_Ldraw
def N_Lgcd : List Str := ["_law_one", "_law_other"]
def m_Lgcd : MS :=
  (mSeq (mWhile (mTru (mVar 1)) (mPar 0 1 (mCons (mVar 1) (mCons (mOp oMod (mVar 0) (mVar 1)) mNil))))
    (mRet (mCB oAbs (mCons (mVar 0) mNil))))
def w_Lgcd : WF := wOf N_Lgcd m_Lgcd
def N_Lfrac : List Str := ["_law_top", "_law_under", "_law_shared"]
def m_Lfrac : MS :=
  (mSeq (mSet 2 (mCall w_Lgcd 2 0 (fun ds _ => ds) (mArgsP (mCons (mVar 0) (mCons (mVar 1) mNil)))))
    (mSeq (mIfS (mB (mOp oLt (mVar 1) (mC (.int 0)))) (mSet 2 (mUn oNeg (mVar 2))) mNext)
    (mRet (mCB oTup (mCons (mOp oDiv (mVar 0) (mVar 2)) (mCons (mOp oDiv (mVar 1) (mVar 2)) mNil))))))
def w_Lfrac : WF := wOf N_Lfrac m_Lfrac
def N_Lsome_frac : List Str := ["_law_feed_here", "_law_far", "_law_under"]
def m_Lsome_frac : MS :=
  (mSeq (mSet 2 (mOp oAdd (mC (.int 1)) (mCall w_Ldraw 2 0 (fun ds _ => ds) (mArgsP (mCons (mVar 0) (mCons (mC (.int 7)) mNil))))))
    (mSeq (mIfS (mB (mOp oEq (mCall w_Ldraw 2 0 (fun ds _ => ds) (mArgsP (mCons (mVar 0) (mCons (mC (.int 8)) mNil)))) (mC (.int 0)))) (mSet 2 (mOp oAdd (mVar 2) (mVar 1))) mNext)
    (mRet (mCall w_Lfrac 2 0 (fun ds _ => ds) (mArgsP (mCons (mOp oSub (mCall w_Ldraw 2 0 (fun ds _ => ds) (mArgsP (mCons (mVar 0) (mCons (mOp oAdd (mOp oMul (mC (.int 2)) (mVar 1)) (mC (.int 1))) mNil)))) (mVar 1)) (mCons (mVar 2) mNil)))))))
def w_Lsome_frac : WF := wOf N_Lsome_frac m_Lsome_frac
def N_Llt : List Str := ["_law_a", "_law_b"]
def m_Llt : MS :=
  (mRet (mOp oLt (mOp oMul (mOp oIx (mVar 0) (mC (.int 0))) (mOp oIx (mVar 1) (mC (.int 1)))) (mOp oMul (mOp oIx (mVar 1) (mC (.int 0))) (mOp oIx (mVar 0) (mC (.int 1))))))
def w_Llt : WF := wOf N_Llt m_Llt
def N_Lsooner : List Str := ["_law_a", "_law_b"]
def m_Lsooner : MS :=
  (mSeq (mIfS (mTru (mCall w_Llt 2 0 (fun ds _ => ds) (mArgsP (mCons (mVar 1) (mCons (mVar 0) mNil))))) (mRet (mVar 1)) mNext)
    (mRet (mVar 0)))
def w_Lsooner : WF := wOf N_Lsooner m_Lsooner
def N_Llater : List Str := ["_law_a", "_law_b"]
def m_Llater : MS :=
  (mSeq (mIfS (mTru (mCall w_Llt 2 0 (fun ds _ => ds) (mArgsP (mCons (mVar 0) (mCons (mVar 1) mNil))))) (mRet (mVar 1)) mNext)
    (mRet (mVar 0)))
def w_Llater : WF := wOf N_Llater m_Llater
def N_before : List Str := ["a", "b"]
def m_before : MS :=
  (mRet (mOp oLt (mOp oMul (mOp oIx (mVar 0) (mC (.int 0))) (mOp oIx (mVar 1) (mC (.int 1)))) (mOp oMul (mOp oIx (mVar 1) (mC (.int 0))) (mOp oIx (mVar 0) (mC (.int 1))))))
def w_before : WF := wOf N_before m_before
def N_Span_UinitU : List Str := ["self", "low", "high"]
def m_Span_UinitU : MS :=
  (mSeq (mIfS (mTru (mCall w_before 2 0 (fun ds _ => ds) (mArgsP (mCons (mVar 2) (mCons (mVar 1) mNil))))) (mRaise "BadSpan" 0 xs_BadSpan mNil) mNext)
    (mSeq (mSetFld ccs (mVar 0) (mVar 1) "low")
    (mSetFld ccs (mVar 0) (mVar 2) "high")))
def w_Span_UinitU : WF := wOf N_Span_UinitU m_Span_UinitU
def N_Lsays : List Str := ["_law_found", "_law_due"]
def m_Lsays : MS :=
  (mSeq (mIfS (mTru (mVar 1)) (mRet (mOp oIsB (mVar 0) (mC (.bl true)))) mNext)
    (mRet (mOp oIsB (mVar 0) (mC (.bl false)))))
def w_Lsays : WF := wOf N_Lsays m_Lsays
def N_Span_holds : List Str := ["self", "at"]
def m_Span_holds : MS :=
  (mRet (mAndV (mNotV (mCall w_before 2 0 (fun ds _ => ds) (mArgsP (mCons (mVar 1) (mCons (mFld ccs (mVar 0) "low") mNil))))) (mNotV (mCall w_before 2 0 (fun ds _ => ds) (mArgsP (mCons (mFld ccs (mVar 0) "high") (mCons (mVar 1) mNil)))))))
def w_Span_holds : WF := wOf N_Span_holds m_Span_holds
def N_Span_meet : List Str := ["self", "other", "low", "high"]
def m_Span_meet : MS :=
  (mSeq (mSet 2 (mIf (mTru (mCall w_before 2 0 (fun ds _ => ds) (mArgsP (mCons (mFld ccs (mVar 0) "low") (mCons (mFld ccs (mVar 1) "low") mNil))))) (mFld ccs (mVar 1) "low") (mFld ccs (mVar 0) "low")))
    (mSeq (mSet 3 (mIf (mTru (mCall w_before 2 0 (fun ds _ => ds) (mArgsP (mCons (mFld ccs (mVar 1) "high") (mCons (mFld ccs (mVar 0) "high") mNil))))) (mFld ccs (mVar 1) "high") (mFld ccs (mVar 0) "high")))
    (mSeq (mIfS (mTru (mCall w_before 2 0 (fun ds _ => ds) (mArgsP (mCons (mVar 3) (mCons (mVar 2) mNil))))) (mRet (mC .non)) mNext)
    (mRet (mMake "Span" w_Span_UinitU 3 0 (fun ds _ => ds) (mArgsP (mCons (mVar 2) (mCons (mVar 3) mNil))))))))
def w_Span_meet : WF := wOf N_Span_meet m_Span_meet
def N_common : List Str := ["one", "other"]
def m_common : MS :=
  (mSeq (mWhile (mTru (mVar 1)) (mPar 0 1 (mCons (mVar 1) (mCons (mOp oMod (mVar 0) (mVar 1)) mNil))))
    (mRet (mCB oAbs (mCons (mVar 0) mNil))))
def w_common : WF := wOf N_common m_common
def N_frac : List Str := ["top", "under", "shared"]
def m_frac : MS :=
  (mSeq (mIfS (mB (mOp oEq (mVar 1) (mC (.int 0)))) (mRaise "NoFraction" 0 xs_NoFraction mNil) mNext)
    (mSeq (mSet 2 (mCall w_common 2 0 (fun ds _ => ds) (mArgsP (mCons (mVar 0) (mCons (mVar 1) mNil)))))
    (mSeq (mIfS (mB (mOp oLt (mVar 1) (mC (.int 0)))) (mSet 2 (mUn oNeg (mVar 2))) mNext)
    (mRet (mCB oTup (mCons (mOp oDiv (mVar 0) (mVar 2)) (mCons (mOp oDiv (mVar 1) (mVar 2)) mNil)))))))
def w_frac : WF := wOf N_frac m_frac
def N_times : List Str := ["a", "b"]
def m_times : MS :=
  (mRet (mCall w_frac 2 0 (fun ds _ => ds) (mArgsP (mCons (mOp oMul (mOp oIx (mVar 0) (mC (.int 0))) (mOp oIx (mVar 1) (mC (.int 0)))) (mCons (mOp oMul (mOp oIx (mVar 0) (mC (.int 1))) (mOp oIx (mVar 1) (mC (.int 1)))) mNil)))))
def w_times : WF := wOf N_times m_times
def N_plus : List Str := ["a", "b"]
def m_plus : MS :=
  (mRet (mCall w_frac 2 0 (fun ds _ => ds) (mArgsP (mCons (mOp oAdd (mOp oMul (mOp oIx (mVar 0) (mC (.int 0))) (mOp oIx (mVar 1) (mC (.int 1)))) (mOp oMul (mOp oIx (mVar 1) (mC (.int 0))) (mOp oIx (mVar 0) (mC (.int 1))))) (mCons (mOp oMul (mOp oIx (mVar 0) (mC (.int 1))) (mOp oIx (mVar 1) (mC (.int 1)))) mNil)))))
def w_plus : WF := wOf N_plus m_plus
def N_Span_middle : List Str := ["self"]
def m_Span_middle : MS :=
  (mRet (mCall w_times 2 0 (fun ds _ => ds) (mArgsP (mCons (mCall w_plus 2 0 (fun ds _ => ds) (mArgsP (mCons (mFld ccs (mVar 0) "low") (mCons (mFld ccs (mVar 0) "high") mNil)))) (mCons (mCB oTup (mCons (mC (.int 1)) (mCons (mC (.int 2)) mNil))) mNil)))))
def w_Span_middle : WF := wOf N_Span_middle m_Span_middle
def N_Ltimes : List Str := ["_law_a", "_law_b"]
def m_Ltimes : MS :=
  (mRet (mCall w_Lfrac 2 0 (fun ds _ => ds) (mArgsP (mCons (mOp oMul (mOp oIx (mVar 0) (mC (.int 0))) (mOp oIx (mVar 1) (mC (.int 0)))) (mCons (mOp oMul (mOp oIx (mVar 0) (mC (.int 1))) (mOp oIx (mVar 1) (mC (.int 1)))) mNil)))))
def w_Ltimes : WF := wOf N_Ltimes m_Ltimes
def N_Lplus : List Str := ["_law_a", "_law_b"]
def m_Lplus : MS :=
  (mRet (mCall w_Lfrac 2 0 (fun ds _ => ds) (mArgsP (mCons (mOp oAdd (mOp oMul (mOp oIx (mVar 0) (mC (.int 0))) (mOp oIx (mVar 1) (mC (.int 1)))) (mOp oMul (mOp oIx (mVar 1) (mC (.int 0))) (mOp oIx (mVar 0) (mC (.int 1))))) (mCons (mOp oMul (mOp oIx (mVar 0) (mC (.int 1))) (mOp oIx (mVar 1) (mC (.int 1)))) mNil)))))
def w_Lplus : WF := wOf N_Lplus m_Lplus
def N_Span_single : List Str := ["self"]
def m_Span_single : MS :=
  (mRet (mOp oEq (mFld ccs (mVar 0) "low") (mFld ccs (mVar 0) "high")))
def w_Span_single : WF := wOf N_Span_single m_Span_single
def N_Span_UeqU : List Str := ["self", "other"]
def m_Span_UeqU : MS :=
  (mRet (mAndV (mCB (oIsiC ccs) (mCons (mVar 1) (mCons (mC (.g "Span")) mNil))) (mAndV (mOp oEq (mFld ccs (mVar 0) "low") (mFld ccs (mVar 1) "low")) (mOp oEq (mFld ccs (mVar 0) "high") (mFld ccs (mVar 1) "high")))))
def w_Span_UeqU : WF := wOf N_Span_UeqU m_Span_UeqU
def N_Lrefused : List Str := ["_law_low", "_law_high", "_law_word_here", "e"]
def m_Lrefused : MS :=
  (mSeq (mSet 2 (mC (.str "")))
    (mSeq (mTry xsub (mDrop (mMake "Span" w_Span_UinitU 3 0 (fun ds _ => ds) (mArgsP (mCons (mVar 0) (mCons (mVar 1) mNil))))) [⟨["BadSpan"], some 3, fun a dd c => (mSet 2 (mXf a dd c 3 "word"))⟩])
    (mRet (mOp oEq (mVar 2) (mC (.str "bad span"))))))
def w_Lrefused : WF := wOf N_Lrefused m_Lrefused
def N_shown : List Str := ["a"]
def m_shown : MS :=
  (mSeq (mIfS (mB (mOp oEq (mOp oIx (mVar 0) (mC (.int 1))) (mC (.int 1)))) (mRet (mCB oStr1 (mCons (mOp oIx (mVar 0) (mC (.int 0))) mNil))) mNext)
    (mRet (mJs [(mUn oFmt (mOp oIx (mVar 0) (mC (.int 0)))), (mC (.str "/")), (mUn oFmt (mOp oIx (mVar 0) (mC (.int 1))))] Str.empty)))
def w_shown : WF := wOf N_shown m_shown
def N_Span_UstrU : List Str := ["self"]
def m_Span_UstrU : MS :=
  (mRet (mJs [(mUn oFmt (mCall w_shown 1 0 (fun ds _ => ds) (mArgsP (mCons (mFld ccs (mVar 0) "low") mNil)))), (mC (.str "..")), (mUn oFmt (mCall w_shown 1 0 (fun ds _ => ds) (mArgsP (mCons (mFld ccs (mVar 0) "high") mNil))))] Str.empty))
def w_Span_UstrU : WF := wOf N_Span_UstrU m_Span_UstrU
def N_Lword : List Str := ["_law_a"]
def m_Lword : MS :=
  (mSeq (mIfS (mB (mOp oEq (mOp oIx (mVar 0) (mC (.int 1))) (mC (.int 1)))) (mRet (mCB oStr1 (mCons (mOp oIx (mVar 0) (mC (.int 0))) mNil))) mNext)
    (mRet (mOp oAdd (mOp oAdd (mCB oStr1 (mCons (mOp oIx (mVar 0) (mC (.int 0))) mNil)) (mC (.str "/"))) (mCB oStr1 (mCons (mOp oIx (mVar 0) (mC (.int 1))) mNil)))))
def w_Lword : WF := wOf N_Lword m_Lword
def N_Span_UreprU : List Str := ["self"]
def m_Span_UreprU : MS :=
  (mRet (mJs [(mC (.str "Span(")), (mUn oFmtD (mFld ccs (mVar 0) "low")), (mC (.str ", ")), (mUn oFmtD (mFld ccs (mVar 0) "high")), (mC (.str ")"))] Str.empty))
def w_Span_UreprU : WF := wOf N_Span_UreprU m_Span_UreprU
def N_law : List Str := ["_law_script", "_law_feed_here", "_law_ends", "_law_k", "_law_way", "_law_low", "_law_high", "_law_left", "_law_right", "_law_one", "_law_other", "_law_at", "_law_start", "_law_end", "_law_found"]
def m_law : MS :=
  (mSeq (mSet 1 (mCall w_Lfeed 1 0 (fun ds _ => ds) (mArgsP (mCons (mVar 0) mNil))))
    (mSeq (mSet 2 (mLc (mIRng1 (mCons (mC (.int 5)) mNil)) (.nm 3) mYes (mCall w_Lsome_frac 2 0 (fun ds _ => ds) (mArgsP (mCons (mVar 1) (mCons (mC (.int 6)) mNil)))) [3]))
    (mSeq (mSet 4 (mCall w_Ldraw 2 0 (fun ds _ => ds) (mArgsP (mCons (mVar 1) (mCons (mC (.int 4)) mNil)))))
    (mSeq (mSet 5 (mCall w_Lsooner 2 0 (fun ds _ => ds) (mArgsP (mCons (mOp oIx (mVar 2) (mC (.int 0))) (mCons (mOp oIx (mVar 2) (mC (.int 1))) mNil)))))
    (mSeq (mSet 6 (mCall w_Llater 2 0 (fun ds _ => ds) (mArgsP (mCons (mOp oIx (mVar 2) (mC (.int 0))) (mCons (mOp oIx (mVar 2) (mC (.int 1))) mNil)))))
    (mSeq (mSet 7 (mCall w_Lsooner 2 0 (fun ds _ => ds) (mArgsP (mCons (mOp oIx (mVar 2) (mC (.int 2))) (mCons (mOp oIx (mVar 2) (mC (.int 3))) mNil)))))
    (mSeq (mSet 8 (mCall w_Llater 2 0 (fun ds _ => ds) (mArgsP (mCons (mOp oIx (mVar 2) (mC (.int 2))) (mCons (mOp oIx (mVar 2) (mC (.int 3))) mNil)))))
    (mSeq (mIfS (mB (mOp oEq (mVar 4) (mC (.int 0)))) (mSeq (mSet 7 (mVar 6))
    (mSet 8 (mCall w_Llater 2 0 (fun ds _ => ds) (mArgsP (mCons (mVar 8) (mCons (mVar 6) mNil)))))) mNext)
    (mSeq (mIfS (mB (mOp oEq (mVar 4) (mC (.int 1)))) (mSet 8 (mVar 7)) mNext)
    (mSeq (mSet 9 (mMake "Span" w_Span_UinitU 3 0 (fun ds _ => ds) (mArgsP (mCons (mVar 5) (mCons (mVar 6) mNil)))))
    (mSeq (mSet 10 (mMake "Span" w_Span_UinitU 3 0 (fun ds _ => ds) (mArgsP (mCons (mVar 7) (mCons (mVar 8) mNil)))))
    (mSeq (mFor (mISeq (mOp oAdd (mVar 2) (mCB oLst (mCons (mVar 5) (mCons (mVar 6) mNil))))) (.nm 11) (mIfS (mNot (mTru (mCall w_Lsays 2 0 (fun ds _ => ds) (mArgsP (mCons (mMeth "Span" "holds" w_Span_holds 2 0 (fun ds _ => ds) (mVar 9) (mArgsP (mCons (mVar 11) mNil))) (mCons (mAndV (mNotV (mCall w_Llt 2 0 (fun ds _ => ds) (mArgsP (mCons (mVar 11) (mCons (mVar 5) mNil))))) (mNotV (mCall w_Llt 2 0 (fun ds _ => ds) (mArgsP (mCons (mVar 6) (mCons (mVar 11) mNil)))))) mNil)))))) (mRet (mC (.bl false))) mNext))
    (mSeq (mSet 12 (mCall w_Llater 2 0 (fun ds _ => ds) (mArgsP (mCons (mVar 5) (mCons (mVar 7) mNil)))))
    (mSeq (mSet 13 (mCall w_Lsooner 2 0 (fun ds _ => ds) (mArgsP (mCons (mVar 6) (mCons (mVar 8) mNil)))))
    (mSeq (mFor (mISeq (mCB oTup (mCons (mMeth "Span" "meet" w_Span_meet 2 0 (fun ds _ => ds) (mVar 9) (mArgsP (mCons (mVar 10) mNil))) (mCons (mMeth "Span" "meet" w_Span_meet 2 0 (fun ds _ => ds) (mVar 10) (mArgsP (mCons (mVar 9) mNil))) mNil)))) (.nm 14) (mIfS (mTru (mCall w_Llt 2 0 (fun ds _ => ds) (mArgsP (mCons (mVar 13) (mCons (mVar 12) mNil))))) (mIfS (mB (mOp oIsNot (mVar 14) (mC .non))) (mRet (mC (.bl false))) mNext) (mIfS (mOr (mNot (mTru (mCB (oIsiC ccs) (mCons (mVar 14) (mCons (mC (.g "Span")) mNil))))) (mOr (mB (mOp oNe (mFld ccs (mVar 14) "low") (mVar 12))) (mB (mOp oNe (mFld ccs (mVar 14) "high") (mVar 13))))) (mRet (mC (.bl false))) mNext)))
    (mSeq (mIfS (mOr (mB (mOp oNe (mMeth "Span" "middle" w_Span_middle 1 0 (fun ds _ => ds) (mVar 9) mArgs0) (mCall w_Ltimes 2 0 (fun ds _ => ds) (mArgsP (mCons (mCall w_Lplus 2 0 (fun ds _ => ds) (mArgsP (mCons (mVar 5) (mCons (mVar 6) mNil)))) (mCons (mCB oTup (mCons (mC (.int 1)) (mCons (mC (.int 2)) mNil))) mNil)))))) (mNot (mTru (mCall w_Lsays 2 0 (fun ds _ => ds) (mArgsP (mCons (mMeth "Span" "single" w_Span_single 1 0 (fun ds _ => ds) (mVar 9) mArgs0) (mCons (mOp oEq (mVar 5) (mVar 6)) mNil))))))) (mRet (mC (.bl false))) mNext)
    (mSeq (mIfS (mOr (mB (mOp oNe (mOp (oEqO ccs "Span" w_Span_UeqU (fun ds _ => ds)) (mVar 9) (mVar 10)) (mAndV (mOp oEq (mVar 5) (mVar 7)) (mOp oEq (mVar 6) (mVar 8))))) (mOr (mB (mOp (oEqO ccs "Span" w_Span_UeqU (fun ds _ => ds)) (mVar 9) (mCB oTup (mCons (mVar 5) (mCons (mVar 6) mNil))))) (mNot (mB (mOp (oEqO ccs "Span" w_Span_UeqU (fun ds _ => ds)) (mVar 9) (mMake "Span" w_Span_UinitU 3 0 (fun ds _ => ds) (mArgsP (mCons (mVar 5) (mCons (mVar 6) mNil))))))))) (mRet (mC (.bl false))) mNext)
    (mSeq (mIfS (mB (mOp oNe (mCall w_Lrefused 2 0 (fun ds _ => ds) (mArgsP (mCons (mVar 6) (mCons (mVar 5) mNil)))) (mOp oNe (mVar 5) (mVar 6)))) (mRet (mC (.bl false))) mNext)
    (mSeq (mIfS (mOr (mB (mOp oNe (mFld ccs (mVar 9) "low") (mVar 5))) (mOr (mB (mOp oNe (mFld ccs (mVar 9) "high") (mVar 6))) (mB (mOp oNe (mCB (oStrO "Span" w_Span_UstrU (fun ds _ => ds)) (mCons (mVar 9) mNil)) (mOp oAdd (mOp oAdd (mCall w_Lword 1 0 (fun ds _ => ds) (mArgsP (mCons (mVar 5) mNil))) (mC (.str ".."))) (mCall w_Lword 1 0 (fun ds _ => ds) (mArgsP (mCons (mVar 6) mNil)))))))) (mRet (mC (.bl false))) mNext)
    (mRet (mOp oEq (mCB (oStrO "Span" w_Span_UreprU (fun ds _ => ds)) (mCons (mVar 9) mNil)) (mOp oAdd (mOp oAdd (mOp oAdd (mOp oAdd (mC (.str "Span(")) (mCB oRepr (mCons (mVar 5) mNil))) (mC (.str ", "))) (mCB oRepr (mCons (mVar 6) mNil))) (mC (.str ")"))))))))))))))))))))))))
def w_law : WF := wOf N_law m_law
end Prf
namespace Prf
open PySem L2 MV
def topS (i : Nat) : Stmt := PySem.Challenge.pw_dialweir_k04_stretches.main.body.getD i (.Pass ⟨0, 0, 0, 0⟩)
abbrev s_Lfeed : Stmt := topS 14
abbrev s_Ldraw : Stmt := topS 15
abbrev s_Lgcd : Stmt := topS 17
abbrev s_Lfrac : Stmt := topS 18
abbrev s_Lsome_frac : Stmt := topS 22
abbrev s_Llt : Stmt := topS 21
abbrev s_Lsooner : Stmt := topS 24
abbrev s_Llater : Stmt := topS 23
abbrev s_before : Stmt := topS 10
abbrev s_Span_UinitU : Stmt := inClass (topS 12) 0
abbrev s_Lsays : Stmt := topS 16
abbrev s_Span_holds : Stmt := inClass (topS 12) 1
abbrev s_Span_meet : Stmt := inClass (topS 12) 2
abbrev s_common : Stmt := topS 6
abbrev s_frac : Stmt := topS 7
abbrev s_times : Stmt := topS 9
abbrev s_plus : Stmt := topS 8
abbrev s_Span_middle : Stmt := inClass (topS 12) 3
abbrev s_Ltimes : Stmt := topS 20
abbrev s_Lplus : Stmt := topS 19
abbrev s_Span_single : Stmt := inClass (topS 12) 4
abbrev s_Span_UeqU : Stmt := inClass (topS 12) 5
abbrev s_Lrefused : Stmt := topS 26
abbrev s_shown : Stmt := topS 11
abbrev s_Span_UstrU : Stmt := inClass (topS 12) 6
abbrev s_Lword : Stmt := topS 25
abbrev s_Span_UreprU : Stmt := inClass (topS 12) 7
abbrev s_law : Stmt := topS 27
abbrev si0_WeirError : Stmt := inClass (topS 1) 0
abbrev si0_FormError : Stmt := inClass (topS 2) 0
abbrev si0_BadSpan : Stmt := inClass (topS 4) 0
abbrev si0_NoFraction : Stmt := inClass (topS 3) 0
def dd_Lfeed : He.DefD := ⟨("_law_feed", none), "_law_feed", "_law_feed", defArgs s_Lfeed, defBody s_Lfeed, defScope s_Lfeed, [], []⟩
def dd_Ldraw : He.DefD := ⟨("_law_draw", none), "_law_draw", "_law_draw", defArgs s_Ldraw, defBody s_Ldraw, defScope s_Ldraw, [], []⟩
def dd_Lgcd : He.DefD := ⟨("_law_gcd", none), "_law_gcd", "_law_gcd", defArgs s_Lgcd, defBody s_Lgcd, defScope s_Lgcd, [], []⟩
def dd_Lfrac : He.DefD := ⟨("_law_frac", none), "_law_frac", "_law_frac", defArgs s_Lfrac, defBody s_Lfrac, defScope s_Lfrac, [], []⟩
def dd_Lsome_frac : He.DefD := ⟨("_law_some_frac", none), "_law_some_frac", "_law_some_frac", defArgs s_Lsome_frac, defBody s_Lsome_frac, defScope s_Lsome_frac, [], []⟩
def dd_Llt : He.DefD := ⟨("_law_lt", none), "_law_lt", "_law_lt", defArgs s_Llt, defBody s_Llt, defScope s_Llt, [], []⟩
def dd_Lsooner : He.DefD := ⟨("_law_sooner", none), "_law_sooner", "_law_sooner", defArgs s_Lsooner, defBody s_Lsooner, defScope s_Lsooner, [], []⟩
def dd_Llater : He.DefD := ⟨("_law_later", none), "_law_later", "_law_later", defArgs s_Llater, defBody s_Llater, defScope s_Llater, [], []⟩
def dd_before : He.DefD := ⟨("before", none), "before", "before", defArgs s_before, defBody s_before, defScope s_before, [], []⟩
def dd_Span_UinitU : He.DefD := ⟨("Span", some "__init__"), "__init__", "Span.__init__", defArgs s_Span_UinitU, defBody s_Span_UinitU, defScope s_Span_UinitU, [], []⟩
def dd_Lsays : He.DefD := ⟨("_law_says", none), "_law_says", "_law_says", defArgs s_Lsays, defBody s_Lsays, defScope s_Lsays, [], []⟩
def dd_Span_holds : He.DefD := ⟨("Span", some "holds"), "holds", "Span.holds", defArgs s_Span_holds, defBody s_Span_holds, defScope s_Span_holds, [], []⟩
def dd_Span_meet : He.DefD := ⟨("Span", some "meet"), "meet", "Span.meet", defArgs s_Span_meet, defBody s_Span_meet, defScope s_Span_meet, [], []⟩
def dd_common : He.DefD := ⟨("common", none), "common", "common", defArgs s_common, defBody s_common, defScope s_common, [], []⟩
def dd_frac : He.DefD := ⟨("frac", none), "frac", "frac", defArgs s_frac, defBody s_frac, defScope s_frac, [.int 1], []⟩
def dd_times : He.DefD := ⟨("times", none), "times", "times", defArgs s_times, defBody s_times, defScope s_times, [], []⟩
def dd_plus : He.DefD := ⟨("plus", none), "plus", "plus", defArgs s_plus, defBody s_plus, defScope s_plus, [], []⟩
def dd_Span_middle : He.DefD := ⟨("Span", some "middle"), "middle", "Span.middle", defArgs s_Span_middle, defBody s_Span_middle, defScope s_Span_middle, [], []⟩
def dd_Ltimes : He.DefD := ⟨("_law_times", none), "_law_times", "_law_times", defArgs s_Ltimes, defBody s_Ltimes, defScope s_Ltimes, [], []⟩
def dd_Lplus : He.DefD := ⟨("_law_plus", none), "_law_plus", "_law_plus", defArgs s_Lplus, defBody s_Lplus, defScope s_Lplus, [], []⟩
def dd_Span_single : He.DefD := ⟨("Span", some "single"), "single", "Span.single", defArgs s_Span_single, defBody s_Span_single, defScope s_Span_single, [], []⟩
def dd_Span_UeqU : He.DefD := ⟨("Span", some "__eq__"), "__eq__", "Span.__eq__", defArgs s_Span_UeqU, defBody s_Span_UeqU, defScope s_Span_UeqU, [], []⟩
def dd_Lrefused : He.DefD := ⟨("_law_refused", none), "_law_refused", "_law_refused", defArgs s_Lrefused, defBody s_Lrefused, defScope s_Lrefused, [], []⟩
def dd_shown : He.DefD := ⟨("shown", none), "shown", "shown", defArgs s_shown, defBody s_shown, defScope s_shown, [], []⟩
def dd_Span_UstrU : He.DefD := ⟨("Span", some "__str__"), "__str__", "Span.__str__", defArgs s_Span_UstrU, defBody s_Span_UstrU, defScope s_Span_UstrU, [], []⟩
def dd_Lword : He.DefD := ⟨("_law_word", none), "_law_word", "_law_word", defArgs s_Lword, defBody s_Lword, defScope s_Lword, [], []⟩
def dd_Span_UreprU : He.DefD := ⟨("Span", some "__repr__"), "__repr__", "Span.__repr__", defArgs s_Span_UreprU, defBody s_Span_UreprU, defScope s_Span_UreprU, [], []⟩
def dd_law : He.DefD := ⟨("law", none), "law", "law", defArgs s_law, defBody s_law, defScope s_law, [], []⟩
def ddi_WeirError : He.DefD := ⟨("WeirError", some "__init__"), "__init__", "WeirError.__init__", defArgs si0_WeirError, defBody si0_WeirError, defScope si0_WeirError, [], []⟩
def ddi_FormError : He.DefD := ⟨("FormError", some "__init__"), "__init__", "FormError.__init__", defArgs si0_FormError, defBody si0_FormError, defScope si0_FormError, [], []⟩
def ddi_BadSpan : He.DefD := ⟨("BadSpan", some "__init__"), "__init__", "BadSpan.__init__", defArgs si0_BadSpan, defBody si0_BadSpan, defScope si0_BadSpan, [], []⟩
def ddi_NoFraction : He.DefD := ⟨("NoFraction", some "__init__"), "__init__", "NoFraction.__init__", defArgs si0_NoFraction, defBody si0_NoFraction, defScope si0_NoFraction, [], []⟩
def fnA : List He.DefD := ([dd_Lfeed, dd_Ldraw, dd_Lgcd, dd_Lfrac, dd_Lsome_frac, dd_Llt, dd_Lsooner, dd_Llater, dd_before, dd_Span_UinitU, dd_Lsays, dd_Span_holds, dd_Span_meet, dd_common, dd_frac, dd_times, dd_plus, dd_Span_middle, dd_Ltimes, dd_Lplus, dd_Span_single, dd_Span_UeqU, dd_Lrefused, dd_shown, dd_Span_UstrU] : List He.DefD) ++ ([dd_Lword, dd_Span_UreprU, dd_law, ddi_WeirError, ddi_FormError, ddi_BadSpan, ddi_NoFraction] : List He.DefD)
def fnL : List He.DefD := fnA
def faL : List He.Fa := ([.glo "_law_feed", .glo "_law_draw", .glo "_law_gcd", .glo "_law_frac", .glo "_law_some_frac", .glo "_law_lt", .glo "_law_sooner", .glo "_law_later", .glo "before", .glo "_law_says", .glo "common", .glo "frac", .glo "times", .glo "plus", .glo "_law_times", .glo "_law_plus", .glo "_law_refused", .glo "shown", .glo "_law_word", .glo "law", .free "abs", .free "int", .free "isinstance", .free "len", .free "list"] : List He.Fa) ++ ([.free "range", .free "repr", .free "str", .free "ValueError", .glo "Span", .meth "Span" "__eq__", .meth "Span" "__repr__", .meth "Span" "__str__", .meth "Span" "holds", .meth "Span" "meet", .meth "Span" "middle", .meth "Span" "single", .mkr "Span", .cls "Span", .cls "Span", .noat "Span" "low", .noat "Span" "high", .glo "WeirError", .glo "FormError", .glo "BadSpan", .glo "NoFraction"] : List He.Fa)
def exA (K : PySem.W.Frag) : List Bool := ([DW.excXB K "WeirError" xfl, DW.excXB K "FormError" xfl, DW.excXB K "BadSpan" xfl, DW.excXB K "NoFraction" xfl, tabOk K xfl xys xtab, DW.veB K, ccs.all (ownB K ccs)] : List Bool)
def exL (K : PySem.W.Frag) : List Bool := exA K
abbrev R : PySem.W.OpenRow := PySem.W.OpenLaw.row PySem.Challenge.rw_dialweir_k04_stretches
abbrev hk : PySem.W.Hook := DW.hookE 2048 faL fnL (fun K => DW.allT (exL K))
def ob (s : PySem.W.SharedT) : DW.AlE := DW.obsE 2048 faL fnL (fun K => DW.allT (exL K)) (HandSHeadRun.getT s)
theorem ob_eq (s : PySem.W.SharedT) : ob s = hk.obs s.abs := DW.obsE_eq (HandSHeadRun.getT_eq s)
def looseL : List Str := (["WeirError", "FormError", "NoFraction", "BadSpan", "common", "frac", "plus", "times", "before", "shown", "Span", "_law_feed", "_law_draw", "_law_says", "_law_gcd", "_law_frac", "_law_plus", "_law_times", "_law_lt", "_law_some_frac", "_law_later", "_law_sooner", "_law_word", "_law_refused"] : List Str)
theorem run (w : World) : HandSHeadRun.RunEq R (PySem.W.view R.prog [27]) hk ob 12000 looseL w := by
  intro os
  kernel_rfl
end Prf
namespace Prf
open PySem L2 MV
structure Tx (w : World) (K : PySem.W.Frag) (mg : Str → Option Value) : Prop where
  g_Lfeed : mg "_law_feed" = some (.ref (He.ga K "_law_feed"))
  d_Lfeed : ∃ fd, FunD K "_law_feed" "_law_feed" (defArgs s_Lfeed) (defBody s_Lfeed) (defScope s_Lfeed) [] [] (He.ga K "_law_feed") fd
  g_Ldraw : mg "_law_draw" = some (.ref (He.ga K "_law_draw"))
  d_Ldraw : ∃ fd, FunD K "_law_draw" "_law_draw" (defArgs s_Ldraw) (defBody s_Ldraw) (defScope s_Ldraw) [] [] (He.ga K "_law_draw") fd
  g_Lgcd : mg "_law_gcd" = some (.ref (He.ga K "_law_gcd"))
  d_Lgcd : ∃ fd, FunD K "_law_gcd" "_law_gcd" (defArgs s_Lgcd) (defBody s_Lgcd) (defScope s_Lgcd) [] [] (He.ga K "_law_gcd") fd
  g_Lfrac : mg "_law_frac" = some (.ref (He.ga K "_law_frac"))
  d_Lfrac : ∃ fd, FunD K "_law_frac" "_law_frac" (defArgs s_Lfrac) (defBody s_Lfrac) (defScope s_Lfrac) [] [] (He.ga K "_law_frac") fd
  g_Lsome_frac : mg "_law_some_frac" = some (.ref (He.ga K "_law_some_frac"))
  d_Lsome_frac : ∃ fd, FunD K "_law_some_frac" "_law_some_frac" (defArgs s_Lsome_frac) (defBody s_Lsome_frac) (defScope s_Lsome_frac) [] [] (He.ga K "_law_some_frac") fd
  g_Llt : mg "_law_lt" = some (.ref (He.ga K "_law_lt"))
  d_Llt : ∃ fd, FunD K "_law_lt" "_law_lt" (defArgs s_Llt) (defBody s_Llt) (defScope s_Llt) [] [] (He.ga K "_law_lt") fd
  g_Lsooner : mg "_law_sooner" = some (.ref (He.ga K "_law_sooner"))
  d_Lsooner : ∃ fd, FunD K "_law_sooner" "_law_sooner" (defArgs s_Lsooner) (defBody s_Lsooner) (defScope s_Lsooner) [] [] (He.ga K "_law_sooner") fd
  g_Llater : mg "_law_later" = some (.ref (He.ga K "_law_later"))
  d_Llater : ∃ fd, FunD K "_law_later" "_law_later" (defArgs s_Llater) (defBody s_Llater) (defScope s_Llater) [] [] (He.ga K "_law_later") fd
  g_before : mg "before" = some (.ref (He.ga K "before"))
  d_before : ∃ fd, FunD K "before" "before" (defArgs s_before) (defBody s_before) (defScope s_before) [] [] (He.ga K "before") fd
  d_Span_UinitU : ∃ fd, FunD K "__init__" "Span.__init__" (defArgs s_Span_UinitU) (defBody s_Span_UinitU) (defScope s_Span_UinitU) [] [] (He.ma K (He.ga K "Span") "__init__") fd
  g_Lsays : mg "_law_says" = some (.ref (He.ga K "_law_says"))
  d_Lsays : ∃ fd, FunD K "_law_says" "_law_says" (defArgs s_Lsays) (defBody s_Lsays) (defScope s_Lsays) [] [] (He.ga K "_law_says") fd
  d_Span_holds : ∃ fd, FunD K "holds" "Span.holds" (defArgs s_Span_holds) (defBody s_Span_holds) (defScope s_Span_holds) [] [] (He.ma K (He.ga K "Span") "holds") fd
  d_Span_meet : ∃ fd, FunD K "meet" "Span.meet" (defArgs s_Span_meet) (defBody s_Span_meet) (defScope s_Span_meet) [] [] (He.ma K (He.ga K "Span") "meet") fd
  g_common : mg "common" = some (.ref (He.ga K "common"))
  d_common : ∃ fd, FunD K "common" "common" (defArgs s_common) (defBody s_common) (defScope s_common) [] [] (He.ga K "common") fd
  g_frac : mg "frac" = some (.ref (He.ga K "frac"))
  d_frac : ∃ fd, FunD K "frac" "frac" (defArgs s_frac) (defBody s_frac) (defScope s_frac) [(.int 1)] [] (He.ga K "frac") fd
  g_times : mg "times" = some (.ref (He.ga K "times"))
  d_times : ∃ fd, FunD K "times" "times" (defArgs s_times) (defBody s_times) (defScope s_times) [] [] (He.ga K "times") fd
  g_plus : mg "plus" = some (.ref (He.ga K "plus"))
  d_plus : ∃ fd, FunD K "plus" "plus" (defArgs s_plus) (defBody s_plus) (defScope s_plus) [] [] (He.ga K "plus") fd
  d_Span_middle : ∃ fd, FunD K "middle" "Span.middle" (defArgs s_Span_middle) (defBody s_Span_middle) (defScope s_Span_middle) [] [] (He.ma K (He.ga K "Span") "middle") fd
  g_Ltimes : mg "_law_times" = some (.ref (He.ga K "_law_times"))
  d_Ltimes : ∃ fd, FunD K "_law_times" "_law_times" (defArgs s_Ltimes) (defBody s_Ltimes) (defScope s_Ltimes) [] [] (He.ga K "_law_times") fd
  g_Lplus : mg "_law_plus" = some (.ref (He.ga K "_law_plus"))
  d_Lplus : ∃ fd, FunD K "_law_plus" "_law_plus" (defArgs s_Lplus) (defBody s_Lplus) (defScope s_Lplus) [] [] (He.ga K "_law_plus") fd
  d_Span_single : ∃ fd, FunD K "single" "Span.single" (defArgs s_Span_single) (defBody s_Span_single) (defScope s_Span_single) [] [] (He.ma K (He.ga K "Span") "single") fd
  d_Span_UeqU : ∃ fd, FunD K "__eq__" "Span.__eq__" (defArgs s_Span_UeqU) (defBody s_Span_UeqU) (defScope s_Span_UeqU) [] [] (He.ma K (He.ga K "Span") "__eq__") fd
  g_Lrefused : mg "_law_refused" = some (.ref (He.ga K "_law_refused"))
  d_Lrefused : ∃ fd, FunD K "_law_refused" "_law_refused" (defArgs s_Lrefused) (defBody s_Lrefused) (defScope s_Lrefused) [] [] (He.ga K "_law_refused") fd
  g_shown : mg "shown" = some (.ref (He.ga K "shown"))
  d_shown : ∃ fd, FunD K "shown" "shown" (defArgs s_shown) (defBody s_shown) (defScope s_shown) [] [] (He.ga K "shown") fd
  d_Span_UstrU : ∃ fd, FunD K "__str__" "Span.__str__" (defArgs s_Span_UstrU) (defBody s_Span_UstrU) (defScope s_Span_UstrU) [] [] (He.ma K (He.ga K "Span") "__str__") fd
  g_Lword : mg "_law_word" = some (.ref (He.ga K "_law_word"))
  d_Lword : ∃ fd, FunD K "_law_word" "_law_word" (defArgs s_Lword) (defBody s_Lword) (defScope s_Lword) [] [] (He.ga K "_law_word") fd
  d_Span_UreprU : ∃ fd, FunD K "__repr__" "Span.__repr__" (defArgs s_Span_UreprU) (defBody s_Span_UreprU) (defScope s_Span_UreprU) [] [] (He.ma K (He.ga K "Span") "__repr__") fd
  g_law : mg "law" = some (.ref (He.ga K "law"))
  d_law : ∃ fd, FunD K "law" "law" (defArgs s_law) (defBody s_law) (defScope s_law) [] [] (He.ga K "law") fd
  di_WeirError : ∃ fd, FunD K "__init__" "WeirError.__init__" (defArgs si0_WeirError) (defBody si0_WeirError) (defScope si0_WeirError) [] [] (He.ma K (He.ga K "WeirError") "__init__") fd
  di_FormError : ∃ fd, FunD K "__init__" "FormError.__init__" (defArgs si0_FormError) (defBody si0_FormError) (defScope si0_FormError) [] [] (He.ma K (He.ga K "FormError") "__init__") fd
  di_BadSpan : ∃ fd, FunD K "__init__" "BadSpan.__init__" (defArgs si0_BadSpan) (defBody si0_BadSpan) (defScope si0_BadSpan) [] [] (He.ma K (He.ga K "BadSpan") "__init__") fd
  di_NoFraction : ∃ fd, FunD K "__init__" "NoFraction.__init__" (defArgs si0_NoFraction) (defBody si0_NoFraction) (defScope si0_NoFraction) [] [] (He.ma K (He.ga K "NoFraction") "__init__") fd
  m_abs : mg "abs" = none
  m_int : mg "int" = none
  m_isinstance : mg "isinstance" = none
  m_len : mg "len" = none
  m_list : mg "list" = none
  m_range : mg "range" = none
  m_repr : mg "repr" = none
  m_str : mg "str" = none
  m_ValueError : mg "ValueError" = none
  g_Span : mg "Span" = some (.ref (He.ga K "Span"))
  me_Span_UeqU : Meth K (He.ga K "Span") "__eq__" (He.ma K (He.ga K "Span") "__eq__")
  me_Span_UreprU : Meth K (He.ga K "Span") "__repr__" (He.ma K (He.ga K "Span") "__repr__")
  me_Span_UstrU : Meth K (He.ga K "Span") "__str__" (He.ma K (He.ga K "Span") "__str__")
  me_Span_holds : Meth K (He.ga K "Span") "holds" (He.ma K (He.ga K "Span") "holds")
  me_Span_meet : Meth K (He.ga K "Span") "meet" (He.ma K (He.ga K "Span") "meet")
  me_Span_middle : Meth K (He.ga K "Span") "middle" (He.ma K (He.ga K "Span") "middle")
  me_Span_single : Meth K (He.ga K "Span") "single" (He.ma K (He.ga K "Span") "single")
  mk_Span : Mk K (He.ga K "Span") (He.ma K (He.ga K "Span") "__init__")
  cl_Span : Cls K (He.ga K "Span")
  cn : ClsN K ccs cfl
  x_WeirError : DW.ExcX K mg "WeirError" xfl
  x_FormError : DW.ExcX K mg "FormError" xfl
  x_BadSpan : DW.ExcX K mg "BadSpan" xfl
  x_NoFraction : DW.ExcX K mg "NoFraction" xfl
  xc : XcN K xsub xfl
  ve : PySem.W.findCls K (.type "ValueError") (.type "type") "__init__" = some (.val (.builtin "ValueError.__init__"))
  oc : ∀ c ∈ ccs, OwnC K ccs c
abbrev si_WeirError : Stmt := inClass (topS 1) 0
theorem sci_WeirError : FnScope ["self", "word"] ["self", "word"] (defScope si_WeirError) := ⟨rfl, rfl, rfl, by decide +kernel, rfl, by decide +kernel, by decide +kernel⟩
def ti_WeirError (K : PySem.W.Frag) : TS :=
  (tSeq (tDrop (tVeI K (tCons (tVar 0) (tCons (tVar 1) tNil)))) (tOst K "word" (tVar 0) (tVar 1)))
theorem pui_WeirError (K : PySem.W.Frag) (vs : List V) (H : Hp) (Q : VK) (E : XK) (h : spIn K 1 xs_WeirError vs H Q E) : ti_WeirError K ⟨fun _ H' => Q .non H', Q, fun _ _ => False, fun _ _ => False⟩ (start ["self", "word"] vs) H := by
  obtain ⟨a, ws, rfl, hl, C, ha, hC, hn, k⟩ := h
  match ws, hl with
  | [w0], _ =>
    show ti_WeirError K _ [some (.ref a), some w0] H
    refine ⟨_, rfl, _, rfl, a, C, _, rfl, Nat.le_of_ble_eq_true rfl, hC, ha, ?_⟩
    exact ⟨_, rfl, _, rfl, a, C, rfl, hC, hn "word" (by simp [flV, xs_WeirError]), .inl ⟨ha, k⟩⟩
theorem oki_WeirError {P : Program} {w : World} {K : PySem.W.Frag} {mg : Str → Option Value} {base : Heap} (T : Tx w K mg) : FnMU P w K mg base 1 "WeirError" "__init__" ["self", "word"] (spIn K 1 xs_WeirError) := by
  obtain ⟨fd, F⟩ := T.di_WeirError
  refine ⟨fd, F.okU sci_WeirError (fun vs H Q E h => by obtain ⟨a, ws, rfl, hl, _⟩ := h; simp [hl]) (fun cdv A outer s H vs Q E hr h => ⟨ti_WeirError K, PSs.nox ?_, pui_WeirError K vs H Q E h⟩), FunD.bindsN F (ps := ["self", "word"]) fun _ _ _ _ _ _ us hl => match us, hl with | [_, _], _ => rfl⟩
  exact (pss_cons (ps_expr (pe_veinit (by rfl) T.m_ValueError T.ve (pa_cons (pv 0) (pa_cons (pv 1) pa_nil)))) (pss_one (ps_ost (pv 0) (pv 1))))
abbrev si_FormError : Stmt := inClass (topS 2) 0
theorem sci_FormError : FnScope ["self", "word"] ["self", "word"] (defScope si_FormError) := ⟨rfl, rfl, rfl, by decide +kernel, rfl, by decide +kernel, by decide +kernel⟩
def ti_FormError (K : PySem.W.Frag) : TS :=
  (tDrop (tCall (spIn K 1 xs_WeirError) [] E0 (tCons (tVar 0) (tCons (tVar 1) tNil))))
theorem pui_FormError (K : PySem.W.Frag) (vs : List V) (H : Hp) (Q : VK) (E : XK) (h : spIn K 1 xs_FormError vs H Q E) : ti_FormError K ⟨fun _ H' => Q .non H', Q, fun _ _ => False, fun _ _ => False⟩ (start ["self", "word"] vs) H := by
  obtain ⟨a, ws, rfl, hl, C, ha, hC, hn, k⟩ := h
  match ws, hl with
  | [w0], _ =>
    show ti_FormError K _ [some (.ref a), some w0] H
    refine ⟨_, rfl, _, rfl, a, [w0], rfl, rfl, C, ha, hC, fun f hf => hn f ?_, fun dx hdx hne => ?_⟩
    · simp [flV, xs_FormError, xs_WeirError] at hf ⊢; simp [hf]
    · exact k dx hdx hne
theorem oki_FormError {P : Program} {w : World} {K : PySem.W.Frag} {mg : Str → Option Value} {base : Heap} (T : Tx w K mg)
    (G_WeirError_init : FnMU P w K mg base 1 "WeirError" "__init__" ["self", "word"] (spIn K 1 xs_WeirError)) : FnMU P w K mg base 2 "FormError" "__init__" ["self", "word"] (spIn K 1 xs_FormError) := by
  obtain ⟨fd, F⟩ := T.di_FormError
  refine ⟨fd, F.okU sci_FormError (fun vs H Q E h => by obtain ⟨a, ws, rfl, hl, _⟩ := h; simp [hl]) (fun cdv A outer s H vs Q E hr h => ⟨ti_FormError K, PSs.nox ?_, pui_FormError K vs H Q E h⟩), FunD.bindsN F (ps := ["self", "word"]) fun _ _ _ _ _ _ us hl => match us, hl with | [_, _], _ => rfl⟩
  exact (pss_one (ps_expr (pe_initU T.x_WeirError G_WeirError_init (hr.mono (by decide)) (by rfl) (pa_cons (pv 0) (pa_cons (pv 1) pa_nil)))) )
abbrev si_BadSpan : Stmt := inClass (topS 4) 0
theorem sci_BadSpan : FnScope ["self"] ["self"] (defScope si_BadSpan) := ⟨rfl, rfl, rfl, by decide +kernel, rfl, by decide +kernel, by decide +kernel⟩
def ti_BadSpan (K : PySem.W.Frag) : TS :=
  (tDrop (tCall (spIn K 1 xs_FormError) [] E0 (tCons (tVar 0) (tCons (tC (.str "bad span")) tNil))))
theorem pui_BadSpan (K : PySem.W.Frag) (vs : List V) (H : Hp) (Q : VK) (E : XK) (h : spIn K 0 xs_BadSpan vs H Q E) : ti_BadSpan K ⟨fun _ H' => Q .non H', Q, fun _ _ => False, fun _ _ => False⟩ (start ["self"] vs) H := by
  obtain ⟨a, ws, rfl, hl, C, ha, hC, hn, k⟩ := h
  match ws, hl with
  | [], _ =>
    show ti_BadSpan K _ [some (.ref a)] H
    refine ⟨_, rfl, a, [.str "bad span"], rfl, rfl, C, ha, hC, fun f hf => hn f ?_, fun dx hdx hne => ?_⟩
    · simp [flV, xs_BadSpan, xs_FormError] at hf ⊢; simp [hf]
    · exact k dx hdx hne
theorem oki_BadSpan {P : Program} {w : World} {K : PySem.W.Frag} {mg : Str → Option Value} {base : Heap} (T : Tx w K mg)
    (G_FormError_init : FnMU P w K mg base 2 "FormError" "__init__" ["self", "word"] (spIn K 1 xs_FormError)) : FnMU P w K mg base 3 "BadSpan" "__init__" ["self"] (spIn K 0 xs_BadSpan) := by
  obtain ⟨fd, F⟩ := T.di_BadSpan
  refine ⟨fd, F.okU sci_BadSpan (fun vs H Q E h => by obtain ⟨a, ws, rfl, hl, _⟩ := h; simp [hl]) (fun cdv A outer s H vs Q E hr h => ⟨ti_BadSpan K, PSs.nox ?_, pui_BadSpan K vs H Q E h⟩), FunD.bindsN F (ps := ["self"]) fun _ _ _ _ _ _ us hl => match us, hl with | [_], _ => rfl⟩
  exact (pss_one (ps_expr (pe_initU T.x_FormError G_FormError_init (hr.mono (by decide)) (by rfl) (pa_cons (pv 0) (pa_cons pe_str pa_nil)))) )
abbrev si_NoFraction : Stmt := inClass (topS 3) 0
theorem sci_NoFraction : FnScope ["self"] ["self"] (defScope si_NoFraction) := ⟨rfl, rfl, rfl, by decide +kernel, rfl, by decide +kernel, by decide +kernel⟩
def ti_NoFraction (K : PySem.W.Frag) : TS :=
  (tDrop (tCall (spIn K 1 xs_FormError) [] E0 (tCons (tVar 0) (tCons (tC (.str "no fraction")) tNil))))
theorem pui_NoFraction (K : PySem.W.Frag) (vs : List V) (H : Hp) (Q : VK) (E : XK) (h : spIn K 0 xs_NoFraction vs H Q E) : ti_NoFraction K ⟨fun _ H' => Q .non H', Q, fun _ _ => False, fun _ _ => False⟩ (start ["self"] vs) H := by
  obtain ⟨a, ws, rfl, hl, C, ha, hC, hn, k⟩ := h
  match ws, hl with
  | [], _ =>
    show ti_NoFraction K _ [some (.ref a)] H
    refine ⟨_, rfl, a, [.str "no fraction"], rfl, rfl, C, ha, hC, fun f hf => hn f ?_, fun dx hdx hne => ?_⟩
    · simp [flV, xs_NoFraction, xs_FormError] at hf ⊢; simp [hf]
    · exact k dx hdx hne
theorem oki_NoFraction {P : Program} {w : World} {K : PySem.W.Frag} {mg : Str → Option Value} {base : Heap} (T : Tx w K mg)
    (G_FormError_init : FnMU P w K mg base 2 "FormError" "__init__" ["self", "word"] (spIn K 1 xs_FormError)) : FnMU P w K mg base 3 "NoFraction" "__init__" ["self"] (spIn K 0 xs_NoFraction) := by
  obtain ⟨fd, F⟩ := T.di_NoFraction
  refine ⟨fd, F.okU sci_NoFraction (fun vs H Q E h => by obtain ⟨a, ws, rfl, hl, _⟩ := h; simp [hl]) (fun cdv A outer s H vs Q E hr h => ⟨ti_NoFraction K, PSs.nox ?_, pui_NoFraction K vs H Q E h⟩), FunD.bindsN F (ps := ["self"]) fun _ _ _ _ _ _ us hl => match us, hl with | [_], _ => rfl⟩
  exact (pss_one (ps_expr (pe_initU T.x_FormError G_FormError_init (hr.mono (by decide)) (by rfl) (pa_cons (pv 0) (pa_cons pe_str pa_nil)))) )
theorem sc_Lfeed : FnScope N_Lfeed ["_law_script"] (defScope s_Lfeed) := ⟨rfl, rfl, rfl, by decide +kernel, rfl, by decide +kernel, by decide +kernel⟩
theorem fk_Lfeed {P : Program} {w : World} {K : PySem.W.Frag} {mg : Str → Option Value} {base : Heap} (T : Tx w K mg) {fd : FuncData}
    (F : FunD K "_law_feed" "_law_feed" (defArgs s_Lfeed) (defBody s_Lfeed) (defScope s_Lfeed) [] [] (He.ga K "_law_feed") fd) :
    FnOk P w K mg base (MV.CX P w) 1 (He.ga K "_law_feed") fd ["_law_script"] (spM K 1 w_Lfeed) :=
  fn_ok F sc_Lfeed fun cdv A outer s H E hr tk po =>
    (qss_one (qs_ret (qe_lst (qa_cons (qe_callTy (call_listA rfl) sim_list (by rfl) T.m_list (by decide +kernel) (qa_cons (qe_slice (qv 0) qo_none (qo_some qe_int)) qa_nil)) (qa_cons qe_int (qa_cons qe_int (qa_cons qe_int qa_nil)))))))
theorem ok_Lfeed_0 {P : Program} {w : World} {K : PySem.W.Frag} {mg : Str → Option Value} {base : Heap} (T : Tx w K mg) :
    Fn P w K mg base 1 (He.ga K "_law_feed") ["_law_script"] w_Lfeed 1 [] (fun ds _ => ds) := by
  obtain ⟨fd, F⟩ := T.d_Lfeed
  refine ⟨⟨fd, fk_Lfeed T F, ?_⟩, F.kp⟩
  exact dbn_all (FunD.bindsN F (ps := ["_law_script"]) fun _ _ _ _ _ _ us hl => match us, hl with | [_], _ => rfl)
theorem sc_Ldraw : FnScope N_Ldraw ["_law_feed_here", "_law_many"] (defScope s_Ldraw) := ⟨rfl, rfl, rfl, by decide +kernel, rfl, by decide +kernel, by decide +kernel⟩
theorem fk_Ldraw {P : Program} {w : World} {K : PySem.W.Frag} {mg : Str → Option Value} {base : Heap} (T : Tx w K mg) {fd : FuncData}
    (F : FunD K "_law_draw" "_law_draw" (defArgs s_Ldraw) (defBody s_Ldraw) (defScope s_Ldraw) [] [] (He.ga K "_law_draw") fd) :
    FnOk P w K mg base (MV.CX P w) 1 (He.ga K "_law_draw") fd ["_law_feed_here", "_law_many"] (spM K 2 w_Ldraw) :=
  fn_ok F sc_Ldraw fun cdv A outer s H E hr tk po =>
    (qss_cons (qs_if (qt_cmp op_gt sim_gt (qe_ix (ix_any (units1 hr)) sim_ix (qv 0) qe_int (fun _ _ => rfl)) qe_int (nomark _)) (qss_cons (qs_set (i := 2) sc_Ldraw.nd rfl (Or.inl rfl) (qe_op op_modN sim_mod (qe_ix (ix_any (units1 hr)) sim_ix (qv 0) qe_int (fun _ _ => rfl)) (qv 1)))
      (qss_cons (qs_setIx (units1 hr) (qe_op DW.op_fdivX sim_div (qe_ix (ix_any (units1 hr)) sim_ix (qv 0) qe_int (fun _ _ => rfl)) (qv 1)) (qv 0) qe_int)
      (qss_one (qs_ret (qv 2))))) qss_nil)
      (qss_cons (qs_set (i := 3) sc_Ldraw.nd rfl (Or.inl rfl) qe_int)
      (qss_cons (qs_if (qt_cmp op_lt sim_lt (qe_ix (ix_any (units1 hr)) sim_ix (qv 0) qe_int (fun _ _ => rfl)) (qe_callB call_lenA sim_len (by rfl) T.m_len (by decide +kernel) (qa_cons (qe_ix (ix_any (units1 hr)) sim_ix (qv 0) qe_int (fun _ _ => rfl)) qa_nil)) (nomark _)) (qss_cons (qs_set (i := 3) sc_Ldraw.nd rfl (Or.inl rfl) (qe_ix (ix_any (units1 hr)) sim_ix (qe_ix (ix_any (units1 hr)) sim_ix (qv 0) qe_int (fun _ _ => rfl)) (qe_ix (ix_any (units1 hr)) sim_ix (qv 0) qe_int (fun _ _ => rfl)) (fun _ _ => rfl)))
      (qss_one (qs_setIx (units1 hr) (qe_op DW.op_plus sim_add (qe_ix (ix_any (units1 hr)) sim_ix (qv 0) qe_int (fun _ _ => rfl)) qe_int) (qv 0) qe_int))) qss_nil)
      (qss_cons (qs_if (qt_cmp op_ge sim_ge (qv 3) qe_int (nomark _)) (qss_cons (qs_setIx (units1 hr) (qe_op DW.op_fdivX sim_div (qv 3) (qv 1)) (qv 0) qe_int)
      (qss_one (qs_ret (qe_op op_modN sim_mod (qv 3) (qv 1))))) qss_nil)
      (qss_cons (qs_setIx (units1 hr) (qe_op op_modN sim_mod (qe_op DW.op_plus sim_add (qe_op DW.op_plus sim_add (qe_op op_mulA sim_mul (qe_ix (ix_any (units1 hr)) sim_ix (qv 0) qe_int (fun _ _ => rfl)) qe_int) (qe_op op_modN sim_mod (qv 3) qe_int)) qe_int) qe_int) (qv 0) qe_int)
      (qss_cons (qs_set (i := 4) sc_Ldraw.nd rfl (Or.inl rfl) (qe_ix (ix_any (units1 hr)) sim_ix (qe_lst (qa_cons (qe_ix (ix_any (units1 hr)) sim_ix (qv 0) qe_int (fun _ _ => rfl)) (qa_cons (qe_op op_pow sim_pow (qe_ix (ix_any (units1 hr)) sim_ix (qv 0) qe_int (fun _ _ => rfl)) qe_int) qa_nil))) (qe_callTy call_intA sim_int (by rfl) T.m_int (by decide +kernel) (qa_cons (qe_cmp op_gt sim_gt (qv 1) qe_int (nomark _)) qa_nil)) (fun _ _ => rfl)))
      (qss_one (qs_ret (qe_op op_modN sim_mod (qe_op DW.op_plus sim_add (qe_op DW.op_fdivX sim_div (qv 4) qe_int) (qv 3)) (qv 1))))))))))
theorem ok_Ldraw_0 {P : Program} {w : World} {K : PySem.W.Frag} {mg : Str → Option Value} {base : Heap} (T : Tx w K mg) :
    Fn P w K mg base 1 (He.ga K "_law_draw") ["_law_feed_here", "_law_many"] w_Ldraw 2 [] (fun ds _ => ds) := by
  obtain ⟨fd, F⟩ := T.d_Ldraw
  refine ⟨⟨fd, fk_Ldraw T F, ?_⟩, F.kp⟩
  exact dbn_all (FunD.bindsN F (ps := ["_law_feed_here", "_law_many"]) fun _ _ _ _ _ _ us hl => match us, hl with | [_, _], _ => rfl)
theorem sc_Lgcd : FnScope N_Lgcd ["_law_one", "_law_other"] (defScope s_Lgcd) := ⟨rfl, rfl, rfl, by decide +kernel, rfl, by decide +kernel, by decide +kernel⟩
theorem fk_Lgcd {P : Program} {w : World} {K : PySem.W.Frag} {mg : Str → Option Value} {base : Heap} (T : Tx w K mg) {fd : FuncData}
    (F : FunD K "_law_gcd" "_law_gcd" (defArgs s_Lgcd) (defBody s_Lgcd) (defScope s_Lgcd) [] [] (He.ga K "_law_gcd") fd) :
    FnOk P w K mg base (MV.CX P w) 1 (He.ga K "_law_gcd") fd ["_law_one", "_law_other"] (spM K 2 w_Lgcd) :=
  fn_ok F sc_Lgcd fun cdv A outer s H E hr tk po =>
    (qss_cons (qs_while po (qt_tru (qv 1) (by intro _; rfl)) (qss_one (qs_par (i := 0) (j := 1) (by rfl) sc_Lgcd.nd rfl rfl (by decide) rfl rfl (qa_cons (qv 1) (qa_cons (qe_op op_modN sim_mod (qv 0) (qv 1)) qa_nil)) (by rfl))))
      (qss_one (qs_ret (qe_callB call_abs sim_abs (by rfl) T.m_abs (by decide +kernel) (qa_cons (qv 0) qa_nil)))))
theorem ok_Lgcd_0 {P : Program} {w : World} {K : PySem.W.Frag} {mg : Str → Option Value} {base : Heap} (T : Tx w K mg) :
    Fn P w K mg base 1 (He.ga K "_law_gcd") ["_law_one", "_law_other"] w_Lgcd 2 [] (fun ds _ => ds) := by
  obtain ⟨fd, F⟩ := T.d_Lgcd
  refine ⟨⟨fd, fk_Lgcd T F, ?_⟩, F.kp⟩
  exact dbn_all (FunD.bindsN F (ps := ["_law_one", "_law_other"]) fun _ _ _ _ _ _ us hl => match us, hl with | [_, _], _ => rfl)
theorem sc_Lfrac : FnScope N_Lfrac ["_law_top", "_law_under"] (defScope s_Lfrac) := ⟨rfl, rfl, rfl, by decide +kernel, rfl, by decide +kernel, by decide +kernel⟩
theorem fk_Lfrac {P : Program} {w : World} {K : PySem.W.Frag} {mg : Str → Option Value} {base : Heap} (T : Tx w K mg)
    (G_Lgcd_0 : Fn P w K mg base 1 (He.ga K "_law_gcd") ["_law_one", "_law_other"] w_Lgcd 2 [] (fun ds _ => ds)) {fd : FuncData}
    (F : FunD K "_law_frac" "_law_frac" (defArgs s_Lfrac) (defBody s_Lfrac) (defScope s_Lfrac) [] [] (He.ga K "_law_frac") fd) :
    FnOk P w K mg base (MV.CX P w) 2 (He.ga K "_law_frac") fd ["_law_top", "_law_under"] (spM K 2 w_Lfrac) :=
  fn_ok F sc_Lfrac fun cdv A outer s H E hr tk po =>
    (qss_cons (qs_set (i := 2) sc_Lfrac.nd rfl (Or.inl rfl) (qe_call G_Lgcd_0 (hr.mono (by decide)) (by rfl) T.g_Lgcd tk (qcwP (qa_cons (qv 0) (qa_cons (qv 1) qa_nil))) (by exact fun _ _ h _ => h)))
      (qss_cons (qs_if (qt_cmp op_lt sim_lt (qv 1) qe_int (nomark _)) (qss_one (qs_set (i := 2) sc_Lfrac.nd rfl (Or.inl rfl) (qe_un un_neg sim_neg (qv 2)))) qss_nil)
      (qss_one (qs_ret (qe_tup (qa_cons (qe_op DW.op_fdivX sim_div (qv 0) (qv 2)) (qa_cons (qe_op DW.op_fdivX sim_div (qv 1) (qv 2)) qa_nil)))))))
theorem ok_Lfrac_0 {P : Program} {w : World} {K : PySem.W.Frag} {mg : Str → Option Value} {base : Heap} (T : Tx w K mg)
    (G_Lgcd_0 : Fn P w K mg base 1 (He.ga K "_law_gcd") ["_law_one", "_law_other"] w_Lgcd 2 [] (fun ds _ => ds)) :
    Fn P w K mg base 2 (He.ga K "_law_frac") ["_law_top", "_law_under"] w_Lfrac 2 [] (fun ds _ => ds) := by
  obtain ⟨fd, F⟩ := T.d_Lfrac
  refine ⟨⟨fd, fk_Lfrac T G_Lgcd_0 F, ?_⟩, F.kp⟩
  exact dbn_all (FunD.bindsN F (ps := ["_law_top", "_law_under"]) fun _ _ _ _ _ _ us hl => match us, hl with | [_, _], _ => rfl)
theorem sc_Lsome_frac : FnScope N_Lsome_frac ["_law_feed_here", "_law_far"] (defScope s_Lsome_frac) := ⟨rfl, rfl, rfl, by decide +kernel, rfl, by decide +kernel, by decide +kernel⟩
theorem fk_Lsome_frac {P : Program} {w : World} {K : PySem.W.Frag} {mg : Str → Option Value} {base : Heap} (T : Tx w K mg)
    (G_Ldraw_0 : Fn P w K mg base 1 (He.ga K "_law_draw") ["_law_feed_here", "_law_many"] w_Ldraw 2 [] (fun ds _ => ds))
    (G_Lfrac_0 : Fn P w K mg base 2 (He.ga K "_law_frac") ["_law_top", "_law_under"] w_Lfrac 2 [] (fun ds _ => ds)) {fd : FuncData}
    (F : FunD K "_law_some_frac" "_law_some_frac" (defArgs s_Lsome_frac) (defBody s_Lsome_frac) (defScope s_Lsome_frac) [] [] (He.ga K "_law_some_frac") fd) :
    FnOk P w K mg base (MV.CX P w) 3 (He.ga K "_law_some_frac") fd ["_law_feed_here", "_law_far"] (spM K 2 w_Lsome_frac) :=
  fn_ok F sc_Lsome_frac fun cdv A outer s H E hr tk po =>
    (qss_cons (qs_set (i := 2) sc_Lsome_frac.nd rfl (Or.inl rfl) (qe_op DW.op_plus sim_add qe_int (qe_call G_Ldraw_0 (hr.mono (by decide)) (by rfl) T.g_Ldraw tk (qcwP (qa_cons (qv 0) (qa_cons qe_int qa_nil))) (by exact fun _ _ h _ => h))))
      (qss_cons (qs_if (qt_cmp (DW.op_eqq hr.units) sim_eq (qe_call G_Ldraw_0 (hr.mono (by decide)) (by rfl) T.g_Ldraw tk (qcwP (qa_cons (qv 0) (qa_cons qe_int qa_nil))) (by exact fun _ _ h _ => h)) qe_int (nomark _)) (qss_one (qs_set (i := 2) sc_Lsome_frac.nd rfl (Or.inl rfl) (qe_op DW.op_plus sim_add (qv 2) (qv 1)))) qss_nil)
      (qss_one (qs_ret (qe_call G_Lfrac_0 (hr.mono (by decide)) (by rfl) T.g_Lfrac tk (qcwP (qa_cons (qe_op op_sub sim_sub (qe_call G_Ldraw_0 (hr.mono (by decide)) (by rfl) T.g_Ldraw tk (qcwP (qa_cons (qv 0) (qa_cons (qe_op DW.op_plus sim_add (qe_op op_mulA sim_mul qe_int (qv 1)) qe_int) qa_nil))) (by exact fun _ _ h _ => h)) (qv 1)) (qa_cons (qv 2) qa_nil))) (by exact fun _ _ h _ => h))))))
theorem ok_Lsome_frac_0 {P : Program} {w : World} {K : PySem.W.Frag} {mg : Str → Option Value} {base : Heap} (T : Tx w K mg)
    (G_Ldraw_0 : Fn P w K mg base 1 (He.ga K "_law_draw") ["_law_feed_here", "_law_many"] w_Ldraw 2 [] (fun ds _ => ds))
    (G_Lfrac_0 : Fn P w K mg base 2 (He.ga K "_law_frac") ["_law_top", "_law_under"] w_Lfrac 2 [] (fun ds _ => ds)) :
    Fn P w K mg base 3 (He.ga K "_law_some_frac") ["_law_feed_here", "_law_far"] w_Lsome_frac 2 [] (fun ds _ => ds) := by
  obtain ⟨fd, F⟩ := T.d_Lsome_frac
  refine ⟨⟨fd, fk_Lsome_frac T G_Ldraw_0 G_Lfrac_0 F, ?_⟩, F.kp⟩
  exact dbn_all (FunD.bindsN F (ps := ["_law_feed_here", "_law_far"]) fun _ _ _ _ _ _ us hl => match us, hl with | [_, _], _ => rfl)
theorem sc_Llt : FnScope N_Llt ["_law_a", "_law_b"] (defScope s_Llt) := ⟨rfl, rfl, rfl, by decide +kernel, rfl, by decide +kernel, by decide +kernel⟩
theorem fk_Llt {P : Program} {w : World} {K : PySem.W.Frag} {mg : Str → Option Value} {base : Heap} (T : Tx w K mg) {fd : FuncData}
    (F : FunD K "_law_lt" "_law_lt" (defArgs s_Llt) (defBody s_Llt) (defScope s_Llt) [] [] (He.ga K "_law_lt") fd) :
    FnOk P w K mg base (MV.CX P w) 1 (He.ga K "_law_lt") fd ["_law_a", "_law_b"] (spM K 2 w_Llt) :=
  fn_ok F sc_Llt fun cdv A outer s H E hr tk po =>
    (qss_one (qs_ret (qe_cmp op_lt sim_lt (qe_op op_mulA sim_mul (qe_ix (ix_any (units1 hr)) sim_ix (qv 0) qe_int (fun _ _ => rfl)) (qe_ix (ix_any (units1 hr)) sim_ix (qv 1) qe_int (fun _ _ => rfl))) (qe_op op_mulA sim_mul (qe_ix (ix_any (units1 hr)) sim_ix (qv 1) qe_int (fun _ _ => rfl)) (qe_ix (ix_any (units1 hr)) sim_ix (qv 0) qe_int (fun _ _ => rfl))) (nomark _))))
theorem ok_Llt_0 {P : Program} {w : World} {K : PySem.W.Frag} {mg : Str → Option Value} {base : Heap} (T : Tx w K mg) :
    Fn P w K mg base 1 (He.ga K "_law_lt") ["_law_a", "_law_b"] w_Llt 2 [] (fun ds _ => ds) := by
  obtain ⟨fd, F⟩ := T.d_Llt
  refine ⟨⟨fd, fk_Llt T F, ?_⟩, F.kp⟩
  exact dbn_all (FunD.bindsN F (ps := ["_law_a", "_law_b"]) fun _ _ _ _ _ _ us hl => match us, hl with | [_, _], _ => rfl)
theorem sc_Lsooner : FnScope N_Lsooner ["_law_a", "_law_b"] (defScope s_Lsooner) := ⟨rfl, rfl, rfl, by decide +kernel, rfl, by decide +kernel, by decide +kernel⟩
theorem fk_Lsooner {P : Program} {w : World} {K : PySem.W.Frag} {mg : Str → Option Value} {base : Heap} (T : Tx w K mg)
    (G_Llt_0 : Fn P w K mg base 1 (He.ga K "_law_lt") ["_law_a", "_law_b"] w_Llt 2 [] (fun ds _ => ds)) {fd : FuncData}
    (F : FunD K "_law_sooner" "_law_sooner" (defArgs s_Lsooner) (defBody s_Lsooner) (defScope s_Lsooner) [] [] (He.ga K "_law_sooner") fd) :
    FnOk P w K mg base (MV.CX P w) 2 (He.ga K "_law_sooner") fd ["_law_a", "_law_b"] (spM K 2 w_Lsooner) :=
  fn_ok F sc_Lsooner fun cdv A outer s H E hr tk po =>
    (qss_cons (qs_if (qt_tru (qe_call G_Llt_0 (hr.mono (by decide)) (by rfl) T.g_Llt tk (qcwP (qa_cons (qv 1) (qa_cons (qv 0) qa_nil))) (by exact fun _ _ h _ => h)) (by intro _; rfl)) (qss_one (qs_ret (qv 1))) qss_nil)
      (qss_one (qs_ret (qv 0))))
theorem ok_Lsooner_0 {P : Program} {w : World} {K : PySem.W.Frag} {mg : Str → Option Value} {base : Heap} (T : Tx w K mg)
    (G_Llt_0 : Fn P w K mg base 1 (He.ga K "_law_lt") ["_law_a", "_law_b"] w_Llt 2 [] (fun ds _ => ds)) :
    Fn P w K mg base 2 (He.ga K "_law_sooner") ["_law_a", "_law_b"] w_Lsooner 2 [] (fun ds _ => ds) := by
  obtain ⟨fd, F⟩ := T.d_Lsooner
  refine ⟨⟨fd, fk_Lsooner T G_Llt_0 F, ?_⟩, F.kp⟩
  exact dbn_all (FunD.bindsN F (ps := ["_law_a", "_law_b"]) fun _ _ _ _ _ _ us hl => match us, hl with | [_, _], _ => rfl)
theorem sc_Llater : FnScope N_Llater ["_law_a", "_law_b"] (defScope s_Llater) := ⟨rfl, rfl, rfl, by decide +kernel, rfl, by decide +kernel, by decide +kernel⟩
theorem fk_Llater {P : Program} {w : World} {K : PySem.W.Frag} {mg : Str → Option Value} {base : Heap} (T : Tx w K mg)
    (G_Llt_0 : Fn P w K mg base 1 (He.ga K "_law_lt") ["_law_a", "_law_b"] w_Llt 2 [] (fun ds _ => ds)) {fd : FuncData}
    (F : FunD K "_law_later" "_law_later" (defArgs s_Llater) (defBody s_Llater) (defScope s_Llater) [] [] (He.ga K "_law_later") fd) :
    FnOk P w K mg base (MV.CX P w) 2 (He.ga K "_law_later") fd ["_law_a", "_law_b"] (spM K 2 w_Llater) :=
  fn_ok F sc_Llater fun cdv A outer s H E hr tk po =>
    (qss_cons (qs_if (qt_tru (qe_call G_Llt_0 (hr.mono (by decide)) (by rfl) T.g_Llt tk (qcwP (qa_cons (qv 0) (qa_cons (qv 1) qa_nil))) (by exact fun _ _ h _ => h)) (by intro _; rfl)) (qss_one (qs_ret (qv 1))) qss_nil)
      (qss_one (qs_ret (qv 0))))
theorem ok_Llater_0 {P : Program} {w : World} {K : PySem.W.Frag} {mg : Str → Option Value} {base : Heap} (T : Tx w K mg)
    (G_Llt_0 : Fn P w K mg base 1 (He.ga K "_law_lt") ["_law_a", "_law_b"] w_Llt 2 [] (fun ds _ => ds)) :
    Fn P w K mg base 2 (He.ga K "_law_later") ["_law_a", "_law_b"] w_Llater 2 [] (fun ds _ => ds) := by
  obtain ⟨fd, F⟩ := T.d_Llater
  refine ⟨⟨fd, fk_Llater T G_Llt_0 F, ?_⟩, F.kp⟩
  exact dbn_all (FunD.bindsN F (ps := ["_law_a", "_law_b"]) fun _ _ _ _ _ _ us hl => match us, hl with | [_, _], _ => rfl)
theorem sc_before : FnScope N_before ["a", "b"] (defScope s_before) := ⟨rfl, rfl, rfl, by decide +kernel, rfl, by decide +kernel, by decide +kernel⟩
theorem fk_before {P : Program} {w : World} {K : PySem.W.Frag} {mg : Str → Option Value} {base : Heap} (T : Tx w K mg) {fd : FuncData}
    (F : FunD K "before" "before" (defArgs s_before) (defBody s_before) (defScope s_before) [] [] (He.ga K "before") fd) :
    FnOk P w K mg base (MV.CX P w) 1 (He.ga K "before") fd ["a", "b"] (spM K 2 w_before) :=
  fn_ok F sc_before fun cdv A outer s H E hr tk po =>
    (qss_one (qs_ret (qe_cmp op_lt sim_lt (qe_op op_mulA sim_mul (qe_ix (ix_any (units1 hr)) sim_ix (qv 0) qe_int (fun _ _ => rfl)) (qe_ix (ix_any (units1 hr)) sim_ix (qv 1) qe_int (fun _ _ => rfl))) (qe_op op_mulA sim_mul (qe_ix (ix_any (units1 hr)) sim_ix (qv 1) qe_int (fun _ _ => rfl)) (qe_ix (ix_any (units1 hr)) sim_ix (qv 0) qe_int (fun _ _ => rfl))) (nomark _))))
theorem ok_before_0 {P : Program} {w : World} {K : PySem.W.Frag} {mg : Str → Option Value} {base : Heap} (T : Tx w K mg) :
    Fn P w K mg base 1 (He.ga K "before") ["a", "b"] w_before 2 [] (fun ds _ => ds) := by
  obtain ⟨fd, F⟩ := T.d_before
  refine ⟨⟨fd, fk_before T F, ?_⟩, F.kp⟩
  exact dbn_all (FunD.bindsN F (ps := ["a", "b"]) fun _ _ _ _ _ _ us hl => match us, hl with | [_, _], _ => rfl)
theorem sc_Span_UinitU : FnScope N_Span_UinitU ["self", "low", "high"] (defScope s_Span_UinitU) := ⟨rfl, rfl, rfl, by decide +kernel, rfl, by decide +kernel, by decide +kernel⟩
theorem fk_Span_UinitU {P : Program} {w : World} {K : PySem.W.Frag} {mg : Str → Option Value} {base : Heap} (T : Tx w K mg)
    (G_BadSpan_init : FnMU P w K mg base 3 "BadSpan" "__init__" ["self"] (spIn K 0 xs_BadSpan))
    (G_before_0 : Fn P w K mg base 1 (He.ga K "before") ["a", "b"] w_before 2 [] (fun ds _ => ds)) {fd : FuncData}
    (F : FunD K "__init__" "Span.__init__" (defArgs s_Span_UinitU) (defBody s_Span_UinitU) (defScope s_Span_UinitU) [] [] (He.ma K (He.ga K "Span") "__init__") fd) :
    FnOk P w K mg base (MV.CX P w) 5 (He.ma K (He.ga K "Span") "__init__") fd ["self", "low", "high"] (spM K 3 w_Span_UinitU) :=
  fn_ok F sc_Span_UinitU fun cdv A outer s H E hr tk po =>
    (qss_cons (qs_if (qt_tru (qe_call G_before_0 (hr.mono (by decide)) (by rfl) T.g_before tk (qcwP (qa_cons (qv 2) (qa_cons (qv 1) qa_nil))) (by exact fun _ _ h _ => h)) (by intro _; rfl)) (qss_one (qs_raise0 rfl tk T.x_BadSpan G_BadSpan_init (hr.mono (by decide)) (by rfl) (by simp [xfl, xs_BadSpan]))) qss_nil)
      (qss_cons (qs_fld T.cn (by simp [cfl]) (qv 0) (qv 1))
      (qss_one (qs_fld T.cn (by simp [cfl]) (qv 0) (qv 2)))))
theorem ok_Span_UinitU_0 {P : Program} {w : World} {K : PySem.W.Frag} {mg : Str → Option Value} {base : Heap} (T : Tx w K mg)
    (G_BadSpan_init : FnMU P w K mg base 3 "BadSpan" "__init__" ["self"] (spIn K 0 xs_BadSpan))
    (G_before_0 : Fn P w K mg base 1 (He.ga K "before") ["a", "b"] w_before 2 [] (fun ds _ => ds)) :
    Fn P w K mg base 5 (He.ma K (He.ga K "Span") "__init__") ["self", "low", "high"] w_Span_UinitU 3 [] (fun ds _ => ds) := by
  obtain ⟨fd, F⟩ := T.d_Span_UinitU
  refine ⟨⟨fd, fk_Span_UinitU T G_BadSpan_init G_before_0 F, ?_⟩, F.kp⟩
  exact dbn_all (FunD.bindsN F (ps := ["self", "low", "high"]) fun _ _ _ _ _ _ us hl => match us, hl with | [_, _, _], _ => rfl)
theorem sc_Lsays : FnScope N_Lsays ["_law_found", "_law_due"] (defScope s_Lsays) := ⟨rfl, rfl, rfl, by decide +kernel, rfl, by decide +kernel, by decide +kernel⟩
theorem fk_Lsays {P : Program} {w : World} {K : PySem.W.Frag} {mg : Str → Option Value} {base : Heap} (T : Tx w K mg) {fd : FuncData}
    (F : FunD K "_law_says" "_law_says" (defArgs s_Lsays) (defBody s_Lsays) (defScope s_Lsays) [] [] (He.ga K "_law_says") fd) :
    FnOk P w K mg base (MV.CX P w) 1 (He.ga K "_law_says") fd ["_law_found", "_law_due"] (spM K 2 w_Lsays) :=
  fn_ok F sc_Lsays fun cdv A outer s H E hr tk po =>
    (qss_cons (qs_if (qt_tru (qv 1) (by intro _; rfl)) (qss_one (qs_ret (qe_cmp op_isBl sim_isB (qv 0) qe_bl (nomark _)))) qss_nil)
      (qss_one (qs_ret (qe_cmp op_isBl sim_isB (qv 0) qe_bl (nomark _)))))
theorem ok_Lsays_0 {P : Program} {w : World} {K : PySem.W.Frag} {mg : Str → Option Value} {base : Heap} (T : Tx w K mg) :
    Fn P w K mg base 1 (He.ga K "_law_says") ["_law_found", "_law_due"] w_Lsays 2 [] (fun ds _ => ds) := by
  obtain ⟨fd, F⟩ := T.d_Lsays
  refine ⟨⟨fd, fk_Lsays T F, ?_⟩, F.kp⟩
  exact dbn_all (FunD.bindsN F (ps := ["_law_found", "_law_due"]) fun _ _ _ _ _ _ us hl => match us, hl with | [_, _], _ => rfl)
theorem sc_Span_holds : FnScope N_Span_holds ["self", "at"] (defScope s_Span_holds) := ⟨rfl, rfl, rfl, by decide +kernel, rfl, by decide +kernel, by decide +kernel⟩
theorem fk_Span_holds {P : Program} {w : World} {K : PySem.W.Frag} {mg : Str → Option Value} {base : Heap} (T : Tx w K mg)
    (G_before_0 : Fn P w K mg base 1 (He.ga K "before") ["a", "b"] w_before 2 [] (fun ds _ => ds)) {fd : FuncData}
    (F : FunD K "holds" "Span.holds" (defArgs s_Span_holds) (defBody s_Span_holds) (defScope s_Span_holds) [] [] (He.ma K (He.ga K "Span") "holds") fd) :
    FnOk P w K mg base (MV.CX P w) 2 (He.ma K (He.ga K "Span") "holds") fd ["self", "at"] (spM K 2 w_Span_holds) :=
  fn_ok F sc_Span_holds fun cdv A outer s H E hr tk po =>
    (qss_one (qs_ret (qe_and (qe_not (qe_call G_before_0 (hr.mono (by decide)) (by rfl) T.g_before tk (qcwP (qa_cons (qv 1) (qa_cons (qe_fld T.cn (by simp [cfl]) (qv 0)) qa_nil))) (by exact fun _ _ h _ => h))) (qe_one (qe_not (qe_call G_before_0 (hr.mono (by decide)) (by rfl) T.g_before tk (qcwP (qa_cons (qe_fld T.cn (by simp [cfl]) (qv 0)) (qa_cons (qv 1) qa_nil))) (by exact fun _ _ h _ => h)))))))
theorem ok_Span_holds_0 {P : Program} {w : World} {K : PySem.W.Frag} {mg : Str → Option Value} {base : Heap} (T : Tx w K mg)
    (G_before_0 : Fn P w K mg base 1 (He.ga K "before") ["a", "b"] w_before 2 [] (fun ds _ => ds)) :
    Fn P w K mg base 2 (He.ma K (He.ga K "Span") "holds") ["self", "at"] w_Span_holds 2 [] (fun ds _ => ds) := by
  obtain ⟨fd, F⟩ := T.d_Span_holds
  refine ⟨⟨fd, fk_Span_holds T G_before_0 F, ?_⟩, F.kp⟩
  exact dbn_all (FunD.bindsN F (ps := ["self", "at"]) fun _ _ _ _ _ _ us hl => match us, hl with | [_, _], _ => rfl)
theorem sc_Span_meet : FnScope N_Span_meet ["self", "other"] (defScope s_Span_meet) := ⟨rfl, rfl, rfl, by decide +kernel, rfl, by decide +kernel, by decide +kernel⟩
theorem fk_Span_meet {P : Program} {w : World} {K : PySem.W.Frag} {mg : Str → Option Value} {base : Heap} (T : Tx w K mg)
    (G_Span_UinitU_0 : Fn P w K mg base 5 (He.ma K (He.ga K "Span") "__init__") ["self", "low", "high"] w_Span_UinitU 3 [] (fun ds _ => ds))
    (G_before_0 : Fn P w K mg base 1 (He.ga K "before") ["a", "b"] w_before 2 [] (fun ds _ => ds)) {fd : FuncData}
    (F : FunD K "meet" "Span.meet" (defArgs s_Span_meet) (defBody s_Span_meet) (defScope s_Span_meet) [] [] (He.ma K (He.ga K "Span") "meet") fd) :
    FnOk P w K mg base (MV.CX P w) 7 (He.ma K (He.ga K "Span") "meet") fd ["self", "other"] (spM K 2 w_Span_meet) :=
  fn_ok F sc_Span_meet fun cdv A outer s H E hr tk po =>
    (qss_cons (qs_set (i := 2) sc_Span_meet.nd rfl (Or.inl rfl) (qe_ifExp (qt_tru (qe_call G_before_0 (hr.mono (by decide)) (by rfl) T.g_before tk (qcwP (qa_cons (qe_fld T.cn (by simp [cfl]) (qv 0)) (qa_cons (qe_fld T.cn (by simp [cfl]) (qv 1)) qa_nil))) (by exact fun _ _ h _ => h)) (by intro _; rfl)) (qe_fld T.cn (by simp [cfl]) (qv 1)) (qe_fld T.cn (by simp [cfl]) (qv 0))))
      (qss_cons (qs_set (i := 3) sc_Span_meet.nd rfl (Or.inl rfl) (qe_ifExp (qt_tru (qe_call G_before_0 (hr.mono (by decide)) (by rfl) T.g_before tk (qcwP (qa_cons (qe_fld T.cn (by simp [cfl]) (qv 1)) (qa_cons (qe_fld T.cn (by simp [cfl]) (qv 0)) qa_nil))) (by exact fun _ _ h _ => h)) (by intro _; rfl)) (qe_fld T.cn (by simp [cfl]) (qv 1)) (qe_fld T.cn (by simp [cfl]) (qv 0))))
      (qss_cons (qs_if (qt_tru (qe_call G_before_0 (hr.mono (by decide)) (by rfl) T.g_before tk (qcwP (qa_cons (qv 3) (qa_cons (qv 2) qa_nil))) (by exact fun _ _ h _ => h)) (by intro _; rfl)) (qss_one (qs_ret qe_non)) qss_nil)
      (qss_one (qs_ret (qe_make T.mk_Span G_Span_UinitU_0 (hr.mono (by decide)) (by rfl) T.g_Span tk (qcwP (qa_cons (qv 2) (qa_cons (qv 3) qa_nil))) (by exact fun _ _ h _ => h)))))))
theorem ok_Span_meet_0 {P : Program} {w : World} {K : PySem.W.Frag} {mg : Str → Option Value} {base : Heap} (T : Tx w K mg)
    (G_Span_UinitU_0 : Fn P w K mg base 5 (He.ma K (He.ga K "Span") "__init__") ["self", "low", "high"] w_Span_UinitU 3 [] (fun ds _ => ds))
    (G_before_0 : Fn P w K mg base 1 (He.ga K "before") ["a", "b"] w_before 2 [] (fun ds _ => ds)) :
    Fn P w K mg base 7 (He.ma K (He.ga K "Span") "meet") ["self", "other"] w_Span_meet 2 [] (fun ds _ => ds) := by
  obtain ⟨fd, F⟩ := T.d_Span_meet
  refine ⟨⟨fd, fk_Span_meet T G_Span_UinitU_0 G_before_0 F, ?_⟩, F.kp⟩
  exact dbn_all (FunD.bindsN F (ps := ["self", "other"]) fun _ _ _ _ _ _ us hl => match us, hl with | [_, _], _ => rfl)
theorem sc_common : FnScope N_common ["one", "other"] (defScope s_common) := ⟨rfl, rfl, rfl, by decide +kernel, rfl, by decide +kernel, by decide +kernel⟩
theorem fk_common {P : Program} {w : World} {K : PySem.W.Frag} {mg : Str → Option Value} {base : Heap} (T : Tx w K mg) {fd : FuncData}
    (F : FunD K "common" "common" (defArgs s_common) (defBody s_common) (defScope s_common) [] [] (He.ga K "common") fd) :
    FnOk P w K mg base (MV.CX P w) 1 (He.ga K "common") fd ["one", "other"] (spM K 2 w_common) :=
  fn_ok F sc_common fun cdv A outer s H E hr tk po =>
    (qss_cons (qs_while po (qt_tru (qv 1) (by intro _; rfl)) (qss_one (qs_par (i := 0) (j := 1) (by rfl) sc_common.nd rfl rfl (by decide) rfl rfl (qa_cons (qv 1) (qa_cons (qe_op op_modN sim_mod (qv 0) (qv 1)) qa_nil)) (by rfl))))
      (qss_one (qs_ret (qe_callB call_abs sim_abs (by rfl) T.m_abs (by decide +kernel) (qa_cons (qv 0) qa_nil)))))
theorem ok_common_0 {P : Program} {w : World} {K : PySem.W.Frag} {mg : Str → Option Value} {base : Heap} (T : Tx w K mg) :
    Fn P w K mg base 1 (He.ga K "common") ["one", "other"] w_common 2 [] (fun ds _ => ds) := by
  obtain ⟨fd, F⟩ := T.d_common
  refine ⟨⟨fd, fk_common T F, ?_⟩, F.kp⟩
  exact dbn_all (FunD.bindsN F (ps := ["one", "other"]) fun _ _ _ _ _ _ us hl => match us, hl with | [_, _], _ => rfl)
theorem sc_frac : FnScope N_frac ["top", "under"] (defScope s_frac) := ⟨rfl, rfl, rfl, by decide +kernel, rfl, by decide +kernel, by decide +kernel⟩
theorem fk_frac {P : Program} {w : World} {K : PySem.W.Frag} {mg : Str → Option Value} {base : Heap} (T : Tx w K mg)
    (G_NoFraction_init : FnMU P w K mg base 3 "NoFraction" "__init__" ["self"] (spIn K 0 xs_NoFraction))
    (G_common_0 : Fn P w K mg base 1 (He.ga K "common") ["one", "other"] w_common 2 [] (fun ds _ => ds)) {fd : FuncData}
    (F : FunD K "frac" "frac" (defArgs s_frac) (defBody s_frac) (defScope s_frac) [(.int 1)] [] (He.ga K "frac") fd) :
    FnOk P w K mg base (MV.CX P w) 5 (He.ga K "frac") fd ["top", "under"] (spM K 2 w_frac) :=
  fn_ok F sc_frac fun cdv A outer s H E hr tk po =>
    (qss_cons (qs_if (qt_cmp (DW.op_eqq hr.units) sim_eq (qv 1) qe_int (nomark _)) (qss_one (qs_raise0 rfl tk T.x_NoFraction G_NoFraction_init (hr.mono (by decide)) (by rfl) (by simp [xfl, xs_NoFraction]))) qss_nil)
      (qss_cons (qs_set (i := 2) sc_frac.nd rfl (Or.inl rfl) (qe_call G_common_0 (hr.mono (by decide)) (by rfl) T.g_common tk (qcwP (qa_cons (qv 0) (qa_cons (qv 1) qa_nil))) (by exact fun _ _ h _ => h)))
      (qss_cons (qs_if (qt_cmp op_lt sim_lt (qv 1) qe_int (nomark _)) (qss_one (qs_set (i := 2) sc_frac.nd rfl (Or.inl rfl) (qe_un un_neg sim_neg (qv 2)))) qss_nil)
      (qss_one (qs_ret (qe_tup (qa_cons (qe_op DW.op_fdivX sim_div (qv 0) (qv 2)) (qa_cons (qe_op DW.op_fdivX sim_div (qv 1) (qv 2)) qa_nil))))))))
theorem ok_frac_0 {P : Program} {w : World} {K : PySem.W.Frag} {mg : Str → Option Value} {base : Heap} (T : Tx w K mg)
    (G_NoFraction_init : FnMU P w K mg base 3 "NoFraction" "__init__" ["self"] (spIn K 0 xs_NoFraction))
    (G_common_0 : Fn P w K mg base 1 (He.ga K "common") ["one", "other"] w_common 2 [] (fun ds _ => ds)) :
    Fn P w K mg base 5 (He.ga K "frac") ["top", "under"] w_frac 2 [] (fun ds _ => ds) := by
  obtain ⟨fd, F⟩ := T.d_frac
  refine ⟨⟨fd, fk_frac T G_NoFraction_init G_common_0 F, ?_⟩, F.kp⟩
  obtain ⟨ds, hd, hb⟩ := FunD.binds1 F (ps := ["top", "under"]) 2 1 (by simp) rfl (fun T kV doc pm an cdv ct us its h1 h2 => match us, its, h1, h2 with | [_, _], [_], _, _ => ⟨_, rfl, rfl⟩)
  exact dbn_dfl hb hd rfl (fun as H ds vs hl rv => match ds, hl with | [_, _], _ => relL_app rv .nil)
theorem sc_times : FnScope N_times ["a", "b"] (defScope s_times) := ⟨rfl, rfl, rfl, by decide +kernel, rfl, by decide +kernel, by decide +kernel⟩
theorem fk_times {P : Program} {w : World} {K : PySem.W.Frag} {mg : Str → Option Value} {base : Heap} (T : Tx w K mg)
    (G_frac_0 : Fn P w K mg base 5 (He.ga K "frac") ["top", "under"] w_frac 2 [] (fun ds _ => ds)) {fd : FuncData}
    (F : FunD K "times" "times" (defArgs s_times) (defBody s_times) (defScope s_times) [] [] (He.ga K "times") fd) :
    FnOk P w K mg base (MV.CX P w) 6 (He.ga K "times") fd ["a", "b"] (spM K 2 w_times) :=
  fn_ok F sc_times fun cdv A outer s H E hr tk po =>
    (qss_one (qs_ret (qe_call G_frac_0 (hr.mono (by decide)) (by rfl) T.g_frac tk (qcwP (qa_cons (qe_op op_mulA sim_mul (qe_ix (ix_any (units1 hr)) sim_ix (qv 0) qe_int (fun _ _ => rfl)) (qe_ix (ix_any (units1 hr)) sim_ix (qv 1) qe_int (fun _ _ => rfl))) (qa_cons (qe_op op_mulA sim_mul (qe_ix (ix_any (units1 hr)) sim_ix (qv 0) qe_int (fun _ _ => rfl)) (qe_ix (ix_any (units1 hr)) sim_ix (qv 1) qe_int (fun _ _ => rfl))) qa_nil))) (by exact fun _ _ h _ => h))))
theorem ok_times_0 {P : Program} {w : World} {K : PySem.W.Frag} {mg : Str → Option Value} {base : Heap} (T : Tx w K mg)
    (G_frac_0 : Fn P w K mg base 5 (He.ga K "frac") ["top", "under"] w_frac 2 [] (fun ds _ => ds)) :
    Fn P w K mg base 6 (He.ga K "times") ["a", "b"] w_times 2 [] (fun ds _ => ds) := by
  obtain ⟨fd, F⟩ := T.d_times
  refine ⟨⟨fd, fk_times T G_frac_0 F, ?_⟩, F.kp⟩
  exact dbn_all (FunD.bindsN F (ps := ["a", "b"]) fun _ _ _ _ _ _ us hl => match us, hl with | [_, _], _ => rfl)
theorem sc_plus : FnScope N_plus ["a", "b"] (defScope s_plus) := ⟨rfl, rfl, rfl, by decide +kernel, rfl, by decide +kernel, by decide +kernel⟩
theorem fk_plus {P : Program} {w : World} {K : PySem.W.Frag} {mg : Str → Option Value} {base : Heap} (T : Tx w K mg)
    (G_frac_0 : Fn P w K mg base 5 (He.ga K "frac") ["top", "under"] w_frac 2 [] (fun ds _ => ds)) {fd : FuncData}
    (F : FunD K "plus" "plus" (defArgs s_plus) (defBody s_plus) (defScope s_plus) [] [] (He.ga K "plus") fd) :
    FnOk P w K mg base (MV.CX P w) 6 (He.ga K "plus") fd ["a", "b"] (spM K 2 w_plus) :=
  fn_ok F sc_plus fun cdv A outer s H E hr tk po =>
    (qss_one (qs_ret (qe_call G_frac_0 (hr.mono (by decide)) (by rfl) T.g_frac tk (qcwP (qa_cons (qe_op DW.op_plus sim_add (qe_op op_mulA sim_mul (qe_ix (ix_any (units1 hr)) sim_ix (qv 0) qe_int (fun _ _ => rfl)) (qe_ix (ix_any (units1 hr)) sim_ix (qv 1) qe_int (fun _ _ => rfl))) (qe_op op_mulA sim_mul (qe_ix (ix_any (units1 hr)) sim_ix (qv 1) qe_int (fun _ _ => rfl)) (qe_ix (ix_any (units1 hr)) sim_ix (qv 0) qe_int (fun _ _ => rfl)))) (qa_cons (qe_op op_mulA sim_mul (qe_ix (ix_any (units1 hr)) sim_ix (qv 0) qe_int (fun _ _ => rfl)) (qe_ix (ix_any (units1 hr)) sim_ix (qv 1) qe_int (fun _ _ => rfl))) qa_nil))) (by exact fun _ _ h _ => h))))
theorem ok_plus_0 {P : Program} {w : World} {K : PySem.W.Frag} {mg : Str → Option Value} {base : Heap} (T : Tx w K mg)
    (G_frac_0 : Fn P w K mg base 5 (He.ga K "frac") ["top", "under"] w_frac 2 [] (fun ds _ => ds)) :
    Fn P w K mg base 6 (He.ga K "plus") ["a", "b"] w_plus 2 [] (fun ds _ => ds) := by
  obtain ⟨fd, F⟩ := T.d_plus
  refine ⟨⟨fd, fk_plus T G_frac_0 F, ?_⟩, F.kp⟩
  exact dbn_all (FunD.bindsN F (ps := ["a", "b"]) fun _ _ _ _ _ _ us hl => match us, hl with | [_, _], _ => rfl)
theorem sc_Span_middle : FnScope N_Span_middle ["self"] (defScope s_Span_middle) := ⟨rfl, rfl, rfl, by decide +kernel, rfl, by decide +kernel, by decide +kernel⟩
theorem fk_Span_middle {P : Program} {w : World} {K : PySem.W.Frag} {mg : Str → Option Value} {base : Heap} (T : Tx w K mg)
    (G_plus_0 : Fn P w K mg base 6 (He.ga K "plus") ["a", "b"] w_plus 2 [] (fun ds _ => ds))
    (G_times_0 : Fn P w K mg base 6 (He.ga K "times") ["a", "b"] w_times 2 [] (fun ds _ => ds)) {fd : FuncData}
    (F : FunD K "middle" "Span.middle" (defArgs s_Span_middle) (defBody s_Span_middle) (defScope s_Span_middle) [] [] (He.ma K (He.ga K "Span") "middle") fd) :
    FnOk P w K mg base (MV.CX P w) 7 (He.ma K (He.ga K "Span") "middle") fd ["self"] (spM K 1 w_Span_middle) :=
  fn_ok F sc_Span_middle fun cdv A outer s H E hr tk po =>
    (qss_one (qs_ret (qe_call G_times_0 (hr.mono (by decide)) (by rfl) T.g_times tk (qcwP (qa_cons (qe_call G_plus_0 (hr.mono (by decide)) (by rfl) T.g_plus tk (qcwP (qa_cons (qe_fld T.cn (by simp [cfl]) (qv 0)) (qa_cons (qe_fld T.cn (by simp [cfl]) (qv 0)) qa_nil))) (by exact fun _ _ h _ => h)) (qa_cons (qe_tup (qa_cons qe_int (qa_cons qe_int qa_nil))) qa_nil))) (by exact fun _ _ h _ => h))))
theorem ok_Span_middle_0 {P : Program} {w : World} {K : PySem.W.Frag} {mg : Str → Option Value} {base : Heap} (T : Tx w K mg)
    (G_plus_0 : Fn P w K mg base 6 (He.ga K "plus") ["a", "b"] w_plus 2 [] (fun ds _ => ds))
    (G_times_0 : Fn P w K mg base 6 (He.ga K "times") ["a", "b"] w_times 2 [] (fun ds _ => ds)) :
    Fn P w K mg base 7 (He.ma K (He.ga K "Span") "middle") ["self"] w_Span_middle 1 [] (fun ds _ => ds) := by
  obtain ⟨fd, F⟩ := T.d_Span_middle
  refine ⟨⟨fd, fk_Span_middle T G_plus_0 G_times_0 F, ?_⟩, F.kp⟩
  exact dbn_all (FunD.bindsN F (ps := ["self"]) fun _ _ _ _ _ _ us hl => match us, hl with | [_], _ => rfl)
theorem sc_Ltimes : FnScope N_Ltimes ["_law_a", "_law_b"] (defScope s_Ltimes) := ⟨rfl, rfl, rfl, by decide +kernel, rfl, by decide +kernel, by decide +kernel⟩
theorem fk_Ltimes {P : Program} {w : World} {K : PySem.W.Frag} {mg : Str → Option Value} {base : Heap} (T : Tx w K mg)
    (G_Lfrac_0 : Fn P w K mg base 2 (He.ga K "_law_frac") ["_law_top", "_law_under"] w_Lfrac 2 [] (fun ds _ => ds)) {fd : FuncData}
    (F : FunD K "_law_times" "_law_times" (defArgs s_Ltimes) (defBody s_Ltimes) (defScope s_Ltimes) [] [] (He.ga K "_law_times") fd) :
    FnOk P w K mg base (MV.CX P w) 3 (He.ga K "_law_times") fd ["_law_a", "_law_b"] (spM K 2 w_Ltimes) :=
  fn_ok F sc_Ltimes fun cdv A outer s H E hr tk po =>
    (qss_one (qs_ret (qe_call G_Lfrac_0 (hr.mono (by decide)) (by rfl) T.g_Lfrac tk (qcwP (qa_cons (qe_op op_mulA sim_mul (qe_ix (ix_any (units1 hr)) sim_ix (qv 0) qe_int (fun _ _ => rfl)) (qe_ix (ix_any (units1 hr)) sim_ix (qv 1) qe_int (fun _ _ => rfl))) (qa_cons (qe_op op_mulA sim_mul (qe_ix (ix_any (units1 hr)) sim_ix (qv 0) qe_int (fun _ _ => rfl)) (qe_ix (ix_any (units1 hr)) sim_ix (qv 1) qe_int (fun _ _ => rfl))) qa_nil))) (by exact fun _ _ h _ => h))))
theorem ok_Ltimes_0 {P : Program} {w : World} {K : PySem.W.Frag} {mg : Str → Option Value} {base : Heap} (T : Tx w K mg)
    (G_Lfrac_0 : Fn P w K mg base 2 (He.ga K "_law_frac") ["_law_top", "_law_under"] w_Lfrac 2 [] (fun ds _ => ds)) :
    Fn P w K mg base 3 (He.ga K "_law_times") ["_law_a", "_law_b"] w_Ltimes 2 [] (fun ds _ => ds) := by
  obtain ⟨fd, F⟩ := T.d_Ltimes
  refine ⟨⟨fd, fk_Ltimes T G_Lfrac_0 F, ?_⟩, F.kp⟩
  exact dbn_all (FunD.bindsN F (ps := ["_law_a", "_law_b"]) fun _ _ _ _ _ _ us hl => match us, hl with | [_, _], _ => rfl)
theorem sc_Lplus : FnScope N_Lplus ["_law_a", "_law_b"] (defScope s_Lplus) := ⟨rfl, rfl, rfl, by decide +kernel, rfl, by decide +kernel, by decide +kernel⟩
theorem fk_Lplus {P : Program} {w : World} {K : PySem.W.Frag} {mg : Str → Option Value} {base : Heap} (T : Tx w K mg)
    (G_Lfrac_0 : Fn P w K mg base 2 (He.ga K "_law_frac") ["_law_top", "_law_under"] w_Lfrac 2 [] (fun ds _ => ds)) {fd : FuncData}
    (F : FunD K "_law_plus" "_law_plus" (defArgs s_Lplus) (defBody s_Lplus) (defScope s_Lplus) [] [] (He.ga K "_law_plus") fd) :
    FnOk P w K mg base (MV.CX P w) 3 (He.ga K "_law_plus") fd ["_law_a", "_law_b"] (spM K 2 w_Lplus) :=
  fn_ok F sc_Lplus fun cdv A outer s H E hr tk po =>
    (qss_one (qs_ret (qe_call G_Lfrac_0 (hr.mono (by decide)) (by rfl) T.g_Lfrac tk (qcwP (qa_cons (qe_op DW.op_plus sim_add (qe_op op_mulA sim_mul (qe_ix (ix_any (units1 hr)) sim_ix (qv 0) qe_int (fun _ _ => rfl)) (qe_ix (ix_any (units1 hr)) sim_ix (qv 1) qe_int (fun _ _ => rfl))) (qe_op op_mulA sim_mul (qe_ix (ix_any (units1 hr)) sim_ix (qv 1) qe_int (fun _ _ => rfl)) (qe_ix (ix_any (units1 hr)) sim_ix (qv 0) qe_int (fun _ _ => rfl)))) (qa_cons (qe_op op_mulA sim_mul (qe_ix (ix_any (units1 hr)) sim_ix (qv 0) qe_int (fun _ _ => rfl)) (qe_ix (ix_any (units1 hr)) sim_ix (qv 1) qe_int (fun _ _ => rfl))) qa_nil))) (by exact fun _ _ h _ => h))))
theorem ok_Lplus_0 {P : Program} {w : World} {K : PySem.W.Frag} {mg : Str → Option Value} {base : Heap} (T : Tx w K mg)
    (G_Lfrac_0 : Fn P w K mg base 2 (He.ga K "_law_frac") ["_law_top", "_law_under"] w_Lfrac 2 [] (fun ds _ => ds)) :
    Fn P w K mg base 3 (He.ga K "_law_plus") ["_law_a", "_law_b"] w_Lplus 2 [] (fun ds _ => ds) := by
  obtain ⟨fd, F⟩ := T.d_Lplus
  refine ⟨⟨fd, fk_Lplus T G_Lfrac_0 F, ?_⟩, F.kp⟩
  exact dbn_all (FunD.bindsN F (ps := ["_law_a", "_law_b"]) fun _ _ _ _ _ _ us hl => match us, hl with | [_, _], _ => rfl)
theorem sc_Span_single : FnScope N_Span_single ["self"] (defScope s_Span_single) := ⟨rfl, rfl, rfl, by decide +kernel, rfl, by decide +kernel, by decide +kernel⟩
theorem fk_Span_single {P : Program} {w : World} {K : PySem.W.Frag} {mg : Str → Option Value} {base : Heap} (T : Tx w K mg) {fd : FuncData}
    (F : FunD K "single" "Span.single" (defArgs s_Span_single) (defBody s_Span_single) (defScope s_Span_single) [] [] (He.ma K (He.ga K "Span") "single") fd) :
    FnOk P w K mg base (MV.CX P w) 1 (He.ma K (He.ga K "Span") "single") fd ["self"] (spM K 1 w_Span_single) :=
  fn_ok F sc_Span_single fun cdv A outer s H E hr tk po =>
    (qss_one (qs_ret (qe_cmp (DW.op_eqq hr.units) sim_eq (qe_fld T.cn (by simp [cfl]) (qv 0)) (qe_fld T.cn (by simp [cfl]) (qv 0)) (nomark _))))
theorem ok_Span_single_0 {P : Program} {w : World} {K : PySem.W.Frag} {mg : Str → Option Value} {base : Heap} (T : Tx w K mg) :
    Fn P w K mg base 1 (He.ma K (He.ga K "Span") "single") ["self"] w_Span_single 1 [] (fun ds _ => ds) := by
  obtain ⟨fd, F⟩ := T.d_Span_single
  refine ⟨⟨fd, fk_Span_single T F, ?_⟩, F.kp⟩
  exact dbn_all (FunD.bindsN F (ps := ["self"]) fun _ _ _ _ _ _ us hl => match us, hl with | [_], _ => rfl)
theorem sc_Span_UeqU : FnScope N_Span_UeqU ["self", "other"] (defScope s_Span_UeqU) := ⟨rfl, rfl, rfl, by decide +kernel, rfl, by decide +kernel, by decide +kernel⟩
theorem fk_Span_UeqU {P : Program} {w : World} {K : PySem.W.Frag} {mg : Str → Option Value} {base : Heap} (T : Tx w K mg) {fd : FuncData}
    (F : FunD K "__eq__" "Span.__eq__" (defArgs s_Span_UeqU) (defBody s_Span_UeqU) (defScope s_Span_UeqU) [] [] (He.ma K (He.ga K "Span") "__eq__") fd) :
    FnOk P w K mg base (MV.CX P w) 1 (He.ma K (He.ga K "Span") "__eq__") fd ["self", "other"] (spM K 2 w_Span_UeqU) :=
  fn_ok F sc_Span_UeqU fun cdv A outer s H E hr tk po =>
    (qss_one (qs_ret (qe_and (qe_callB call_isi (sim_isiC T.oc T.cn) (by rfl) T.m_isinstance (by decide +kernel) (qa_cons (qv 1) (qa_cons (qe_g (by rfl) T.g_Span) qa_nil))) (qe_and (qe_cmp (DW.op_eqq hr.units) sim_eq (qe_fld T.cn (by simp [cfl]) (qv 0)) (qe_fld T.cn (by simp [cfl]) (qv 1)) (nomark _)) (qe_one (qe_cmp (DW.op_eqq hr.units) sim_eq (qe_fld T.cn (by simp [cfl]) (qv 0)) (qe_fld T.cn (by simp [cfl]) (qv 1)) (nomark _)))))))
theorem ok_Span_UeqU_0 {P : Program} {w : World} {K : PySem.W.Frag} {mg : Str → Option Value} {base : Heap} (T : Tx w K mg) :
    Fn P w K mg base 1 (He.ma K (He.ga K "Span") "__eq__") ["self", "other"] w_Span_UeqU 2 [] (fun ds _ => ds) := by
  obtain ⟨fd, F⟩ := T.d_Span_UeqU
  refine ⟨⟨fd, fk_Span_UeqU T F, ?_⟩, F.kp⟩
  exact dbn_all (FunD.bindsN F (ps := ["self", "other"]) fun _ _ _ _ _ _ us hl => match us, hl with | [_, _], _ => rfl)
theorem sc_Lrefused : FnScope N_Lrefused ["_law_low", "_law_high"] (defScope s_Lrefused) := ⟨rfl, rfl, rfl, by decide +kernel, rfl, by decide +kernel, by decide +kernel⟩
theorem fk_Lrefused {P : Program} {w : World} {K : PySem.W.Frag} {mg : Str → Option Value} {base : Heap} (T : Tx w K mg)
    (G_Span_UinitU_0 : Fn P w K mg base 5 (He.ma K (He.ga K "Span") "__init__") ["self", "low", "high"] w_Span_UinitU 3 [] (fun ds _ => ds)) {fd : FuncData}
    (F : FunD K "_law_refused" "_law_refused" (defArgs s_Lrefused) (defBody s_Lrefused) (defScope s_Lrefused) [] [] (He.ga K "_law_refused") fd) :
    FnOk P w K mg base (MV.CX P w) 7 (He.ga K "_law_refused") fd ["_law_low", "_law_high"] (spM K 2 w_Lrefused) :=
  fn_ok F sc_Lrefused fun cdv A outer s H E hr tk po =>
    (qss_cons (qs_set (i := 2) sc_Lrefused.nd rfl (Or.inl rfl) qe_str)
      (qss_cons (qs_try rfl rfl rfl T.xc tk (fun W pn xe tk po => (qss_one (qs_expr (qe_make T.mk_Span G_Span_UinitU_0 (hr.mono (by decide)) (by rfl) T.g_Span tk (qcwP (qa_cons (qv 0) (qa_cons (qv 1) qa_nil))) (by exact fun _ _ h _ => h))))) (.as_ (i := 3) (ty_one ⟨rfl, by decide, Or.inl T.x_BadSpan.g⟩) sc_Lrefused.nd rfl rfl (fun a oe cls d pn xe dd c hz hf hot tk e1 e2 hx => (qss_one (qs_set (i := 2) sc_Lrefused.nd rfl (Or.inl rfl) (qe_xf (i := 3) hz hf e1 e2 hx (by simp [xfl]) rfl (by first | exact Or.inl rfl | exact Or.inr (Or.inl rfl)))))) .nil))
      (qss_one (qs_ret (qe_cmp (DW.op_eqq hr.units) sim_eq (qv 2) qe_str (nomark _))))))
theorem ok_Lrefused_0 {P : Program} {w : World} {K : PySem.W.Frag} {mg : Str → Option Value} {base : Heap} (T : Tx w K mg)
    (G_Span_UinitU_0 : Fn P w K mg base 5 (He.ma K (He.ga K "Span") "__init__") ["self", "low", "high"] w_Span_UinitU 3 [] (fun ds _ => ds)) :
    Fn P w K mg base 7 (He.ga K "_law_refused") ["_law_low", "_law_high"] w_Lrefused 2 [] (fun ds _ => ds) := by
  obtain ⟨fd, F⟩ := T.d_Lrefused
  refine ⟨⟨fd, fk_Lrefused T G_Span_UinitU_0 F, ?_⟩, F.kp⟩
  exact dbn_all (FunD.bindsN F (ps := ["_law_low", "_law_high"]) fun _ _ _ _ _ _ us hl => match us, hl with | [_, _], _ => rfl)
theorem sc_shown : FnScope N_shown ["a"] (defScope s_shown) := ⟨rfl, rfl, rfl, by decide +kernel, rfl, by decide +kernel, by decide +kernel⟩
theorem fk_shown {P : Program} {w : World} {K : PySem.W.Frag} {mg : Str → Option Value} {base : Heap} (T : Tx w K mg) {fd : FuncData}
    (F : FunD K "shown" "shown" (defArgs s_shown) (defBody s_shown) (defScope s_shown) [] [] (He.ga K "shown") fd) :
    FnOk P w K mg base (MV.CX P w) 1 (He.ga K "shown") fd ["a"] (spM K 1 w_shown) :=
  fn_ok F sc_shown fun cdv A outer s H E hr tk po =>
    (qss_cons (qs_if (qt_cmp (DW.op_eqq hr.units) sim_eq (qe_ix (ix_any (units1 hr)) sim_ix (qv 0) qe_int (fun _ _ => rfl)) qe_int (nomark _)) (qss_one (qs_ret (qe_callTy call_strA sim_str (by rfl) T.m_str (by decide +kernel) (qa_cons (qe_ix (ix_any (units1 hr)) sim_ix (qv 0) qe_int (fun _ _ => rfl)) qa_nil)))) qss_nil)
      (qss_one (qs_ret (qe_joined (.cons (qe_fmt (qe_ix (ix_any (units1 hr)) sim_ix (qv 0) qe_int (fun _ _ => rfl))) (.cons qe_str (.cons (qe_fmt (qe_ix (ix_any (units1 hr)) sim_ix (qv 0) qe_int (fun _ _ => rfl))) .nil)))))))
theorem ok_shown_0 {P : Program} {w : World} {K : PySem.W.Frag} {mg : Str → Option Value} {base : Heap} (T : Tx w K mg) :
    Fn P w K mg base 1 (He.ga K "shown") ["a"] w_shown 1 [] (fun ds _ => ds) := by
  obtain ⟨fd, F⟩ := T.d_shown
  refine ⟨⟨fd, fk_shown T F, ?_⟩, F.kp⟩
  exact dbn_all (FunD.bindsN F (ps := ["a"]) fun _ _ _ _ _ _ us hl => match us, hl with | [_], _ => rfl)
theorem sc_Span_UstrU : FnScope N_Span_UstrU ["self"] (defScope s_Span_UstrU) := ⟨rfl, rfl, rfl, by decide +kernel, rfl, by decide +kernel, by decide +kernel⟩
theorem fk_Span_UstrU {P : Program} {w : World} {K : PySem.W.Frag} {mg : Str → Option Value} {base : Heap} (T : Tx w K mg)
    (G_shown_0 : Fn P w K mg base 1 (He.ga K "shown") ["a"] w_shown 1 [] (fun ds _ => ds)) {fd : FuncData}
    (F : FunD K "__str__" "Span.__str__" (defArgs s_Span_UstrU) (defBody s_Span_UstrU) (defScope s_Span_UstrU) [] [] (He.ma K (He.ga K "Span") "__str__") fd) :
    FnOk P w K mg base (MV.CX P w) 2 (He.ma K (He.ga K "Span") "__str__") fd ["self"] (spM K 1 w_Span_UstrU) :=
  fn_ok F sc_Span_UstrU fun cdv A outer s H E hr tk po =>
    (qss_one (qs_ret (qe_joined (.cons (qe_fmt (qe_call G_shown_0 (hr.mono (by decide)) (by rfl) T.g_shown tk (qcwP (qa_cons (qe_fld T.cn (by simp [cfl]) (qv 0)) qa_nil)) (by exact fun _ _ h _ => h))) (.cons qe_str (.cons (qe_fmt (qe_call G_shown_0 (hr.mono (by decide)) (by rfl) T.g_shown tk (qcwP (qa_cons (qe_fld T.cn (by simp [cfl]) (qv 0)) qa_nil)) (by exact fun _ _ h _ => h))) .nil))))))
theorem ok_Span_UstrU_0 {P : Program} {w : World} {K : PySem.W.Frag} {mg : Str → Option Value} {base : Heap} (T : Tx w K mg)
    (G_shown_0 : Fn P w K mg base 1 (He.ga K "shown") ["a"] w_shown 1 [] (fun ds _ => ds)) :
    Fn P w K mg base 2 (He.ma K (He.ga K "Span") "__str__") ["self"] w_Span_UstrU 1 [] (fun ds _ => ds) := by
  obtain ⟨fd, F⟩ := T.d_Span_UstrU
  refine ⟨⟨fd, fk_Span_UstrU T G_shown_0 F, ?_⟩, F.kp⟩
  exact dbn_all (FunD.bindsN F (ps := ["self"]) fun _ _ _ _ _ _ us hl => match us, hl with | [_], _ => rfl)
theorem sc_Lword : FnScope N_Lword ["_law_a"] (defScope s_Lword) := ⟨rfl, rfl, rfl, by decide +kernel, rfl, by decide +kernel, by decide +kernel⟩
theorem fk_Lword {P : Program} {w : World} {K : PySem.W.Frag} {mg : Str → Option Value} {base : Heap} (T : Tx w K mg) {fd : FuncData}
    (F : FunD K "_law_word" "_law_word" (defArgs s_Lword) (defBody s_Lword) (defScope s_Lword) [] [] (He.ga K "_law_word") fd) :
    FnOk P w K mg base (MV.CX P w) 1 (He.ga K "_law_word") fd ["_law_a"] (spM K 1 w_Lword) :=
  fn_ok F sc_Lword fun cdv A outer s H E hr tk po =>
    (qss_cons (qs_if (qt_cmp (DW.op_eqq hr.units) sim_eq (qe_ix (ix_any (units1 hr)) sim_ix (qv 0) qe_int (fun _ _ => rfl)) qe_int (nomark _)) (qss_one (qs_ret (qe_callTy call_strA sim_str (by rfl) T.m_str (by decide +kernel) (qa_cons (qe_ix (ix_any (units1 hr)) sim_ix (qv 0) qe_int (fun _ _ => rfl)) qa_nil)))) qss_nil)
      (qss_one (qs_ret (qe_op DW.op_plus sim_add (qe_op DW.op_plus sim_add (qe_callTy call_strA sim_str (by rfl) T.m_str (by decide +kernel) (qa_cons (qe_ix (ix_any (units1 hr)) sim_ix (qv 0) qe_int (fun _ _ => rfl)) qa_nil)) qe_str) (qe_callTy call_strA sim_str (by rfl) T.m_str (by decide +kernel) (qa_cons (qe_ix (ix_any (units1 hr)) sim_ix (qv 0) qe_int (fun _ _ => rfl)) qa_nil))))))
theorem ok_Lword_0 {P : Program} {w : World} {K : PySem.W.Frag} {mg : Str → Option Value} {base : Heap} (T : Tx w K mg) :
    Fn P w K mg base 1 (He.ga K "_law_word") ["_law_a"] w_Lword 1 [] (fun ds _ => ds) := by
  obtain ⟨fd, F⟩ := T.d_Lword
  refine ⟨⟨fd, fk_Lword T F, ?_⟩, F.kp⟩
  exact dbn_all (FunD.bindsN F (ps := ["_law_a"]) fun _ _ _ _ _ _ us hl => match us, hl with | [_], _ => rfl)
theorem sc_Span_UreprU : FnScope N_Span_UreprU ["self"] (defScope s_Span_UreprU) := ⟨rfl, rfl, rfl, by decide +kernel, rfl, by decide +kernel, by decide +kernel⟩
theorem fk_Span_UreprU {P : Program} {w : World} {K : PySem.W.Frag} {mg : Str → Option Value} {base : Heap} (T : Tx w K mg) {fd : FuncData}
    (F : FunD K "__repr__" "Span.__repr__" (defArgs s_Span_UreprU) (defBody s_Span_UreprU) (defScope s_Span_UreprU) [] [] (He.ma K (He.ga K "Span") "__repr__") fd) :
    FnOkG P w K mg base (MV.CX P w) 1 (He.ma K (He.ga K "Span") "__repr__") fd ["self"] (spM K 1 w_Span_UreprU) :=
  fn_okG F sc_Span_UreprU fun cdv A outer s H E hg hr tk po =>
    (qss_one (qs_ret (qe_joined (.cons qe_str (.cons (qe_fmtD hg (Nat.lt_of_le_of_lt (Nat.add_le_add_left (by decide : 64 ≤ 65) _) (units65 hr)) (qe_fld T.cn (by simp [cfl]) (qv 0))) (.cons qe_str (.cons (qe_fmtD hg (Nat.lt_of_le_of_lt (Nat.add_le_add_left (by decide : 64 ≤ 65) _) (units65 hr)) (qe_fld T.cn (by simp [cfl]) (qv 0))) (.cons qe_str .nil))))))))
theorem ok_Span_UreprU_0 {P : Program} {w : World} {K : PySem.W.Frag} {mg : Str → Option Value} {base : Heap} (T : Tx w K mg) :
    FnG P w K mg base 1 (He.ma K (He.ga K "Span") "__repr__") ["self"] w_Span_UreprU 1 [] (fun ds _ => ds) := by
  obtain ⟨fd, F⟩ := T.d_Span_UreprU
  refine ⟨⟨fd, fk_Span_UreprU T F, ?_⟩, F.kp⟩
  exact dbn_all (FunD.bindsN F (ps := ["self"]) fun _ _ _ _ _ _ us hl => match us, hl with | [_], _ => rfl)
theorem sc_law : FnScope N_law ["_law_script"] (defScope s_law) := ⟨rfl, rfl, rfl, by decide +kernel, rfl, by decide +kernel, by decide +kernel⟩
theorem fk_law {P : Program} {w : World} {K : PySem.W.Frag} {mg : Str → Option Value} {base : Heap} (T : Tx w K mg)
    (G_Span_UeqU_0 : Fn P w K mg base 1 (He.ma K (He.ga K "Span") "__eq__") ["self", "other"] w_Span_UeqU 2 [] (fun ds _ => ds))
    (G_Span_UinitU_0 : Fn P w K mg base 5 (He.ma K (He.ga K "Span") "__init__") ["self", "low", "high"] w_Span_UinitU 3 [] (fun ds _ => ds))
    (G_Span_UreprU_0 : FnG P w K mg base 1 (He.ma K (He.ga K "Span") "__repr__") ["self"] w_Span_UreprU 1 [] (fun ds _ => ds))
    (G_Span_UstrU_0 : Fn P w K mg base 2 (He.ma K (He.ga K "Span") "__str__") ["self"] w_Span_UstrU 1 [] (fun ds _ => ds))
    (G_Span_holds_0 : Fn P w K mg base 2 (He.ma K (He.ga K "Span") "holds") ["self", "at"] w_Span_holds 2 [] (fun ds _ => ds))
    (G_Span_meet_0 : Fn P w K mg base 7 (He.ma K (He.ga K "Span") "meet") ["self", "other"] w_Span_meet 2 [] (fun ds _ => ds))
    (G_Span_middle_0 : Fn P w K mg base 7 (He.ma K (He.ga K "Span") "middle") ["self"] w_Span_middle 1 [] (fun ds _ => ds))
    (G_Span_single_0 : Fn P w K mg base 1 (He.ma K (He.ga K "Span") "single") ["self"] w_Span_single 1 [] (fun ds _ => ds))
    (G_Ldraw_0 : Fn P w K mg base 1 (He.ga K "_law_draw") ["_law_feed_here", "_law_many"] w_Ldraw 2 [] (fun ds _ => ds))
    (G_Lfeed_0 : Fn P w K mg base 1 (He.ga K "_law_feed") ["_law_script"] w_Lfeed 1 [] (fun ds _ => ds))
    (G_Llater_0 : Fn P w K mg base 2 (He.ga K "_law_later") ["_law_a", "_law_b"] w_Llater 2 [] (fun ds _ => ds))
    (G_Llt_0 : Fn P w K mg base 1 (He.ga K "_law_lt") ["_law_a", "_law_b"] w_Llt 2 [] (fun ds _ => ds))
    (G_Lplus_0 : Fn P w K mg base 3 (He.ga K "_law_plus") ["_law_a", "_law_b"] w_Lplus 2 [] (fun ds _ => ds))
    (G_Lrefused_0 : Fn P w K mg base 7 (He.ga K "_law_refused") ["_law_low", "_law_high"] w_Lrefused 2 [] (fun ds _ => ds))
    (G_Lsays_0 : Fn P w K mg base 1 (He.ga K "_law_says") ["_law_found", "_law_due"] w_Lsays 2 [] (fun ds _ => ds))
    (G_Lsome_frac_0 : Fn P w K mg base 3 (He.ga K "_law_some_frac") ["_law_feed_here", "_law_far"] w_Lsome_frac 2 [] (fun ds _ => ds))
    (G_Lsooner_0 : Fn P w K mg base 2 (He.ga K "_law_sooner") ["_law_a", "_law_b"] w_Lsooner 2 [] (fun ds _ => ds))
    (G_Ltimes_0 : Fn P w K mg base 3 (He.ga K "_law_times") ["_law_a", "_law_b"] w_Ltimes 2 [] (fun ds _ => ds))
    (G_Lword_0 : Fn P w K mg base 1 (He.ga K "_law_word") ["_law_a"] w_Lword 1 [] (fun ds _ => ds)) {fd : FuncData}
    (F : FunD K "law" "law" (defArgs s_law) (defBody s_law) (defScope s_law) [] [] (He.ga K "law") fd) :
    FnOkG P w K mg base (MV.CX P w) 8 (He.ga K "law") fd ["_law_script"] (spM K 1 w_law) :=
  fn_okG F sc_law fun cdv A outer s H E hg hr tk po =>
    (qss_cons (qs_set (i := 1) sc_law.nd rfl (Or.inr rfl) (qe_call G_Lfeed_0 (hr.mono (by decide)) (by rfl) T.g_Lfeed tk (qcwP (qa_cons (qv 0) qa_nil)) (by exact fun _ _ h _ => h)))
      (qss_cons (qs_setLc (i := 2) (own := [("_law_k", 3)]) (T := (.nm 3)) (tt := mYes) (me := (mCall w_Lsome_frac 2 0 (fun ds _ => ds) (mArgsP (mCons (mVar 1) (mCons (mC (.int 6)) mNil))))) rfl sc_law.nd rfl rfl (sw_true rfl rfl rfl (by decide +kernel)) (qi_range1 (by rfl) T.m_range (qa_cons qe_int qa_nil)) (blkOk_by (N := N_law) (sc := defScope s_law) (by decide +kernel)) (fun _ _ _ _ _ => (qg_name (i := 3) sc_law.nd rfl (by first | exact Or.inl rfl | exact Or.inr rfl))) (fun _ _ _ _ _ => qts_nil) (fun _ _ _ _ _ => (qe_call G_Lsome_frac_0 (hr.mono (by decide)) (by rfl) T.g_Lsome_frac takesN (qcwP (qa_cons (qv 1) (qa_cons qe_int qa_nil))) (by exact fun _ _ h _ => h))) (by decide))
      (qss_cons (qs_set (i := 4) sc_law.nd rfl (Or.inl rfl) (qe_call G_Ldraw_0 (hr.mono (by decide)) (by rfl) T.g_Ldraw tk (qcwP (qa_cons (qv 1) (qa_cons qe_int qa_nil))) (by exact fun _ _ h _ => h)))
      (qss_cons (qs_set (i := 5) sc_law.nd rfl (Or.inl rfl) (qe_call G_Lsooner_0 (hr.mono (by decide)) (by rfl) T.g_Lsooner tk (qcwP (qa_cons (qe_ix (ix_any (units1 hr)) sim_ix (qv 2) qe_int (fun _ _ => rfl)) (qa_cons (qe_ix (ix_any (units1 hr)) sim_ix (qv 2) qe_int (fun _ _ => rfl)) qa_nil))) (by exact fun _ _ h _ => h)))
      (qss_cons (qs_set (i := 6) sc_law.nd rfl (Or.inl rfl) (qe_call G_Llater_0 (hr.mono (by decide)) (by rfl) T.g_Llater tk (qcwP (qa_cons (qe_ix (ix_any (units1 hr)) sim_ix (qv 2) qe_int (fun _ _ => rfl)) (qa_cons (qe_ix (ix_any (units1 hr)) sim_ix (qv 2) qe_int (fun _ _ => rfl)) qa_nil))) (by exact fun _ _ h _ => h)))
      (qss_cons (qs_set (i := 7) sc_law.nd rfl (Or.inl rfl) (qe_call G_Lsooner_0 (hr.mono (by decide)) (by rfl) T.g_Lsooner tk (qcwP (qa_cons (qe_ix (ix_any (units1 hr)) sim_ix (qv 2) qe_int (fun _ _ => rfl)) (qa_cons (qe_ix (ix_any (units1 hr)) sim_ix (qv 2) qe_int (fun _ _ => rfl)) qa_nil))) (by exact fun _ _ h _ => h)))
      (qss_cons (qs_set (i := 8) sc_law.nd rfl (Or.inl rfl) (qe_call G_Llater_0 (hr.mono (by decide)) (by rfl) T.g_Llater tk (qcwP (qa_cons (qe_ix (ix_any (units1 hr)) sim_ix (qv 2) qe_int (fun _ _ => rfl)) (qa_cons (qe_ix (ix_any (units1 hr)) sim_ix (qv 2) qe_int (fun _ _ => rfl)) qa_nil))) (by exact fun _ _ h _ => h)))
      (qss_cons (qs_if (qt_cmp (DW.op_eqq hr.units) sim_eq (qv 4) qe_int (nomark _)) (qss_cons (qs_set (i := 7) sc_law.nd rfl (Or.inl rfl) (qv 6))
      (qss_one (qs_set (i := 8) sc_law.nd rfl (Or.inl rfl) (qe_call G_Llater_0 (hr.mono (by decide)) (by rfl) T.g_Llater tk (qcwP (qa_cons (qv 8) (qa_cons (qv 6) qa_nil))) (by exact fun _ _ h _ => h))))) qss_nil)
      (qss_cons (qs_if (qt_cmp (DW.op_eqq hr.units) sim_eq (qv 4) qe_int (nomark _)) (qss_one (qs_set (i := 8) sc_law.nd rfl (Or.inl rfl) (qv 7))) qss_nil)
      (qss_cons (qs_set (i := 9) sc_law.nd rfl (Or.inl rfl) (qe_make T.mk_Span G_Span_UinitU_0 (hr.mono (by decide)) (by rfl) T.g_Span tk (qcwP (qa_cons (qv 5) (qa_cons (qv 6) qa_nil))) (by exact fun _ _ h _ => h)))
      (qss_cons (qs_set (i := 10) sc_law.nd rfl (Or.inl rfl) (qe_make T.mk_Span G_Span_UinitU_0 (hr.mono (by decide)) (by rfl) T.g_Span tk (qcwP (qa_cons (qv 7) (qa_cons (qv 8) qa_nil))) (by exact fun _ _ h _ => h)))
      (qss_cons (qs_for po rfl (qi_seq (qe_op DW.op_plus sim_add (qv 2) (qe_lst (qa_cons (qv 5) (qa_cons (qv 6) qa_nil))))) (qg_name (i := 11) sc_law.nd rfl (by first | exact Or.inl rfl | exact Or.inr rfl)) (qss_one (qs_if (qt_not (qt_tru (qe_call G_Lsays_0 (hr.mono (by decide)) (by rfl) T.g_Lsays tk (qcwP (qa_cons (qe_meth (qv 9) T.cl_Span T.me_Span_holds G_Span_holds_0 (hr.mono (by decide)) tk (qcwP (qa_cons (qv 11) qa_nil)) (by exact fun _ _ h _ => h)) (qa_cons (qe_and (qe_not (qe_call G_Llt_0 (hr.mono (by decide)) (by rfl) T.g_Llt tk (qcwP (qa_cons (qv 11) (qa_cons (qv 5) qa_nil))) (by exact fun _ _ h _ => h))) (qe_one (qe_not (qe_call G_Llt_0 (hr.mono (by decide)) (by rfl) T.g_Llt tk (qcwP (qa_cons (qv 6) (qa_cons (qv 11) qa_nil))) (by exact fun _ _ h _ => h))))) qa_nil))) (by exact fun _ _ h _ => h)) (by intro _; rfl))) (qss_one (qs_ret qe_bl)) qss_nil)))
      (qss_cons (qs_set (i := 12) sc_law.nd rfl (Or.inl rfl) (qe_call G_Llater_0 (hr.mono (by decide)) (by rfl) T.g_Llater tk (qcwP (qa_cons (qv 5) (qa_cons (qv 7) qa_nil))) (by exact fun _ _ h _ => h)))
      (qss_cons (qs_set (i := 13) sc_law.nd rfl (Or.inl rfl) (qe_call G_Lsooner_0 (hr.mono (by decide)) (by rfl) T.g_Lsooner tk (qcwP (qa_cons (qv 6) (qa_cons (qv 8) qa_nil))) (by exact fun _ _ h _ => h)))
      (qss_cons (qs_for po rfl (qi_seq (qe_tup (qa_cons (qe_meth (qv 9) T.cl_Span T.me_Span_meet G_Span_meet_0 (hr.mono (by decide)) tk (qcwP (qa_cons (qv 10) qa_nil)) (by exact fun _ _ h _ => h)) (qa_cons (qe_meth (qv 10) T.cl_Span T.me_Span_meet G_Span_meet_0 (hr.mono (by decide)) tk (qcwP (qa_cons (qv 9) qa_nil)) (by exact fun _ _ h _ => h)) qa_nil)))) (qg_name (i := 14) sc_law.nd rfl (by first | exact Or.inl rfl | exact Or.inr rfl)) (qss_one (qs_if (qt_tru (qe_call G_Llt_0 (hr.mono (by decide)) (by rfl) T.g_Llt tk (qcwP (qa_cons (qv 13) (qa_cons (qv 12) qa_nil))) (by exact fun _ _ h _ => h)) (by intro _; rfl)) (qss_one (qs_if (qt_cmp op_notN1 sim_isnot (qv 14) qe_non (nomark _)) (qss_one (qs_ret qe_bl)) qss_nil)) (qss_one (qs_if (PW.pt (qw_or (qt_not (qt_tru (qe_callB call_isi (sim_isiC T.oc T.cn) (by rfl) T.m_isinstance (by decide +kernel) (qa_cons (qv 14) (qa_cons (qe_g (by rfl) T.g_Span) qa_nil))) (by intro _; rfl))) (qw_or (qt_cmp (DW.op_nee hr.units) sim_ne (qe_fld T.cn (by simp [cfl]) (qv 14)) (qv 12) (nomark _)) (qw_or1 (qt_cmp (DW.op_nee hr.units) sim_ne (qe_fld T.cn (by simp [cfl]) (qv 14)) (qv 13) (nomark _)))))) (qss_one (qs_ret qe_bl)) qss_nil)))))
      (qss_cons (qs_if (PW.pt (qw_or (qt_cmp (DW.op_nee hr.units) sim_ne (qe_meth (qv 9) T.cl_Span T.me_Span_middle G_Span_middle_0 (hr.mono (by decide)) tk qcw0 (by exact fun _ _ h _ => h)) (qe_call G_Ltimes_0 (hr.mono (by decide)) (by rfl) T.g_Ltimes tk (qcwP (qa_cons (qe_call G_Lplus_0 (hr.mono (by decide)) (by rfl) T.g_Lplus tk (qcwP (qa_cons (qv 5) (qa_cons (qv 6) qa_nil))) (by exact fun _ _ h _ => h)) (qa_cons (qe_tup (qa_cons qe_int (qa_cons qe_int qa_nil))) qa_nil))) (by exact fun _ _ h _ => h)) (nomark _)) (qw_or1 (qt_not (qt_tru (qe_call G_Lsays_0 (hr.mono (by decide)) (by rfl) T.g_Lsays tk (qcwP (qa_cons (qe_meth (qv 9) T.cl_Span T.me_Span_single G_Span_single_0 (hr.mono (by decide)) tk qcw0 (by exact fun _ _ h _ => h)) (qa_cons (qe_cmp (DW.op_eqq hr.units) sim_eq (qv 5) (qv 6) (nomark _)) qa_nil))) (by exact fun _ _ h _ => h)) (by intro _; rfl)))))) (qss_one (qs_ret qe_bl)) qss_nil)
      (qss_cons (qs_if (PW.pt (qw_or (qt_cmp (DW.op_nee hr.units) sim_ne (qe_eqO T.cn (T.oc "Span" (by simp [ccs])) T.me_Span_UeqU G_Span_UeqU_0 (hr.mono (by decide)) (by exact fun _ _ h _ => h) (qv 9) (qv 10)) (qe_and (qe_cmp (DW.op_eqq hr.units) sim_eq (qv 5) (qv 7) (nomark _)) (qe_one (qe_cmp (DW.op_eqq hr.units) sim_eq (qv 6) (qv 8) (nomark _)))) (nomark _)) (qw_or (qt_eqO T.cn (T.oc "Span" (by simp [ccs])) T.me_Span_UeqU G_Span_UeqU_0 (hr.mono (by decide)) (by exact fun _ _ h _ => h) (qv 9) (qe_tup (qa_cons (qv 5) (qa_cons (qv 6) qa_nil)))) (qw_or1 (qt_not (qt_eqO T.cn (T.oc "Span" (by simp [ccs])) T.me_Span_UeqU G_Span_UeqU_0 (hr.mono (by decide)) (by exact fun _ _ h _ => h) (qv 9) (qe_make T.mk_Span G_Span_UinitU_0 (hr.mono (by decide)) (by rfl) T.g_Span tk (qcwP (qa_cons (qv 5) (qa_cons (qv 6) qa_nil))) (by exact fun _ _ h _ => h)))))))) (qss_one (qs_ret qe_bl)) qss_nil)
      (qss_cons (qs_if (qt_cmp (DW.op_nee hr.units) sim_ne (qe_call G_Lrefused_0 (hr.mono (by decide)) (by rfl) T.g_Lrefused tk (qcwP (qa_cons (qv 6) (qa_cons (qv 5) qa_nil))) (by exact fun _ _ h _ => h)) (qe_cmp (DW.op_nee hr.units) sim_ne (qv 5) (qv 6) (nomark _)) (nomark _)) (qss_one (qs_ret qe_bl)) qss_nil)
      (qss_cons (qs_if (PW.pt (qw_or (qt_cmp (DW.op_nee hr.units) sim_ne (qe_fld T.cn (by simp [cfl]) (qv 9)) (qv 5) (nomark _)) (qw_or (qt_cmp (DW.op_nee hr.units) sim_ne (qe_fld T.cn (by simp [cfl]) (qv 9)) (qv 6) (nomark _)) (qw_or1 (qt_cmp (DW.op_nee hr.units) sim_ne (qe_strO T.me_Span_UstrU G_Span_UstrU_0 (hr.mono (by decide)) (by exact fun _ _ h _ => h) (by rfl) T.m_str (by decide +kernel) (qa_cons (qv 9) qa_nil)) (qe_op DW.op_plus sim_add (qe_op DW.op_plus sim_add (qe_call G_Lword_0 (hr.mono (by decide)) (by rfl) T.g_Lword tk (qcwP (qa_cons (qv 5) qa_nil)) (by exact fun _ _ h _ => h)) qe_str) (qe_call G_Lword_0 (hr.mono (by decide)) (by rfl) T.g_Lword tk (qcwP (qa_cons (qv 6) qa_nil)) (by exact fun _ _ h _ => h))) (nomark _)))))) (qss_one (qs_ret qe_bl)) qss_nil)
      (qss_one (qs_ret (qe_cmp (DW.op_eqq hr.units) sim_eq (qe_reprOG hg T.me_Span_UreprU G_Span_UreprU_0 (hr.mono (by decide)) (by exact fun _ _ h _ => h) (by rfl) T.m_repr (by decide +kernel) (qa_cons (qv 9) qa_nil)) (qe_op DW.op_plus sim_add (qe_op DW.op_plus sim_add (qe_op DW.op_plus sim_add (qe_op DW.op_plus sim_add qe_str (qe_callTy (call_strD hg (Nat.lt_of_le_of_lt (Nat.add_le_add_left (by decide : 64 ≤ 65) _) (units65 hr))) sim_repr (by rfl) T.m_str (by decide +kernel) (qa_cons (qv 5) qa_nil))) qe_str) (qe_callTy (call_strD hg (Nat.lt_of_le_of_lt (Nat.add_le_add_left (by decide : 64 ≤ 65) _) (units65 hr))) sim_repr (by rfl) T.m_str (by decide +kernel) (qa_cons (qv 6) qa_nil))) qe_str) (nomark _)))))))))))))))))))))))
theorem tx_mk {w : World} {K : PySem.W.Frag} {h : Heap} {mg : Str → Option Value} (X : K.In h) (G : h.Ns mainGlobals mg) (c : DW.SaysE faL fnL (fun K => DW.allT (exL K)) K) : Tx w K mg where
  g_Lfeed := He.glo_ok X G (c.d.fact 0 (f := .glo "_law_feed") rfl)
  d_Lfeed := c.d.def_ 0 (d := dd_Lfeed) rfl
  g_Ldraw := He.glo_ok X G (c.d.fact 1 (f := .glo "_law_draw") rfl)
  d_Ldraw := c.d.def_ 1 (d := dd_Ldraw) rfl
  g_Lgcd := He.glo_ok X G (c.d.fact 2 (f := .glo "_law_gcd") rfl)
  d_Lgcd := c.d.def_ 2 (d := dd_Lgcd) rfl
  g_Lfrac := He.glo_ok X G (c.d.fact 3 (f := .glo "_law_frac") rfl)
  d_Lfrac := c.d.def_ 3 (d := dd_Lfrac) rfl
  g_Lsome_frac := He.glo_ok X G (c.d.fact 4 (f := .glo "_law_some_frac") rfl)
  d_Lsome_frac := c.d.def_ 4 (d := dd_Lsome_frac) rfl
  g_Llt := He.glo_ok X G (c.d.fact 5 (f := .glo "_law_lt") rfl)
  d_Llt := c.d.def_ 5 (d := dd_Llt) rfl
  g_Lsooner := He.glo_ok X G (c.d.fact 6 (f := .glo "_law_sooner") rfl)
  d_Lsooner := c.d.def_ 6 (d := dd_Lsooner) rfl
  g_Llater := He.glo_ok X G (c.d.fact 7 (f := .glo "_law_later") rfl)
  d_Llater := c.d.def_ 7 (d := dd_Llater) rfl
  g_before := He.glo_ok X G (c.d.fact 8 (f := .glo "before") rfl)
  d_before := c.d.def_ 8 (d := dd_before) rfl
  d_Span_UinitU := c.d.def_ 9 (d := dd_Span_UinitU) rfl
  g_Lsays := He.glo_ok X G (c.d.fact 9 (f := .glo "_law_says") rfl)
  d_Lsays := c.d.def_ 10 (d := dd_Lsays) rfl
  d_Span_holds := c.d.def_ 11 (d := dd_Span_holds) rfl
  d_Span_meet := c.d.def_ 12 (d := dd_Span_meet) rfl
  g_common := He.glo_ok X G (c.d.fact 10 (f := .glo "common") rfl)
  d_common := c.d.def_ 13 (d := dd_common) rfl
  g_frac := He.glo_ok X G (c.d.fact 11 (f := .glo "frac") rfl)
  d_frac := c.d.def_ 14 (d := dd_frac) rfl
  g_times := He.glo_ok X G (c.d.fact 12 (f := .glo "times") rfl)
  d_times := c.d.def_ 15 (d := dd_times) rfl
  g_plus := He.glo_ok X G (c.d.fact 13 (f := .glo "plus") rfl)
  d_plus := c.d.def_ 16 (d := dd_plus) rfl
  d_Span_middle := c.d.def_ 17 (d := dd_Span_middle) rfl
  g_Ltimes := He.glo_ok X G (c.d.fact 14 (f := .glo "_law_times") rfl)
  d_Ltimes := c.d.def_ 18 (d := dd_Ltimes) rfl
  g_Lplus := He.glo_ok X G (c.d.fact 15 (f := .glo "_law_plus") rfl)
  d_Lplus := c.d.def_ 19 (d := dd_Lplus) rfl
  d_Span_single := c.d.def_ 20 (d := dd_Span_single) rfl
  d_Span_UeqU := c.d.def_ 21 (d := dd_Span_UeqU) rfl
  g_Lrefused := He.glo_ok X G (c.d.fact 16 (f := .glo "_law_refused") rfl)
  d_Lrefused := c.d.def_ 22 (d := dd_Lrefused) rfl
  g_shown := He.glo_ok X G (c.d.fact 17 (f := .glo "shown") rfl)
  d_shown := c.d.def_ 23 (d := dd_shown) rfl
  d_Span_UstrU := c.d.def_ 24 (d := dd_Span_UstrU) rfl
  g_Lword := He.glo_ok X G (c.d.fact 18 (f := .glo "_law_word") rfl)
  d_Lword := c.d.def_ 25 (d := dd_Lword) rfl
  d_Span_UreprU := c.d.def_ 26 (d := dd_Span_UreprU) rfl
  g_law := He.glo_ok X G (c.d.fact 19 (f := .glo "law") rfl)
  d_law := c.d.def_ 27 (d := dd_law) rfl
  di_WeirError := c.d.def_ 28 (d := ddi_WeirError) rfl
  di_FormError := c.d.def_ 29 (d := ddi_FormError) rfl
  di_BadSpan := c.d.def_ 30 (d := ddi_BadSpan) rfl
  di_NoFraction := c.d.def_ 31 (d := ddi_NoFraction) rfl
  m_abs := He.free_ok X G (c.d.fact 20 (f := .free "abs") rfl)
  m_int := He.free_ok X G (c.d.fact 21 (f := .free "int") rfl)
  m_isinstance := He.free_ok X G (c.d.fact 22 (f := .free "isinstance") rfl)
  m_len := He.free_ok X G (c.d.fact 23 (f := .free "len") rfl)
  m_list := He.free_ok X G (c.d.fact 24 (f := .free "list") rfl)
  m_range := He.free_ok X G (c.d.fact 25 (f := .free "range") rfl)
  m_repr := He.free_ok X G (c.d.fact 26 (f := .free "repr") rfl)
  m_str := He.free_ok X G (c.d.fact 27 (f := .free "str") rfl)
  m_ValueError := He.free_ok X G (c.d.fact 28 (f := .free "ValueError") rfl)
  g_Span := He.glo_ok X G (c.d.fact 29 (f := .glo "Span") rfl)
  me_Span_UeqU := He.meth_ok (c.d.fact 30 (f := .meth "Span" "__eq__") rfl)
  me_Span_UreprU := He.meth_ok (c.d.fact 31 (f := .meth "Span" "__repr__") rfl)
  me_Span_UstrU := He.meth_ok (c.d.fact 32 (f := .meth "Span" "__str__") rfl)
  me_Span_holds := He.meth_ok (c.d.fact 33 (f := .meth "Span" "holds") rfl)
  me_Span_meet := He.meth_ok (c.d.fact 34 (f := .meth "Span" "meet") rfl)
  me_Span_middle := He.meth_ok (c.d.fact 35 (f := .meth "Span" "middle") rfl)
  me_Span_single := He.meth_ok (c.d.fact 36 (f := .meth "Span" "single") rfl)
  mk_Span := He.mkr_ok (c.d.fact 37 (f := .mkr "Span") rfl)
  cl_Span := He.cls_ok (c.d.fact 38 (f := .cls "Span") rfl)
  cn := ⟨by simp only [ccs, List.forall_mem_cons, List.not_mem_nil, false_implies, implies_true, and_true]; exact He.cls_ok (c.d.fact 39 (f := .cls "Span") rfl), by simp only [ccs, cfl, List.forall_mem_cons, List.not_mem_nil, false_implies, implies_true, and_true]; exact ⟨He.noat_ok (c.d.fact 40 (f := .noat "Span" "low") rfl), He.noat_ok (c.d.fact 41 (f := .noat "Span" "high") rfl)⟩⟩
  x_WeirError := DW.excXB_ok (He.glo_ok X G (c.d.fact 42 (f := .glo "WeirError") rfl)) (DW.allT_get c.more 0 rfl)
  x_FormError := DW.excXB_ok (He.glo_ok X G (c.d.fact 43 (f := .glo "FormError") rfl)) (DW.allT_get c.more 1 rfl)
  x_BadSpan := DW.excXB_ok (He.glo_ok X G (c.d.fact 44 (f := .glo "BadSpan") rfl)) (DW.allT_get c.more 2 rfl)
  x_NoFraction := DW.excXB_ok (He.glo_ok X G (c.d.fact 45 (f := .glo "NoFraction") rfl)) (DW.allT_get c.more 3 rfl)
  xc := xcn_tab (DW.allT_get c.more 4 rfl)
  ve := DW.veB_ok (DW.allT_get c.more 5 rfl)
  oc := ownA_ok (DW.allT_get c.more 6 rfl)
theorem all_ok {P : Program} {w : World} {K : PySem.W.Frag} {mg : Str → Option Value} (T : Tx w K mg) (base : Heap) {fd : FuncData} (F : FunD K "law" "law" (defArgs s_law) (defBody s_law) (defScope s_law) [] [] (He.ga K "law") fd) : FnOkG P w K mg base (MV.CX P w) 8 (He.ga K "law") fd ["_law_script"] (spM K 1 w_law) := by
  have G_WeirError_init := oki_WeirError (P := P) (w := w) (base := base) T
  have G_FormError_init := oki_FormError (P := P) (w := w) (base := base) T G_WeirError_init
  have G_BadSpan_init := oki_BadSpan (P := P) (w := w) (base := base) T G_FormError_init
  have G_NoFraction_init := oki_NoFraction (P := P) (w := w) (base := base) T G_FormError_init
  have G_Lfeed_0 := ok_Lfeed_0 (P := P) (w := w) (base := base) T
  have G_Ldraw_0 := ok_Ldraw_0 (P := P) (w := w) (base := base) T
  have G_Lgcd_0 := ok_Lgcd_0 (P := P) (w := w) (base := base) T
  have G_Lfrac_0 := ok_Lfrac_0 (P := P) (w := w) (base := base) T G_Lgcd_0
  have G_Lsome_frac_0 := ok_Lsome_frac_0 (P := P) (w := w) (base := base) T G_Ldraw_0 G_Lfrac_0
  have G_Llt_0 := ok_Llt_0 (P := P) (w := w) (base := base) T
  have G_Lsooner_0 := ok_Lsooner_0 (P := P) (w := w) (base := base) T G_Llt_0
  have G_Llater_0 := ok_Llater_0 (P := P) (w := w) (base := base) T G_Llt_0
  have G_before_0 := ok_before_0 (P := P) (w := w) (base := base) T
  have G_Span_UinitU_0 := ok_Span_UinitU_0 (P := P) (w := w) (base := base) T G_BadSpan_init G_before_0
  have G_Lsays_0 := ok_Lsays_0 (P := P) (w := w) (base := base) T
  have G_Span_holds_0 := ok_Span_holds_0 (P := P) (w := w) (base := base) T G_before_0
  have G_Span_meet_0 := ok_Span_meet_0 (P := P) (w := w) (base := base) T G_Span_UinitU_0 G_before_0
  have G_common_0 := ok_common_0 (P := P) (w := w) (base := base) T
  have G_frac_0 := ok_frac_0 (P := P) (w := w) (base := base) T G_NoFraction_init G_common_0
  have G_times_0 := ok_times_0 (P := P) (w := w) (base := base) T G_frac_0
  have G_plus_0 := ok_plus_0 (P := P) (w := w) (base := base) T G_frac_0
  have G_Span_middle_0 := ok_Span_middle_0 (P := P) (w := w) (base := base) T G_plus_0 G_times_0
  have G_Ltimes_0 := ok_Ltimes_0 (P := P) (w := w) (base := base) T G_Lfrac_0
  have G_Lplus_0 := ok_Lplus_0 (P := P) (w := w) (base := base) T G_Lfrac_0
  have G_Span_single_0 := ok_Span_single_0 (P := P) (w := w) (base := base) T
  have G_Span_UeqU_0 := ok_Span_UeqU_0 (P := P) (w := w) (base := base) T
  have G_Lrefused_0 := ok_Lrefused_0 (P := P) (w := w) (base := base) T G_Span_UinitU_0
  have G_shown_0 := ok_shown_0 (P := P) (w := w) (base := base) T
  have G_Span_UstrU_0 := ok_Span_UstrU_0 (P := P) (w := w) (base := base) T G_shown_0
  have G_Lword_0 := ok_Lword_0 (P := P) (w := w) (base := base) T
  have G_Span_UreprU_0 := ok_Span_UreprU_0 (P := P) (w := w) (base := base) T
  exact (fk_law T G_Span_UeqU_0 G_Span_UinitU_0 G_Span_UreprU_0 G_Span_UstrU_0 G_Span_holds_0 G_Span_meet_0 G_Span_middle_0 G_Span_single_0 G_Ldraw_0 G_Lfeed_0 G_Llater_0 G_Llt_0 G_Lplus_0 G_Lrefused_0 G_Lsays_0 G_Lsome_frac_0 G_Lsooner_0 G_Ltimes_0 G_Lword_0 F)
end Prf
section
open PySem PySem.W PySem.Calls PyProof.Rows
theorem Prf.cw_pre (LH : ∀ ns : List Int, ns.length ≤ 63 → Prf.w_law [.kl (ns.map .int)] [] (fun d _ => d = .bl true) (fun _ _ => False)) : PySem.Challenge.rw_dialweir_k04_stretches.Holds := by
  w_on; o_law
  refine HandSHeadRun.head_any (r := OpenLaw.row PySem.Challenge.rw_dialweir_k04_stretches) (q := view (OpenLaw.row PySem.Challenge.rw_dialweir_k04_stretches).prog [27]) (H := Prf.hk) (ob := Prf.ob) (M := 12000) (loose := Prf.looseL) (d := HandSHeadRun.topDef (OpenLaw.row PySem.Challenge.rw_dialweir_k04_stretches).prog 27) (kwd := []) Prf.ob_eq
    (by kernel_rfl) (fun s => by kernel_rfl) Prf.run (by kernel_rfl) (by kernel_rfl) (by kernel_rfl) (by rfl) (by first | assumption | decide +kernel) (by decide +kernel) ⟨rfl, rfl, rfl, rfl, rfl, by decide +kernel⟩ ?hw ?hc
  case hw => w_witness2
  case hc =>
    refine Att.attach_call (l := PySem.Challenge.rw_dialweir_k04_stretches) (n := 63) rfl (by kernel_rfl) fun w s₀ s₁ mg mb fa o pm cd doc a vs ns G Y ho hd hcd hmg0 hobj hints hlen hgn => ?_
    obtain ⟨K, KX, c⟩ := Y
    have hmg : mg ("law" : PySem.Str) = some (.ref fa) := by
      have e : (HandSHeadRun.topDef (OpenLaw.row PySem.Challenge.rw_dialweir_k04_stretches).prog 27).name = ("law" : PySem.Str) := by kernel_rfl
      rw [← e]
      exact hmg0
    have T := Prf.tx_mk (w := w) KX G.T.g c
    have e := hmg.symm.trans T.g_law
    cases e
    obtain ⟨fd, F⟩ := T.d_law
    exact MV.law_runG (k := 8) (x := "_law_script") KX G.T.g G.T.b G.T.builtins G.T.nolimit hgn hobj hints (Nat.le_trans hlen (by decide)) ⟨rfl, by decide, by decide⟩ (fun base => Prf.all_ok T base F) (fun s v => L2.FunD.bindsA (ps := ["_law_script"]) F (fun _ _ _ _ _ _ us hl => match us, hl with | [_], _ => rfl) s [v] rfl) (fun H hO hS => MV.law_st LH H a ns hlen hO hS)

end
namespace MV
open PySem L2
theorem atI_0 {α : Type} {l : List α} : atI l 0 = l[0]? := by cases l <;> simp [atI, ixN]
theorem atI_n {α : Type} {l : List α} {n : Nat} : atI l (n : Int) = l[n]? := by
  unfold atI ixN
  rw [if_pos (by omega)]
  by_cases h : (n : Int) < l.length
  · rw [if_pos h]; simp
  · rw [if_neg h]; simp; omega
theorem atI_1 {α : Type} {l : List α} : atI l 1 = l[1]? := atI_n (n := 1)
theorem atI_i {α : Type} {l : List α} {i : Int} (h0 : 0 ≤ i) : atI l i = l[i.toNat]? := by
  obtain ⟨n, rfl⟩ := Int.eq_ofNat_of_zero_le h0
  rw [atI_n]; simp
theorem mul_ok {i j : Int} (h : j.natAbs < 2 ^ 64) : okMul i j := .inl (.inr (by omega))
theorem mul_ok' {i j : Int} (h : i.natAbs < 2 ^ 64) : okMul i j := .inl (.inl (by omega))
theorem div_ok {j : Int} (h : j ≠ 0) (hb : j.natAbs < 2 ^ 64) : okDiv j := ⟨h, Nat.lt_of_lt_of_le (Nat.log2_lt (by omega) |>.mpr hb) (by decide)⟩
theorem fmod_in (a : Int) {m : Int} (h : 0 < m) : 0 ≤ a.fmod m ∧ a.fmod m < m := ⟨Int.fmod_nonneg_of_pos a h, Int.fmod_lt_of_pos a h⟩
/-- the objects of M, but those of S, stand in M' -/
structure Kp (S : List Nat) (M M' : Mem) : Prop where
  len : M.length ≤ M'.length
  at_ : ∀ i o, i ∉ S → M[i]? = some o → M'[i]? = some o
theorem Kp.refl {S : List Nat} {M : Mem} : Kp S M M := ⟨Nat.le_refl _, fun _ _ _ h => h⟩
theorem Kp.trans {S : List Nat} {M M1 M2 : Mem} (a : Kp S M M1) (b : Kp S M1 M2) : Kp S M M2 := ⟨Nat.le_trans a.len b.len, fun i o n h => b.at_ i o n (a.at_ i o n h)⟩
theorem Kp.app {S : List Nat} {M l : Mem} : Kp S M (M ++ l) := ⟨by simp, fun i o _ h => by
  have hl : i < M.length := (List.getElem?_eq_some_iff.mp h).1
  rw [List.getElem?_append_left hl]; exact h⟩
theorem Kp.set {S : List Nat} {M : Mem} {n : Nat} {o : O} (h : n ∈ S) : Kp S M (M.set n o) := ⟨by simp, fun i o' hi h' => by
  have hne : n ≠ i := fun e => hi (e ▸ h)
  rw [List.getElem?_set_ne hne]; exact h'⟩
theorem Kp.setNew {S : List Nat} {M0 M : Mem} {n : Nat} {o : O} (k : Kp S M0 M) (h : M0.length ≤ n) : Kp S M0 (M.set n o) := ⟨by simpa using k.len, fun i o' hi h' => by
  have hl : i < M0.length := (List.getElem?_eq_some_iff.mp h').1
  rw [List.getElem?_set_ne (by omega)]; exact k.at_ i o' hi h'⟩
theorem mlt {M : Mem} {i : Nat} {o : O} (h : M[i]? = some o) : i < M.length := (List.getElem?_eq_some_iff.mp h).1
theorem msame {M : Mem} {i : Nat} {o o' : O} (h : M[i]? = some o) : (M.set i o')[i]? = some o' := by
  have := mlt h; simp [this]
theorem mnew {M : Mem} {o : O} : (M ++ [o])[M.length]? = some o := by simp
theorem for_inv {guard : Mem → Prop} {T : Tg} {b : MS} {E : Nd} (I : List D → Ev → Mem → Prop) (hg : ∀ l ρ M, I l ρ M → guard M) (hn : ∀ ρ M, I [] ρ M → E.nx ρ M)
    (hs : ∀ d l ρ M (K : Ev → Mem → Prop), I (d :: l) ρ M → (∀ ρ2 M2, I l ρ2 M2 → K ρ2 M2) → T.mg d ρ M fun ρ1 => b ⟨K, E.rt, E.nx, K, E.ex⟩ ρ1 M) :
    ∀ {items : List D} {ρ : Ev} {M : Mem}, I items ρ M → mForL guard T b E items ρ M
  | [], ρ, M, h => ⟨hg _ _ _ h, hn _ _ h⟩
  | d :: l, ρ, M, h => ⟨hg _ _ _ h, hs d l ρ M _ h fun ρ2 M2 q => for_inv I hg hn hs q⟩
theorem lc_inv {guard : Mem → Prop} {i : Nat} {me : ME} {ρ : Ev} {n : Nat} {Q : Mem → Prop} (J : List D → List D → Mem → Prop) (hg : ∀ l acc M, J l acc M → guard M)
    (hs : ∀ d l acc M (K : DK), M[n]? = some (.lst acc) → J (d :: l) acc M → (∀ y M4, M4[n]? = some (.lst acc) → J l (acc ++ [y]) (M4.set n (.lst (acc ++ [y]))) → K y M4) → me (ρ.set i (some d)) M K noX)
    (hq : ∀ acc M, M[n]? = some (.lst acc) → J [] acc M → Q M) :
    ∀ (items acc : List D) (M : Mem), M[n]? = some (.lst acc) → acc.length + items.length < 16000000 → J items acc M → mLcL guard (.nm i) mYes me ρ n Q items M
  | [], acc, M, hn, _, h => ⟨hg _ _ _ h, hq acc M hn h⟩
  | d :: l, acc, M, hn, hl, h => ⟨hg _ _ _ h, hs d l acc M _ hn h fun y M4 h4 j => by
      show (match M4[n]? with
        | some (.lst acc) => acc.length < 16000000 ∧ mLcL guard (.nm i) mYes me ρ n Q l (M4.set n (.lst (acc ++ [y])))
        | _ => False)
      rw [h4]
      refine ⟨by simp at hl; omega, ?_⟩
      exact lc_inv J hg hs hq l (acc ++ [y]) _ (msame h4) (by simp at hl ⊢; omega) j⟩
mutual
theorem see_fine {M : Mem} : ∀ {k : Nat} {d : D}, fine k d = true → See M k d (toPy d)
  | k, .non, _ => by simpa only [toPy] using See.non k
  | k, .bl b, _ => by simpa only [toPy] using See.bl k b
  | k, .int b, _ => by simpa only [toPy] using See.int k b
  | k, .str b, h => by
    simp only [toPy]
    exact .str k (by cases k <;> simpa [fine] using h)
  | k + 1, .tup ds, h => by
    simp only [toPy]
    exact .tup (see_fineL (by simpa [fine] using h))
  | 0, .tup ds, h => by simp [fine] at h
  | k, .ref n, h => by cases k <;> simp [fine] at h
  | k, .ty n, h => by cases k <;> simp [fine] at h
  | k, .g n, h => by cases k <;> simp [fine] at h
  | k, .exn .., h => by cases k <;> simp [fine] at h
  | k, .kl n, h => by cases k <;> simp [fine] at h
theorem see_fineL {M : Mem} : ∀ {k : Nat} {ds : List D}, (∀ d ∈ ds, fine k d = true) → SeeL M k ds (toPyL ds)
  | _, [], _ => by simpa only [toPyL] using SeeL.nil
  | k, d :: ds, h => by
    simp only [toPyL]
    exact .cons (see_fine (h d (by simp))) (see_fineL fun e he => h e (by simp [he]))
end
mutual
theorem See.lay {M : Mem} : ∀ {k : Nat} {d : D} {p : PyData}, See M k d p → p.canLay0 = true
  | _, _, _, .non _ => by simp [PyData.canLay0]
  | _, _, _, .bl _ _ => by simp [PyData.canLay0]
  | _, _, _, .int _ _ => by simp [PyData.canLay0]
  | _, _, _, .str _ f => by simp only [PyData.canLay0]; exact f
  | _, _, _, .tup l => by simp only [PyData.canLay0]; exact l.lay
  | _, _, _, .lst _ l => by simp only [PyData.canLay0]; exact l.lay
theorem SeeL.lay {M : Mem} : ∀ {k : Nat} {d : List D} {p : List PyData}, SeeL M k d p → PyData.canLayAll0 p = true
  | _, _, _, .nil => by simp [PyData.canLayAll0]
  | _, _, _, .cons a b => by simp [PyData.canLayAll0, a.lay, b.lay]
end
theorem eqB_same {x y : D} {M : Mem} {p : PyData} {k : Bool → Prop} (h1 : See M 20 x p) (h2 : See M 20 y p) (q : k true) : oEqB x y M k := by
  unfold oEqB
  split
  · cases h1; cases h2; simpa using q
  · cases h1; cases h2; simpa using q
  · exact ⟨p, p, h1, h2, by rw [PySem.SeqAt.eqv_refl p h1.lay]; exact q⟩
theorem ne_same {x y : D} {M : Mem} {p : PyData} {Q : DK} (h1 : See M 20 x p) (h2 : See M 20 y p) (q : Q (.bl false) M) : oNe x y M Q := eqB_same h1 h2 q
end MV
namespace MV
open PySem L2
section
variable {a b : MS} {E : Nd} {ρ : Ev} {M : Mem} {Q : DK} {X : XM} {m ma mb mc : ME} {t u : MT} {QB : Bool → Mem → Prop} {mr : MA} {QA' : List D → Mem → Prop} {o : OP} {ou : OU} {oa : OA} {i j : Nat} {d : D}
theorem x_seq (h : a ⟨fun ρ' M' => b E ρ' M', E.rt, E.bk, E.ct, E.ex⟩ ρ M) : mSeq a b E ρ M := h
theorem x_set (h : m ρ M (fun d M1 => E.nx (ρ.set i (some d)) M1) (fun x M1 => E.ex x ρ M1)) : mSet i m E ρ M := h
theorem x_ret (h : m ρ M E.rt (fun x M1 => E.ex x ρ M1)) : mRet m E ρ M := h
theorem x_retN (h : E.rt .non M) : mRetN E ρ M := h
theorem x_next (h : E.nx ρ M) : mNext E ρ M := h
theorem x_drop (h : m ρ M (fun _ M1 => E.nx ρ M1) (fun x M1 => E.ex x ρ M1)) : mDrop m E ρ M := h
theorem x_ifS (h : t ρ M (fun k M1 => if k = true then a E ρ M1 else b E ρ M1) (fun x M1 => E.ex x ρ M1)) : mIfS t a b E ρ M := h
theorem x_asg {T : Tg} (h : m ρ M (fun d M1 => T.mg d ρ M1 fun ρ' => E.nx ρ' M1) (fun x M1 => E.ex x ρ M1)) : mAsg m T E ρ M := h
theorem x_setIx {mv mo mi : ME} (h : mv ρ M (fun v M1 => mo ρ M1 (fun o M2 => mi ρ M2 (fun i M3 => oSetIx o i v M3 fun M4 => E.nx ρ M4) (fun x M3 => E.ex x ρ M3)) (fun x M2 => E.ex x ρ M2)) (fun x M1 => E.ex x ρ M1)) : mSetIx mv mo mi E ρ M := h
theorem x_for {mi : MI} {T : Tg} (h : mi ρ M (fun items guard M1 => mForL guard T a E items ρ M1) (fun x M1 => E.ex x ρ M1)) : mFor mi T a E ρ M := h
theorem x_lc {mi : MI} {T : Tg} {vs : List Nat} (h : mi ρ M (fun items guard M1 => mLcL guard T t m (wipeE ρ vs) M1.length (fun M2 => Q (.ref M1.length) M2) items (M1 ++ [.lst []])) X) : mLc mi T t m vs ρ M Q X := h
theorem x_var (e : ρ[i]? = some (some d)) (h : Q d M) : mVar i ρ M Q X := by unfold mVar; rw [e]; exact h
theorem x_c (h : Q d M) : mC d ρ M Q X := h
theorem x_op (h : ma ρ M (fun x M1 => mb ρ M1 (fun y M2 => o x y M2 Q) X) X) : mOp o ma mb ρ M Q X := h
theorem x_un (h : ma ρ M (fun x M1 => ou x M1 Q) X) : mUn ou ma ρ M Q X := h
theorem x_cb (h : mr ρ M (fun xs M1 => oa xs M1 Q) X) : mCB oa mr ρ M Q X := h
theorem x_nil (h : QA' [] M) : mNil ρ M QA' X := h
theorem x_cons (h : ma ρ M (fun x M1 => mr ρ M1 (fun xs M2 => QA' (x :: xs) M2) X) X) : mCons ma mr ρ M QA' X := h
theorem x_b (h : ma ρ M (fun x M1 => match x with | .bl k => QB k M1 | _ => False) X) : mB ma ρ M QB X := h
theorem x_tru (h : ma ρ M (fun x M1 => tru x M1 QB) X) : mTru ma ρ M QB X := h
theorem x_and (h : t ρ M (fun k M1 => if k = true then u ρ M1 QB X else QB false M1) X) : mAnd t u ρ M QB X := h
theorem x_or (h : t ρ M (fun k M1 => if k = true then QB true M1 else u ρ M1 QB X) X) : mOr t u ρ M QB X := h
theorem x_not (h : t ρ M (fun k M1 => QB (!k) M1) X) : mNot t ρ M QB X := h
theorem x_yes (h : QB true M) : mYes ρ M QB X := h
theorem x_ifE (h : t ρ M (fun k M1 => if k = true then ma ρ M1 Q X else mb ρ M1 Q X) X) : mIf t ma mb ρ M Q X := h
theorem x_call {w : WF} {n k : Nat} {gD : List D → List D → List D} {ms : MA2} (h : ms ρ M (fun ds es M1 => (ds.length = n ∧ es.length = k) ∧ w (gD ds es) M1 Q X) X) : mCall w n k gD ms ρ M Q X := h
theorem x_argsP {k : List D → List D → Mem → Prop} (h : mr ρ M (fun ds M1 => k ds [] M1) X) : mArgsP mr ρ M k X := h
theorem x_args0 {k : List D → List D → Mem → Prop} (h : k [] [] M) : mArgs0 ρ M k X := h
theorem x_len {α β : Type} {ds : List α} {es : List β} {n k : Nat} {P : Prop} (h1 : ds.length = n) (h2 : es.length = k) (h : P) : (ds.length = n ∧ es.length = k) ∧ P := ⟨⟨h1, h2⟩, h⟩
theorem x_bm {T : String} {r : OM} (h : ma ρ M (fun x M1 => isT T x M1 ∧ mr ρ M1 (fun xs M2 => r x xs M2 Q) X) X) : mBM T r ma mr ρ M Q X := h
theorem x_isL {n : Nat} {ds : List D} {P : Prop} (h : M[n]? = some (.lst ds)) (q : P) : isT "list" (.ref n) M ∧ P := ⟨by simp [isT, h], q⟩
def iseqK (k : List D → (Mem → Prop) → Mem → Prop) : DK := fun x M1 => match x with
  | .tup ds => k ds (fun _ => True) M1
  | .str z => k (z.cps.toList.map fun c => .str ⟨#[c]⟩) (fun _ => True) M1
  | .ref n => match M1[n]? with
    | some (.lst ds) => k ds (fun M => M[n]? = some (.lst ds)) M1
    | some (.frz ds) => k ds (fun M => M[n]? = some (.frz ds)) M1
    | some (.dct true kvs) => k (kvs.map fun kv => kD kv.1) (fun M => M[n]? = some (.dct true kvs)) M1
    | _ => False
  | _ => False
theorem x_iseq {me : ME} {k : List D → (Mem → Prop) → Mem → Prop} (h : me ρ M (iseqK k) X) : mISeq me ρ M k X := h
theorem iseqL {k : List D → (Mem → Prop) → Mem → Prop} {n : Nat} {ds : List D} (hd : M[n]? = some (.lst ds)) (h : k ds (fun M => M[n]? = some (.lst ds)) M) : iseqK k (.ref n) M := by
  unfold iseqK; dsimp only; rw [hd]; exact h
theorem x_iseqV {k : List D → (Mem → Prop) → Mem → Prop} {n : Nat} {ds : List D} (e : ρ[i]? = some (some (.ref n))) (hd : M[n]? = some (.lst ds)) (h : k ds (fun M => M[n]? = some (.lst ds)) M) : mISeq (mVar i) ρ M k X := by
  unfold mISeq mVar; rw [e]; dsimp only; rw [hd]; exact h
theorem x_rng {k : List D → (Mem → Prop) → Mem → Prop} (h : mr ρ M (fun ds M1 => match ds with | [.int j] => (-(2 ^ 62) ≤ j ∧ j < 2 ^ 62) ∧ k (rangeD 0 j.toNat) (fun _ => True) M1 | _ => False) X) : mIRng1 mr ρ M k X := h
theorem x_enT {k : List D → (Mem → Prop) → Mem → Prop} {ds : List D} (e : ρ[i]? = some (some (.tup ds))) (h : k (enumD ds) (fun _ => True) M) : mIEnumT (mCons (mVar i) mNil) ρ M k X := by
  simp only [mIEnumT, mCons, mNil, mVar, e]; exact h
theorem x_sl {ml mh : MO} (h : ma ρ M (fun x M1 => ml ρ M1 (fun l M2 => mh ρ M2 (fun h M3 => oSl x l h M3 Q) X) X) X) : mSl ma ml mh ρ M Q X := h
theorem x_noP {k : Option Int → Mem → Prop} (h : k none M) : mNoPart ρ M k X := h
theorem x_part {k : Option Int → Mem → Prop} (h : m ρ M (fun x M1 => match x with | .int i => k (some i) M1 | _ => False) X) : mPart m ρ M k X := h
theorem o_slK {ds : List D} {lo hi : Option Int} (h : Q (.ref M.length) (M ++ [.lst (cutD ds lo hi)])) : oSl (.kl ds) lo hi M Q := h
theorem o_slT {ds : List D} {lo hi : Option Int} (h : Q (.tup (cutD ds lo hi)) M) : oSl (.tup ds) lo hi M Q := h
variable {x y : Int} {p : Nat} {ds es : List D} {s z : Str} {v : D}
theorem o_tup (hl : ds.length ≤ 1000) (h : Q (.tup ds) M) : oTup ds M Q := ⟨hl, h⟩
theorem o_lst (hl : ds.length ≤ 1000) (h : Q (.ref M.length) (M ++ [.lst ds])) : oLst ds M Q := ⟨hl, h⟩
theorem o_add (h : Q (.int (x + y)) M) : oAdd (.int x) (.int y) M Q := h
theorem o_addS (hl : s.length + z.length ≤ 16000000) (h : Q (.str (s ++ z)) M) : oAdd (.str s) (.str z) M Q := ⟨hl, h⟩
theorem o_sub (h : Q (.int (x - y)) M) : oSub (.int x) (.int y) M Q := h
theorem o_mul (hk : okMul x y) (h : Q (.int (x * y)) M) : oMul (.int x) (.int y) M Q := ⟨hk, h⟩
theorem o_div (hk : okDiv y) (h : Q (.int (x.fdiv y)) M) : oDiv (.int x) (.int y) M Q := ⟨hk, h⟩
theorem o_mod (hk : y ≠ 0) (h : Q (.int (x.fmod y)) M) : oMod (.int x) (.int y) M Q := ⟨hk, h⟩
theorem o_pow (hk : CPow x y) (h : Q (.int (x ^ y.toNat)) M) : oPow (.int x) (.int y) M Q := ⟨hk, h⟩
theorem o_neg (h : Q (.int (-x)) M) : oNeg (.int x) M Q := h
theorem o_lt (h : Q (.bl (decide (x < y))) M) : oLt (.int x) (.int y) M Q := h
theorem o_le (h : Q (.bl (decide (x ≤ y))) M) : oLe (.int x) (.int y) M Q := h
theorem o_gt (h : Q (.bl (decide (y < x))) M) : oGt (.int x) (.int y) M Q := h
theorem o_ge (h : Q (.bl (decide (y ≤ x))) M) : oGe (.int x) (.int y) M Q := h
theorem o_eqI (h : Q (.bl (decide (x = y))) M) : oEq (.int x) (.int y) M Q := h
theorem o_neI (h : Q (.bl (!decide (x = y))) M) : oNe (.int x) (.int y) M Q := h
theorem o_min (h : Q (.int (if y < x then y else x)) M) : oMin2 [.int x, .int y] M Q := h
theorem o_max (h : Q (.int (if y > x then y else x)) M) : oMax2 [.int x, .int y] M Q := h
theorem o_intB {k : Bool} (h : Q (.int (if k then 1 else 0)) M) : oInt1 [.bl k] M Q := h
theorem o_ixT (e : atI ds x = some v) (h : Q v M) : oIx (.tup ds) (.int x) M Q := by unfold oIx; dsimp only; rw [e]; exact h
theorem o_ixL (el : M[p]? = some (.lst ds)) (e : atI ds x = some v) (h : Q v M) : oIx (.ref p) (.int x) M Q := by unfold oIx; dsimp only; rw [el]; dsimp only; rw [e]; exact h
theorem o_lenT (h : Q (.int ds.length) M) : oLen [.tup ds] M Q := h
theorem o_lenL (el : M[p]? = some (.lst ds)) (h : Q (.int ds.length) M) : oLen [.ref p] M Q := by unfold oLen; dsimp only; rw [el]; exact h
theorem o_listL (el : M[p]? = some (.lst ds)) (h : Q (.ref M.length) (M ++ [.lst ds])) : oList1 [.ref p] M Q := by unfold oList1; dsimp only; rw [el]; exact h
theorem o_tupL (el : M[p]? = some (.lst ds)) (h : Q (.tup ds) M) : oTuple1 [.ref p] M Q := by unfold oTuple1; dsimp only; rw [el]; exact h
theorem o_setL {N : Mem → Prop} {j : Nat} (el : M[p]? = some (.lst ds)) (e : ixN ds.length x = some j) (h : N (M.set p (.lst (ds.set j v)))) : oSetIx (.ref p) (.int x) v M N := by unfold oSetIx; dsimp only; rw [el]; dsimp only; rw [e]; exact h
theorem o_isL {T : String} (el : M[p]? = some (.lst ds)) (hT : (["int", "str", "tuple", "list", "bool", "dict"].contains T = true)) (h : Q (.bl (subTy "list" T)) M) : oIsi [.ref p, .ty T] M Q := by simp only [oIsi, tyD, el]; exact ⟨hT, h⟩
theorem o_isT {T : String} (hT : (["int", "str", "tuple", "list", "bool", "dict"].contains T = true)) (h : Q (.bl (subTy "tuple" T)) M) : oIsi [.tup ds, .ty T] M Q := ⟨hT, h⟩
theorem o_isLL (el : M[p]? = some (.lst ds)) (h : Q (.bl true) M) : oIsi [.ref p, .ty "list"] M Q := o_isL el (by decide) h
theorem o_isTT (h : Q (.bl true) M) : oIsi [.tup ds, .ty "tuple"] M Q := o_isT (by decide) h
theorem o_truB {k : Bool} (h : QB k M) : tru (.bl k) M QB := h
theorem if_d {p : Prop} [Decidable p] {A B : Prop} (h1 : p → A) (h2 : ¬ p → B) : if decide p = true then A else B := by
  by_cases h : p
  · rw [if_pos (by simpa using h)]; exact h1 h
  · rw [if_neg (by simpa using h)]; exact h2 h
theorem if_n {p : Prop} [Decidable p] {A B : Prop} (h1 : ¬ p → A) (h2 : p → B) : if (!decide p) = true then A else B := by
  by_cases h : p
  · rw [if_neg (by simpa using h)]; exact h2 h
  · rw [if_pos (by simpa using h)]; exact h1 h
theorem if_nt {A B : Prop} (h : B) : if (!true) = true then A else B := by rw [if_neg (by simp)]; exact h
theorem if_nf {A B : Prop} (h : A) : if (!false) = true then A else B := by rw [if_pos (by simp)]; exact h
theorem if_t {A B : Prop} (h : A) : if true = true then A else B := by rw [if_pos rfl]; exact h
theorem if_f {A B : Prop} (h : B) : if false = true then A else B := by rw [if_neg (by simp)]; exact h
theorem x_nm {N : Ev → Prop} {i : Nat} {d : D} {ρ : Ev} {M : Mem} (h : N (ρ.set i (some d))) : (Tg.nm i).mg d ρ M N := h
theorem x_tp {N : Ev → Prop} {n : Nat} {l : Tgs} {ds : List D} {ρ : Ev} {M : Mem} (hl : ds.length = n) (h : l.mg ds ρ M N) : (Tg.tp n l).mg (.tup ds) ρ M N := ⟨hl, h⟩
theorem x_tc {N : Ev → Prop} {t : Tg} {l : Tgs} {d : D} {r : List D} {ρ : Ev} {M : Mem} (h : t.mg d ρ M fun ρ' => l.mg r ρ' M N) : (Tgs.cons t l).mg (d :: r) ρ M N := h
theorem x_tn {N : Ev → Prop} {ρ : Ev} {M : Mem} (h : N ρ) : Tgs.nil.mg [] ρ M N := h
theorem for_ix {guard : Mem → Prop} {T : Tg} {b : MS} {E : Nd} {items : List D} (I : Nat → Ev → Mem → Prop) (hg : ∀ k ρ M, I k ρ M → guard M) (hn : ∀ ρ M, I items.length ρ M → E.nx ρ M)
    (hs : ∀ k d ρ M (K : Ev → Mem → Prop), items[k]? = some d → I k ρ M → (∀ ρ2 M2, I (k + 1) ρ2 M2 → K ρ2 M2) → T.mg d ρ M fun ρ1 => b ⟨K, E.rt, E.nx, K, E.ex⟩ ρ1 M)
    {ρ : Ev} {M : Mem} (h0 : I 0 ρ M) : mForL guard T b E items ρ M := by
  refine for_inv (fun l ρ M => ∃ k, l = items.drop k ∧ k ≤ items.length ∧ I k ρ M) ?_ ?_ ?_ ⟨0, rfl, Nat.zero_le _, h0⟩
  · rintro l ρ M ⟨k, _, _, h⟩; exact hg k ρ M h
  · rintro ρ M ⟨k, e, hk, h⟩
    have : k = items.length := by
      have := congrArg List.length e
      simp at this; omega
    subst this; exact hn ρ M h
  · rintro d l ρ M K ⟨k, e, hk, h⟩ q
    have hlt : k < items.length := by
      have := congrArg List.length e
      simp at this; omega
    rw [List.drop_eq_getElem_cons hlt] at e
    injection e with e1 e2
    exact hs k d ρ M K (by rw [List.getElem?_eq_getElem hlt, e1]) h fun ρ2 M2 i => q ρ2 M2 ⟨k + 1, e2, hlt, i⟩
theorem lc_ix {guard : Mem → Prop} {i : Nat} {me : ME} {ρ : Ev} {n : Nat} {Q : Mem → Prop} {items : List D} {M : Mem} (J : Nat → List D → Mem → Prop) (hg : ∀ k acc M, J k acc M → guard M)
    (hs : ∀ k d acc M (K : DK), items[k]? = some d → M[n]? = some (.lst acc) → J k acc M → (∀ y M4, M4[n]? = some (.lst acc) → J (k + 1) (acc ++ [y]) (M4.set n (.lst (acc ++ [y]))) → K y M4) → me (ρ.set i (some d)) M K noX)
    (hq : ∀ acc M, M[n]? = some (.lst acc) → J items.length acc M → Q M) (hl : items.length < 16000000) (hn : M[n]? = some (.lst [])) (h0 : J 0 [] M) : mLcL guard (.nm i) mYes me ρ n Q items M := by
  refine lc_inv (fun l acc M => ∃ k, l = items.drop k ∧ k ≤ items.length ∧ J k acc M) ?_ ?_ ?_ items [] M hn (by simpa using hl) ⟨0, rfl, Nat.zero_le _, h0⟩
  · rintro l acc M ⟨k, _, _, h⟩; exact hg k acc M h
  · rintro d l acc M K hM ⟨k, e, hk, h⟩ q
    have hlt : k < items.length := by
      have := congrArg List.length e
      simp at this; omega
    rw [List.drop_eq_getElem_cons hlt] at e
    injection e with e1 e2
    exact hs k d acc M K (by rw [List.getElem?_eq_getElem hlt, e1]) hM h fun y M4 h4 j => q y M4 h4 ⟨k + 1, e2, hlt, j⟩
  · rintro acc M hM ⟨k, e, hk, h⟩
    have : k = items.length := by
      have := congrArg List.length e
      simp at this; omega
    subst this; exact hq acc M hM h
theorem rng_len {n : Nat} : (rangeD 0 n).length = n := by simp [rangeD]
theorem x_join {a b : MS} {E : Nd} {ρ : Ev} {M : Mem} (P : Ev → Mem → Prop) (h : ∀ K, (∀ ρ' M', P ρ' M' → K ρ' M') → a ⟨K, E.rt, E.bk, E.ct, E.ex⟩ ρ M) (h2 : ∀ ρ' M', P ρ' M' → b E ρ' M') : mSeq a b E ρ M := h _ h2
end
end MV
namespace MV
open PySem L2
/-- an exception of the program: its class, its one field, its word -/
def xE (c f w : Str) (a : D) : Exn := ⟨c, [f, "word"], [a, .str w]⟩
/-- the fields of a net -/
def NF (h s t p r : D) : List (Str × D) := [("hours", h), ("s_box", s), ("t_box", t), ("places", p), ("roads", r)]
def noFld (f : Str) : Bool := !(["hours", "s_box", "t_box", "places", "roads"] : List Str).contains f
section
variable {h s t p r y : D}
theorem nf_hours : (NF h s t p r).lookup ("hours" : Str) = some h := by rfl
theorem nf_s : (NF h s t p r).lookup ("s_box" : Str) = some s := by rfl
theorem nf_t : (NF h s t p r).lookup ("t_box" : Str) = some t := by rfl
theorem nf_p : (NF h s t p r).lookup ("places" : Str) = some p := by rfl
theorem nf_r : (NF h s t p r).lookup ("roads" : Str) = some r := by rfl
theorem nf_no {f : Str} (hf : noFld f = true) : (NF h s t p r).lookup f = none := by
  simp only [noFld, List.contains_cons, List.contains_nil, Bool.not_eq_true', Bool.or_eq_false_iff] at hf
  obtain ⟨h1, h2, h3, h4, h5, -⟩ := hf
  simp only [NF, List.lookup, h1, h2, h3, h4, h5]
end
section
variable {a b : MS} {E : Nd} {ρ : Ev} {M : Mem} {Q : DK} {X : XM} {m ma mb mc : ME} {t u : MT} {QB : Bool → Mem → Prop} {mr : MA} {QA' : List D → Mem → Prop} {i j n : Nat} {d : D} {cs : List Str} {f : Str} {fs : List (Str × D)} {c : Str}
theorem x_fldV (e : ρ[i]? = some (some (.ref n))) (h : M[n]? = some (.ins c fs)) (hc : c ∈ cs) (hf : fs.lookup f = some d) (q : Q d M) : mFld cs (mVar i) f ρ M Q X := by
  unfold mFld mVar; rw [e]; dsimp only; rw [h]; dsimp only; rw [hf]; exact ⟨hc, q⟩
theorem x_setFldV {mv : ME} {fs' : List (Str × D)} {y : D} (hv : ∀ (Q : DK) X, Q y M → mv ρ M Q X) (e : ρ[i]? = some (some (.ref n))) (h : M[n]? = some (.ins c fs)) (hc : c ∈ cs) (hl : fs.length < 100) (hp : putD f y fs = fs') (q : E.nx ρ (M.set n (.ins c fs'))) : mSetFld cs (mVar i) mv f E ρ M := by
  unfold mSetFld mVar
  refine hv _ _ ?_
  dsimp only
  rw [e]; dsimp only; rw [h]; dsimp only; rw [hp]; exact ⟨hc, hl, q⟩
theorem x_methV {c mn : Str} {w : WF} {n' k : Nat} {gD : List D → List D → List D} {ms : MA2} (e : ρ[i]? = some (some (.ref n))) (h : M[n]? = some (.ins c fs)) (hm : fs.lookup mn = none) (q : ms ρ M (fun ds es M2 => ((D.ref n :: ds).length = n' ∧ es.length = k) ∧ w (gD (.ref n :: ds) es) M2 Q X) X) : mMeth c mn w n' k gD (mVar i) ms ρ M Q X := by
  unfold mMeth mVar; rw [e]; dsimp only; rw [h]; exact ⟨⟨rfl, hm⟩, q⟩
theorem x_make {c : Str} {w : WF} {n' k : Nat} {gD : List D → List D → List D} {ms : MA2} (q : ms ρ M (fun ds es M1 => (ds.length + 1 = n' ∧ es.length = k) ∧ w (gD (.ref M1.length :: ds) es) (M1 ++ [.ins c []]) (fun v M2 => match v with | .non => Q (.ref M1.length) M2 | _ => False) X) X) : mMake c w n' k gD ms ρ M Q X := q
theorem x_argsK {k : List D → List D → Mem → Prop} (h : mr ρ M (fun es M1 => k [] es M1) X) : mArgsK mr ρ M k X := h
theorem x_argsPK {mk : MA} {k : List D → List D → Mem → Prop} (h : mr ρ M (fun ds M1 => mk ρ M1 (fun es M2 => k ds es M2) X) X) : mArgsPK mr mk ρ M k X := h
theorem x_raise {x : Str} {n : Nat} {sp : List (Str × Src)} (h : mr ρ M (fun ds M1 => ds.length = n ∧ E.ex ⟨x, sp.map (·.1), sp.map fun p => p.2.d ds⟩ ρ M1) (fun y M1 => E.ex y ρ M1)) : mRaise x n sp mr E ρ M := h
theorem x_andV (h : ma ρ M (fun x M1 => match x with | .bl k => if k = true then mb ρ M1 Q X else Q (.bl false) M1 | _ => False) X) : mAndV ma mb ρ M Q X := h
theorem x_orV (h : ma ρ M (fun x M1 => match x with | .bl k => if k = true then Q (.bl true) M1 else mb ρ M1 Q X | _ => False) X) : mOrV ma mb ρ M Q X := h
theorem x_par {k l : Nat} (h : mr ρ M (fun ds M1 => match ds with | [d, e] => E.nx ((ρ.set k (some d)).set l (some e)) M1 | _ => False) (fun x M1 => E.ex x ρ M1)) : mPar k l mr E ρ M := h
theorem x_try {sub : Str → Str → Option Bool} {cl : List MCl} (h : a ⟨E.nx, E.rt, E.bk, E.ct, mCatch sub E cl⟩ ρ M) : mTry sub a cl E ρ M := h
theorem x_rng2 {k : List D → (Mem → Prop) → Mem → Prop} (h : mr ρ M (fun ds M1 => match ds with | [.int i, .int j] => (-(2 ^ 62) ≤ i ∧ i < 2 ^ 62 ∧ -(2 ^ 62) ≤ j ∧ j < 2 ^ 62) ∧ k (rangeD i (j - i).toNat) (fun _ => True) M1 | _ => False) X) : mIRng2 mr ρ M k X := h
theorem x_dict0 (h : Q (.ref M.length) (M ++ [.dct false []])) : mDict0 ρ M Q X := h
theorem c_yes {sub : Str → Str → Option Bool} {cs : List Str} {i : Nat} {s : Addr → Addr → Str → MS} {r : List MCl} {x : Exn} (hs : ∀ y ∈ cs, (sub x.c y).isSome = true) (hn : (cs.any fun y => sub x.c y == some true) = true) (h : ∀ a dd, s a dd x.c ⟨fun ρ M => E.nx (ρ.set i none) M, E.rt, fun ρ M => E.bk (ρ.set i none) M, fun ρ M => E.ct (ρ.set i none) M, fun y ρ M => E.ex y (ρ.set i none) M⟩ (ρ.set i (some (.exn a dd x.c x.ns x.ds))) M) : mCatch sub E (⟨cs, some i, s⟩ :: r) x ρ M := ⟨hs, by rw [if_pos hn]; exact h⟩
theorem c_yesC {sub : Str → Str → Option Bool} {cs : List Str} {i : Nat} {s : Addr → Addr → Str → MS} {r : List MCl} {x : Exn} {xc : Str} (hx : x.c = xc) (hs : ∀ y ∈ cs, (sub xc y).isSome = true) (hn : (cs.any fun y => sub xc y == some true) = true) (h : ∀ a dd, s a dd x.c ⟨fun ρ M => E.nx (ρ.set i none) M, E.rt, fun ρ M => E.bk (ρ.set i none) M, fun ρ M => E.ct (ρ.set i none) M, fun y ρ M => E.ex y (ρ.set i none) M⟩ (ρ.set i (some (.exn a dd x.c x.ns x.ds))) M) : mCatch sub E (⟨cs, some i, s⟩ :: r) x ρ M := by subst hx; exact c_yes hs hn h
theorem x_xf {a dd : Addr} {c : Str} {ns : List Str} {ds : List D} {f : Str} (e : ρ[i]? = some (some (.exn a dd c ns ds))) (hf : (ns.zip ds).lookup f = some d) (h : Q d M) : mXf a dd c i f ρ M Q X := by
  unfold mXf; rw [e]; dsimp only; rw [hf]; exact ⟨⟨rfl, rfl, rfl⟩, h⟩
variable {x y : D} {p : Nat} {kvs : List (Key × D)} {lk : Bool} {z w : Str} {k : Key}
theorem o_eqS (h : Q (.bl (decide (z = w))) M) : oEq (.str z) (.str w) M Q := h
theorem o_neS (h : Q (.bl (!decide (z = w))) M) : oNe (.str z) (.str w) M Q := h
theorem o_isN (h : Q (.bl (match x with | .non => true | _ => false)) M) : oIs x .non M Q := h
theorem o_isnN (h : Q (.bl (match x with | .non => false | _ => true)) M) : oIsNot x .non M Q := h
theorem o_inS {c : Nat} (h : Q (.bl (decide (c ∈ z.cps.toList))) M) : oIn (.str ⟨#[c]⟩) (.str z) M Q := h
theorem o_ninS {c : Nat} (h : Q (.bl (!decide (c ∈ z.cps.toList))) M) : oNotIn (.str ⟨#[c]⟩) (.str z) M Q := h
theorem o_inD (e : M[p]? = some (.dct lk kvs)) (hk : keyOf x = some k) (h : Q (.bl (dget kvs k).isSome) M) : oIn x (.ref p) M Q := by
  unfold oIn oInB; dsimp only; rw [e]; dsimp only; rw [hk]; exact h
theorem o_ninD (e : M[p]? = some (.dct lk kvs)) (hk : keyOf x = some k) (h : Q (.bl (!(dget kvs k).isSome)) M) : oNotIn x (.ref p) M Q := by
  unfold oNotIn oInB; dsimp only; rw [e]; dsimp only; rw [hk]; exact h
theorem o_lenD (e : M[p]? = some (.dct lk kvs)) (h : Q (.int kvs.length) M) : oLen [.ref p] M Q := by
  unfold oLen; dsimp only; rw [e]; exact h
theorem o_dictD (e : M[p]? = some (.dct lk kvs)) (h : Q (.ref M.length) (M ++ [.dct false kvs])) : oDict1 [.ref p] M Q := by
  unfold oDict1; dsimp only; rw [e]; exact h
theorem o_listD (e : M[p]? = some (.dct false kvs)) (h : Q (.ref M.length) (M ++ [.lst (kvs.map fun kv => kD kv.1)])) : oList1 [.ref p] M Q := by
  unfold oList1; dsimp only; rw [e]; exact h
theorem o_strS (h : Q (.str z) M) : oStr1 [.str z] M Q := h
theorem o_abs {n : Int} (h : Q (.int (if n < 0 then -n else n)) M) : oAbs [.int n] M Q := h
theorem iseqT {k : List D → (Mem → Prop) → Mem → Prop} {ds : List D} (h : k ds (fun _ => True) M) : iseqK k (.tup ds) M := h
theorem x_iseqTV {k : List D → (Mem → Prop) → Mem → Prop} {ds : List D} (e : ρ[i]? = some (some (.tup ds))) (h : k ds (fun _ => True) M) : mISeq (mVar i) ρ M k X := by
  unfold mISeq mVar; rw [e]; exact h
theorem x_iseqSV {k : List D → (Mem → Prop) → Mem → Prop} (e : ρ[i]? = some (some (.str z))) (h : k (z.cps.toList.map fun c => .str ⟨#[c]⟩) (fun _ => True) M) : mISeq (mVar i) ρ M k X := by
  unfold mISeq mVar; rw [e]; exact h
theorem x_isS {P : Prop} (q : P) : isT "str" (.str z) M ∧ P := ⟨rfl, q⟩
end
section
variable {κ : Type} [DecidableEq κ] {kvs : List (κ × D)} {k k' : κ} {v : D}
end
end MV
namespace MV
/-- the two ends of a deed that may be refused -/
def En (Q : DK) (X : XM) (M : Mem) (r : Option Exn) : Prop := match r with | none => Q .non M | some e => X e M
theorem En.last {Q Q' : DK} {X : XM} {M : Mem} {r : Option Exn} (h : En Q X M r) (k : r = none → Q .non M → Q' .non M) : En Q' X M r := by
  cases r with
  | none => exact k rfl h
  | some e => exact h
def pD (x : Int × Int) : D := .tup [.int x.1, .int x.2]
def omD : Option (Int × Int) → D
  | none => .non
  | some m => pD m
abbrev Rung := Option (Int × Int) × (Int × Int)
def rungD (r : Rung) : D := .tup [omD r.1, pD r.2]
/-- numbers that may be multiplied -/
def Tame (x : Int × Int) : Prop := x.1.natAbs < 2 ^ 64 ∧ x.2.natAbs < 2 ^ 64
section
variable {M : Mem} {Q : DK} {m : Int × Int} {r : Rung}
theorem o_pD0 (h : Q (.int m.1) M) : oIx (pD m) (.int 0) M Q := h
theorem o_pD1 (h : Q (.int m.2) M) : oIx (pD m) (.int 1) M Q := h
theorem o_rg0 (h : Q (omD r.1) M) : oIx (rungD r) (.int 0) M Q := h
theorem o_rg1 (h : Q (pD r.2) M) : oIx (rungD r) (.int 1) M Q := h
theorem x_tpR {N : Ev → Prop} {l : Tgs} {ρ : Ev} (h : l.mg [omD r.1, pD r.2] ρ M N) : (Tg.tp 2 l).mg (rungD r) ρ M N := ⟨rfl, h⟩
end
end MV
open PySem L2 MV
/-- the mirrors' steps -/
local macro_rules | `(tactic| walk_at "ex") => `(tactic| first
  | ((with_reducible refine x_var (d := ?vv) ?hh ?qq); (case hh => exact rfl))
  | ((with_reducible refine x_len ?l1 ?l2 ?qq); (case l1 => exact rfl); (case l2 => exact rfl))
  | ((with_reducible refine o_tup ?l1 ?qq); (case l1 => exact Nat.le_of_ble_eq_true rfl))
  | ((with_reducible refine o_lst ?l1 ?qq); (case l1 => exact Nat.le_of_ble_eq_true rfl))
  | ((with_reducible refine o_ixT (v := ?ww) ?l1 ?qq); (case l1 => exact rfl))
  | ((with_reducible refine x_tp ?l1 ?qq); (case l1 => exact rfl))
  | with_reducible first
  | refine x_lc ?_
  | refine x_c ?_ | refine x_op ?_ | refine x_un ?_ | refine x_cb ?_ | refine x_nil ?_ | refine x_cons ?_ | refine x_b ?_ | refine x_tru ?_ | refine x_and ?_ | refine x_or ?_ | refine x_not ?_ | refine x_yes ?_ | refine x_nm ?_ | refine x_tc ?_ | refine x_tn ?_ | refine x_ifE ?_ | refine x_andV ?_ | refine x_orV ?_ | refine x_argsK ?_ | refine x_argsPK ?_ | refine x_rng2 ?_ | refine x_dict0 ?_ | refine x_make ?_ | refine o_eqS ?_ | refine o_neS ?_ | refine o_isN ?_ | refine o_isnN ?_ | refine o_strS ?_ | refine o_abs ?_ | refine o_inS ?_ | refine o_ninS ?_ | refine o_pD0 ?_ | refine o_pD1 ?_ | refine o_rg0 ?_ | refine o_rg1 ?_ | refine x_tpR ?_ | refine x_isS ?_
  | refine x_call ?_ | refine x_argsP ?_ | refine x_args0 ?_ | refine x_bm ?_ | refine x_rng ?_ | refine x_sl ?_ | refine x_noP ?_ | refine x_part ?_
  | refine o_add ?_ | refine o_sub ?_ | refine o_neg ?_ | refine o_lt ?_ | refine o_le ?_ | refine o_gt ?_ | refine o_ge ?_ | refine o_eqI ?_ | refine o_neI ?_ | refine o_min ?_ | refine o_max ?_ | refine o_intB ?_ | refine o_lenT ?_ | refine o_truB ?_ | refine o_slK ?_ | refine o_slT ?_ | refine o_isTT ?_ | refine if_t ?_ | refine if_f ?_ | refine if_nt ?_ | refine if_nf ?_)
local macro_rules | `(tactic| walk_at "sx") => `(tactic| with_reducible first
  | refine x_seq ?_ | refine x_set ?_ | refine x_ret ?_ | refine x_retN ?_ | refine x_next ?_ | refine x_drop ?_ | refine x_ifS ?_ | refine x_asg ?_ | refine x_setIx ?_ | refine x_for ?_ | refine x_par ?_ | refine x_raise ?_ | refine x_try ?_)
local macro_rules | `(tactic| walk_at "mx") => `(tactic| first | walk_at "sx" | walk_at "ex")
local macro_rules | `(tactic| walk_at "fx") => `(tactic| first
  | ((with_reducible refine o_ixL (ds := ?ll) (v := ?ww) ?l0 ?l1 ?qq); (case l0 => assumption); (case l1 => exact rfl))
  | ((with_reducible refine o_lenL (ds := ?ll) ?l0 ?qq); (case l0 => assumption))
  | ((with_reducible refine x_iseqV (n := ?nn) (ds := ?ll) ?l0 ?l1 ?qq); (case l0 => exact rfl); (case l1 => assumption))
  | ((with_reducible refine x_enT (ds := ?ll) ?l0 ?qq); (case l0 => exact rfl))
  | ((with_reducible refine x_isL (ds := ?ll) ?l0 ?qq); (case l0 => assumption))
  | ((with_reducible refine o_isLL (ds := ?ll) ?l0 ?qq); (case l0 => assumption))
  | ((with_reducible refine o_listL (ds := ?ll) ?l0 ?qq); (case l0 => assumption))
  | ((with_reducible refine o_tupL (ds := ?ll) ?l0 ?qq); (case l0 => assumption))
  | ((with_reducible refine x_fldV (n := ?nn) (fs := ?ff) (d := ?dd) (c := ?cc) ?l0 ?l1 ?l2 ?l3 ?qq); (case l0 => exact rfl); (case l1 => assumption); (case l2 => decide +kernel); (case l3 => first | exact nf_hours | exact nf_s | exact nf_t | exact nf_p | exact nf_r))
  | ((with_reducible refine x_methV (n := ?nn) (fs := ?ff) ?l0 ?l1 ?l2 ?qq); (case l0 => exact rfl); (case l1 => assumption); (case l2 => exact nf_no (by decide +kernel)))
  | ((with_reducible refine o_lenD (lk := ?lk) (kvs := ?ll) ?l0 ?qq); (case l0 => assumption))
  | ((with_reducible refine o_dictD (lk := ?lk) (kvs := ?ll) ?l0 ?qq); (case l0 => assumption))
  | ((with_reducible refine o_listD (kvs := ?ll) ?l0 ?qq); (case l0 => assumption))
  | ((with_reducible refine o_inD (lk := ?lk) (kvs := ?ll) (k := ?kk) ?l0 ?l1 ?qq); (case l0 => assumption); (case l1 => exact rfl))
  | ((with_reducible refine o_ninD (lk := ?lk) (kvs := ?ll) (k := ?kk) ?l0 ?l1 ?qq); (case l0 => assumption); (case l1 => exact rfl))
  | ((with_reducible refine x_iseqTV (ds := ?ll) ?l0 ?qq); (case l0 => exact rfl))
  | ((with_reducible refine x_iseqSV (z := ?zz) ?l0 ?qq); (case l0 => exact rfl)))
local macro_rules | `(tactic| walk_at "m1") => `(tactic| first | walk_at "mx" | walk_at "fx")
local macro_rules | `(tactic| walk_at "ml") => `(tactic| repeat walk_at "m1")
local macro_rules | `(tactic| walk_at "q1") => `(tactic| first | walk_at "ex" | walk_at "fx")
local macro_rules | `(tactic| walk_at "mq") => `(tactic| repeat walk_at "q1")
namespace MV
def Feed (M : Mem) (p q : Nat) : Prop := ∃ (cs : List Int) (i r s : Int), M[p]? = some (.lst [.ref q, .int i, .int r, .int s]) ∧ M[q]? = some (.lst (cs.map .int)) ∧ p ≠ q ∧ 0 ≤ i ∧ 0 ≤ s ∧ s < 2147483647
theorem Feed.kp {M M' : Mem} {p q : Nat} {S : List Nat} (h : Feed M p q) (k : Kp S M M') (n1 : p ∉ S) (n2 : q ∉ S) : Feed M' p q := by
  obtain ⟨cs, i, r, s, h1, h2, h3⟩ := h
  exact ⟨cs, i, r, s, k.at_ _ _ n1 h1, k.at_ _ _ n2 h2, h3⟩
theorem Feed.lt {M : Mem} {p q : Nat} (h : Feed M p q) : p < M.length ∧ q < M.length := by
  obtain ⟨cs, i, r, s, h1, h2, h3⟩ := h
  exact ⟨mlt h1, mlt h2⟩
theorem Feed.app {M l : Mem} {p q : Nat} (h : Feed M p q) : Feed (M ++ l) p q := h.kp (S := []) Kp.app (by simp) (by simp)
end MV
namespace Prf
theorem ldraw {M : Mem} {p q : Nat} {m : Int} {Q : DK} {X : XM} (F : Feed M p q) (hm : 0 < m) (hb : m < 2 ^ 60) (k : ∀ d M', 0 ≤ d → d < m → Kp [p] M M' → Feed M' p q → Q (.int d) M') : w_Ldraw [.ref p, .int m] M Q X := by
  obtain ⟨cs, i, r, s, h1, h2, hne, hi, hs0, hs1⟩ := F
  have hm0 : m ≠ 0 := by omega
  have hd : okDiv m := div_ok hm0 (by omega)
  show m_Ldraw _ [some (.ref p), some (.int m), none, none, none] M
  unfold m_Ldraw
  walk_at "ml"
  refine if_d (fun hr => ?_) (fun hr => ?_)
  · walk_at "ml"
    refine o_mod hm0 ?_
    walk_at "ml"
    refine o_div hd ?_
    walk_at "ml"
    refine o_setL h1 (j := 2) rfl ?_
    walk_at "ml"
    obtain ⟨a1, a2⟩ := fmod_in r hm
    exact k _ _ a1 a2 (.set (by simp)) ⟨cs, i, _, s, msame h1, by rw [List.getElem?_set_ne hne]; exact h2, hne, hi, hs0, hs1⟩
  · iterate 4 walk_at "mx"
    with_reducible refine x_join (fun ρ' M' => ∃ c i' : Int, ρ' = [some (.ref p), some (.int m), none, some (.int c), none] ∧ 0 ≤ i' ∧ M'[p]? = some (.lst [.ref q, .int i', .int r, .int s]) ∧ M'[q]? = some (.lst (cs.map .int)) ∧ Kp [p] M M') ?_ ?_
    · intro K hK
      walk_at "ml"
      refine if_d (fun hc => ?_) (fun hc => ?_)
      · walk_at "ml"
        have hi2 : i.toNat < cs.length := by simp at hc; omega
        refine o_ixL h2 (v := .int cs[i.toNat]) (by rw [atI_i hi]; simp [hi2]) ?_
        walk_at "ml"
        refine o_setL h1 (j := 1) rfl ?_
        exact hK _ _ ⟨_, i + 1, rfl, by omega, msame h1, by rw [List.getElem?_set_ne hne]; exact h2, .set (by simp)⟩
      · walk_at "ml"
        exact hK _ _ ⟨0, i, rfl, hi, h1, h2, .refl⟩
    · rintro _ M1 ⟨c, i', rfl, hi', g1, g2, kp⟩
      walk_at "ml"
      refine if_d (fun hc => ?_) (fun hc => ?_)
      · walk_at "ml"
        refine o_div hd ?_
        walk_at "ml"
        refine o_setL g1 (j := 2) rfl ?_
        walk_at "ml"
        refine o_mod hm0 ?_
        obtain ⟨a1, a2⟩ := fmod_in c hm
        exact k _ _ a1 a2 (kp.trans (.set (by simp))) ⟨cs, i', _, s, msame g1, by rw [List.getElem?_set_ne hne]; exact g2, hne, hi', hs0, hs1⟩
      · walk_at "ml"
        refine o_mul (mul_ok (by decide)) ?_
        walk_at "ml"
        refine o_mod (by decide) ?_
        walk_at "ml"
        refine o_mod (by decide) ?_
        walk_at "ml"
        refine o_setL g1 (j := 3) rfl ?_
        obtain ⟨b1, b2⟩ := fmod_in (s * 48271 + c.fmod 1000003 + 11) (m := 2147483647) (by decide)
        generalize (s * 48271 + c.fmod 1000003 + 11).fmod 2147483647 = s' at b1 b2 ⊢
        have g3 : (M1.set p (.lst [.ref q, .int i', .int r, .int s']))[p]? = some (.lst [.ref q, .int i', .int r, .int s']) := msame g1
        have g4 : (M1.set p (.lst [.ref q, .int i', .int r, .int s']))[q]? = some (.lst (cs.map .int)) := by rw [List.getElem?_set_ne hne]; exact g2
        have kp2 : Kp [p] M (M1.set p (.lst [.ref q, .int i', .int r, .int s'])) := kp.trans (.set (by simp))
        show mSeq _ _ _ _ (M1.set p (.lst [.ref q, .int i', .int r, .int s']))
        generalize M1.set p (.lst [.ref q, .int i', .int r, .int s']) = M2 at g3 g4 kp2 ⊢
        walk_at "ml"
        refine o_pow ⟨by decide, by decide, by omega⟩ ?_
        walk_at "ml"
        refine o_ixL (ds := [.int s', .int (s' ^ 4)]) (v := .int (if 100000 < m then s' ^ 4 else s')) mnew ?_ ?_
        · by_cases hm5 : 100000 < m <;> simp [hm5, atI_0, atI_1]
        walk_at "ml"
        refine o_div (div_ok (by decide) (by decide)) ?_
        walk_at "ml"
        refine o_mod hm0 ?_
        have fin : ∀ a : Int, Q (.int (a.fmod m)) (M2 ++ [.lst [.int s', .int (s' ^ 4)]]) := fun a => by
          obtain ⟨a1, a2⟩ := fmod_in a hm
          exact k _ _ a1 a2 (kp2.trans .app) (Feed.app ⟨cs, i', r, s', g3, g4, hne, hi', b1, b2⟩)
        exact fin _
theorem lfeed {M : Mem} {ns : List Int} {Q : DK} {X : XM} (k : ∀ M', Kp [] M M' → Feed M' (M.length + 2) (M.length + 1) → Q (.ref (M.length + 2)) M') : w_Lfeed [.kl (ns.map .int)] M Q X := by
  show m_Lfeed _ [some (.kl (ns.map .int))] M
  unfold m_Lfeed
  walk_at "ml"
  show oList1 [.ref M.length] (M ++ [.lst (cutD (ns.map D.int) none (some 63))]) _
  have e : ∃ cs : List Int, cutD (ns.map D.int) none (some 63) = cs.map .int := ⟨_, by unfold cutD; rw [← List.map_drop, ← List.map_take]⟩
  obtain ⟨cs, e⟩ := e
  rw [e]
  refine o_listL mnew ?_
  walk_at "ml"
  have e2 : (M ++ [O.lst (cs.map D.int)]).length = M.length + 1 := by simp
  have e3 : (M ++ [O.lst (cs.map D.int)] ++ [O.lst (cs.map D.int)]).length = M.length + 2 := by simp
  rw [e2, e3]
  refine k _ ((Kp.app.trans .app).trans .app) ⟨cs, 0, 0, 1, ?_, ?_, by omega, by decide, by decide, by decide⟩
  · rw [← e3]; exact mnew
  · exact (Kp.app (S := [])).at_ _ _ (by simp) (by rw [← e2]; exact mnew)
end Prf

namespace MV
def Asc (n : Nat) (s : Str) : Prop := s.cps.size ≤ n ∧ ∀ c ∈ s.cps.toList, c < 128
theorem Asc.ok {n : Nat} {s : Str} (h : Asc n s) : PyData.strOk s = true := by
  unfold PyData.strOk
  rw [Array.all_eq_true_iff_forall_mem]
  intro c hc
  have := h.2 c (by simpa using hc)
  exact decide_eq_true (by omega)
theorem Asc.app {n m : Nat} {s t : Str} (h : Asc n s) (k : Asc m t) : Asc (n + m) (s ++ t) := by
  have e : (s ++ t).cps = s.cps ++ t.cps := rfl
  refine ⟨?_, fun c hc => ?_⟩
  · rw [e, Array.size_append]
    exact Nat.add_le_add h.1 k.1
  · rw [e, Array.toList_append] at hc
    rcases List.mem_append.mp hc with z | z
    · exact h.2 c z
    · exact k.2 c z
theorem Asc.one {c : Nat} (h : c < 128) : Asc 1 ⟨#[c]⟩ := ⟨Nat.le_refl _, by simp [h]⟩
theorem Asc.mono {n m : Nat} {s : Str} (e : n ≤ m) (h : Asc n s) : Asc m s := ⟨Nat.le_trans h.1 e, h.2⟩
theorem Asc.len {n : Nat} {s : Str} (h : Asc n s) : s.length ≤ n := h.1
end MV

namespace Prf
end Prf

namespace Prf
def FIRST : Str := "abcdefghijklmnopqrstuvwxyz"
def LATER : Str := "abcdefghijklmnopqrstuvwxyz0123456789"
def goodB (s : Str) : Bool := decide (1 ≤ (s.length : Int) ∧ (s.length : Int) ≤ 8) && (match s.cps.toList with | c :: _ => decide (c ∈ FIRST.cps.toList) | [] => false) && s.cps.toList.all fun c => decide (c ∈ LATER.cps.toList)
def xBadName (s : Str) : Exn := xE "BadName" "name" "bad name" (.str s)
def rName (s : Str) : Option Exn := if goodB s = true then none else some (xBadName s)
end Prf

namespace MV
structure Pl where
  nm : Str
  room : Option (Int × Int)
  kept : Option (Int × Int)
  price : Int × Int
  wants : List (Int × Int)
structure Rd where
  nm : Str
  st : Str
  en : Str
  takes : Int
  floor : Int × Int
  rungs : List Rung
structure Nt where
  h : Int
  s : Int × Int
  t : Int × Int
  ps : List Pl
  rs : List Rd
def plD (p : Pl) : D := .tup [omD p.room, omD p.kept, pD p.price, .tup (p.wants.map pD)]
def rdD (r : Rd) : D := .tup [.str r.st, .str r.en, .int r.takes, pD r.floor, .tup (r.rungs.map rungD)]
def plK (p : Pl) : Key × D := (.inr p.nm, plD p)
def rdK (r : Rd) : Key × D := (.inr r.nm, rdD r)
structure NetM (M : Mem) (n : Nat) (N : Nt) (p r : Nat) : Prop where
  ins : M[n]? = some (.ins "Net" (NF (.int N.h) (pD N.s) (pD N.t) (.ref p) (.ref r)))
  pl : M[p]? = some (.dct false (N.ps.map plK))
  rd : M[r]? = some (.dct false (N.rs.map rdK))
theorem NetM.kp {M M' : Mem} {n p r : Nat} {N : Nt} {S : List Nat} (h : NetM M n N p r) (k : Kp S M M') (h1 : n ∉ S) (h2 : p ∉ S) (h3 : r ∉ S) : NetM M' n N p r := ⟨k.at_ _ _ h1 h.ins, k.at_ _ _ h2 h.pl, k.at_ _ _ h3 h.rd⟩
theorem NetM.app {M l : Mem} {n p r : Nat} {N : Nt} (h : NetM M n N p r) : NetM (M ++ l) n N p r := h.kp (S := []) .app (by simp) (by simp) (by simp)
theorem NetM.np {M : Mem} {n p r : Nat} {N : Nt} (h : NetM M n N p r) : n ≠ p := fun e => by have := h.ins; rw [e, h.pl] at this; cases this
def OnS {α : Type} (o : Option α) (a : α → Prop) (b : Prop) : Prop := match o with
  | some q => a q
  | none => b
theorem OnS.some {α : Type} {q : α} {a : α → Prop} {b : Prop} (h : a q) : OnS (.some q) a b := h
theorem OnS.none {α : Type} {a : α → Prop} {b : Prop} (h : b) : OnS .none a b := h
theorem En.nil {Q : DK} {X : XM} {M : Mem} (h : Q .non M) : En Q X M none := h
def De (Q : DK) (X : XM) (M : Mem) (n : Nat) (o : Option Exn) (N : Nt) : Prop := match o with
  | some e => X e M
  | none => ∀ M' p r, Kp [n] M M' → NetM M' n N p r → Q .non M'
structure NOk (N : Nt) : Prop where
  s : Tame N.s
  t : Tame N.t
  pl : N.ps.length < 1000
  rl : N.rs.length < 1000
  h0 : 0 ≤ N.h
  h1 : N.h < 1000
end MV
namespace Prf
end Prf

namespace MV
theorem De.mono {Q : DK} {X : XM} {M M1 : Mem} {n : Nat} {N : Nt} (h : De Q X M n none N) (k : Kp [n] M M1) : De Q X M1 n none N := fun M' p r k' hN => h M' p r (k.trans k') hN
end MV
namespace Prf
end Prf

namespace MV
theorem NetM.off {M : Mem} {n pp rr p q : Nat} {N : Nt} (h : NetM M n N pp rr) (F : Feed M p q) : (n ≠ p ∧ pp ≠ p ∧ rr ≠ p) ∧ n ≠ q ∧ pp ≠ q ∧ rr ≠ q := by
  obtain ⟨cs, i, r, s, g1, g2, _⟩ := F
  refine ⟨⟨?_, ?_, ?_⟩, ?_, ?_, ?_⟩
  · rintro rfl; have := h.ins; rw [g1] at this; cases this
  · rintro rfl; have := h.pl; rw [g1] at this; cases this
  · rintro rfl; have := h.rd; rw [g1] at this; cases this
  · rintro rfl; have := h.ins; rw [g2] at this; cases this
  · rintro rfl; have := h.pl; rw [g2] at this; cases this
  · rintro rfl; have := h.rd; rw [g2] at this; cases this
theorem NetM.fd {M M' : Mem} {n pp rr p q : Nat} {N : Nt} (h : NetM M n N pp rr) (F : Feed M p q) (k : Kp [p] M M') : NetM M' n N pp rr := by
  obtain ⟨⟨a, b, c⟩, _⟩ := h.off F
  exact h.kp k (by simp [a]) (by simp [b]) (by simp [c])
theorem Feed.nt {M M' : Mem} {n pp rr p q : Nat} {N : Nt} (F : Feed M p q) (h : NetM M n N pp rr) (k : Kp [n] M M') : Feed M' p q := by
  obtain ⟨⟨a, b, c⟩, a', b', c'⟩ := h.off F
  exact F.kp k (by simp [a.symm]) (by simp [a'.symm])
theorem app_cps {s t : Str} : (s ++ t).cps = s.cps ++ t.cps := rfl
end MV
namespace Prf
def Z8 : Str := "zzzzzzzz"
theorem z8_size : Z8.cps.size = 8 := by decide +kernel
def W8 : Str := "wwwwwwww"
theorem w8_size : W8.cps.size = 8 := by decide +kernel
structure Nm (k : Nat) (s : Str) : Prop where
  len : s.cps.size ≤ k
  l : ∃ c r, s.cps.toList = c :: r ∧ c ∈ FIRST.cps.toList ∧ ∀ x ∈ r, x ∈ LATER.cps.toList
  nz : s ≠ Z8
  nw : s ≠ W8
theorem ff_later : ∀ c ∈ FIRST.cps.toList, c ∈ LATER.cps.toList := by decide +kernel
def Q7 : Str := "qqqqqqq"
theorem q7_z {c : Nat} : Q7 ++ ⟨#[c]⟩ ≠ Z8 := fun e => by
  have e1 := congrArg (fun z : Str => z.cps.toList[0]?) e
  have e2 : (Q7 ++ ⟨#[c]⟩).cps.toList[0]? = Q7.cps.toList[0]? := by
    rw [app_cps, Array.toList_append, List.getElem?_append_left (by decide +kernel)]
  have e3 : Q7.cps.toList[0]? ≠ Z8.cps.toList[0]? := by decide +kernel
  exact e3 (e2.symm.trans e1)
theorem q7_w {c : Nat} : Q7 ++ ⟨#[c]⟩ ≠ W8 := fun e => by
  have e1 := congrArg (fun z : Str => z.cps.toList[0]?) e
  have e2 : (Q7 ++ ⟨#[c]⟩).cps.toList[0]? = Q7.cps.toList[0]? := by
    rw [app_cps, Array.toList_append, List.getElem?_append_left (by decide +kernel)]
  have e3 : Q7.cps.toList[0]? ≠ W8.cps.toList[0]? := by decide +kernel
  exact e3 (e2.symm.trans e1)
theorem Nm.app {k : Nat} {s : Str} {c : Nat} (h : Nm k s) (hc : c ∈ LATER.cps.toList) (hk : k < 7 ∨ s = Q7) : Nm (k + 1) (s ++ ⟨#[c]⟩) := by
  obtain ⟨hl, ⟨a, r, e, h1, h2⟩, -, -⟩ := h
  refine ⟨by rw [app_cps, Array.size_append]; simpa using hl, ⟨a, r ++ [c], ?_, h1, ?_⟩, ?_, ?_⟩
  rotate_left 3
  · rcases hk with hk | rfl
    · intro e
      have := congrArg (fun z : Str => z.cps.size) e
      simp only [w8_size, app_cps, Array.size_append] at this
      simp at this
      omega
    · exact q7_w
  rotate_left 2
  · rcases hk with hk | rfl
    · intro e
      have := congrArg (fun z : Str => z.cps.size) e
      simp only [z8_size, app_cps, Array.size_append] at this
      simp at this
      omega
    · exact q7_z
  · rw [app_cps, Array.toList_append, e]; rfl
  · intro x hx
    rcases List.mem_append.mp hx with z | z
    · exact h2 x z
    · simp at z; subst z; exact hc
theorem Nm.one {c : Nat} (h : c ∈ FIRST.cps.toList) : Nm 1 ⟨#[c]⟩ := ⟨Nat.le_refl _, ⟨c, [], rfl, h, by simp⟩, fun e => by
  have := congrArg (fun z : Str => z.cps.size) e
  simp only [z8_size] at this
  simp at this, fun e => by
  have := congrArg (fun z : Str => z.cps.size) e
  simp only [w8_size] at this
  simp at this⟩
theorem Nm.mono {k m : Nat} {s : Str} (e : k ≤ m) (h : Nm k s) : Nm m s := ⟨Nat.le_trans h.len e, h.l, h.nz, h.nw⟩
theorem Nm.pos {k : Nat} {s : Str} (h : Nm k s) : 1 ≤ s.cps.size := by
  obtain ⟨a, r, e, h1, h2⟩ := h.l
  have := congrArg List.length e
  simp at this; omega
theorem Nm.good {s : Str} (h : Nm 8 s) : goodB s = true := by
  have hl : 1 ≤ (s.length : Int) ∧ (s.length : Int) ≤ 8 := by
    have := h.pos; have := h.len
    unfold Str.length; omega
  obtain ⟨a, r, e, h1, h2⟩ := h.l
  unfold goodB
  rw [decide_eq_true hl, e]
  simp only [List.all_cons, decide_eq_true h1, decide_eq_true (ff_later a h1), Bool.and_self, Bool.true_and, List.all_eq_true, decide_eq_true_eq]
  exact h2
theorem Nm.name {s : Str} (h : Nm 8 s) : rName s = none := by unfold rName; rw [if_pos h.good]
end Prf

namespace MV
theorem eqB_fine {x y : D} {M : Mem} {k : Bool → Prop} (h1 : fine 20 x = true) (h2 : fine 20 y = true) (q : k (deq x y)) : oEqB x y M k := by
  have eb : ∀ a b : Str, (a == b) = decide (a = b) := fun a b => by by_cases h : a = b <;> simp [h]
  have ei : ∀ a b : Int, (a == b) = decide (a = b) := fun a b => by by_cases h : a = b <;> simp [h]
  unfold oEqB
  split
  · rw [show deq (.str _) (.str _) = (_ == _) from by unfold deq; rfl, eb] at q; exact q
  · rw [show deq (.int _) (.int _) = (_ == _) from by unfold deq; rfl, ei] at q; exact q
  · exact ⟨_, _, see_fine h1, see_fine h2, by rw [eqv_deq 20 h1 h2]; exact q⟩
def iS (i : Int) : Str := (toString i : String)
theorem iS_list (i : Int) : (iS i).cps.toList = (if i < 0 then [45] else []) ++ (Nat.toDigits 10 i.natAbs).map Char.toNat := by
  unfold iS
  rw [PyProof.Rows.signs_ofString]
  cases i with
  | ofNat n =>
    have : ¬ ((Int.ofNat n) < 0) := by simp
    rw [if_neg this]
    show (Nat.repr n).toList.map Char.toNat = _
    rw [Nat.toList_repr]; rfl
  | negSucc n =>
    have : (Int.negSucc n) < 0 := Int.negSucc_lt_zero n
    rw [if_pos this]
    show (("-" : String) ++ Nat.repr (n + 1)).toList.map Char.toNat = _
    rw [String.toList_append, Nat.toList_repr]
    rfl
theorem digit_asc {n : Nat} {c : Nat} (h : c ∈ (Nat.toDigits 10 n).map Char.toNat) : c < 128 := by
  obtain ⟨ch, hch, e⟩ := List.mem_map.mp h
  have r := PyProof.Rows.digit_range (Nat.isDigit_of_mem_toDigits (by decide) (by decide) hch)
  omega
theorem iS_asc {i : Int} {k : Nat} (hk : 1 ≤ k) (h : i.natAbs < 10 ^ k) : Asc (k + 1) (iS i) := by
  have e := iS_list i
  refine ⟨?_, fun c hc => ?_⟩
  · have l := congrArg List.length e
    have d := PyProof.Rows.digits10_le hk h
    simp at l
    rw [l]
    split <;> simp <;> omega
  · rw [e] at hc
    rcases List.mem_append.mp hc with z | z
    · split at z <;> simp at z
      omega
    · exact digit_asc z
def Mv (m : Int × Int) : Prop := m.1.natAbs ≤ 1000000 ∧ m.2.natAbs ≤ 1000000
theorem Mv.s1 {m : Int × Int} (h : Mv m) : Asc 8 (iS m.1) := iS_asc (k := 7) (by decide) (by have := h.1; omega)
theorem Mv.s2 {m : Int × Int} (h : Mv m) : Asc 8 (iS m.2) := iS_asc (k := 7) (by decide) (by have := h.2; omega)
theorem Mv.s3 {m : Int × Int} (h : Mv m) : Asc 8 (iS (-m.2)) := iS_asc (k := 7) (by decide) (by have := h.2; omega)
theorem log_ok {i : Int} (h : i.natAbs ≤ 1000000000) : i.natAbs.log2 < 1920 := by
  by_cases h0 : i.natAbs = 0
  · rw [h0]; decide
  · exact Nat.lt_of_lt_of_le ((Nat.log2_lt h0).mpr (show i.natAbs < 2 ^ 30 by omega)) (by decide)
theorem e_app {s : Str} : Str.empty ++ s = s := by
  have : (Str.empty ++ s).cps = s.cps := by show Str.empty.cps ++ s.cps = s.cps; simp [Str.empty]
  cases s; exact congrArg Str.mk this
theorem len_app {s t : Str} : (s ++ t).length = s.length + t.length := by
  show (s.cps ++ t.cps).size = _
  rw [Array.size_append]; rfl
inductive Parts (ρ : Ev) (M : Mem) (X : XM) : List ME → List Str → Prop
  | nil : Parts ρ M X [] []
  | cons {m : ME} {y : Str} {ms : List ME} {ys : List Str} : (∀ Q : DK, Q (.str y) M → m ρ M Q X) → Parts ρ M X ms ys → Parts ρ M X (m :: ms) (y :: ys)
theorem js_parts {ρ : Ev} {M : Mem} {X : XM} {Q : DK} : ∀ {ms : List ME} {ys : List Str} {acc : Str}, Parts ρ M X ms ys → acc.length + (ys.map (·.length)).sum ≤ 16000000 → Q (.str (ys.foldl (· ++ ·) acc)) M → mJs ms acc ρ M Q X
  | _, _, _, .nil, _, q => q
  | _, _, acc, .cons (y := y) (ys := ys) h t, hl, q => h _ ⟨by rw [len_app]; simp at hl; omega, js_parts t (by rw [len_app]; simp at hl; omega) q⟩
theorem js_all {ρ : Ev} {M : Mem} {X : XM} {Q : DK} {ms : List ME} {ys : List Str} {z : Str} (h : Parts ρ M X ms ys) (hl : (ys.map (·.length)).sum ≤ 16000000) (hz : ys.foldl (· ++ ·) Str.empty = z) (q : Q (.str z) M) : mJs ms Str.empty ρ M Q X := js_parts h (by simpa [Str.length, Str.empty] using hl) (by rw [hz]; exact q)
theorem o_fmtS {z : Str} {M : Mem} {Q : DK} (hl : z.length ≤ 16000000) (q : Q (.str z) M) : oFmt (.str z) M Q := ⟨hl, q⟩
theorem o_fmtI {i : Int} {M : Mem} {Q : DK} (hl : i.natAbs ≤ 1000000000) (q : Q (.str (iS i)) M) : oFmt (.int i) M Q := ⟨log_ok hl, q⟩
theorem o_sI {i : Int} {M : Mem} {Q : DK} (hl : i.natAbs ≤ 1000000000) (q : Q (.str (iS i)) M) : oStr1 [.int i] M Q := ⟨log_ok hl, q⟩
theorem o_addA {s z : Str} {n m : Nat} {M : Mem} {Q : DK} (h1 : Asc n s) (h2 : Asc m z) (hl : n + m ≤ 16000000) (q : Q (.str (s ++ z)) M) : oAdd (.str s) (.str z) M Q := o_addS (by have := h1.len; have := h2.len; omega) q
end MV
namespace Prf
end Prf

namespace MV
theorem frac_n (t u : Int) (h : u ≠ 0) : t.fdiv (if u < 0 then -(Int.gcd t u : Int) else (Int.gcd t u : Int)) = ((t : Rat) / (u : Rat)).num ∧ u.fdiv (if u < 0 then -(Int.gcd t u : Int) else (Int.gcd t u : Int)) = (((t : Rat) / (u : Rat)).den : Int) := by
  rw [← Rat.divInt_eq_div, Rat.num_divInt, Rat.den_divInt, if_neg h, Int.gcd_comm u t]
  have g0 : (0 : Int) < (Int.gcd t u : Int) := by
    have := Int.gcd_pos_of_ne_zero_right t h
    omega
  obtain ⟨a, ha⟩ : ∃ a, t = (Int.gcd t u : Int) * a := Int.gcd_dvd_left t u
  obtain ⟨b, hb⟩ : ∃ b, u = (Int.gcd t u : Int) * b := Int.gcd_dvd_right t u
  generalize hg : Int.gcd t u = g at *
  clear hg
  have gn : (g : Int) ≠ 0 := by omega
  have key : ∀ x : Int, ((g : Int) * x).fdiv g = x := fun x => by rw [Int.mul_comm]; exact Int.mul_fdiv_cancel x gn
  have kem : ∀ x : Int, ((g : Int) * x).fdiv (-g) = -x := fun x => by
    rw [show (g : Int) * x = (-x) * (-g) by rw [Int.neg_mul_neg, Int.mul_comm]]; exact Int.mul_fdiv_cancel _ (by omega)
  subst ha hb
  by_cases hu : (g : Int) * b < 0
  · have hb : b < 0 := by
      by_cases z : b < 0
      · exact z
      · have := Int.mul_nonneg (Int.le_of_lt g0) (show 0 ≤ b by omega); omega
    rw [if_pos hu, kem, kem]
    constructor
    · rw [Int.sign_eq_neg_one_of_neg hu, ← Int.mul_assoc, Int.mul_comm (-1), Int.mul_assoc, Int.mul_ediv_cancel_left _ gn]
      omega
    · rw [Int.natAbs_mul, Int.natAbs_natCast, Nat.mul_div_cancel_left _ (by omega)]
      omega
  · have hb : 0 < b := by
      by_cases z : 0 < b
      · exact z
      · exfalso
        have h2 := Int.mul_nonneg_of_nonpos_of_nonpos (a := -(g : Int)) (b := b) (by omega) (by omega)
        have e : -(g : Int) * b = -(g * b) := Int.neg_mul _ _
        omega
    rw [if_neg hu, key, key]
    constructor
    · rw [Int.sign_eq_one_of_pos (Int.mul_pos g0 hb), Int.one_mul, Int.mul_ediv_cancel_left _ gn]
    · rw [Int.natAbs_mul, Int.natAbs_natCast, Nat.mul_div_cancel_left _ (by omega)]
      omega
theorem q_nd (q : Rat) : (q.num : Rat) / ((q.den : Int) : Rat) = q := by
  have := Rat.num_divInt_den q
  rw [Rat.divInt_eq_div] at this
  exact this
theorem rne {b : Int} (h : b ≠ 0) : (b : Rat) ≠ 0 := by exact_mod_cast h
theorem q_den0 (q : Rat) : (q.den : Int) ≠ 0 := by have := q.den_pos; omega
theorem q_add (a b : Rat) : ((a.num * b.den + b.num * a.den : Int) : Rat) / ((a.den * b.den : Int) : Rat) = a + b := by
  have h1 := rne (q_den0 a); have h2 := rne (q_den0 b)
  have ea := q_nd a; have eb := q_nd b
  push_cast at *
  grind
theorem q_mul (a b : Rat) : ((a.num * b.num : Int) : Rat) / ((a.den * b.den : Int) : Rat) = a * b := by
  have h1 := rne (q_den0 a); have h2 := rne (q_den0 b)
  have ea := q_nd a; have eb := q_nd b
  push_cast at *
  grind
theorem den_div_dvd (t u : Int) (h : u ≠ 0) : (((t : Rat) / (u : Rat)).den : Int) ∣ u := by
  obtain ⟨_, h2⟩ := frac_n t u h
  obtain ⟨b, hb⟩ : ∃ b, u = (Int.gcd t u : Int) * b := Int.gcd_dvd_right t u
  have e : u.fdiv (if u < 0 then -(Int.gcd t u : Int) else (Int.gcd t u : Int)) ∣ u := by
    have g0 : (0 : Int) < (Int.gcd t u : Int) := by
      have := Int.gcd_pos_of_ne_zero_right t h
      omega
    generalize Int.gcd t u = g at *
    subst hb
    have gn : (g : Int) ≠ 0 := by omega
    split
    · rw [show (g : Int) * b = (-b) * (-g) by rw [Int.neg_mul_neg, Int.mul_comm], Int.mul_fdiv_cancel _ (by omega)]; exact ⟨-g, rfl⟩
    · rw [show (g : Int) * b = b * g by rw [Int.mul_comm], Int.mul_fdiv_cancel _ gn]; exact ⟨g, rfl⟩
  rw [h2] at e; exact e
def DD (n : Nat) (q : Rat) : Prop := q.den ∣ n
theorem dd_of {n : Nat} {x : Int} {q : Rat} (hn : 0 < n) (h : q = (x : Rat) / ((n : Int) : Rat)) : DD n q := by
  subst h
  have := den_div_dvd x n (by omega)
  exact Int.natCast_dvd_natCast.mp this
theorem DD.to {n : Nat} {q : Rat} (hn : 0 < n) (h : DD n q) : ∃ x : Int, q = (x : Rat) / ((n : Int) : Rat) := by
  obtain ⟨k, hk⟩ := h
  refine ⟨q.num * k, ?_⟩
  have e := q_nd q
  have h1 := rne (q_den0 q)
  have h2 : ((n : Int) : Rat) ≠ 0 := rne (by omega)
  have hk' : ((n : Int) : Rat) = ((q.den : Int) : Rat) * ((k : Int) : Rat) := by rw [hk]; push_cast; rfl
  push_cast at *
  grind
theorem DD.add {n : Nat} {a b : Rat} (hn : 0 < n) (ha : DD n a) (hb : DD n b) : DD n (a + b) := by
  obtain ⟨x, rfl⟩ := ha.to hn
  obtain ⟨y, rfl⟩ := hb.to hn
  refine dd_of (x := x + y) hn ?_
  have h2 : ((n : Int) : Rat) ≠ 0 := rne (by omega)
  push_cast at *
  grind
theorem DD.sub {n : Nat} {a b : Rat} (hn : 0 < n) (ha : DD n a) (hb : DD n b) : DD n (a - b) := by
  obtain ⟨x, rfl⟩ := ha.to hn
  obtain ⟨y, rfl⟩ := hb.to hn
  refine dd_of (x := x - y) hn ?_
  have h2 : ((n : Int) : Rat) ≠ 0 := rne (by omega)
  push_cast at *
  grind
theorem DD.val {n : Nat} {s : Rat} (hn : 0 < n) (hs : DD n s) (a b : Int) : DD n (a + b * s) := by
  obtain ⟨x, rfl⟩ := hs.to hn
  refine dd_of (x := a * n + b * x) hn ?_
  have h2 : ((n : Int) : Rat) ≠ 0 := rne (by omega)
  push_cast at *
  grind
theorem DD.up {n m : Nat} {q : Rat} (h : DD n q) (hd : n ∣ m) : DD m q := Nat.dvd_trans h hd
theorem DD.le {n : Nat} {q : Rat} (hn : 0 < n) (h : DD n q) : q.den ≤ n := Nat.le_of_dvd hn h
theorem DD.z {n : Nat} : DD n 0 := by unfold DD; exact ⟨n, by rw [show (0 : Rat).den = 1 from rfl]; omega⟩
def qD (q : Rat) : D := .tup [.int q.num, .int (q.den : Int)]
section
variable {M : Mem} {Q : DK} {q : Rat}
theorem o_q0 (h : Q (.int q.num) M) : oIx (qD q) (.int 0) M Q := h
theorem o_q1 (h : Q (.int (q.den : Int)) M) : oIx (qD q) (.int 1) M Q := h
theorem qD_nil {n : Nat} : fine (n + 1) (qD q) = true := by
  unfold qD
  cases n <;> simp [fine]
end
theorem qD_of {t u : Int} (h : u ≠ 0) : D.tup [.int (t.fdiv (if u < 0 then -(Int.gcd t u : Int) else (Int.gcd t u : Int))), .int (u.fdiv (if u < 0 then -(Int.gcd t u : Int) else (Int.gcd t u : Int)))] = qD ((t : Rat) / (u : Rat)) := by
  obtain ⟨h1, h2⟩ := frac_n t u h
  unfold qD
  rw [h1, h2]
theorem x_while {c : MT} {b : MS} {E : Nd} {ρ : Ev} {M : Mem} (I : Nat → Ev → Mem → Prop) (m : Nat) (h0 : I m ρ M) (hs : ∀ m ρ M, I m ρ M → c ρ M (fun k M1 => if k = true then ∃ N : Ev → Mem → Prop, (∀ ρ' M', N ρ' M' → ∃ m', m' < m ∧ I m' ρ' M') ∧ b ⟨N, E.rt, E.nx, N, E.ex⟩ ρ M1 else E.nx ρ M1) (fun x M1 => E.ex x ρ M1)) : mWhile c b E ρ M := ⟨I, ⟨m, h0⟩, hs⟩
theorem w_gcd {E : Nd} {a b : Int} {M : Mem} {l : Ev} (k : ∀ c : Int, c.natAbs = Int.gcd a b → E.nx (some (.int c) :: some (.int 0) :: l) M) : mWhile (mTru (mVar 1)) (mPar 0 1 (mCons (mVar 1) (mCons (mOp oMod (mVar 0) (mVar 1)) mNil))) E (some (.int a) :: some (.int b) :: l) M := by
  refine x_while (fun m ρ M' => ∃ x y : Int, ρ = some (.int x) :: some (.int y) :: l ∧ M = M' ∧ Int.gcd x y = Int.gcd a b ∧ y.natAbs = m) b.natAbs ⟨a, b, rfl, rfl, rfl, rfl⟩ ?_
  rintro m _ _ ⟨x, y, rfl, rfl, hg, rfl⟩
  refine x_tru (x_var (d := .int y) rfl ?_)
  show if (y != 0) = true then _ else _
  by_cases hy : y = 0
  · subst hy
    rw [if_neg (by decide)]
    exact k x (by rw [← hg]; simp [Int.gcd])
  · rw [if_pos (by simpa using hy)]
    refine ⟨fun ρ' M' => ∃ m', m' < y.natAbs ∧ ∃ x' y' : Int, ρ' = some (.int x') :: some (.int y') :: l ∧ M = M' ∧ Int.gcd x' y' = Int.gcd a b ∧ y'.natAbs = m', fun _ _ h => h, ?_⟩
    refine x_par (x_cons (x_var (d := .int y) rfl (x_cons (x_op (x_var (d := .int x) rfl (x_var (d := .int y) rfl (o_mod hy ?_)))))))
    refine x_nil ?_
    refine ⟨(x.fmod y).natAbs, ?_, y, x.fmod y, rfl, rfl, ?_, rfl⟩
    · by_cases hp : 0 < y
      · have := fmod_in x hp; omega
      · have h2 : (x.fmod y) = -((-x).fmod (-y)) := by rw [Int.neg_fmod_neg, Int.neg_neg]
        have := fmod_in (-x) (m := -y) (by omega); omega
    · rw [← hg, Int.gcd_comm x y]
      have e : x.fmod y = x - y * (x.fdiv y) := by have := Int.mul_fdiv_add_fmod x y; omega
      rw [e]
      exact Int.gcd_sub_mul_left_right y x (x.fdiv y)
end MV
namespace Prf
section
variable {M : Mem} {Q : DK} {X : XM} {a b s t : Rat} {x y : Int} {m : Int × Int}
theorem gcd64 {x y : Int} (h0 : y ≠ 0) (hb : y.natAbs < 2 ^ 64) : okDiv (if y < 0 then -(Int.gcd x y : Int) else (Int.gcd x y : Int)) := by
  have h1 := Int.gcd_pos_of_ne_zero_right x h0
  have h2 : Int.gcd x y ≤ y.natAbs := Nat.le_of_dvd (by omega) (Int.gcd_dvd_natAbs_right x y)
  refine div_ok ?_ ?_
  · split <;> omega
  · split <;> omega
theorem l_common (h : Q (.int (Int.gcd x y)) M) : w_common [.int x, .int y] M Q X := by
  unfold w_common wOf
  rw [show startE N_common [.int x, .int y] = [some (.int x), some (.int y)] from rfl]
  unfold m_common
  walk_at "sx"
  refine w_gcd fun c hc => ?_
  walk_at "ml"
  rw [show (if c < 0 then -c else c) = ((Int.gcd x y : Nat) : Int) by rw [← hc]; split <;> omega]
  exact h
theorem l_frac (h0 : y ≠ 0) (hb : y.natAbs < 2 ^ 64) (h : Q (qD ((x : Rat) / (y : Rat))) M) : w_frac [.int x, .int y] M Q X := by
  unfold w_frac wOf
  rw [show startE N_frac [.int x, .int y] = [some (.int x), some (.int y), none] from rfl]
  unfold m_frac
  have hd := gcd64 (x := x) h0 hb
  walk_at "ml"
  refine if_d (fun e => absurd e h0) (fun _ => ?_)
  walk_at "ml"
  refine l_common ?_
  walk_at "mq"
  with_reducible refine x_join (fun ρ M' => M = M' ∧ ρ = [some (.int x), some (.int y), some (.int (if y < 0 then -(Int.gcd x y : Int) else (Int.gcd x y : Int)))]) ?_ ?_
  · intro K hK
    walk_at "ml"
    refine if_d (fun e => ?_) (fun e => ?_)
    · walk_at "ml"
      exact hK _ _ ⟨rfl, by rw [if_pos e]; rfl⟩
    · walk_at "ml"
      exact hK _ _ ⟨rfl, by rw [if_neg e]; rfl⟩
  rintro _ _ ⟨rfl, rfl⟩
  walk_at "ml"
  refine o_div hd ?_
  walk_at "ml"
  refine o_div hd ?_
  walk_at "ml"
  rw [qD_of h0]
  exact h
theorem l_plus (ha : a.den < 2 ^ 32) (hb : b.den < 2 ^ 32) (h : Q (qD (a + b)) M) : w_plus [qD a, qD b] M Q X := by
  unfold w_plus wOf
  rw [show startE N_plus [qD a, qD b] = [some (qD a), some (qD b)] from rfl]
  unfold m_plus
  have pa := a.den_pos; have pb := b.den_pos
  have hm : a.den * b.den < 2 ^ 32 * 2 ^ 32 := Nat.mul_lt_mul_of_lt_of_lt ha hb
  walk_at "ml"
  refine o_q0 ?_
  walk_at "ml"
  refine o_q1 ?_
  refine o_mul (by first | exact mul_ok (by omega) | exact mul_ok' (by omega)) ?_
  walk_at "ml"
  refine o_q0 ?_
  walk_at "ml"
  refine o_q1 ?_
  refine o_mul (by first | exact mul_ok (by omega) | exact mul_ok' (by omega)) ?_
  walk_at "ml"
  refine o_q1 ?_
  walk_at "ml"
  refine o_q1 ?_
  refine o_mul (by first | exact mul_ok (by omega) | exact mul_ok' (by omega)) ?_
  walk_at "ml"
  refine l_frac (Int.mul_ne_zero (by omega) (by omega)) (by rw [Int.natAbs_mul]; simpa using hm) ?_
  rw [q_add]
  exact h
theorem l_times (ha : a.den < 2 ^ 32) (hb : b.den < 2 ^ 32) (hn : b.num.natAbs < 2 ^ 64) (h : Q (qD (a * b)) M) : w_times [qD a, qD b] M Q X := by
  unfold w_times wOf
  rw [show startE N_times [qD a, qD b] = [some (qD a), some (qD b)] from rfl]
  unfold m_times
  have pa := a.den_pos; have pb := b.den_pos
  have hm : a.den * b.den < 2 ^ 32 * 2 ^ 32 := Nat.mul_lt_mul_of_lt_of_lt ha hb
  walk_at "ml"
  refine o_q0 ?_
  walk_at "ml"
  refine o_q0 ?_
  refine o_mul (by first | exact mul_ok (by omega) | exact mul_ok' (by omega)) ?_
  walk_at "ml"
  refine o_q1 ?_
  walk_at "ml"
  refine o_q1 ?_
  refine o_mul (by first | exact mul_ok (by omega) | exact mul_ok' (by omega)) ?_
  walk_at "ml"
  refine l_frac (Int.mul_ne_zero (by omega) (by omega)) (by rw [Int.natAbs_mul]; simpa using hm) ?_
  rw [q_mul]
  exact h
theorem l_before (ha : a.den < 2 ^ 32) (hb : b.den < 2 ^ 32) (h : Q (.bl (decide (a < b))) M) : w_before [qD a, qD b] M Q X := by
  unfold w_before wOf
  rw [show startE N_before [qD a, qD b] = [some (qD a), some (qD b)] from rfl]
  unfold m_before
  walk_at "ml"
  refine o_q0 ?_
  walk_at "ml"
  refine o_q1 ?_
  refine o_mul (mul_ok (by omega)) ?_
  walk_at "ml"
  refine o_q0 ?_
  walk_at "ml"
  refine o_q1 ?_
  refine o_mul (mul_ok (by omega)) ?_
  walk_at "ml"
  simp only [← Rat.lt_iff]
  exact h
theorem lgcd (h : Q (.int (Int.gcd x y)) M) : w_Lgcd [.int x, .int y] M Q X := by
  unfold w_Lgcd wOf
  rw [show startE N_Lgcd [.int x, .int y] = [some (.int x), some (.int y)] from rfl]
  unfold m_Lgcd
  walk_at "sx"
  refine w_gcd fun c hc => ?_
  walk_at "ml"
  rw [show (if c < 0 then -c else c) = ((Int.gcd x y : Nat) : Int) by rw [← hc]; split <;> omega]
  exact h
theorem lfrac (h0 : y ≠ 0) (hb : y.natAbs < 2 ^ 64) (h : Q (qD ((x : Rat) / (y : Rat))) M) : w_Lfrac [.int x, .int y] M Q X := by
  unfold w_Lfrac wOf
  rw [show startE N_Lfrac [.int x, .int y] = [some (.int x), some (.int y), none] from rfl]
  unfold m_Lfrac
  have hd := gcd64 (x := x) h0 hb
  walk_at "ml"
  refine lgcd ?_
  walk_at "mq"
  with_reducible refine x_join (fun ρ M' => M = M' ∧ ρ = [some (.int x), some (.int y), some (.int (if y < 0 then -(Int.gcd x y : Int) else (Int.gcd x y : Int)))]) ?_ ?_
  · intro K hK
    walk_at "ml"
    refine if_d (fun e => ?_) (fun e => ?_)
    · walk_at "ml"
      exact hK _ _ ⟨rfl, by rw [if_pos e]; rfl⟩
    · walk_at "ml"
      exact hK _ _ ⟨rfl, by rw [if_neg e]; rfl⟩
  rintro _ _ ⟨rfl, rfl⟩
  walk_at "ml"
  refine o_div hd ?_
  walk_at "ml"
  refine o_div hd ?_
  walk_at "ml"
  rw [qD_of h0]
  exact h
theorem lplus (ha : a.den < 2 ^ 32) (hb : b.den < 2 ^ 32) (h : Q (qD (a + b)) M) : w_Lplus [qD a, qD b] M Q X := by
  unfold w_Lplus wOf
  rw [show startE N_Lplus [qD a, qD b] = [some (qD a), some (qD b)] from rfl]
  unfold m_Lplus
  have pa := a.den_pos; have pb := b.den_pos
  have hm : a.den * b.den < 2 ^ 32 * 2 ^ 32 := Nat.mul_lt_mul_of_lt_of_lt ha hb
  walk_at "ml"
  refine o_q0 ?_
  walk_at "ml"
  refine o_q1 ?_
  refine o_mul (by first | exact mul_ok (by omega) | exact mul_ok' (by omega)) ?_
  walk_at "ml"
  refine o_q0 ?_
  walk_at "ml"
  refine o_q1 ?_
  refine o_mul (by first | exact mul_ok (by omega) | exact mul_ok' (by omega)) ?_
  walk_at "ml"
  refine o_q1 ?_
  walk_at "ml"
  refine o_q1 ?_
  refine o_mul (by first | exact mul_ok (by omega) | exact mul_ok' (by omega)) ?_
  walk_at "ml"
  refine lfrac (Int.mul_ne_zero (by omega) (by omega)) (by rw [Int.natAbs_mul]; simpa using hm) ?_
  rw [q_add]
  exact h
theorem ltimes (ha : a.den < 2 ^ 32) (hb : b.den < 2 ^ 32) (hn : b.num.natAbs < 2 ^ 64) (h : Q (qD (a * b)) M) : w_Ltimes [qD a, qD b] M Q X := by
  unfold w_Ltimes wOf
  rw [show startE N_Ltimes [qD a, qD b] = [some (qD a), some (qD b)] from rfl]
  unfold m_Ltimes
  have pa := a.den_pos; have pb := b.den_pos
  have hm : a.den * b.den < 2 ^ 32 * 2 ^ 32 := Nat.mul_lt_mul_of_lt_of_lt ha hb
  walk_at "ml"
  refine o_q0 ?_
  walk_at "ml"
  refine o_q0 ?_
  refine o_mul (by first | exact mul_ok (by omega) | exact mul_ok' (by omega)) ?_
  walk_at "ml"
  refine o_q1 ?_
  walk_at "ml"
  refine o_q1 ?_
  refine o_mul (by first | exact mul_ok (by omega) | exact mul_ok' (by omega)) ?_
  walk_at "ml"
  refine lfrac (Int.mul_ne_zero (by omega) (by omega)) (by rw [Int.natAbs_mul]; simpa using hm) ?_
  rw [q_mul]
  exact h
theorem llt (ha : a.den < 2 ^ 32) (hb : b.den < 2 ^ 32) (h : Q (.bl (decide (a < b))) M) : w_Llt [qD a, qD b] M Q X := by
  unfold w_Llt wOf
  rw [show startE N_Llt [qD a, qD b] = [some (qD a), some (qD b)] from rfl]
  unfold m_Llt
  walk_at "ml"
  refine o_q0 ?_
  walk_at "ml"
  refine o_q1 ?_
  refine o_mul (mul_ok (by omega)) ?_
  walk_at "ml"
  refine o_q0 ?_
  walk_at "ml"
  refine o_q1 ?_
  refine o_mul (mul_ok (by omega)) ?_
  walk_at "ml"
  simp only [← Rat.lt_iff]
  exact h
end
end Prf

namespace MV
theorem x_notV {ma : ME} {ρ : Ev} {M : Mem} {Q : DK} {X : XM} (h : ma ρ M (fun x M1 => match x with | .bl k => Q (.bl (!k)) M1 | _ => False) X) : mNotV ma ρ M Q X := h
end MV
namespace Prf
end Prf

namespace MV
structure Sq (q : Rat) : Prop where
  n : q.num.natAbs ≤ 100
  d : q.den ≤ 100
theorem sq_of {x y : Int} (hx : x.natAbs ≤ 100) (h0 : 0 < y) (hy : y ≤ 100) : Sq ((x : Rat) / (y : Rat)) := by
  have hy0 : y ≠ 0 := by omega
  rw [← Rat.divInt_eq_div]
  constructor
  · rw [Rat.num_divInt, Int.sign_eq_one_of_pos h0, Int.one_mul]
    exact Nat.le_trans (Int.natAbs_ediv_le_natAbs _ _) hx
  · rw [Rat.den_divInt, if_neg hy0]
    have : y.natAbs / y.gcd x ≤ y.natAbs := Nat.div_le_self _ _
    omega
structure V5 where
  s : Rat × Rat
  t : Rat × Rat
  l : List D
  p : List D
  f : (Int × Int) × (Int × Int)
def qqD (x : Rat × Rat) : D := .tup [qD x.1, qD x.2]
def fourD (f : (Int × Int) × (Int × Int)) : D := .tup [.int f.1.1, .int f.1.2, .int f.2.1, .int f.2.2]
structure SpOk (x : Rat × Rat) : Prop where
  a : Sq x.1
  b : Sq x.2
  le : ¬ x.2 < x.1
structure V5.Ok (v : V5) : Prop where
  s : SpOk v.s
  t : SpOk v.t
  l : ∀ d ∈ v.l, fine 10 d = true
  p : ∀ d ∈ v.p, fine 10 d = true
  ll : v.l.length ≤ 10
  pl : v.p.length ≤ 10
  f : v.f.1.2.natAbs < 2 ^ 64 ∧ v.f.2.2.natAbs < 2 ^ 64
def five (v : V5) (a b : Nat) : List D := [qqD v.s, qqD v.t, .ref a, .ref b, fourD v.f]
structure F5 (M : Mem) (z : Nat) (v : V5) (a b : Nat) : Prop where
  z : M[z]? = some (.lst (five v a b))
  l : M[a]? = some (.lst v.l)
  p : M[b]? = some (.lst v.p)
theorem F5.kp {S : List Nat} {M M' : Mem} {z a b : Nat} {v : V5} (h : F5 M z v a b) (k : Kp S M M') (h1 : z ∉ S) (h2 : a ∉ S) (h3 : b ∉ S) : F5 M' z v a b := ⟨k.at_ _ _ h1 h.z, k.at_ _ _ h2 h.l, k.at_ _ _ h3 h.p⟩
def spF (x : Rat × Rat) : List (Str × D) := [("low", qD x.1), ("high", qD x.2)]
def obF (s t a b : Nat) (f : (Int × Int) × (Int × Int)) : List (Str × D) := [("s_span", .ref s), ("t_span", .ref t), ("loads", .ref a), ("prices", .ref b), ("four", fourD f)]
structure ObM (M : Mem) (n : Nat) (v : V5) (s t a b : Nat) : Prop where
  o : M[n]? = some (.ins "Oblong" (obF s t a b v.f))
  s : M[s]? = some (.ins "Span" (spF v.s))
  t : M[t]? = some (.ins "Span" (spF v.t))
  l : M[a]? = some (.lst v.l)
  p : M[b]? = some (.lst v.p)
theorem ObM.kp {M M' : Mem} {n s t a b : Nat} {v : V5} (h : ObM M n v s t a b) {S : List Nat} (k : Kp S M M') (h1 : n ∉ S) (h2 : s ∉ S) (h3 : t ∉ S) (h4 : a ∉ S) (h5 : b ∉ S) : ObM M' n v s t a b := ⟨k.at_ _ _ h1 h.o, k.at_ _ _ h2 h.s, k.at_ _ _ h3 h.t, k.at_ _ _ h4 h.l, k.at_ _ _ h5 h.p⟩
theorem sf_low {x : Rat × Rat} : (spF x).lookup ("low" : Str) = some (qD x.1) := by rfl
theorem sf_high {x : Rat × Rat} : (spF x).lookup ("high" : Str) = some (qD x.2) := by rfl
section
variable {s t a b : Nat} {f : (Int × Int) × (Int × Int)}
end
theorem see_q {M : Mem} {k : Nat} {q : Rat} : See M (k + 1) (qD q) (toPy (qD q)) := see_fine qD_nil
end MV
namespace Prf
theorem sq_lt {q : Rat} (h : Sq q) : q.den < 2 ^ 32 := by have := h.d; omega
theorem l_spanInit {M : Mem} {Q : DK} {X : XM} {x : Rat × Rat} (hx : SpOk x) (k : Q .non (M ++ [.ins "Span" (spF x)])) : w_Span_UinitU [.ref M.length, qD x.1, qD x.2] (M ++ [.ins "Span" []]) Q X := by
  unfold w_Span_UinitU wOf
  rw [show startE N_Span_UinitU [.ref M.length, qD x.1, qD x.2] = [some (.ref M.length), some (qD x.1), some (qD x.2)] from rfl]
  unfold m_Span_UinitU
  walk_at "ml"
  refine l_before (sq_lt hx.b) (sq_lt hx.a) ?_
  walk_at "ml"
  refine if_d (fun h => absurd h hx.le) (fun _ => ?_)
  have e1 : (M ++ [O.ins "Span" []])[M.length]? = some (.ins "Span" []) := mnew
  walk_at "ml"
  refine x_setFldV (cs := ccs) (c := "Span") (y := qD x.1) (fs' := [("low", qD x.1)]) (fun Q X h => x_var rfl h) rfl e1 (by decide +kernel) (by simp) rfl ?_
  have e2 : (M ++ [O.ins "Span" [("low", qD x.1)]])[M.length]? = some (.ins "Span" [("low", qD x.1)]) := mnew
  rw [show (M ++ [O.ins "Span" []]).set M.length (.ins "Span" [("low", qD x.1)]) = M ++ [O.ins "Span" [("low", qD x.1)]] by simp]
  walk_at "ml"
  dsimp only
  refine x_setFldV (cs := ccs) (c := "Span") (y := qD x.2) (fs' := spF x) (fun Q X h => x_var rfl h) rfl e2 (by decide +kernel) (by simp) (by rfl) ?_
  rw [show (M ++ [O.ins "Span" [("low", qD x.1)]]).set M.length (.ins "Span" (spF x)) = M ++ [O.ins "Span" (spF x)] by simp]
  exact k
theorem deq_q {x y : Rat} : deq (qD x) (qD y) = decide (x = y) := by
  by_cases h : x = y
  · subst h; simp [qD, deq, deqL]
  · rw [decide_eq_false h]
    have : ¬ (x.num = y.num ∧ x.den = y.den) := fun ⟨a, b⟩ => h (Rat.ext a b)
    unfold qD
    simp only [deq, deqL, Bool.and_true]
    rw [Bool.and_eq_false_iff]
    by_cases h1 : x.num = y.num
    · right; have : ¬ ((x.den : Int) = y.den) := fun e => this ⟨h1, by omega⟩; simp [this]
    · left; simp [h1]
end Prf

namespace MV
def inS (x : Rat × Rat) (a : Rat) : Bool := !decide (a < x.1) && !decide (x.2 < a)
def shS (q : Rat) : Str := if q.den = 1 then iS q.num else iS q.num ++ "/" ++ iS (q.den : Int)
def spS (x : Rat × Rat) : Str := shS x.1 ++ ".." ++ shS x.2
theorem s_assoc {a b c : Str} : (a ++ b) ++ c = a ++ (b ++ c) := by
  have : ((a ++ b) ++ c).cps = (a ++ (b ++ c)).cps := by
    show (a.cps ++ b.cps) ++ c.cps = a.cps ++ (b.cps ++ c.cps)
    exact Array.append_assoc
  cases h : ((a ++ b) ++ c); cases h2 : (a ++ (b ++ c)); rw [h, h2] at this; exact congrArg Str.mk this
theorem asc_sl : Asc 1 (Str.ofString "/") := ⟨by decide +kernel, by decide +kernel⟩
theorem shS_asc {q : Rat} (h : Sq q) : Asc 9 (shS q) := by
  have h1 : Asc 4 (iS q.num) := iS_asc (k := 3) (by decide) (by have := h.n; omega)
  have h2 : Asc 4 (iS (q.den : Int)) := iS_asc (k := 3) (by decide) (by have := h.d; simp; omega)
  unfold shS
  split
  · exact h1.mono (by decide)
  · exact (h1.app asc_sl).app h2
theorem shS_len {q : Rat} (h : Sq q) : (shS q).length ≤ 9 := (shS_asc h).len
end MV
namespace Prf
theorem l_shown {M : Mem} {Q : DK} {X : XM} {q : Rat} (hq : Sq q) (h : Q (.str (shS q)) M) : w_shown [qD q] M Q X := by
  unfold w_shown wOf
  rw [show startE N_shown [qD q] = [some (qD q)] from rfl]
  unfold m_shown
  have hn := hq.n
  have hd := hq.d
  have a1 : Asc 4 (iS q.num) := iS_asc (k := 3) (by decide) (by omega)
  have a2 : Asc 4 (iS (q.den : Int)) := iS_asc (k := 3) (by decide) (by simp; omega)
  unfold shS at h
  walk_at "ml"
  refine o_q1 ?_
  walk_at "ml"
  refine if_d (fun c => ?_) (fun c => ?_)
  · rw [if_pos (by omega)] at h
    walk_at "ml"
    refine o_q0 ?_
    exact o_sI (by omega) h
  · rw [if_neg (by omega)] at h
    walk_at "ml"
    refine js_all (ys := [iS q.num, "/", iS (q.den : Int)]) (.cons (fun _ h => ?_) (.cons (fun _ h => ?_) (.cons (fun _ h => ?_) .nil))) ?_ rfl ?_
    · walk_at "ml"
      refine o_q0 ?_
      exact o_fmtI (by omega) h
    · walk_at "ml"; exact h
    · walk_at "ml"
      refine o_q1 ?_
      exact o_fmtI (by omega) h
    · have e : ("/" : Str).length = 1 := by decide +kernel
      have := a1.len
      have := a2.len
      simp [e]
      omega
    · simp only [List.foldl]
      rw [e_app]
      exact h
theorem l_Lword {M : Mem} {Q : DK} {X : XM} {q : Rat} (hq : Sq q) (h : Q (.str (shS q)) M) : w_Lword [qD q] M Q X := by
  unfold w_Lword wOf
  rw [show startE N_Lword [qD q] = [some (qD q)] from rfl]
  unfold m_Lword
  have hn := hq.n
  have hd := hq.d
  have a1 : Asc 4 (iS q.num) := iS_asc (k := 3) (by decide) (by omega)
  have a2 : Asc 4 (iS (q.den : Int)) := iS_asc (k := 3) (by decide) (by simp; omega)
  unfold shS at h
  walk_at "ml"
  refine o_q1 ?_
  walk_at "ml"
  refine if_d (fun c => ?_) (fun c => ?_)
  · rw [if_pos (by omega)] at h
    walk_at "ml"
    refine o_q0 ?_
    exact o_sI (by omega) h
  · rw [if_neg (by omega)] at h
    walk_at "ml"
    refine o_q0 ?_
    walk_at "ml"
    refine o_sI (i := q.num) (by omega) ?_
    walk_at "ml"
    refine o_addA a1 asc_sl (by decide) ?_
    walk_at "ml"
    refine o_q1 ?_
    walk_at "ml"
    refine o_sI (i := (q.den : Int)) (by omega) ?_
    refine o_addA (a1.app asc_sl) a2 (by decide) ?_
    exact h
theorem l_spanStr {M : Mem} {Q : DK} {X : XM} {n : Nat} {x : Rat × Rat} (h : M[n]? = some (.ins "Span" (spF x))) (hx : SpOk x) (k : Q (.str (spS x)) M) : w_Span_UstrU [.ref n] M Q X := by
  unfold w_Span_UstrU wOf
  rw [show startE N_Span_UstrU [.ref n] = [some (.ref n)] from rfl]
  unfold m_Span_UstrU
  have b1 := shS_len hx.a
  have b2 := shS_len hx.b
  walk_at "ml"
  refine js_all (ys := [shS x.1, "..", shS x.2]) (.cons (fun _ q => ?_) (.cons (fun _ q => ?_) (.cons (fun _ q => ?_) .nil))) ?_ rfl ?_
  · walk_at "ml"
    refine x_fldV rfl h (by decide +kernel) sf_low ?_
    walk_at "ml"
    refine l_shown hx.a ?_
    exact o_fmtS (by omega) q
  · walk_at "ml"; exact q
  · walk_at "ml"
    refine x_fldV rfl h (by decide +kernel) sf_high ?_
    walk_at "ml"
    refine l_shown hx.b ?_
    exact o_fmtS (by omega) q
  · have e : (".." : Str).length = 2 := by decide +kernel
    simp [e]
    omega
  · simp only [List.foldl]
    rw [e_app]
    exact k
theorem l_holdsS {M : Mem} {Q : DK} {X : XM} {n : Nat} {x : Rat × Rat} {r : Rat} (h : M[n]? = some (.ins "Span" (spF x))) (hx : SpOk x) (hr : Sq r) (k : Q (.bl (inS x r)) M) : w_Span_holds [.ref n, qD r] M Q X := by
  unfold w_Span_holds wOf
  rw [show startE N_Span_holds [.ref n, qD r] = [some (.ref n), some (qD r)] from rfl]
  unfold m_Span_holds
  unfold inS at k
  walk_at "ml"
  refine x_notV ?_
  walk_at "ml"
  refine x_fldV rfl h (by decide +kernel) sf_low ?_
  walk_at "ml"
  refine l_before (sq_lt hr) (sq_lt hx.a) ?_
  dsimp only
  refine if_n (fun hc => ?_) (fun hc => ?_)
  · rw [decide_eq_false hc] at k
    refine x_notV ?_
    walk_at "ml"
    refine x_fldV rfl h (by decide +kernel) sf_high ?_
    walk_at "ml"
    refine l_before (sq_lt hx.b) (sq_lt hr) ?_
    exact k
  · rw [decide_eq_true hc] at k
    exact k
theorem l_LsaysB {M : Mem} {Q : DK} {X : XM} {b : Bool} (k : Q (.bl true) M) : w_Lsays [.bl b, .bl b] M Q X := by
  unfold w_Lsays wOf
  rw [show startE N_Lsays [.bl b, .bl b] = [some (.bl b), some (.bl b)] from rfl]
  unfold m_Lsays
  cases b with
  | true =>
    walk_at "ml"
    exact k
  | false =>
    walk_at "ml"
    exact k
end Prf

namespace MV
def rS (q : Rat) : Str := "(" ++ iS q.num ++ ", " ++ iS (q.den : Int) ++ ")"
def lateQ (a b : Rat) : Rat := if a < b then b else a
def soonQ (a b : Rat) : Rat := if b < a then b else a
theorem lateQ_comm (a b : Rat) : lateQ a b = lateQ b a := by
  unfold lateQ
  by_cases h : a < b
  · rw [if_pos h, if_neg (Rat.not_lt.mpr (Rat.le_of_lt h))]
  · by_cases h2 : b < a
    · rw [if_neg h, if_pos h2]
    · rw [if_neg h, if_neg h2]
      exact Rat.le_antisymm (Rat.not_lt.mp h2) (Rat.not_lt.mp h)
theorem soonQ_comm (a b : Rat) : soonQ a b = soonQ b a := by
  unfold soonQ
  by_cases h : b < a
  · rw [if_pos h, if_neg (Rat.not_lt.mpr (Rat.le_of_lt h))]
  · by_cases h2 : a < b
    · rw [if_neg h, if_pos h2]
    · rw [if_neg h, if_neg h2]
      exact Rat.le_antisymm (Rat.not_lt.mp h) (Rat.not_lt.mp h2)
theorem lateQ_sq {a b : Rat} (ha : Sq a) (hb : Sq b) : Sq (lateQ a b) := by unfold lateQ; split <;> assumption
theorem soonQ_sq {a b : Rat} (ha : Sq a) (hb : Sq b) : Sq (soonQ a b) := by unfold soonQ; split <;> assumption
theorem soon_late (a b : Rat) : ¬ lateQ a b < soonQ a b := by
  unfold lateQ soonQ
  by_cases h : a < b
  · rw [if_pos h, if_neg (Rat.not_lt.mpr (Rat.le_of_lt h))]; exact Rat.not_lt.mpr (Rat.le_of_lt h)
  · rw [if_neg h]
    by_cases h2 : b < a
    · rw [if_pos h2]; exact Rat.not_lt.mpr (Rat.le_of_lt h2)
    · rw [if_neg h2]; exact Rat.lt_irrefl
theorem late_ge (a b : Rat) : ¬ lateQ a b < b := by
  unfold lateQ
  by_cases h : a < b
  · rw [if_pos h]; exact Rat.lt_irrefl
  · rw [if_neg h]; exact h
theorem shown_q {q : Rat} : (toPy (qD q)).shown = rS q := by
  have e : (toPy (qD q)).shown = (("(" : Str) ++ (iS q.num ++ ", " ++ iS (q.den : Int))) ++ ")" := rfl
  rw [e]
  unfold rS
  simp only [s_assoc]
theorem rS_len {q : Rat} (h : Sq q) : (rS q).length ≤ 12 := by
  have h1 : Asc 4 (iS q.num) := iS_asc (k := 3) (by decide) (by have := h.n; omega)
  have h2 : Asc 4 (iS (q.den : Int)) := iS_asc (k := 3) (by decide) (by have := h.d; simp; omega)
  have a1 := h1.len
  have a2 := h2.len
  have e1 : ("(" : Str).length = 1 := by decide +kernel
  have e2 : (", " : Str).length = 2 := by decide +kernel
  have e3 : (")" : Str).length = 1 := by decide +kernel
  unfold rS
  simp only [len_app, e1, e2, e3]
  omega
theorem q_able {q : Rat} (h : Sq q) : (toPy (qD q)).showable = true := by
  have e : (toPy (qD q)).showable = (decide (q.num.natAbs.log2 < 1920) && (decide ((q.den : Int).natAbs.log2 < 1920) && true)) := rfl
  rw [e, decide_eq_true (log_ok (by have := h.n; omega)), decide_eq_true (log_ok (by have := h.d; simp; omega))]
  rfl
theorem o_reprQ {M : Mem} {q : Rat} {Q : DK} (h : Sq q) (k : Q (.str (rS q)) M) : oRepr [qD q] M Q := by
  refine ⟨rfl, _, see_q, q_able h, ?_, ?_⟩
  · rw [shown_q]
    exact Nat.le_trans (rS_len h) (by decide)
  · rw [shown_q]
    exact k
def sprS (x : Rat × Rat) : Str := "Span(" ++ rS x.1 ++ ", " ++ rS x.2 ++ ")"
end MV
namespace Prf
theorem l_some6 {M : Mem} {p q : Nat} {Q : DK} {X : XM} (F : Feed M p q) (k : ∀ (r : Rat) M', Sq r → Kp [p] M M' → Feed M' p q → Q (qD r) M') : w_Lsome_frac [.ref p, .int 6] M Q X := by
  unfold w_Lsome_frac wOf
  rw [show startE N_Lsome_frac [.ref p, .int 6] = [some (.ref p), some (.int 6), none] from rfl]
  unfold m_Lsome_frac
  walk_at "ml"
  refine ldraw F (by decide) (by decide) fun u M1 u0 u1 k1 F1 => ?_
  walk_at "mq"
  dsimp only
  with_reducible refine x_join (fun ρ M' => (∃ w : Int, ρ = [some (.ref p), some (.int 6), some (.int w)] ∧ 0 < w ∧ w ≤ 100) ∧ Kp [p] M M' ∧ Feed M' p q) ?_ ?_
  · intro K hK
    walk_at "ml"
    refine ldraw F1 (by decide) (by decide) fun e M2 _ _ k2 F2 => ?_
    walk_at "ml"
    refine if_d (fun _ => ?_) (fun _ => ?_)
    · walk_at "ml"
      exact hK _ _ ⟨⟨1 + u + 6, rfl, by omega, by omega⟩, k1.trans k2, F2⟩
    · walk_at "ml"
      exact hK _ _ ⟨⟨1 + u, rfl, by omega, by omega⟩, k1.trans k2, F2⟩
  rintro _ M2 ⟨⟨w, rfl, w0, w1⟩, k2, F2⟩
  walk_at "ml"
  refine o_mul (mul_ok' (by decide)) ?_
  walk_at "ml"
  refine ldraw F2 (by decide) (by decide) fun x M3 x0 x1 k3 F3 => ?_
  walk_at "ml"
  refine lfrac (by omega) (by omega) ?_
  exact k _ M3 (sq_of (by omega) w0 w1) (k2.trans k3) F3
theorem l_Llater {M : Mem} {Q : DK} {X : XM} {a b : Rat} (ha : Sq a) (hb : Sq b) (k : Q (qD (lateQ a b)) M) : w_Llater [qD a, qD b] M Q X := by
  unfold w_Llater wOf
  rw [show startE N_Llater [qD a, qD b] = [some (qD a), some (qD b)] from rfl]
  unfold m_Llater
  unfold lateQ at k
  walk_at "ml"
  refine llt (sq_lt ha) (sq_lt hb) ?_
  walk_at "ml"
  refine if_d (fun h => ?_) (fun h => ?_)
  · rw [if_pos h] at k
    walk_at "ml"
    exact k
  · rw [if_neg h] at k
    walk_at "ml"
    exact k
theorem l_Lsooner {M : Mem} {Q : DK} {X : XM} {a b : Rat} (ha : Sq a) (hb : Sq b) (k : Q (qD (soonQ a b)) M) : w_Lsooner [qD a, qD b] M Q X := by
  unfold w_Lsooner wOf
  rw [show startE N_Lsooner [qD a, qD b] = [some (qD a), some (qD b)] from rfl]
  unfold m_Lsooner
  unfold soonQ at k
  walk_at "ml"
  refine llt (sq_lt hb) (sq_lt ha) ?_
  walk_at "ml"
  refine if_d (fun h => ?_) (fun h => ?_)
  · rw [if_pos h] at k
    walk_at "ml"
    exact k
  · rw [if_neg h] at k
    walk_at "ml"
    exact k
theorem sp_no {x : Rat × Rat} : (spF x).lookup ("holds" : Str) = none ∧ (spF x).lookup ("meet" : Str) = none ∧ (spF x).lookup ("middle" : Str) = none ∧ (spF x).lookup ("single" : Str) = none := by
  constructor
  · rfl
  constructor
  · rfl
  constructor
  · rfl
  · rfl
theorem l_meet {M : Mem} {Q : DK} {X : XM} {n m : Nat} {x y : Rat × Rat} (h : M[n]? = some (.ins "Span" (spF x))) (h2 : M[m]? = some (.ins "Span" (spF y))) (hx : SpOk x) (hy : SpOk y)
    (k0 : soonQ x.2 y.2 < lateQ x.1 y.1 → Q .non M) (k1 : ¬ soonQ x.2 y.2 < lateQ x.1 y.1 → Q (.ref M.length) (M ++ [.ins "Span" (spF (lateQ x.1 y.1, soonQ x.2 y.2))])) : w_Span_meet [.ref n, .ref m] M Q X := by
  unfold w_Span_meet wOf
  rw [show startE N_Span_meet [.ref n, .ref m] = [some (.ref n), some (.ref m), none, none] from rfl]
  unfold m_Span_meet
  have h1 := lateQ_sq hx.a hy.a
  have h3 := soonQ_sq hx.b hy.b
  walk_at "mq"
  with_reducible refine x_join (fun ρ M' => ρ = [some (.ref n), some (.ref m), some (qD (lateQ x.1 y.1)), none] ∧ M = M') ?_ ?_
  · intro K hK
    walk_at "ml"
    refine x_fldV rfl h (by decide +kernel) sf_low ?_
    walk_at "ml"
    refine x_fldV rfl h2 (by decide +kernel) sf_low ?_
    walk_at "ml"
    refine l_before (sq_lt hx.a) (sq_lt hy.a) ?_
    walk_at "ml"
    refine if_d (fun c => ?_) (fun c => ?_)
    · refine x_fldV rfl h2 (by decide +kernel) sf_low ?_
      refine hK _ _ ⟨?_, rfl⟩
      unfold lateQ; rw [if_pos c]; rfl
    · refine x_fldV rfl h (by decide +kernel) sf_low ?_
      refine hK _ _ ⟨?_, rfl⟩
      unfold lateQ; rw [if_neg c]; rfl
  rintro _ _ ⟨rfl, rfl⟩
  walk_at "mq"
  with_reducible refine x_join (fun ρ M' => ρ = [some (.ref n), some (.ref m), some (qD (lateQ x.1 y.1)), some (qD (soonQ x.2 y.2))] ∧ M = M') ?_ ?_
  · intro K hK
    walk_at "ml"
    refine x_fldV rfl h2 (by decide +kernel) sf_high ?_
    walk_at "ml"
    refine x_fldV rfl h (by decide +kernel) sf_high ?_
    walk_at "ml"
    refine l_before (sq_lt hy.b) (sq_lt hx.b) ?_
    walk_at "ml"
    refine if_d (fun c => ?_) (fun c => ?_)
    · refine x_fldV rfl h2 (by decide +kernel) sf_high ?_
      refine hK _ _ ⟨?_, rfl⟩
      unfold soonQ; rw [if_pos c]; rfl
    · refine x_fldV rfl h (by decide +kernel) sf_high ?_
      refine hK _ _ ⟨?_, rfl⟩
      unfold soonQ; rw [if_neg c]; rfl
  rintro _ _ ⟨rfl, rfl⟩
  walk_at "ml"
  refine l_before (sq_lt h3) (sq_lt h1) ?_
  walk_at "ml"
  refine if_d (fun c => ?_) (fun c => ?_)
  · walk_at "ml"
    exact k0 c
  · walk_at "ml"
    refine ⟨⟨rfl, rfl⟩, ?_⟩
    refine l_spanInit (x := (lateQ x.1 y.1, soonQ x.2 y.2)) ⟨h1, h3, c⟩ ?_
    exact k1 c
theorem half_q : D.tup [.int 1, .int 2] = qD ((1 : Rat) / 2) := by
  unfold qD
  rw [show ((1 : Rat) / 2).num = 1 from by decide +kernel, show ((1 : Rat) / 2).den = 2 from by decide +kernel]
  rfl
theorem sq_add {a b : Rat} (ha : Sq a) (hb : Sq b) : (a + b).den ≤ 10000 := by
  have h := DD.add (n := a.den * b.den) (a := a) (b := b) (Nat.mul_pos a.den_pos b.den_pos) (Nat.dvd_mul_right _ _) (Nat.dvd_mul_left _ _)
  have := Nat.le_of_dvd (Nat.mul_pos a.den_pos b.den_pos) h
  exact Nat.le_trans this (Nat.mul_le_mul ha.d hb.d)
theorem half_n : ((1 : Rat) / 2).den < 2 ^ 32 ∧ ((1 : Rat) / 2).num.natAbs < 2 ^ 64 := by decide +kernel
theorem l_middle {M : Mem} {Q : DK} {X : XM} {n : Nat} {x : Rat × Rat} (h : M[n]? = some (.ins "Span" (spF x))) (hx : SpOk x) (k : Q (qD ((x.1 + x.2) * (1 / 2))) M) : w_Span_middle [.ref n] M Q X := by
  unfold w_Span_middle wOf
  rw [show startE N_Span_middle [.ref n] = [some (.ref n)] from rfl]
  unfold m_Span_middle
  walk_at "ml"
  refine x_fldV rfl h (by decide +kernel) sf_low ?_
  walk_at "ml"
  refine x_fldV rfl h (by decide +kernel) sf_high ?_
  walk_at "ml"
  refine l_plus (sq_lt hx.a) (sq_lt hx.b) ?_
  walk_at "ml"
  rw [half_q]
  refine l_times (by have := sq_add hx.a hx.b; omega) half_n.1 half_n.2 ?_
  exact k
theorem l_Lmid {M : Mem} {Q : DK} {X : XM} {a b : Rat} (ha : Sq a) (hb : Sq b) (k : Q (qD ((a + b) * (1 / 2))) M) : w_Ltimes [qD (a + b), .tup [.int 1, .int 2]] M Q X := by
  rw [half_q]
  exact ltimes (by have := sq_add ha hb; omega) half_n.1 half_n.2 k
theorem l_single {M : Mem} {Q : DK} {X : XM} {n : Nat} {x : Rat × Rat} (h : M[n]? = some (.ins "Span" (spF x))) (k : Q (.bl (decide (x.1 = x.2))) M) : w_Span_single [.ref n] M Q X := by
  unfold w_Span_single wOf
  rw [show startE N_Span_single [.ref n] = [some (.ref n)] from rfl]
  unfold m_Span_single
  walk_at "ml"
  refine x_fldV rfl h (by decide +kernel) sf_low ?_
  refine x_fldV rfl h (by decide +kernel) sf_high ?_
  refine eqB_fine qD_nil qD_nil ?_
  rw [deq_q]
  exact k
theorem l_eqSS {M : Mem} {Q : DK} {n n2 : Nat} {x y : Rat × Rat} (h : M[n]? = some (.ins "Span" (spF x))) (h2 : M[n2]? = some (.ins "Span" (spF y))) (k : Q (.bl (decide (x.1 = y.1) && decide (x.2 = y.2))) M) : oEqO ccs "Span" w_Span_UeqU (fun ds _ => ds) (.ref n) (.ref n2) M Q := by
  have ty : tyK (.ref n2) M = some (.c "Span") := by unfold tyK; simp only; rw [h2]
  have ok : TyK.ok ccs (.c "Span") := by show ("Span" : Str) ∈ ccs; decide +kernel
  unfold oEqO
  dsimp only
  rw [h]
  refine ⟨rfl, ?_⟩
  rw [ty]
  refine ⟨ok, ?_⟩
  unfold w_Span_UeqU wOf
  rw [show startE N_Span_UeqU [.ref n, .ref n2] = [some (.ref n), some (.ref n2)] from rfl]
  unfold m_Span_UeqU
  walk_at "ml"
  unfold oIsiC
  dsimp only
  rw [ty]
  refine ⟨by decide +kernel, ok, ?_⟩
  rw [show TyK.is "Span" (.c "Span") = true from by decide +kernel]
  walk_at "ml"
  refine x_fldV rfl h (by decide +kernel) sf_low ?_
  refine x_fldV rfl h2 (by decide +kernel) sf_low ?_
  refine eqB_fine qD_nil qD_nil ?_
  rw [deq_q]
  dsimp only
  by_cases c : x.1 = y.1
  · rw [decide_eq_true c] at k ⊢
    rw [Bool.true_and] at k
    walk_at "ml"
    refine x_fldV rfl h (by decide +kernel) sf_high ?_
    refine x_fldV rfl h2 (by decide +kernel) sf_high ?_
    refine eqB_fine qD_nil qD_nil ?_
    rw [deq_q]
    exact k
  · rw [decide_eq_false c] at k ⊢
    rw [Bool.false_and] at k
    walk_at "ml"
    exact k
theorem l_eqST {M : Mem} {Q : DK} {n : Nat} {x : Rat × Rat} {y : D} {T : String} (h : M[n]? = some (.ins "Span" (spF x))) (ty : tyK y M = some (.b T)) (ht : T ∈ bts) (k : Q (.bl false) M) : oEqO ccs "Span" w_Span_UeqU (fun ds _ => ds) (.ref n) y M Q := by
  unfold oEqO
  dsimp only
  rw [h]
  refine ⟨rfl, ?_⟩
  rw [ty]
  refine ⟨ht, ?_⟩
  unfold w_Span_UeqU wOf
  rw [show startE N_Span_UeqU [.ref n, y] = [some (.ref n), some y] from rfl]
  unfold m_Span_UeqU
  walk_at "ml"
  unfold oIsiC
  dsimp only
  rw [ty]
  refine ⟨by decide +kernel, ht, ?_⟩
  walk_at "ml"
  exact k
def xBadSpan : Exn := ⟨"BadSpan", ["word"], [.str "bad span"]⟩
theorem l_spanBad {M : Mem} {n : Nat} {Q : DK} {X : XM} {x : Rat × Rat} (ha : Sq x.1) (hb : Sq x.2) (c : x.2 < x.1) (k : X xBadSpan M) : w_Span_UinitU [.ref n, qD x.1, qD x.2] M Q X := by
  unfold w_Span_UinitU wOf
  rw [show startE N_Span_UinitU [.ref n, qD x.1, qD x.2] = [some (.ref n), some (qD x.1), some (qD x.2)] from rfl]
  unfold m_Span_UinitU
  walk_at "ml"
  refine l_before (sq_lt hb) (sq_lt ha) ?_
  walk_at "ml"
  refine if_d (fun _ => ?_) (fun h => absurd c h)
  walk_at "ml"
  exact ⟨rfl, k⟩
theorem l_Lrefused {M : Mem} {Q : DK} {X : XM} {a b : Rat} (ha : Sq a) (hb : Sq b) (k : ∀ M', Kp [] M M' → Q (.bl (decide (b < a))) M') : w_Lrefused [qD a, qD b] M Q X := by
  unfold w_Lrefused wOf
  rw [show startE N_Lrefused [qD a, qD b] = [some (qD a), some (qD b), none, none] from rfl]
  unfold m_Lrefused
  refine x_seq (x_set (x_c ?_))
  dsimp only
  with_reducible refine x_join (fun ρ M' => ∃ o3, ρ = [some (qD a), some (qD b), some (.str (if b < a then "bad span" else "")), o3] ∧ Kp [] M M') ?_ ?_
  · intro K hK
    with_reducible refine x_try ?_
    walk_at "ml"
    refine ⟨⟨rfl, rfl⟩, ?_⟩
    by_cases c : b < a
    · refine l_spanBad (x := (a, b)) ha hb c ?_
      refine c_yesC (xc := "BadSpan") rfl (by decide +kernel) (by decide +kernel) fun ad dd => ?_
      walk_at "ml"
      refine x_xf rfl rfl ?_
      refine hK _ _ ⟨none, ?_, .app⟩
      rw [if_pos c]
      rfl
    · refine l_spanInit (x := (a, b)) ⟨ha, hb, c⟩ ?_
      refine hK _ _ ⟨none, ?_, .app⟩
      rw [if_neg c]
      rfl
  rintro _ M' ⟨o3, rfl, k'⟩
  walk_at "ml"
  refine o_eqS ?_
  by_cases c : b < a
  · have := k M' k'
    rw [decide_eq_true c] at this
    rw [if_pos c, decide_eq_true rfl]
    exact this
  · have := k M' k'
    rw [decide_eq_false c] at this
    rw [if_neg c, decide_eq_false (by decide +kernel)]
    exact this
theorem l_strS {M : Mem} {Q : DK} {n : Nat} {x : Rat × Rat} (h : M[n]? = some (.ins "Span" (spF x))) (hx : SpOk x) (k : Q (.str (spS x)) M) : oStrO "Span" w_Span_UstrU (fun ds _ => ds) [.ref n] M Q := by
  unfold oStrO
  dsimp only
  rw [h]
  exact ⟨rfl, l_spanStr h hx k⟩
theorem l_reprS {M : Mem} {Q : DK} {n : Nat} {x : Rat × Rat} (h : M[n]? = some (.ins "Span" (spF x))) (hx : SpOk x) (k : Q (.str (sprS x)) M) : oStrO "Span" w_Span_UreprU (fun ds _ => ds) [.ref n] M Q := by
  unfold oStrO
  dsimp only
  rw [h]
  refine ⟨rfl, ?_⟩
  unfold w_Span_UreprU wOf
  rw [show startE N_Span_UreprU [.ref n] = [some (.ref n)] from rfl]
  unfold m_Span_UreprU
  have b1 := rS_len hx.a
  have b2 := rS_len hx.b
  walk_at "ml"
  have fm : ∀ {f : Str} {z : Rat} {Q : DK} {X : XM}, (spF x).lookup f = some (qD z) → Sq z → Q (.str (rS z)) M → mUn oFmtD (mFld ccs (mVar 0) f) [some (.ref n)] M Q X := fun h1 hz q => by
    refine x_un (x_fldV rfl h (by decide +kernel) h1 ?_)
    exact o_reprQ hz q
  refine js_all (ys := ["Span(", rS x.1, ", ", rS x.2, ")"]) (.cons (fun _ q => ?_) (.cons (fun _ q => ?_) (.cons (fun _ q => ?_) (.cons (fun _ q => ?_) (.cons (fun _ q => ?_) .nil))))) ?_ rfl ?_
  · walk_at "ml"; exact q
  · exact fm sf_low hx.a q
  · walk_at "ml"; exact q
  · exact fm sf_high hx.b q
  · walk_at "ml"; exact q
  · have e1 : ("Span(" : Str).length = 5 := by decide +kernel
    have e2 : (", " : Str).length = 2 := by decide +kernel
    have e3 : (")" : Str).length = 1 := by decide +kernel
    simp [e1, e2, e3]
    omega
  · simp only [List.foldl]
    rw [e_app]
    exact k
end Prf

namespace Prf
theorem o_addLL {M : Mem} {Q : DK} {p q : Nat} {ds es : List D} (e1 : M[p]? = some (.lst ds)) (e2 : M[q]? = some (.lst es)) (hl : ds.length + es.length ≤ 1000000) (h : Q (.ref M.length) (M ++ [.lst (ds ++ es)])) : oAdd (.ref p) (.ref q) M Q := by
  unfold oAdd; dsimp only; rw [e1, e2]; exact ⟨by omega, h⟩
theorem o_neB4 {a b : Bool} {M : Mem} {Q : DK} (q : Q (.bl (!(a == b))) M) : oNe (.bl a) (.bl b) M Q := eqB_fine (by rfl) (by rfl) (by simpa [deq] using q)
theorem five_q {rs : List Rat} (h : rs.length = 5) : ∃ a b c d e, rs = [a, b, c, d, e] := by
  match rs, h with
  | [a, b, c, d, e], _ => exact ⟨a, b, c, d, e, rfl⟩
theorem sp_of {a b : Rat} (ha : Sq a) (hb : Sq b) : SpOk (soonQ a b, lateQ a b) := ⟨soonQ_sq ha hb, lateQ_sq ha hb, soon_late a b⟩
abbrev env4 (ns : List Int) (p e : Nat) (c : Int) (x y : Rat × Rat) (o9 o10 o11 o12 o13 o14 : Option D) : Ev := [some (.kl (ns.map .int)), some (.ref p), some (.ref e), none, some (.int c), some (qD x.1), some (qD x.2), some (qD y.1), some (qD y.2), o9, o10, o11, o12, o13, o14]
theorem law_holds : ∀ ns : List Int, ns.length ≤ 63 → w_law [.kl (ns.map .int)] [] (fun d _ => d = .bl true) (fun _ _ => False) := by
  intro ns _
  unfold w_law wOf
  rw [show startE N_law [.kl (ns.map .int)] = [some (.kl (ns.map .int)), none, none, none, none, none, none, none, none, none, none, none, none, none, none] from rfl]
  unfold m_law
  walk_at "ml"
  refine lfeed fun M1 k1 F1 => ?_
  generalize List.length ([] : Mem) + 2 = p at F1 ⊢
  generalize List.length ([] : Mem) + 1 = q at F1
  walk_at "ml"
  refine ⟨⟨by decide, by decide⟩, ?_⟩
  have lt1 := F1.lt
  have hp1 : M1.length ∉ [p] := by simp; omega
  refine lc_ix (fun i acc M' => ∃ rs : List Rat, acc = rs.map qD ∧ rs.length = i ∧ (∀ r ∈ rs, Sq r) ∧ Kp [p] M1 M' ∧ Feed M' p q) (fun _ _ _ _ => trivial) ?_ ?_ (by rw [rng_len]; decide) mnew ⟨[], rfl, rfl, by simp, .app, F1.app⟩
  · rintro i e acc M3 K he h3 ⟨rs, rfl, hw, hs, k3, F3⟩ hK
    walk_at "ml"
    refine l_some6 F3 fun r M4 hr k4 F4 => ?_
    refine hK _ _ (k4.at_ _ _ hp1 h3) ⟨rs ++ [r], by simp, by simp [hw], fun z hz => ?_, (k3.trans k4).setNew (Nat.le_refl _), F4.kp (S := [M1.length]) (.set (by simp)) (by simp; omega) (by simp; omega)⟩
    rcases List.mem_append.mp hz with h | h
    · exact hs z h
    · rw [List.mem_singleton.mp h]; exact hr
  rintro _ M2 gw ⟨rs, rfl, hw, hs, k2, F2⟩
  rw [rng_len] at hw
  obtain ⟨r0, r1, r2, r3, r4, rfl⟩ := five_q hw
  have s0 := hs r0 (by simp)
  have s1 := hs r1 (by simp)
  have s2 := hs r2 (by simp)
  have s3 := hs r3 (by simp)
  have lp := F2.lt
  generalize M1.length = e at *
  walk_at "ml"
  refine ldraw F2 (by decide) (by decide) fun c M3 c0 c1 k3 F3 => ?_
  replace gw : M3[e]? = some (.lst [qD r0, qD r1, qD r2, qD r3, qD r4]) := k3.at_ _ _ hp1 gw
  clear k3 k2 F2 lp
  walk_at "ml"
  refine l_Lsooner s0 s1 ?_
  walk_at "ml"
  refine l_Llater s0 s1 ?_
  walk_at "ml"
  refine l_Lsooner s2 s3 ?_
  walk_at "ml"
  refine l_Llater s2 s3 ?_
  obtain ⟨x, ex⟩ : ∃ x : Rat × Rat, x = (soonQ r0 r1, lateQ r0 r1) := ⟨_, rfl⟩
  have hx : SpOk x := ex ▸ sp_of s0 s1
  have ex1 : soonQ r0 r1 = x.1 := by rw [ex]
  have ex2 : lateQ r0 r1 = x.2 := by rw [ex]
  obtain ⟨y, ey⟩ : ∃ y : Rat × Rat, y = (soonQ r2 r3, lateQ r2 r3) := ⟨_, rfl⟩
  have hy : SpOk y := ey ▸ sp_of s2 s3
  have ey1 : soonQ r2 r3 = y.1 := by rw [ey]
  have ey2 : lateQ r2 r3 = y.2 := by rw [ey]
  rw [ex1, ex2, ey1, ey2]
  clear ex1 ex2 ey1 ey2 ex ey
  walk_at "mq"
  try dsimp only
  with_reducible refine x_join (fun ρ M' => ∃ y, SpOk y ∧ ρ = env4 ns p e c x y none none none none none none ∧ M3 = M') ?_ ?_
  · intro K hK
    walk_at "ml"
    refine if_d (fun _ => ?_) (fun _ => ?_)
    · walk_at "ml"
      refine l_Llater hy.b hx.b ?_
      exact hK _ _ ⟨(x.2, lateQ y.2 x.2), ⟨hx.b, lateQ_sq hy.b hx.b, late_ge _ _⟩, rfl, rfl⟩
    · walk_at "ml"
      exact hK _ _ ⟨y, hy, rfl, rfl⟩
  clear hy y
  rintro _ _ ⟨y, hy, rfl, rfl⟩
  walk_at "mq"
  try dsimp only
  with_reducible refine x_join (fun ρ M' => ∃ y, SpOk y ∧ ρ = env4 ns p e c x y none none none none none none ∧ M3 = M') ?_ ?_
  · intro K hK
    walk_at "ml"
    refine if_d (fun _ => ?_) (fun _ => ?_)
    · walk_at "ml"
      exact hK _ _ ⟨(y.1, y.1), ⟨hy.a, hy.a, Rat.lt_irrefl⟩, rfl, rfl⟩
    · walk_at "ml"
      exact hK _ _ ⟨y, hy, rfl, rfl⟩
  clear hy y
  rintro _ _ ⟨y, hy, rfl, rfl⟩
  walk_at "ml"
  refine ⟨⟨rfl, rfl⟩, ?_⟩
  refine l_spanInit hx ?_
  walk_at "ml"
  refine ⟨⟨rfl, rfl⟩, ?_⟩
  refine l_spanInit hy ?_
  rw [show (M3 ++ [O.ins "Span" (spF x)]).length = M3.length + 1 by simp]
  dsimp only
  have kA : Kp [] M3 (M3 ++ [O.ins "Span" (spF x)] ++ [O.ins "Span" (spF y)]) := Kp.app.trans .app
  have g1 : (M3 ++ [O.ins "Span" (spF x)] ++ [O.ins "Span" (spF y)])[M3.length]? = some (.ins "Span" (spF x)) := by simp
  have g2 : (M3 ++ [O.ins "Span" (spF x)] ++ [O.ins "Span" (spF y)])[M3.length + 1]? = some (.ins "Span" (spF y)) := by
    rw [show M3.length + 1 = (M3 ++ [O.ins "Span" (spF x)]).length by simp]; exact mnew
  replace gw := kA.at_ _ _ (by simp) gw
  generalize M3 ++ [O.ins "Span" (spF x)] ++ [O.ins "Span" (spF y)] = M4 at *
  generalize M3.length + 1 = n2 at *
  generalize M3.length = n1 at *
  clear kA F3
  -- what it holds
  walk_at "mq"
  with_reducible refine x_join (fun ρ M' => ∃ o11, ρ = env4 ns p e c x y (some (.ref n1)) (some (.ref n2)) o11 none none none ∧ Kp [] M4 M') ?_ ?_
  · intro K hK
    walk_at "ml"
    with_reducible refine x_iseq ?_
    walk_at "ml"
    have kL : Kp [] M4 (M4 ++ [O.lst [qD x.1, qD x.2]]) := .app
    refine o_addLL (kL.at_ _ _ (by simp) gw) mnew (by simp) ?_
    refine iseqL mnew ?_
    have kT : Kp [] M4 (M4 ++ [O.lst [qD x.1, qD x.2]] ++ [O.lst ([qD r0, qD r1, qD r2, qD r3, qD r4] ++ [qD x.1, qD x.2])]) := kL.trans .app
    have gT : (M4 ++ [O.lst [qD x.1, qD x.2]] ++ [O.lst ([qD r0, qD r1, qD r2, qD r3, qD r4] ++ [qD x.1, qD x.2])])[(M4 ++ [O.lst [qD x.1, qD x.2]]).length]? = some (.lst ([qD r0, qD r1, qD r2, qD r3, qD r4] ++ [qD x.1, qD x.2])) := mnew
    have h1 := kT.at_ _ _ (by simp) g1
    generalize M4 ++ [O.lst [qD x.1, qD x.2]] ++ [O.lst ([qD r0, qD r1, qD r2, qD r3, qD r4] ++ [qD x.1, qD x.2])] = M5 at *
    refine for_ix (fun i ρ M' => (∃ o11, ρ = env4 ns p e c x y (some (.ref n1)) (some (.ref n2)) o11 none none none) ∧ M5 = M') (fun _ _ _ h => by rw [← h.2]; exact gT) ?_ ?_ ⟨⟨_, rfl⟩, rfl⟩
    · rintro ρ _ ⟨⟨o11, rfl⟩, rfl⟩
      exact hK _ _ ⟨_, rfl, kT⟩
    rintro i d ρ _ K2 hd ⟨⟨o11, rfl⟩, rfl⟩ hK2
    obtain ⟨r, hr, rfl⟩ : ∃ r, Sq r ∧ d = qD r := by
      have := List.mem_of_getElem? hd
      rcases List.mem_append.mp this with h | h
      · obtain ⟨r, hm, rfl⟩ : ∃ r, r ∈ [r0, r1, r2, r3, r4] ∧ qD r = d := List.mem_map.mp h
        exact ⟨r, hs r hm, rfl⟩
      · simp only [List.mem_cons, List.not_mem_nil, or_false] at h
        rcases h with rfl | rfl
        · exact ⟨_, hx.a, rfl⟩
        · exact ⟨_, hx.b, rfl⟩
    walk_at "ml"
    refine x_methV rfl h1 sp_no.1 ?_
    walk_at "ml"
    refine l_holdsS h1 hx hr ?_
    walk_at "ml"
    refine x_notV ?_
    walk_at "ml"
    refine llt (sq_lt hr) (sq_lt hx.a) ?_
    dsimp only
    have fin : ∀ b : Bool, b = inS x r → w_Lsays [.bl (inS x r), .bl b] M5 (fun d M' => d = .bl true ∧ M5 = M') (fun _ _ => False) := fun b hb => by
      subst hb
      exact l_LsaysB ⟨rfl, rfl⟩
    unfold inS
    refine if_n (fun hc => ?_) (fun hc => ?_)
    · refine x_notV ?_
      walk_at "ml"
      refine llt (sq_lt hx.b) (sq_lt hr) ?_
      rw [decide_eq_false hc]
      walk_at "ml"
      refine l_LsaysB ?_
      walk_at "ml"
      exact hK2 _ _ ⟨⟨_, rfl⟩, rfl⟩
    · rw [decide_eq_true hc]
      walk_at "ml"
      refine l_LsaysB ?_
      walk_at "ml"
      exact hK2 _ _ ⟨⟨_, rfl⟩, rfl⟩
  rintro _ M5 ⟨o11, rfl, k5⟩
  replace g1 := k5.at_ _ _ (by simp) g1
  replace g2 := k5.at_ _ _ (by simp) g2
  clear k5 gw
  -- what both have
  walk_at "ml"
  refine l_Llater hx.a hy.a ?_
  walk_at "ml"
  refine l_Lsooner hx.b hy.b ?_
  have hl := lateQ_sq hx.a hy.a
  have hh := soonQ_sq hx.b hy.b
  walk_at "mq"
  with_reducible refine x_join (fun ρ M' => ∃ o14, ρ = env4 ns p e c x y (some (.ref n1)) (some (.ref n2)) o11 (some (qD (lateQ x.1 y.1))) (some (qD (soonQ x.2 y.2))) o14 ∧ Kp [] M5 M') ?_ ?_
  · intro K hK
    walk_at "ml"
    with_reducible refine x_iseq ?_
    walk_at "ml"
    refine x_methV rfl g1 sp_no.2.1 ?_
    walk_at "ml"
    refine l_meet g1 g2 hx hy (fun hc => ?_) (fun hc => ?_)
    · walk_at "ml"
      refine x_methV rfl g2 sp_no.2.1 ?_
      walk_at "ml"
      refine l_meet g2 g1 hy hx (fun _ => ?_) (fun h => absurd (by rw [soonQ_comm, lateQ_comm]; exact hc) h)
      walk_at "ml"
      refine iseqT ?_
      refine for_ix (fun i ρ M' => (∃ o14, ρ = env4 ns p e c x y (some (.ref n1)) (some (.ref n2)) o11 (some (qD (lateQ x.1 y.1))) (some (qD (soonQ x.2 y.2))) o14) ∧ M5 = M') (fun _ _ _ _ => trivial) ?_ ?_ ⟨⟨_, rfl⟩, rfl⟩
      · rintro ρ _ ⟨⟨o14, rfl⟩, rfl⟩
        exact hK _ _ ⟨_, rfl, .refl⟩
      rintro i d ρ _ K2 hd ⟨⟨o14, rfl⟩, rfl⟩ hK2
      obtain rfl : d = .non := by
        have := List.mem_of_getElem? hd
        simpa using this
      walk_at "ml"
      refine llt (sq_lt hh) (sq_lt hl) ?_
      walk_at "ml"
      refine if_d (fun _ => ?_) (fun h => absurd hc h)
      walk_at "ml"
      exact hK2 _ _ ⟨⟨_, rfl⟩, rfl⟩
    · have kA : Kp [] M5 (M5 ++ [O.ins "Span" (spF (lateQ x.1 y.1, soonQ x.2 y.2))]) := .app
      have ga : (M5 ++ [O.ins "Span" (spF (lateQ x.1 y.1, soonQ x.2 y.2))])[M5.length]? = some (.ins "Span" (spF (lateQ x.1 y.1, soonQ x.2 y.2))) := mnew
      have g1' := kA.at_ _ _ (by simp) g1
      have g2' := kA.at_ _ _ (by simp) g2
      generalize M5.length = na at *
      generalize M5 ++ [O.ins "Span" (spF (lateQ x.1 y.1, soonQ x.2 y.2))] = M6 at *
      walk_at "ml"
      refine x_methV rfl g2' sp_no.2.1 ?_
      walk_at "ml"
      refine l_meet g2' g1' hy hx (fun h => absurd h (by rw [soonQ_comm, lateQ_comm]; exact hc)) (fun _ => ?_)
      rw [soonQ_comm y.2, lateQ_comm y.1]
      have kB : Kp [] M6 (M6 ++ [O.ins "Span" (spF (lateQ x.1 y.1, soonQ x.2 y.2))]) := .app
      have gb : (M6 ++ [O.ins "Span" (spF (lateQ x.1 y.1, soonQ x.2 y.2))])[M6.length]? = some (.ins "Span" (spF (lateQ x.1 y.1, soonQ x.2 y.2))) := mnew
      have ga' := kB.at_ _ _ (by simp) ga
      have kAB := kA.trans kB
      generalize M6.length = nb at *
      generalize M6 ++ [O.ins "Span" (spF (lateQ x.1 y.1, soonQ x.2 y.2))] = M7 at *
      walk_at "ml"
      refine iseqT ?_
      refine for_ix (fun i ρ M' => (∃ o14, ρ = env4 ns p e c x y (some (.ref n1)) (some (.ref n2)) o11 (some (qD (lateQ x.1 y.1))) (some (qD (soonQ x.2 y.2))) o14) ∧ M7 = M') (fun _ _ _ _ => trivial) ?_ ?_ ⟨⟨_, rfl⟩, rfl⟩
      · rintro ρ _ ⟨⟨o14, rfl⟩, rfl⟩
        exact hK _ _ ⟨_, rfl, kAB⟩
      rintro i d ρ _ K2 hd ⟨⟨o14, rfl⟩, rfl⟩ hK2
      obtain ⟨z, rfl, gz⟩ : ∃ z, d = .ref z ∧ M7[z]? = some (.ins "Span" (spF (lateQ x.1 y.1, soonQ x.2 y.2))) := by
        have := List.mem_of_getElem? hd
        simp only [List.mem_cons, List.not_mem_nil, or_false] at this
        rcases this with rfl | rfl
        · exact ⟨_, rfl, ga'⟩
        · exact ⟨_, rfl, gb⟩
      have ty : tyK (.ref z) M7 = some (.c "Span") := by unfold tyK; simp only; rw [gz]
      have ok : TyK.ok ccs (.c "Span") := by show ("Span" : Str) ∈ ccs; decide +kernel
      walk_at "ml"
      refine llt (sq_lt hh) (sq_lt hl) ?_
      walk_at "ml"
      refine if_d (fun h => absurd h hc) (fun _ => ?_)
      walk_at "ml"
      unfold oIsiC
      dsimp only
      rw [ty]
      refine ⟨by decide +kernel, ok, ?_⟩
      rw [show TyK.is "Span" (.c "Span") = true from by decide +kernel]
      walk_at "ml"
      refine x_fldV rfl gz (by decide +kernel) sf_low ?_
      walk_at "ml"
      refine ne_same see_q see_q ?_
      walk_at "ml"
      refine x_fldV rfl gz (by decide +kernel) sf_high ?_
      walk_at "ml"
      refine ne_same see_q see_q ?_
      walk_at "ml"
      exact hK2 _ _ ⟨⟨_, rfl⟩, rfl⟩
  rintro _ M6 ⟨o14, rfl, k6⟩
  replace g1 := k6.at_ _ _ (by simp) g1
  replace g2 := k6.at_ _ _ (by simp) g2
  clear k6
  walk_at "ml"
  refine x_methV rfl g1 sp_no.2.2.1 ?_
  walk_at "ml"
  refine l_middle g1 hx ?_
  walk_at "ml"
  refine lplus (sq_lt hx.a) (sq_lt hx.b) ?_
  walk_at "ml"
  refine l_Lmid hx.a hx.b ?_
  refine ne_same see_q see_q ?_
  walk_at "ml"
  refine x_methV rfl g1 sp_no.2.2.2 ?_
  walk_at "ml"
  refine l_single g1 ?_
  walk_at "ml"
  refine eqB_fine qD_nil qD_nil ?_
  rw [deq_q]
  walk_at "ml"
  refine l_LsaysB ?_
  walk_at "ml"
  -- sameness
  refine l_eqSS g1 g2 ?_
  walk_at "ml"
  refine eqB_fine qD_nil qD_nil ?_
  rw [deq_q]
  dsimp only
  have fin : ∀ (Q : DK) (X : XM), Q (.bl (decide (x.1 = y.1) && decide (x.2 = y.2))) M6 → (if decide (x.1 = y.1) = true then mOp oEq (mVar 6) (mVar 8) (env4 ns p e c x y (some (.ref n1)) (some (.ref n2)) o11 (some (qD (lateQ x.1 y.1))) (some (qD (soonQ x.2 y.2))) o14) M6 Q X else Q (.bl false) M6) := fun Q X h => by
    refine if_d (fun hc => ?_) (fun hc => ?_)
    · rw [decide_eq_true hc, Bool.true_and] at h
      walk_at "ml"
      refine eqB_fine qD_nil qD_nil ?_
      rw [deq_q]
      exact h
    · rw [decide_eq_false hc, Bool.false_and] at h
      exact h
  refine fin _ _ ?_
  refine o_neB4 ?_
  rw [beq_self_eq_true]
  walk_at "ml"
  refine l_eqST (T := "tuple") g1 (by rfl) (by decide) ?_
  walk_at "ml"
  refine ⟨⟨rfl, rfl⟩, ?_⟩
  refine l_spanInit hx ?_
  dsimp only
  have kA : Kp [] M6 (M6 ++ [O.ins "Span" (spF x)]) := .app
  have gn : (M6 ++ [O.ins "Span" (spF x)])[M6.length]? = some (.ins "Span" (spF x)) := mnew
  replace g1 := kA.at_ _ _ (by simp) g1
  generalize M6.length = n3 at *
  generalize M6 ++ [O.ins "Span" (spF x)] = M7 at *
  clear kA g2 fin
  refine l_eqSS g1 gn ?_
  rw [decide_eq_true rfl, decide_eq_true rfl, Bool.true_and]
  walk_at "ml"
  refine l_Lrefused hx.b hx.a fun M8 k8 => ?_
  replace g1 := k8.at_ _ _ (by simp) g1
  walk_at "ml"
  refine eqB_fine qD_nil qD_nil ?_
  rw [deq_q]
  have el : decide (x.1 < x.2) = !decide (x.1 = x.2) := by
    by_cases hc : x.1 = x.2
    · rw [decide_eq_true hc, decide_eq_false (by rw [hc]; exact Rat.lt_irrefl)]; rfl
    · rw [decide_eq_false hc, decide_eq_true (Rat.lt_of_le_of_ne (Rat.not_lt.mp hx.le) hc)]; rfl
  rw [el]
  refine o_neB4 ?_
  rw [beq_self_eq_true]
  walk_at "ml"
  refine x_fldV rfl g1 (by decide +kernel) sf_low ?_
  walk_at "ml"
  refine ne_same see_q see_q ?_
  walk_at "ml"
  refine x_fldV rfl g1 (by decide +kernel) sf_high ?_
  walk_at "ml"
  refine ne_same see_q see_q ?_
  walk_at "ml"
  refine l_strS g1 hx ?_
  walk_at "ml"
  have a1 := shS_len hx.a
  have a2 := shS_len hx.b
  have b1 := rS_len hx.a
  have b2 := rS_len hx.b
  have e1 : ("Span(" : Str).length = 5 := by decide +kernel
  have e2 : (", " : Str).length = 2 := by decide +kernel
  have e3 : (")" : Str).length = 1 := by decide +kernel
  have e5 : (".." : Str).length = 2 := by decide +kernel
  refine l_Lword hx.a ?_
  walk_at "ml"
  refine o_addS (by rw [e5]; omega) ?_
  walk_at "ml"
  refine l_Lword hx.b ?_
  refine o_addS (by simp only [len_app, e5]; omega) ?_
  refine o_neS ?_
  rw [show decide (spS x = shS x.1 ++ ".." ++ shS x.2) = true from decide_eq_true rfl]
  walk_at "ml"
  refine l_reprS g1 hx ?_
  walk_at "ml"
  refine o_reprQ hx.a ?_
  refine o_addS (by simp only [len_app, e1]; omega) ?_
  walk_at "ml"
  refine o_addS (by simp only [len_app, e1, e2]; omega) ?_
  walk_at "ml"
  refine o_reprQ hx.b ?_
  refine o_addS (by simp only [len_app, e1, e2]; omega) ?_
  walk_at "ml"
  refine o_addS (by simp only [len_app, e1, e2, e3]; omega) ?_
  refine o_eqS ?_
  dsimp only
  rw [show decide (sprS x = "Span(" ++ rS x.1 ++ ", " ++ rS x.2 ++ ")") = true from decide_eq_true rfl]
end Prf

theorem PySem.Challenge.cw_dialweir_k04_stretches_holds : PySem.Challenge.rw_dialweir_k04_stretches.Holds :=
  Prf.cw_pre Prf.law_holds
