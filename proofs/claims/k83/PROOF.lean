import PyProof.Rows.All
import Wide.All
import OpenK.AllK
import Wide.FinOn
import PyProof.EqAt
import PyProof.EqKinds
import PyProof.TupleCall
import KE.KStateDown
import HandS.ForMost
import HandS.ForExc
import HandS.More
import HandS.Wide
import HandS.Style
import HandS.TupAny
import HandS.IsInst
import HandS.Defaults
import HandS.Conv
import HandS.Steps
import HandS.Codes
import HandS.Head0
import HandS.Head1
import HandS.Head2
import HandS.HeadEnd
import HandS.HeadHook1
import HandS.HeadHook2
import HandS.ExcInit
import HandS.ExcField
import HandS.CallSlots
import HandS.TryMany
import HandS.HeadHook3
import HandS.HeadHook4
import KE.GoesEnum
import PyProof.Draws
import PyProof.EnumMake
import HandS.Comp
import HandS.Iter
import HandS.Zip
import HandS.ListItems
import HandS.ListEq
import HandS.Deep
import HandS.DictComp
import HandS.RaiseMore
import HandS.WordsDict
import HandS.FStr
import HandS.RaiseOp
import HandS.StrMore
import HandS.MakeKwOnly
import HandS.MakeKw
import HandS.Small
import HandS.RaiseFrom
import KE.KCallOwn
import HandS.DictTup
import KE.DataFind
import PySem.Challenge.RW_dialweir_k83_nets_unlike_in_one_thing
set_option Elab.async false
set_option linter.all false
set_option maxRecDepth 100000
set_option maxHeartbeats 4000000
namespace DW
open PySem L2
section
variable {X : Cx}
/-- // by any divisor but 0, of less than 9000 bits -/
def CDivX (_ j : Int) : Prop := j ≠ 0 ∧ j.natAbs.log2 < 9000
theorem op_fdivX : OpR X (binaryOp .FloorDiv) (rI CDivX fun i j => .int (i.fdiv j)) :=
  opI fun _ _ _ _ _ _ _ hc q => PyProof.Rows.floordiv_int hc.1 q (.inl (PyProof.noPylong_of_log2 hc.2))
end
def Fr (K : PySem.W.Frag) (S : List Addr) (H H' : Hp) : Prop := (∀ a o, a ∉ S → H a = some o → H' a = some o) ∧ ∀ a xs, SqT K H a xs → SqT K H' a xs
theorem Same.tup {K : PySem.W.Frag} {H H' : Hp} {a : Addr} {xs : List V} (e : Same H H') (h : SqT K H a xs) : SqT K H' a xs := by
  rcases h with (h | ⟨o, h⟩) | h
  · exact .inl (.inl (e _ _ h))
  · exact .inl (.inr ⟨o, e _ _ h⟩)
  · exact .inr h
section
variable {K : PySem.W.Frag} {S S' : List Addr} {H H' H1 H2 : Hp} {a p : Addr} {o u : HO} {xs : List V}
theorem Fr.of (e : Same H H') : Fr K [] H H' := ⟨fun a o _ h => e a o h, fun _ _ h => Same.tup e h⟩
theorem Fr.refl (H : Hp) : Fr K [] H H := ⟨fun _ _ _ h => h, fun _ _ h => h⟩
theorem Fr.trans (a : Fr K S H H1) (b : Fr K S H1 H2) : Fr K S H H2 := ⟨fun c o n h => b.1 c o n (a.1 c o n h), fun c xs h => b.2 c xs (a.2 c xs h)⟩
theorem Fr.on (b : Fr K S H1 H2) (a : Fr K S H H1) : Fr K S H H2 := a.trans b
theorem Fr.sub (a : Fr K S H H1) (h : ∀ x, x ∈ S → x ∈ S') : Fr K S' H H1 := ⟨fun c o n => a.1 c o fun z => n (h c z), a.2⟩
theorem Fr.any (a : Fr K [] H H1) : Fr K S H H1 := a.sub (fun _ h => absurd h (by simp))
theorem Fr.new (h : H p = none) : Fr K S H (upd H p o) := (Fr.of (fun b o e => by rw [upd_ne (ne_of_none e h)]; exact e)).any
theorem Fr.get (e : Fr K S H H') (h : H a = some o) (n : a ∉ S) : H' a = some o := e.1 a o n h
/-- a list at p is written -/
theorem Fr.put {xs : List V} (h : H p = some (.lst xs)) : Fr K [p] H (upd H p o) := ⟨fun c u n e => by rw [upd_ne (fun z => n (by rw [z]; simp))]; exact e, fun c ys e => by
  rcases e with (e | ⟨q, e⟩) | e
  · exact .inl (.inl (by rw [upd_ne (fun z => by rw [z, h] at e; cases e)]; exact e))
  · exact .inl (.inr ⟨q, by rw [upd_ne (fun z => by rw [z, h] at e; cases e)]; exact e⟩)
  · exact .inr e⟩
end
mutual
inductive Tp (K : PySem.W.Frag) (H : Hp) : V → PyData → Prop
  | non : Tp K H .non .none
  | bl (b : Bool) : Tp K H (.bl b) (.bool b)
  | int (i : Int) : Tp K H (.int i) (.int i)
  | str (x : Str) : Tp K H (.str x) (.str x)
  | tup {a : Addr} {xs : List V} {ds : List PyData} : SqT K H a xs → TpAll K H xs ds → Tp K H (.ref a) (.tuple ds)
inductive TpAll (K : PySem.W.Frag) (H : Hp) : List V → List PyData → Prop
  | nil : TpAll K H [] []
  | cons {v : V} {vs : List V} {d : PyData} {ds : List PyData} : Tp K H v d → TpAll K H vs ds → TpAll K H (v :: vs) (d :: ds)
end
section
variable {K : PySem.W.Frag} {H H' : Hp}
mutual
theorem Tp.up {S : List Addr} (e : Fr K S H H') : ∀ {v : V} {d : PyData}, Tp K H v d → Tp K H' v d
  | _, _, .non => .non
  | _, _, .bl b => .bl b
  | _, _, .int i => .int i
  | _, _, .str x => .str x
  | _, _, .tup h a => .tup (e.2 _ _ h) (TpAll.up e a)
theorem TpAll.up {S : List Addr} (e : Fr K S H H') : ∀ {vs : List V} {ds : List PyData}, TpAll K H vs ds → TpAll K H' vs ds
  | _, _, .nil => .nil
  | _, _, .cons h a => .cons (Tp.up e h) (TpAll.up e a)
end
theorem TpAll.get {vs : List V} {ds : List PyData} (h : TpAll K H vs ds) : ∀ {i : Nat} {d : PyData}, ds[i]? = some d → ∃ v, vs[i]? = some v ∧ Tp K H v d := by
  induction ds generalizing vs with
  | nil => intro i d e; simp at e
  | cons d0 ds ih =>
    intro i d e
    cases h with
    | cons h1 h2 =>
      cases i with
      | zero =>
        simp only [List.getElem?_cons_zero, Option.some.injEq] at e
        subst e
        exact ⟨_, rfl, h1⟩
      | succ i => exact ih h2 e
theorem TpAll.len {vs : List V} {ds : List PyData} (h : TpAll K H vs ds) : vs.length = ds.length := by
  induction ds generalizing vs with
  | nil => cases h; rfl
  | cons d0 ds ih =>
    cases h with
    | cons h1 h2 => simp only [List.length_cons, ih h2]
end
abbrev mv (a b : Int) : PyData := .tuple [.int a, .int b]
structure Fn (P : Program) (w : World) (K : PySem.W.Frag) (mg : Str → Option Value) (base : Heap) (CX : CXT) (k : Nat) (x : Str) (ps : List Str) (dvs : List V) (sp : Sp) : Prop where
  ok : ∃ fd ds, FnOk P w K mg base CX k (He.ga K x) fd ps sp ∧ Vals dvs ds ∧ Binds K fd ps ds
  g : mg x = some (.ref (He.ga K x))
  kp : PySem.W.keepIn K (.ref (He.ga K x)) = true
def rPlus (K : PySem.W.Frag) : R2 := fun x y H Q => rI0 (fun i j => .int (i + j)) x y H Q ∨ (∃ i j, x = .str i ∧ y = .str j ∧ i.length + j.length ≤ sizeLine ∧ Q (.str (i ++ j)) H) ∨ rCatA K x y H Q ∨ rCat x y H Q
theorem op_plus {X : Cx} : OpR X (binaryOp .Add) (rPlus X.K) := OpR.or op_add (OpR.or op_add_str (OpR.or op_catA op_cat))
def rEqq (K : PySem.W.Frag) : R2 := fun x y H Q => rEq x y H Q ∨ rEqD K x y H Q
theorem op_eqq {X : Cx} (hu : X.A.units + 64 < cLine) : OpR X (compareOp .Eq) (rEqq X.K) := OpR.or op_eq (op_eqD hu)
def rNee (K : PySem.W.Frag) : R2 := fun x y H Q => rNe x y H Q ∨ rNeD K x y H Q
theorem op_nee {X : Cx} (hu : X.A.units + 64 < cLine) : OpR X (compareOp .NotEq) (rNee X.K) := OpR.or op_ne (op_neD hu)
def rAbs : List V → Hp → VK → Prop := fun xs H Q => ∃ i, xs = [.int i] ∧ Q (.int (if i < 0 then -i else i)) H
def rMin2 : List V → Hp → VK → Prop := fun xs H Q => ∃ i j, xs = [.int i, .int j] ∧ Q (.int (if j < i then j else i)) H
def rInt1 : List V → Hp → VK → Prop := fun xs H Q => (∃ i, xs = [.int i] ∧ Q (.int i) H) ∨ ∃ k, xs = [.bl k] ∧ Q (.int (if k then 1 else 0)) H
def rListOf (K : PySem.W.Frag) : List V → Hp → VK → Prop := fun xs H Q => ∃ p ys, xs = [.ref p] ∧ (SqL K H p ys ∨ SqT K H p ys) ∧ ∀ l, H l = none → Q (.ref l) (upd H l (.lst ys))
def rTupleOf (K : PySem.W.Frag) : List V → Hp → VK → Prop := fun xs H Q => ∃ p ys, xs = [.ref p] ∧ ((SqL K H p ys ∧ ∀ l, H l = none → Q (.ref l) (upd H l (.tup ys))) ∨ (SqT K H p ys ∧ Q (.ref p) H))
def rStrInt : List V → Hp → VK → Prop := fun xs H Q => ∃ i, xs = [.int i] ∧ i.natAbs.log2 < 1920 ∧ Q (.str (toString i)) H
def rStrStr : List V → Hp → VK → Prop := fun xs H Q => ∃ a, xs = [.str a] ∧ Q (.str a) H
def rIntStr : List V → Hp → VK → Prop := fun xs H Q => ∃ a n, xs = [.str a] ∧ PySem.intText? a = some n ∧ a.length ≤ 640 ∧ Q (.int n) H
theorem pe_gint {X : Cx} {x : Str} {pos : Pos} {i : Int} (hg : Gl X x) (h : ∃ t, X.mg x = some (.int i t)) (hdb : (x == ("__debug__" : Str)) = false := by decide) : PE X (.Name x pos) (tC (.int i)) := by
  obtain ⟨t, h⟩ := h
  exact pe_glob hg h ⟨_, rfl⟩ hdb
theorem pe_gstr {X : Cx} {x z : Str} {pos : Pos} (hg : Gl X x) (h : ∃ t, X.mg x = some (.str z t)) (hdb : (x == ("__debug__" : Str)) = false := by decide) : PE X (.Name x pos) (tC (.str z)) := by
  obtain ⟨t, h⟩ := h
  exact pe_glob hg h ⟨_, rfl⟩ hdb
end DW
namespace DW
open PySem L2
structure ClsFn (K : PySem.W.Frag) (C f : Addr) (m : Str) : Prop where
  rd : PySem.W.readsIn K C (.type "type") = true
  ga : PySem.W.specialIn K (.ref C) "__getattribute__" = some (some (.builtin "type.__getattribute__"))
  at_ : PySem.W.findCls K (.ref C) (.type "type") m = some (.val (.ref f))
  kp : PySem.W.keepIn K (.ref f) = true
theorem pe_clsfn {X : Cx} {CX : CXT} {k : Nat} {C f : Addr} {fd : FuncData} {ps : List Str} {sp : Sp} {E : XK} {x m : Str} {p1 p2 pos : Pos} {e : Expr} {es : List Expr} {t : TA} {pl : Sem Bool}
    (cf : ClsFn X.K C f m) (F : FnOk X.prog X.w X.K X.mg X.base CX k f fd ps sp) (hb : Binds X.K fd ps []) (hr : Room k X.A) (hg : Gl X x) (hm : X.mg x = some (.ref C)) (hx : Passes CX X E) (ha : PA X (e :: es) t)
    (hdb : (x == ("__debug__" : Str)) = false := by decide)
    (hc : eval (.Call (.Attribute (.Name x p1) m p2) (e :: es) [] pos) X.env = (do
      let ov ← eval (.Name x p1) X.env
      standAt p2.atName
      let (f, first) ← holding [ov] (getMethod ov m pl)
      callWith pos f first (backTo pos (starEach (e :: es) X.env)) (backToKw pos (keywordEach [] X.env))) := by rfl)
    (he : starEach (e :: es) X.env = (false, eval e X.env) :: starEach es X.env := by rfl) (hpl : (backTo pos (starEach es X.env)).any (·.1) = false := by rfl) :
    PE X (.Call (.Attribute (.Name x p1) m p2) (e :: es) [] pos) (tCall sp [] E t) := by
  refine ⟨fun pins s σ H Q I h => ?_⟩
  refine PySem.W.methodCall_KW (pl := pl) (ld_glob I hg hm ?_ hdb) hc
  refine PySem.W.method_cls I.kIn cf.ga (PySem.W.cls_value I.kIn cf.rd cf.at_ rfl ?_)
  have I' := I.tok (s.toks + 1)
  refine PySem.W.callWith_K (h₀ := X.base) I.ok.mod.kin cf.kp (thn (ha.run pos pins _ σ H _ I' h) fun us s1 ⟨vs, H1, I1, r, q⟩ => ⟨I1.kIn, ?_⟩) he hpl
  exact run_fn (dvs := []) F hr hb .nil hx I1 r q
def oexB (K : PySem.W.Frag) (C : Addr) : Bool :=
  (match K.lookup C with
  | some ⟨.type c, _, .cls cd, sl⟩ => decide (c = "type") && (match cd.mro, sl.toList with
    | .ref C' :: bm, [_, _, _, _, some (.builtin n), _] => decide (C' = C) && (decide (n = "ValueError.__new__") && (!cd.hasDel && (cd.hasDict && PySem.HandSPX.refsVE bm)))
    | _, _ => false)
  | _ => false) && (decide (PySem.W.findIn K (.ref C) "__setattr__" = some (some (.builtin "object.__setattr__"))) && (decide (PySem.W.subIn K (.ref C) (.type "BaseException") = some true) && (decide (PySem.W.typeIn K (.ref C) = some (.type "type")) && PySem.W.keepIn K (.ref C))))
theorem oexB_ok {K : PySem.W.Frag} {C : Addr} (h : oexB K C = true) : OexC K C := by
  unfold oexB at h
  obtain ⟨h1, h⟩ := Bool.and_eq_true_iff.mp h
  obtain ⟨h2, h⟩ := Bool.and_eq_true_iff.mp h
  obtain ⟨h3, h⟩ := Bool.and_eq_true_iff.mp h
  obtain ⟨h4, h5⟩ := Bool.and_eq_true_iff.mp h
  refine ⟨?_, of_decide_eq_true h2, of_decide_eq_true h3, of_decide_eq_true h4, h5⟩
  cases e : K.lookup C with
  | none => rw [e] at h1; cases h1
  | some o =>
    obtain ⟨oc, od, dt, sl⟩ := o
    rw [e] at h1
    cases oc with
    | type c =>
      cases dt with
      | cls cd =>
        obtain ⟨g1, g2⟩ := Bool.and_eq_true_iff.mp h1
        have e1 := of_decide_eq_true g1
        subst e1
        obtain ⟨nm, bs, mro, ns, qn, hd, sn, sub, ab, col, del⟩ := cd
        obtain ⟨l⟩ := sl
        dsimp only at g2
        split at g2
        · rename_i C' bm k0 k1 k2 k3 n k5
          obtain ⟨a1, g2⟩ := Bool.and_eq_true_iff.mp g2
          obtain ⟨a2, g2⟩ := Bool.and_eq_true_iff.mp g2
          obtain ⟨a3, g2⟩ := Bool.and_eq_true_iff.mp g2
          obtain ⟨a4, a5⟩ := Bool.and_eq_true_iff.mp g2
          have b1 := of_decide_eq_true a1
          have b2 := of_decide_eq_true a2
          have b3 : del = false := by simpa using a3
          subst b1 b2 b3 a4
          exact ⟨_, _, _, _, _, _, _, _, _, _, _, _, _, _, _, rfl, a5⟩
        · cases g2
      | _ => cases h1
    | _ => cases dt <;> cases h1
def clsFnB (K : PySem.W.Frag) (C f : Addr) (m : Str) : Bool := PySem.W.readsIn K C (.type "type") && (decide (PySem.W.specialIn K (.ref C) "__getattribute__" = some (some (.builtin "type.__getattribute__"))) &&
  ((match PySem.W.findCls K (.ref C) (.type "type") m with | some (.val v) => decide (v = .ref f) | _ => false) && PySem.W.keepIn K (.ref f)))
theorem clsFnB_ok {K : PySem.W.Frag} {C f : Addr} {m : Str} (h : clsFnB K C f m = true) : ClsFn K C f m := by
  unfold clsFnB at h
  obtain ⟨h1, h⟩ := Bool.and_eq_true_iff.mp h
  obtain ⟨h2, h⟩ := Bool.and_eq_true_iff.mp h
  obtain ⟨h3, h4⟩ := Bool.and_eq_true_iff.mp h
  refine ⟨h1, of_decide_eq_true h2, ?_, h4⟩
  split at h3
  · rename_i v e
    rw [e, of_decide_eq_true h3]
  · cases h3
/-- all that is wanted of an exception class by its name; fs: the names of its fields -/
structure ExcX (K : PySem.W.Frag) (mg : Str → Option Value) (x : Str) (fs : List Str) : Prop where
  g : mg x = some (.ref (He.ga K x))
  oex : OexC K (He.ga K x)
  xf : XfC K (He.ga K x)
  no : ∀ f ∈ fs, PySem.W.findIn K (.ref (He.ga K x)) f = some none
  init : PySem.W.findIn K (.ref (He.ga K x)) "__init__" = some (some (.ref (He.ma K (He.ga K x) "__init__")))
  tI : PySem.W.typeIn K (.ref (He.ma K (He.ga K x) "__init__")) = some (.type "function")
  cf : ClsFn K (He.ga K x) (He.ma K (He.ga K x) "__init__") "__init__"
def excXB (K : PySem.W.Frag) (x : Str) (fs : List Str) : Bool := oexB K (He.ga K x) && (xfB K (He.ga K x) && (fs.all (fun f => decide (PySem.W.findIn K (.ref (He.ga K x)) f = some none)) &&
  (decide (PySem.W.findIn K (.ref (He.ga K x)) "__init__" = some (some (.ref (He.ma K (He.ga K x) "__init__")))) && (decide (PySem.W.typeIn K (.ref (He.ma K (He.ga K x) "__init__")) = some (.type "function")) && clsFnB K (He.ga K x) (He.ma K (He.ga K x) "__init__") "__init__"))))
theorem excXB_ok {K : PySem.W.Frag} {mg : Str → Option Value} {x : Str} {fs : List Str} (g : mg x = some (.ref (He.ga K x))) (h : excXB K x fs = true) : ExcX K mg x fs := by
  unfold excXB at h
  obtain ⟨h1, h⟩ := Bool.and_eq_true_iff.mp h
  obtain ⟨h2, h⟩ := Bool.and_eq_true_iff.mp h
  obtain ⟨h3, h⟩ := Bool.and_eq_true_iff.mp h
  obtain ⟨h4, h⟩ := Bool.and_eq_true_iff.mp h
  obtain ⟨h5, h6⟩ := Bool.and_eq_true_iff.mp h
  exact ⟨g, oexB_ok h1, xfB_ok h2, fun f hf => of_decide_eq_true (List.all_eq_true.mp h3 f hf), of_decide_eq_true h4, of_decide_eq_true h5, clsFnB_ok h6⟩
def veB (K : PySem.W.Frag) : Bool := match PySem.W.findCls K (.type "ValueError") (.type "type") "__init__" with | some (.val v) => decide (v = .builtin "ValueError.__init__") | _ => false
theorem veB_ok {K : PySem.W.Frag} (h : veB K = true) : PySem.W.findCls K (.type "ValueError") (.type "type") "__init__" = some (.val (.builtin "ValueError.__init__")) := by
  unfold veB at h
  split at h
  · rename_i v e
    rw [e, of_decide_eq_true h]
  · cases h
end DW
namespace DW
open PySem L2
structure FnM (P : Program) (w : World) (K : PySem.W.Frag) (mg : Str → Option Value) (base : Heap) (CX : CXT) (k : Nat) (x m : Str) (ps : List Str) (sp : Sp) : Prop where
  ok : ∃ fd, FnOk P w K mg base CX k (He.ma K (He.ga K x) m) fd ps sp ∧ Binds K fd ps []
section
variable {X : Cx} {CX : CXT} {k : Nat} {ps : List Str} {sp : Sp} {E : XK} {x : Str} {fs : List Str} {p p1 p2 pos : Pos} {e : Expr} {es : List Expr} {ta t : TA}
/-- C.__init__(self, ..) -/
theorem pe_init {pl : Sem Bool} (c : ExcX X.K X.mg x fs) (F : FnM X.prog X.w X.K X.mg X.base CX k x "__init__" ps sp) (hr : Room k X.A) (hg : Gl X x) (hx : Passes CX X E) (ha : PA X (e :: es) t) (hdb : (x == ("__debug__" : Str)) = false := by decide)
    (hc : eval (.Call (.Attribute (.Name x p1) "__init__" p2) (e :: es) [] pos) X.env = (do
      let ov ← eval (.Name x p1) X.env
      standAt p2.atName
      let (f, first) ← holding [ov] (getMethod ov "__init__" pl)
      callWith pos f first (backTo pos (starEach (e :: es) X.env)) (backToKw pos (keywordEach [] X.env))) := by rfl)
    (he : starEach (e :: es) X.env = (false, eval e X.env) :: starEach es X.env := by rfl) (hpl : (backTo pos (starEach es X.env)).any (·.1) = false := by rfl) :
    PE X (.Call (.Attribute (.Name x p1) "__init__" p2) (e :: es) [] pos) (tCall sp [] E t) := by
  obtain ⟨fd, G, hb⟩ := F.ok
  exact pe_clsfn (pl := pl) c.cf G hb hr hg c.g hx ha hdb hc he hpl
theorem pmk_x (c : ExcX X.K X.mg x fs) (F : FnM X.prog X.w X.K X.mg X.base CX0 k x "__init__" ps sp) (hr : Room (k + 1) X.A) (hg : Gl X x) (ha : PA X (e :: es) ta) (hdb : (x == ("__debug__" : Str)) = false := by decide)
    (he : starEach (e :: es) X.env = (false, eval e X.env) :: starEach es X.env := by rfl) (hpl : (backTo pos (starEach es X.env)).any (·.1) = false := by rfl) : PMk X (.Call (.Name x p) (e :: es) [] pos) (tMkO (He.ga X.K x) sp [] ta) := by
  obtain ⟨fd, G, hb⟩ := F.ok
  exact pmk_oex c.oex c.init c.tI G hr hb .nil pass0 hg c.g ha hdb he hpl
end
section
variable {K : PySem.W.Frag} {σ : St} {H H' : Hp} {Q : VK} {N B C : St → Hp → Prop} {R : VK} {sp : Sp} {dvs : List V} {ES : St → XK} {tr : TA} {te : TE} {E : XK} {W : WX} {tm : St → Hp → XK → Prop} {QX : XK} {x : Str} {fs : List Str} {mg : Str → Option Value}
/-- what an exception's __init__ promises: its fields -/
def spInitAt (K : PySem.W.Frag) (a : Addr) (H : Hp) (Q : VK) (fl : List (Str × V)) : Prop := ∃ C, H a = some (exo a C none) ∧ OexC K C ∧ (∀ f ∈ fl.map (·.1), PySem.W.findIn K (.ref C) f = some none) ∧
  ∀ dx, H dx = none → dx ≠ a → Q .non (upd (upd H dx (exd dx fl)) a (exo a C (some dx)))
theorem mk_heap {H : Hp} {a d : Addr} {o o1 o2 o3 : HO} (ha : H a = none) (hd : d ≠ a) : upd (del (upd (upd (upd H a o) d o1) a o2) a) d o3 = upd H d o3 := by
  funext b
  by_cases h1 : b = d
  · subst h1; rw [upd_same, upd_same]
  · rw [upd_ne h1, upd_ne h1]
    by_cases h2 : b = a
    · subst h2; rw [del_same, ha]
    · rw [del_ne h2, upd_ne h2, upd_ne h1, upd_ne h2]
end
end DW
namespace DW
def allT : List Bool → Bool
  | [] => true
  | b :: r => b && allT r
theorem allT_get : ∀ {l : List Bool}, allT l = true → ∀ (i : Nat) {b : Bool}, l[i]? = some b → b = true
  | [], _, i, _, e => by simp at e
  | c :: r, h, 0, b, e => by
    obtain ⟨h1, _⟩ := Bool.and_eq_true_iff.mp (show (c && allT r) = true from h)
    have e2 : c = b := Option.some.inj e
    rw [← e2]; exact h1
  | c :: r, h, i + 1, b, e => allT_get (Bool.and_eq_true_iff.mp (show (c && allT r) = true from h)).2 i (show r[i]? = some b from e)
end DW
namespace DW
open PySem L2
section
variable {K : PySem.W.Frag} {σ : St} {H H' : Hp} {Q : VK} {N B C : St → Hp → Prop} {R : VK} {c cls : Value} {i : Nat} {tb : WX → TS} {ts : Addr → Value → Option Addr → TS} {Wout : WX} {d : Option Addr} {x f : Str} {fs : List Str} {mg : Str → Option Value} {v : V} {fl : List (Str × V)} {a dd : Addr}
end
end DW
namespace DW
open PySem L2
/-- the classes and their dicts first: they are looked up most -/
def asE (g : Addr → Option Obj) (n : Nat) : List Addr :=
  let base := (List.range n).reverse
  let cs := base.filter fun a => match g a with | some ⟨_, _, .cls _, _⟩ => true | _ => false
  mainGlobals :: cs ++ (cs.filterMap fun a => match g a with | some ⟨_, _, .cls cd, _⟩ => some cd.ns | _ => none) ++ base
abbrev AlE : Type := He.AlD × Bool
def obsK (fa : List He.Fa) (fn : List He.DefD) (ex : PySem.W.Frag → Bool) (K : PySem.W.Frag) : AlE := (He.obsD fa fn K, ex K)
def obsE (n : Nat) (fa : List He.Fa) (fn : List He.DefD) (ex : PySem.W.Frag → Bool) (g : Addr → Option Obj) : AlE := obsK fa fn ex (He.frG g (asE g n))
structure SaysE (fa : List He.Fa) (fn : List He.DefD) (ex : PySem.W.Frag → Bool) (K : PySem.W.Frag) : Prop where
  d : He.SaysD fa fn K
  more : ex K = true
def hookE (n : Nat) (fa : List He.Fa) (fn : List He.DefD) (ex : PySem.W.Frag → Bool) : PySem.W.Hook where
  α := AlE
  obs := fun s => obsE n fa fn ex s.heap.get?
  val := fun _ => (He.valD fn, true)
  says := fun _ h => ∃ K : PySem.W.Frag, K.In h ∧ SaysE fa fn ex K
  of := fun _ _ e => ⟨_, He.frG_in, ⟨congrArg (fun z : AlE => z.1) e, congrArg (fun z : AlE => z.2) e⟩⟩
  keeps := fun _ _ _ ⟨K, hK, c⟩ k => ⟨K, PySem.W.Frag.In.keeps hK k, c⟩
theorem obsE_eq {n : Nat} {fa : List He.Fa} {fn : List He.DefD} {ex : PySem.W.Frag → Bool} {g : Addr → Option Obj} {s : Shared} (h : ∀ a, g a = s.heap.get? a) : obsE n fa fn ex g = (hookE n fa fn ex).obs s := by
  have e : g = s.heap.get? := funext h
  rw [e]
  rfl
end DW
namespace DW
open PySem PySem.Spec PyProof.Rows L2
open Sem (wp)
set_option maxHeartbeats 1000000 in
theorem meets_enum_new1 {v : Value} {o : Obj} {H : Heap → Prop} (B : Begins v o H) :
    Meets (Builtin.«enumerate.__new__» ⟨[.type "enumerate", v], []⟩) (fun _ R s => H s.heap ∧
      R (.ok (.ret (.ref (s.heap.push o).objs.size))) { s with heap := (s.heap.push o).push { cls := .type "enumerate", data := .fields #[.none, .bool false, .ref s.heap.objs.size, rawInt 0, .none, .none] } }) :=
  .of_wp fun prog w A R s h => by
    obtain ⟨hp, g, d, tk, os⟩ := s; obtain ⟨h1, h⟩ := h
    have hsub := sub_enumerate
    have q1 : ∀ {A' : Around} {E : Value → Shared → Prop} {Q : Value → Shared → Prop}, Q (.ref hp.objs.size) ⟨hp.push o, g, d, tk, os⟩ → wpAny (model prog w) A' (pyIter v) Q E ⟨hp, g, d, tk, os⟩ :=
      fun q => B.iter prog w _ _ ⟨hp, g, d, tk, os⟩ _ h1 q
    wp_walk using q1
    refine wpAny_stack_any fun st => wpAny_pure ?_
    split
    · rename_i c _ _ _ _ _
      cases (c == Value.type "enumerate")
      · wp_walk using q1
        exact ⟨_, rfl, h⟩
      · wp_walk using q1
        exact ⟨_, rfl, h⟩
    · wp_walk using q1
      exact ⟨_, rfl, h⟩
theorem call_enum1 {prog : Program} {w : World} {A : Around} {E : Value → Shared → Prop} {s : Shared} {v : Value} {o : Obj} {H : Heap → Prop} {Q : Value → Shared → Prop} (B : Begins v o H) (h1 : H s.heap)
    (h : ∀ h', IsEnum h' (s.heap.objs.size + 1) s.heap.objs.size 0 .none → h'.get? s.heap.objs.size = some o → h'.objs.size = s.heap.objs.size + 2 →
      (∀ b o, s.heap.get? b = some o → h'.get? b = some o) → Q (.ref (s.heap.objs.size + 1)) { s with heap := h' }) :
    wpAny (model prog w) A (call (.type "enumerate") [v]) Q E s := by
  refine callType_new F.called_enumerate (by decide) (F.typeCall_enumerate_1 _) (F.newCall_enumerate_1 _) (fun obj => F.args_object_init_2 obj _) F.entry_enumerate_new
    (meets_enum_new1 B) ⟨h1, ?_⟩
  have hz : (s.heap.push o).objs.size = s.heap.objs.size + 1 := Heap.size_push ..
  show _ ∧ _
  rw [hz]
  have he : IsEnum ((s.heap.push o).push { cls := .type "enumerate", data := .fields #[.none, .bool false, .ref s.heap.objs.size, rawInt 0, .none, .none] }) (s.heap.objs.size + 1) s.heap.objs.size 0 .none := by
    have := Heap.get?_push_size (s.heap.push o) (o := { cls := .type "enumerate", data := .fields #[.none, .bool false, .ref s.heap.objs.size, rawInt 0, .none, .none] }) rfl
    rw [hz] at this; exact this
  refine ⟨⟨_, he, rfl⟩, h _ he (Heap.get?_push_of_some _ (Heap.get?_push_size _ B.free)) (by rw [Heap.size_push, hz]) fun b o x => Heap.get?_push_of_some _ (Heap.get?_push_of_some _ x)⟩
/-- the tuple at a as it stands, each item in a new pair -/
def IteT (K : PySem.W.Frag) (a : Addr) : It :=
  ⟨fun i H => ∃ (xs : List V) (x : V), SqT K H a xs ∧ xs[i]? = some x, fun i H v H' => ∃ T x, v = .ref T ∧ H T = none ∧ H' = upd H T (.tup [.int (i : Nat), x]) ∧ ∀ xs, SqT K H a xs → xs[i]? = some x, fun i H => ∃ xs : List V, SqT K H a xs ∧ xs.length = i⟩
theorem tup_ne_iter {h : Heap} {a it : Addr} {its : Array Value} {i : Nat} (p : h.IsTuple a its) (q : h.IsTupleIter it a i) : a ≠ it := by
  rintro rfl
  obtain ⟨o, ho, hc, _⟩ := p
  obtain ⟨o', ho', hc', _⟩ := q
  rw [ho] at ho'
  cases ho'
  rw [hc] at hc'
  simp at hc'
theorem tup_ne_enum {h : Heap} {a e it : Addr} {its : Array Value} {c : Int} {old : Value} (p : h.IsTuple a its) (q : IsEnum h e it c old) : e ≠ a := by
  rintro rfl
  obtain ⟨o, ho, hc, _⟩ := p
  have q' : h.get? e = _ := q
  rw [ho] at q'
  cases q'
  simp at hc
theorem turn_enumT {P : Program} {w : World} {K : PySem.W.Frag} {elts : List Expr} {kk : Nat} {tpos : Pos} (a e it : Addr) :
    Turn P w K (.Tuple elts kk tpos) (IteT K a) [e, it] e (fun i h => (∃ old, IsEnum h e it ((i : Nat) : Int) old) ∧ h.IsTupleIter it a i ∧ e ≠ it) where
  mem := by simp
  obj := fun i h st b hb => by
    obtain ⟨⟨old, he⟩, ⟨o, ho, hc, hd⟩, _⟩ := st
    have e' : b = e ∨ b = it := by simpa using hb
    rcases e' with z | z
    · rw [z]; exact ⟨_, he, fun v q => nomatch q⟩
    · rw [z]; exact ⟨o, ho, fun v q => by rw [hd] at q; cases q⟩
  keep := fun i h h' st k => let ⟨⟨old, he⟩, hi, hne⟩ := st; ⟨⟨old, k e (by simp) _ he⟩, hi.at fun o q => k it (by simp) o q, hne⟩
  item := by
    intro X hP hw hK hc i pins s σ H E I hf st hg
    subst hP hw hK
    obtain ⟨⟨old, he⟩, hit, hne⟩ := st
    obtain ⟨xs, x, hq, hx⟩ := hg
    obtain ⟨its, rv, p, hz⟩ := I.tuple hq
    obtain ⟨u, hu, ru⟩ := rv.get hx
    have hel : e < s.heap.objs.size := Heap.lt_size he
    have hil : it < s.heap.objs.size := by obtain ⟨_, q, _⟩ := hit; exact Heap.lt_size q
    have pt : s.heap.IsTuple a its.toArray := p
    have hai := tup_ne_iter pt hit
    have hea := tup_ne_enum pt he
    have hlt : i < its.toArray.size := by simpa using (List.getElem?_eq_some_iff.mp hu).1
    refine wpAny_pyNext_enum_itemD (Draws.tuple (A := X.A.in1) (I.ok.hd hc) it a hai its.toArray) he ⟨hit, pt⟩ hlt hne (by simp [hne, hea]) fun u' h' tk hu' ho hst hT hsz hk => ?_
    have eu : u' = u := by
      have h1 : its[i]? = some u' := by simpa using hu'
      rw [hu] at h1
      cases h1
      rfl
    subst eu
    refine ⟨_, rfl, wpAny_letOwnedTupleGo_enum (s := { s with heap := h', toks := tk + 1 }) ho fun h'' he' sb => ?_⟩
    have hT2 : h''.get? s.heap.objs.size = some { cls := .type "tuple", data := .seq #[.int i tk, u'] } := (sb.2 _ (Nat.ne_of_gt hel)).trans hT
    have new : ObjOk X.prog X.w (upd H s.heap.objs.size (.tup [.int (i : Nat), x])) h'' s.heap.objs.size (.tup [.int (i : Nat), x]) :=
      ⟨by show 2 ≤ sizeLine; decide, [.int i tk, u'], .cons ⟨_, rfl⟩ (.cons ru .nil), ⟨_, hT2, rfl, _, rfl⟩⟩
    have I1 : Inv X pins σ (upd H s.heap.objs.size (.tup [.int (i : Nat), x])) { s with heap := h'', toks := tk + 1 } :=
      I.turnedNew (ch := [e, it]) (fun b ob hb q => (sb.2 b (fun z => hb (by simp [z]))).trans (hk b ob (fun z => hb (by simp [z])) (fun z => hb (by simp [z])) q)) hf (Nat.le_refl _) new
    refine ⟨.ref s.heap.objs.size, _, I1, rfl, ⟨_, x, rfl, I.hok.fresh (Nat.le_refl _), rfl, fun ys hy => by rw [I.tuple_inj hy hq]; exact hx⟩, ⟨⟨u', ?_⟩, hst.1.at fun o q => (sb.2 it (Ne.symm hne)).trans q, hne⟩, fun b hb => ?_⟩
    · have e1 : ((i + 1 : Nat) : Int) = (i : Int) + 1 := by omega
      rw [e1]; exact he'
    · have hb' : b < s.heap.objs.size := by
        have e' : b = e ∨ b = it := by simpa using hb
        rcases e' with z | z
        · rw [z]; exact hel
        · rw [z]; exact hil
      rw [upd_ne (Nat.ne_of_lt hb')]
      exact (hf b hb).1
  done := by
    intro X hP hw hK hc i pins s σ H E I hf st hg
    subst hP hw hK
    obtain ⟨⟨old, he⟩, hit, hne⟩ := st
    obtain ⟨xs, hq, hx⟩ := hg
    obtain ⟨its, rv, p, hz⟩ := I.tuple hq
    obtain ⟨f0, f1, f2, f3, f4, f5⟩ := hf it (by simp)
    have pt : s.heap.IsTuple a its.toArray := p
    have hl := rv.length
    have hn : i = its.toArray.size := by rw [List.size_toArray]; omega
    subst hn
    exact wpAny_pyNext_enum_endD (Draws.tuple (A := X.A.in1) (I.ok.hd hc) it a (tup_ne_iter pt hit) its.toArray) he ⟨hit, pt⟩ fun h' eb => ⟨rfl, I.turned (t' := s.toks) (fun b o hb q => eb b o hb q) f0 f1 f3 f4 f5⟩
  self := fun A i s Q E st h => let ⟨⟨_, he⟩, _⟩ := st; wpAny_pyIter_enum he h
def iEnumT (K : PySem.W.Frag) (ta : TA) : TI := fun σ H R => ta σ H fun vs H1 => ∃ a xs, vs = [.ref a] ∧ SqT K H1 a xs ∧ R (IteT K a) H1
theorem pi_enumT {X : Cx} {e : Expr} {ta : TA} {p pos tpos : Pos} {elts : List Expr} {kk : Nat} (hg : Gl X "enumerate") (hm : X.mg "enumerate" = none) (ha : PA X [e] ta) (hs : starEach [e] X.env = [(false, eval e X.env)] := by rfl) :
    PI X (.Tuple elts kk tpos) (.Call (.Name "enumerate" p) [e] [] pos) (iEnumT X.K ta) := by
  refine ⟨fun pins s σ H R I h => ?_⟩
  refine Call_ (ld_blt I hg hm boot_enumerate (PyProof.Rows.callWith_type1 (thn (ha.run pos pins s σ H _ I h) fun us s1 ⟨vs, H1, I1, r1, q1⟩ => ?_) hs rfl))
  obtain ⟨a, xs, ex, hq, q⟩ := q1
  subst ex
  cases r1 with
  | cons r rr =>
    cases rr
    cases r
    obtain ⟨its, rv, p', hz⟩ := I1.tuple hq
    refine call_enum1 (begins_tuple a its.toArray) (show s1.heap.IsTuple a its.toArray from p') fun h' he hit hsz hk => wpAny_pyIter_enum he ?_
    have I2 : Inv X pins σ H1 { s1 with heap := h' } := I1.kept (t' := s1.toks) hk
    refine ⟨s1.heap.objs.size + 1, [s1.heap.objs.size + 1, s1.heap.objs.size], _, _, H1, rfl, I2, turn_enumT a (s1.heap.objs.size + 1) s1.heap.objs.size, ⟨⟨.none, he⟩, ⟨_, hit, rfl, rfl⟩, Nat.succ_ne_self _⟩, fun b hb => ?_, q⟩
    have e' : b = s1.heap.objs.size + 1 ∨ b = s1.heap.objs.size := by simpa using hb
    have hle : s1.heap.objs.size ≤ b := by
      rcases e' with z | z
      · rw [z]; exact Nat.le_add_right _ _
      · rw [z]; exact Nat.le_refl _
    exact I1.fpOk hle (I1.hok.fresh hle)
end DW
namespace MVX
open PySem PySem.W PySem.Spec PySem.Calls PyProof.Rows
section
variable {M : Model} {K : Frag}
end
end MVX
namespace MV
open PySem PySem.Spec PyProof.Rows L2
inductive D where
  | non
  | bl (b : Bool)
  | int (i : Int)
  | str (x : Str)
  | tup (ds : List D)
  | ref (n : Nat)
  | ty (n : String)
  | g (x : Str)
  | exn (a dd : Addr) (c : Str) (ns : List Str) (ds : List D)
  | kl (ds : List D)
/-- lst: a list; frz: a list that is only read; dct, dtt: a dict with keys of ints and texts, of tuples of these (lk: a loop walks it); ins: an instance -/
inductive O where
  | lst (ds : List D)
  | frz (ds : List D)
  | dct (lk : Bool) (kvs : List (Key × D))
  | dtt (lk : Bool) (kvs : List (List Key × D))
  | ins (c : Str) (fs : List (Str × D))
abbrev Mem := List O
abbrev Ev := List (Option D)
structure Exn where
  c : Str
  ns : List Str
  ds : List D
/-- a list that is never written: the script -/
def RdL (K : PySem.W.Frag) (H : Hp) (a : Addr) (xs : List V) : Prop := (∃ ob, H a = some (.frz ob (.lst xs))) ∨
  ∃ (o : Obj) (its : Array Value) (n : Nat), K.lookup a = some o ∧ o.cls = .type "list" ∧ o.dict = none ∧ o.data = .seq its n ∧ its.size ≤ sizeLine ∧ Vals xs its.toList
theorem RdL.sq {K : PySem.W.Frag} {H : Hp} {a : Addr} {xs : List V} (h : RdL K H a xs) : SqL K H a xs := by
  rcases h with h | h
  · exact .inl (.inr h)
  · exact .inr h
/-- a tuple that begins with a text (keys of dicts do): no written one -/
def hdS : List D → Bool
  | .str _ :: _ => true
  | _ => false
def Tq (K : PySem.W.Frag) (H : Hp) (a : Addr) (ds : List D) (xs : List V) : Prop := SqT K H a xs ∧ (hdS ds = true → H a = some (.tup xs))
mutual
inductive Rel (K : PySem.W.Frag) (as : List Addr) (H : Hp) : D → V → Prop
  | non : Rel K as H .non .non
  | bl (b : Bool) : Rel K as H (.bl b) (.bl b)
  | int (i : Int) : Rel K as H (.int i) (.int i)
  | str (x : Str) : Rel K as H (.str x) (.str x)
  | tup {a : Addr} {xs : List V} {ds : List D} : Tq K H a ds xs → RelL K as H ds xs → Rel K as H (.tup ds) (.ref a)
  | ref {n : Nat} {a : Addr} : as[n]? = some a → Rel K as H (.ref n) (.ref a)
  | ty (n : String) : Rel K as H (.ty n) (.ty n)
  | g (x : Str) : Rel K as H (.g x) (.ref (He.ga K x))
  | exn {a dd : Addr} {c : Str} {ns : List Str} {ds : List D} {xs : List V} : H dd = some (.xd (ns.zip xs)) → RelL K as H ds xs → Rel K as H (.exn a dd c ns ds) (.ref a)
  | kl {a : Addr} {xs : List V} {ds : List D} : RdL K H a xs → RelL K as H ds xs → Rel K as H (.kl ds) (.ref a)
inductive RelL (K : PySem.W.Frag) (as : List Addr) (H : Hp) : List D → List V → Prop
  | nil : RelL K as H [] []
  | cons {d : D} {ds : List D} {v : V} {vs : List V} : Rel K as H d v → RelL K as H ds vs → RelL K as H (d :: ds) (v :: vs)
end
structure Ext (K : PySem.W.Frag) (as : List Addr) (H : Hp) (as' : List Addr) (H' : Hp) : Prop where
  pre : as <+: as'
  tup : ∀ a xs, SqT K H a xs → SqT K H' a xs
  xd : ∀ a fs, H a = some (.xd fs) → H' a = some (.xd fs)
  frz : ∀ a ob u, H a = some (.frz ob u) → H' a = some (.frz ob u)
  tp : ∀ a xs, H a = some (.tup xs) → H' a = some (.tup xs)
section
variable {K : PySem.W.Frag} {as as' as2 : List Addr} {H H' H2 : Hp}
theorem Ext.refl : Ext K as H as H := ⟨List.prefix_refl _, fun _ _ h => h, fun _ _ h => h, fun _ _ _ h => h, fun _ _ h => h⟩
theorem Ext.trans (a : Ext K as H as' H') (b : Ext K as' H' as2 H2) : Ext K as H as2 H2 :=
  ⟨a.pre.trans b.pre, fun c xs h => b.tup c xs (a.tup c xs h), fun c fs h => b.xd c fs (a.xd c fs h), fun c o u h => b.frz c o u (a.frz c o u h), fun c xs h => b.tp c xs (a.tp c xs h)⟩
theorem Tq.up {a : Addr} {ds : List D} {xs : List V} (e : Ext K as H as' H') (h : Tq K H a ds xs) : Tq K H' a ds xs := ⟨e.tup _ _ h.1, fun q => e.tp _ _ (h.2 q)⟩
theorem Tq.new {p : Addr} {ds : List D} {xs : List V} : Tq K (upd H p (.tup xs)) p ds xs := ⟨SqT.of upd_same, fun _ => upd_same⟩
theorem pre_get {n : Nat} {a : Addr} (p : as <+: as') (h : as[n]? = some a) : as'[n]? = some a := by
  obtain ⟨t, rfl⟩ := p
  obtain ⟨hn, _⟩ := List.getElem?_eq_some_iff.mp h
  rw [List.getElem?_append_left hn]; exact h
theorem RdL.up (e : Ext K as H as' H') {a : Addr} {xs : List V} (h : RdL K H a xs) : RdL K H' a xs := by
  rcases h with ⟨ob, h⟩ | h
  · exact .inl ⟨ob, e.frz _ _ _ h⟩
  · exact .inr h
mutual
theorem Rel.up (e : Ext K as H as' H') : ∀ {d : D} {v : V}, Rel K as H d v → Rel K as' H' d v
  | _, _, .non => .non
  | _, _, .bl b => .bl b
  | _, _, .int i => .int i
  | _, _, .str x => .str x
  | _, _, .tup h r => .tup (h.up e) (RelL.up e r)
  | _, _, .ref h => .ref (pre_get e.pre h)
  | _, _, .ty n => .ty n
  | _, _, .g x => .g x
  | _, _, .exn h r => .exn (e.xd _ _ h) (RelL.up e r)
  | _, _, .kl h r => .kl (RdL.up e h) (RelL.up e r)
theorem RelL.up (e : Ext K as H as' H') : ∀ {ds : List D} {vs : List V}, RelL K as H ds vs → RelL K as' H' ds vs
  | _, _, .nil => .nil
  | _, _, .cons h r => .cons (Rel.up e h) (RelL.up e r)
end
theorem RelL.len : ∀ {ds : List D} {vs : List V}, RelL K as H ds vs → ds.length = vs.length
  | _, _, .nil => rfl
  | _, _, .cons _ r => by simp only [List.length_cons, RelL.len r]
theorem RelL.get {d : D} : ∀ {ds : List D} {vs : List V} {i : Nat}, RelL K as H ds vs → ds[i]? = some d → ∃ v, vs[i]? = some v ∧ Rel K as H d v
  | _, _, _, .nil, e => by simp at e
  | _, _, 0, .cons h _, e => by
    simp only [List.getElem?_cons_zero, Option.some.injEq] at e
    subst e; exact ⟨_, rfl, h⟩
  | _, _, i + 1, .cons _ r, e => by
    simp only [List.getElem?_cons_succ] at e ⊢
    exact RelL.get r e
theorem RelL.app : ∀ {ds es : List D} {vs ws : List V}, RelL K as H ds vs → RelL K as H es ws → RelL K as H (ds ++ es) (vs ++ ws)
  | _, _, _, _, .nil, s => s
  | _, _, _, _, .cons h r, s => .cons h (RelL.app r s)
theorem RelL.take (n : Nat) : ∀ {ds : List D} {vs : List V}, RelL K as H ds vs → RelL K as H (ds.take n) (vs.take n)
  | _, _, .nil => by simp only [List.take_nil]; exact .nil
  | _, _, .cons h r => by
    cases n with
    | zero => exact .nil
    | succ n => simp only [List.take_succ_cons]; exact .cons h (RelL.take n r)
theorem RelL.drop (n : Nat) : ∀ {ds : List D} {vs : List V}, RelL K as H ds vs → RelL K as H (ds.drop n) (vs.drop n)
  | _, _, .nil => by simp only [List.drop_nil]; exact .nil
  | _, _, .cons h r => by
    cases n with
    | zero => exact .cons h r
    | succ n => simp only [List.drop_succ_cons]; exact RelL.drop n r
theorem RelL.set {d : D} {v : V} (h : Rel K as H d v) : ∀ {ds : List D} {vs : List V} (i : Nat), RelL K as H ds vs → RelL K as H (ds.set i d) (vs.set i v)
  | _, _, _, .nil => by simp only [List.set_nil]; exact .nil
  | _, _, 0, .cons _ r => .cons h r
  | _, _, i + 1, .cons q r => .cons q (RelL.set h i r)
end
/-- pairs of a name or a key and a value -/
def KVR (K : PySem.W.Frag) (as : List Addr) (H : Hp) {κ : Type} (l : List (κ × D)) (m : List (κ × V)) : Prop := Paired (fun (p : κ × D) (q : κ × V) => p.1 = q.1 ∧ Rel K as H p.2 q.2) l m
def OR (K : PySem.W.Frag) (as : List Addr) (H : Hp) (o : O) (a : Addr) : Prop := match o with
  | .lst ds => ∃ xs, H a = some (.lst xs) ∧ RelL K as H ds xs
  | .frz ds => ∃ ob xs, H a = some (.frz ob (.lst xs)) ∧ RelL K as H ds xs
  | .dct lk kvs => ∃ ks, KVR K as H kvs ks ∧ match lk with
    | true => ∃ ob, H a = some (.frz ob (.dK ks))
    | false => H a = some (.dK ks)
  | .dtt lk kvs => ∃ ks, KVR K as H kvs ks ∧ match lk with
    | true => ∃ ob, H a = some (.frz ob (.dT ks))
    | false => H a = some (.dT ks)
  | .ins c fs => ∃ dx ys, H a = some (.ins (He.ga K c) dx ys) ∧ KVR K as H fs ys
structure RepM (K : PySem.W.Frag) (as : List Addr) (H : Hp) (M : Mem) : Prop where
  len : as.length = M.length
  nd : as.Nodup
  ob : ∀ (n : Nat) (a : Addr) (o : O), as[n]? = some a → M[n]? = some o → OR K as H o a
section
variable {K : PySem.W.Frag} {as as' : List Addr} {H H' : Hp} {M : Mem} {κ : Type}
theorem KVR.up (e : Ext K as H as' H') {l : List (κ × D)} {m : List (κ × V)} (h : KVR K as H l m) : KVR K as' H' l m := Paired.mapP h fun _ _ q => ⟨q.1, q.2.up e⟩
theorem KVR.len {l : List (κ × D)} {m : List (κ × V)} (h : KVR K as H l m) : l.length = m.length := Paired.length h
theorem OR.up {o : O} {a : Addr} (e : Ext K as H as' H') (s : H' a = H a) (h : OR K as H o a) : OR K as' H' o a := by
  cases o with
  | lst ds => obtain ⟨xs, h1, h2⟩ := h; exact ⟨xs, s.trans h1, h2.up e⟩
  | frz ds => obtain ⟨ob, xs, h1, h2⟩ := h; exact ⟨ob, xs, s.trans h1, h2.up e⟩
  | dct lk kvs =>
    obtain ⟨ks, h1, h2⟩ := h
    refine ⟨ks, h1.up e, ?_⟩
    cases lk with
    | true => obtain ⟨ob, h2⟩ := h2; exact ⟨ob, s.trans h2⟩
    | false => exact s.trans h2
  | dtt lk kvs =>
    obtain ⟨ks, h1, h2⟩ := h
    refine ⟨ks, h1.up e, ?_⟩
    cases lk with
    | true => obtain ⟨ob, h2⟩ := h2; exact ⟨ob, s.trans h2⟩
    | false => exact s.trans h2
  | ins c fs => obtain ⟨dx, ys, h1, h2⟩ := h; exact ⟨dx, ys, s.trans h1, h2.up e⟩
theorem OR.there {o : O} {a : Addr} (h : OR K as H o a) : ∃ u, H a = some u ∧ (∀ xs, u ≠ .tup xs) ∧ ∀ fs, u ≠ .xd fs := by
  cases o with
  | lst ds => obtain ⟨xs, h1, _⟩ := h; exact ⟨_, h1, (fun _ z => nomatch z), (fun _ z => nomatch z)⟩
  | frz ds => obtain ⟨ob, xs, h1, _⟩ := h; exact ⟨_, h1, (fun _ z => nomatch z), (fun _ z => nomatch z)⟩
  | dct lk kvs =>
    obtain ⟨ks, _, h2⟩ := h
    cases lk with
    | true => obtain ⟨ob, h2⟩ := h2; exact ⟨_, h2, (fun _ z => nomatch z), (fun _ z => nomatch z)⟩
    | false => exact ⟨_, h2, (fun _ z => nomatch z), (fun _ z => nomatch z)⟩
  | dtt lk kvs =>
    obtain ⟨ks, _, h2⟩ := h
    cases lk with
    | true => obtain ⟨ob, h2⟩ := h2; exact ⟨_, h2, (fun _ z => nomatch z), (fun _ z => nomatch z)⟩
    | false => exact ⟨_, h2, (fun _ z => nomatch z), (fun _ z => nomatch z)⟩
  | ins c fs => obtain ⟨dx, ys, h1, _⟩ := h; exact ⟨_, h1, (fun _ z => nomatch z), (fun _ z => nomatch z)⟩
theorem RepM.at_ (r : RepM K as H M) {n : Nat} {o : O} (h : M[n]? = some o) : ∃ a, as[n]? = some a ∧ OR K as H o a := by
  obtain ⟨hn, _⟩ := List.getElem?_eq_some_iff.mp h
  have : n < as.length := by rw [r.len]; exact hn
  exact ⟨as[n], List.getElem?_eq_getElem this, r.ob n _ o (List.getElem?_eq_getElem this) h⟩
theorem RepM.some_ (r : RepM K as H M) {n : Nat} {a : Addr} (h : as[n]? = some a) : ∃ u, H a = some u ∧ (∀ xs, u ≠ .tup xs) ∧ ∀ fs, u ≠ .xd fs := by
  obtain ⟨hn, _⟩ := List.getElem?_eq_some_iff.mp h
  have hm : n < M.length := by rw [← r.len]; exact hn
  exact (r.ob n a _ h (List.getElem?_eq_getElem hm)).there
/-- a new thing at p -/
theorem ext_new {p : Addr} {o : HO} (hp : H p = none) : Ext K as H as (upd H p o) :=
  ⟨List.prefix_refl _, fun a xs h => DW.Same.tup (fun b u e => by rw [upd_ne (ne_of_none e hp)]; exact e) h, fun a fs h => by rw [upd_ne (ne_of_none h hp)]; exact h, fun a o u h => by rw [upd_ne (ne_of_none h hp)]; exact h, fun a xs h => by rw [upd_ne (ne_of_none h hp)]; exact h⟩
theorem ext_app {l : List Addr} : Ext K as H (as ++ l) H := ⟨List.prefix_append _ _, fun _ _ h => h, fun _ _ h => h, fun _ _ _ h => h, fun _ _ h => h⟩
theorem RepM.laid {p : Addr} {o : HO} (r : RepM K as H M) (hp : H p = none) : RepM K as (upd H p o) M :=
  ⟨r.len, r.nd, fun n a u h1 h2 => (r.ob n a u h1 h2).up (ext_new hp) (by
    obtain ⟨w, hw, _⟩ := r.some_ h1
    rw [upd_ne (ne_of_none hw hp)])⟩
theorem RepM.new {p : Addr} {o : O} {u : HO} (r : RepM K as H M) (hp : H p = none) (ho : OR K (as ++ [p]) (upd H p u) o p) : RepM K (as ++ [p]) (upd H p u) (M ++ [o]) := by
  have hn : p ∉ as := fun z => by
    obtain ⟨n, hn, e⟩ := List.getElem_of_mem z
    obtain ⟨w, hw, _⟩ := r.some_ (n := n) (a := p) (by rw [List.getElem?_eq_getElem hn, e])
    rw [hw] at hp; cases hp
  refine ⟨by simp [r.len], ?_, fun n a q h1 h2 => ?_⟩
  · rw [List.nodup_append]
    exact ⟨r.nd, by simp, fun a ha b hb => by simp at hb; subst hb; exact fun z => hn (z ▸ ha)⟩
  · by_cases hl : n < as.length
    · rw [List.getElem?_append_left hl] at h1
      rw [List.getElem?_append_left (by rw [← r.len]; exact hl)] at h2
      refine (r.ob n a q h1 h2).up ((ext_new hp).trans ext_app) ?_
      obtain ⟨w, hw, _⟩ := r.some_ h1
      rw [upd_ne (ne_of_none hw hp)]
    · obtain ⟨h3, _⟩ := List.getElem?_eq_some_iff.mp h1
      have h4 : n = as.length := by simp at h3; omega
      subst h4
      rw [List.getElem?_append_right (Nat.le_refl _)] at h1
      rw [r.len, List.getElem?_append_right (Nat.le_refl _)] at h2
      simp at h1 h2
      subst h1 h2
      exact ho
theorem ext_put {n : Nat} {a : Addr} {u : HO} (r : RepM K as H M) (h : as[n]? = some a) (hz : ∀ ob w, H a ≠ some (.frz ob w)) : Ext K as H as (upd H a u) := by
  obtain ⟨w, hw, nt, nx⟩ := r.some_ h
  refine ⟨List.prefix_refl _, fun b xs q => ?_, fun b fs q => ?_, fun b ob w q => ?_, fun b xs q => ?_⟩
  · rcases q with (q | ⟨o, q⟩) | q
    · exact .inl (.inl (by rw [upd_ne (fun z => by rw [z, hw] at q; exact nt _ (Option.some.inj q))]; exact q))
    · exact .inl (.inr ⟨o, by rw [upd_ne (fun z => by rw [z] at q; exact hz _ _ q)]; exact q⟩)
    · exact .inr q
  · rw [upd_ne (fun z => by rw [z, hw] at q; exact nx _ (Option.some.inj q))]; exact q
  · rw [upd_ne (fun z => by rw [z] at q; exact hz _ _ q)]; exact q
  · rw [upd_ne (fun z => by rw [z, hw] at q; exact nt _ (Option.some.inj q))]; exact q
/-- the thing at a is written -/
theorem RepM.put {n : Nat} {a : Addr} {o : O} {u : HO} (r : RepM K as H M) (h : as[n]? = some a) (hz : ∀ ob w, H a ≠ some (.frz ob w)) (ho : OR K as (upd H a u) o a) : RepM K as (upd H a u) (M.set n o) := by
  refine ⟨by rw [List.length_set]; exact r.len, r.nd, fun m b q h1 h2 => ?_⟩
  by_cases hm : m = n
  · subst hm
    obtain ⟨hn, _⟩ := List.getElem?_eq_some_iff.mp h
    rw [List.getElem?_set_self (by rw [← r.len]; exact hn)] at h2
    cases h2
    rw [h] at h1
    cases h1
    exact ho
  · rw [List.getElem?_set_ne (Ne.symm hm)] at h2
    refine (r.ob m b q h1 h2).up (ext_put r h hz) ?_
    refine upd_ne fun z => hm ?_
    subst z
    obtain ⟨l1, e1⟩ := List.getElem?_eq_some_iff.mp h1
    obtain ⟨l2, e2⟩ := List.getElem?_eq_some_iff.mp h
    exact (List.getElem_inj r.nd).mp (e1.trans e2.symm)
end
def RelS (K : PySem.W.Frag) (as : List Addr) (H : Hp) (ρ : Ev) (σ : L2.St) : Prop := ρ.length = σ.length ∧ ∀ (i : Nat) (d : D), ρ[i]? = some (some d) → ∃ v, σ[i]? = some (some v) ∧ Rel K as H d v
def RelX (K : PySem.W.Frag) (as : List Addr) (H : Hp) (x : Exn) (cls : Value) (d : Option Addr) : Prop :=
  cls = .ref (He.ga K x.c) ∧ ∃ dd xs, d = some dd ∧ H dd = some (.xd (x.ns.zip xs)) ∧ RelL K as H x.ds xs
section
variable {K : PySem.W.Frag} {as as' : List Addr} {H H' : Hp} {ρ : Ev} {σ : L2.St}
theorem RelS.up (e : Ext K as H as' H') (r : RelS K as H ρ σ) : RelS K as' H' ρ σ := ⟨r.1, fun i d h => let ⟨v, h1, h2⟩ := r.2 i d h; ⟨v, h1, h2.up e⟩⟩
theorem RelS.set {i : Nat} {d : D} {v : V} (r : RelS K as H ρ σ) (h : Rel K as H d v) : RelS K as H (ρ.set i (some d)) (σ.set i (some v)) := by
  refine ⟨by simp [r.1], fun j e q => ?_⟩
  by_cases hj : i = j
  · subst hj
    by_cases hl : i < ρ.length
    · rw [List.getElem?_set_self hl] at q
      cases q
      exact ⟨v, List.getElem?_set_self (by rw [← r.1]; exact hl), h⟩
    · rw [List.getElem?_eq_none_iff.mpr (by simp; omega)] at q; cases q
  · rw [List.getElem?_set_ne hj] at q
    obtain ⟨w, h1, h2⟩ := r.2 j e q
    exact ⟨w, by rw [List.getElem?_set_ne hj]; exact h1, h2⟩
theorem RelS.unset {i : Nat} (r : RelS K as H ρ σ) : RelS K as H (ρ.set i none) (σ.set i none) := by
  refine ⟨by simp [r.1], fun j e q => ?_⟩
  by_cases hj : i = j
  · subst hj
    by_cases hl : i < ρ.length
    · rw [List.getElem?_set_self hl] at q; cases q
    · rw [List.getElem?_eq_none_iff.mpr (by simp; omega)] at q; cases q
  · rw [List.getElem?_set_ne hj] at q
    obtain ⟨w, h1, h2⟩ := r.2 j e q
    exact ⟨w, by rw [List.getElem?_set_ne hj]; exact h1, h2⟩
end
end MV
namespace MV
open PySem PySem.Spec PyProof.Rows L2
abbrev DK := D → Mem → Prop
abbrev XM := Exn → Mem → Prop
abbrev ME := Ev → Mem → DK → XM → Prop
abbrev MT := Ev → Mem → (Bool → Mem → Prop) → XM → Prop
abbrev MA := Ev → Mem → (List D → Mem → Prop) → XM → Prop
structure Nd where
  nx : Ev → Mem → Prop
  rt : DK
  bk : Ev → Mem → Prop
  ct : Ev → Mem → Prop
  ex : Exn → Ev → Mem → Prop
abbrev MS := Nd → Ev → Mem → Prop
def LQ (K : PySem.W.Frag) (as : List Addr) (H : Hp) (Q : VK) : DK := fun d M' => ∀ as' H' v, Ext K as H as' H' → RepM K as' H' M' → Rel K as' H' d v → Q v H'
def LT (K : PySem.W.Frag) (as : List Addr) (H : Hp) (Q : Bool → Hp → Prop) : Bool → Mem → Prop := fun b M' => ∀ as' H', Ext K as H as' H' → RepM K as' H' M' → Q b H'
def LA (K : PySem.W.Frag) (as : List Addr) (H : Hp) (Q : List V → Hp → Prop) : List D → Mem → Prop := fun ds M' => ∀ as' H' vs, Ext K as H as' H' → RepM K as' H' M' → RelL K as' H' ds vs → Q vs H'
def LX (K : PySem.W.Frag) (as : List Addr) (H : Hp) (W : XK) : XM := fun x M' => ∀ as' H' cls d, Ext K as H as' H' → RepM K as' H' M' → RelX K as' H' x cls d → W cls d H'
def LS (K : PySem.W.Frag) (as : List Addr) (H : Hp) (N : L2.St → Hp → Prop) : Ev → Mem → Prop := fun ρ M' => ∀ as' H' σ, Ext K as H as' H' → RepM K as' H' M' → RelS K as' H' ρ σ → N σ H'
def LXS (K : PySem.W.Frag) (as : List Addr) (H : Hp) (W : WX) : Exn → Ev → Mem → Prop := fun x ρ M' => ∀ as' H' σ cls d, Ext K as H as' H' → RepM K as' H' M' → RelS K as' H' ρ σ → RelX K as' H' x cls d → W cls d σ H'
section
variable {K : PySem.W.Frag} {as as' : List Addr} {H H' : Hp} {Q : VK} {d : D} {M : Mem}
theorem LQ.mono (h : LQ K as H Q d M) (e : Ext K as H as' H') : LQ K as' H' Q d M := fun as2 H2 v e2 r q => h as2 H2 v (e.trans e2) r q
theorem LT.mono {Q : Bool → Hp → Prop} {b : Bool} (h : LT K as H Q b M) (e : Ext K as H as' H') : LT K as' H' Q b M := fun as2 H2 e2 r => h as2 H2 (e.trans e2) r
theorem LA.mono {Q : List V → Hp → Prop} {ds : List D} (h : LA K as H Q ds M) (e : Ext K as H as' H') : LA K as' H' Q ds M := fun as2 H2 v e2 r q => h as2 H2 v (e.trans e2) r q
theorem LX.mono {W : XK} {x : Exn} (h : LX K as H W x M) (e : Ext K as H as' H') : LX K as' H' W x M := fun as2 H2 c d e2 r q => h as2 H2 c d (e.trans e2) r q
theorem LS.mono {N : L2.St → Hp → Prop} {ρ : Ev} (h : LS K as H N ρ M) (e : Ext K as H as' H') : LS K as' H' N ρ M := fun as2 H2 c e2 r q => h as2 H2 c (e.trans e2) r q
theorem LXS.mono {W : WX} {x : Exn} {ρ : Ev} (h : LXS K as H W x ρ M) (e : Ext K as H as' H') : LXS K as' H' W x ρ M := fun as2 H2 c d y e2 r q => h as2 H2 c d y (e.trans e2) r q
end
def lf (K : PySem.W.Frag) (W : WX) (m : ME) : TE := fun σ H Q => ∃ as M ρ Q' X', RepM K as H M ∧ RelS K as H ρ σ ∧ m ρ M Q' X' ∧ (∀ d M', Q' d M' → LQ K as H Q d M') ∧ ∀ x M', X' x M' → LX K as H (fun c d H => W c d σ H) x M'
def lfT (K : PySem.W.Frag) (W : WX) (m : MT) : TT := fun σ H Q => ∃ as M ρ Q' X', RepM K as H M ∧ RelS K as H ρ σ ∧ m ρ M Q' X' ∧ (∀ d M', Q' d M' → LT K as H Q d M') ∧ ∀ x M', X' x M' → LX K as H (fun c d H => W c d σ H) x M'
def lfA (K : PySem.W.Frag) (W : WX) (m : MA) : TA := fun σ H Q => ∃ as M ρ Q' X', RepM K as H M ∧ RelS K as H ρ σ ∧ m ρ M Q' X' ∧ (∀ d M', Q' d M' → LA K as H Q d M') ∧ ∀ x M', X' x M' → LX K as H (fun c d H => W c d σ H) x M'
/-- ends of the mirror that are as good as D's -/
structure NdOk (K : PySem.W.Frag) (W : WX) (as : List Addr) (H : Hp) (E : Nd) (D : Ends) : Prop where
  nx : ∀ ρ M, E.nx ρ M → LS K as H D.nx ρ M
  rt : ∀ d M, E.rt d M → LQ K as H D.rt d M
  bk : ∀ ρ M, E.bk ρ M → LS K as H D.bk ρ M
  ct : ∀ ρ M, E.ct ρ M → LS K as H D.ct ρ M
  ex : ∀ x ρ M, E.ex x ρ M → LXS K as H W x ρ M
theorem NdOk.mono {K : PySem.W.Frag} {W : WX} {as as' : List Addr} {H H' : Hp} {E : Nd} {D : Ends} (h : NdOk K W as H E D) (e : Ext K as H as' H') : NdOk K W as' H' E D :=
  ⟨fun _ _ q => (h.nx _ _ q).mono e, fun _ _ q => (h.rt _ _ q).mono e, fun _ _ q => (h.bk _ _ q).mono e, fun _ _ q => (h.ct _ _ q).mono e, fun _ _ _ q => (h.ex _ _ _ q).mono e⟩
def lfS (K : PySem.W.Frag) (W : WX) (m : MS) : TS := fun D σ H => ∃ as M ρ E, RepM K as H M ∧ RelS K as H ρ σ ∧ m E ρ M ∧ NdOk K W as H E D
abbrev QE (X : Cx) (W : WX) (e : Expr) (m : ME) : Prop := PE X e (lf X.K W m)
abbrev QT (X : Cx) (W : WX) (e : Expr) (m : MT) : Prop := PT X e (lfT X.K W m)
abbrev QW (X : Cx) (W : WX) (e : Expr) (m : MT) : Prop := PW X e (lfT X.K W m)
abbrev QA (X : Cx) (W : WX) (es : List Expr) (m : MA) : Prop := PA X es (lfA X.K W m)
abbrev QS (X : Cx) (W : WX) (st : Stmt) (m : MS) : Prop := PS X st (lfS X.K W m)
abbrev QSs (X : Cx) (W : WX) (sts : List Stmt) (m : MS) : Prop := PSs X sts (lfS X.K W m)
section
variable {X : Cx} {e : Expr} {es : List Expr} {st : Stmt} {sts : List Stmt}
theorem PEi {t t' : TE} (h : PE X e t) (i : ∀ σ H Q, t' σ H Q → t σ H Q) : PE X e t' := ⟨fun pins s σ H Q I q => h.run pins s σ H Q I (i σ H Q q)⟩
theorem PTi {t t' : TT} (h : PT X e t) (i : ∀ σ H Q, t' σ H Q → t σ H Q) : PT X e t' := ⟨fun pins s σ H Q I q => h.run pins s σ H Q I (i σ H Q q)⟩
theorem PWi {t t' : TT} (h : PW X e t) (i : ∀ σ H Q, t' σ H Q → t σ H Q) : PW X e t' := ⟨fun wh pins s σ H Q I q => h.run wh pins s σ H Q I (i σ H Q q)⟩
theorem PAi {t t' : TA} (h : PA X es t) (i : ∀ σ H Q, t' σ H Q → t σ H Q) : PA X es t' := ⟨fun pos pins s σ H Q I q => h.run pos pins s σ H Q I (i σ H Q q)⟩
theorem PSi {t t' : TS} (h : PS X st t) (i : ∀ D σ H, t' D σ H → t D σ H) : PS X st t' := ⟨fun pins s σ H D I q => h.run pins s σ H D I (i D σ H q)⟩
theorem PSsi {t t' : TS} (h : PSs X sts t) (i : ∀ D σ H, t' D σ H → t D σ H) : PSs X sts t' := ⟨fun pins s σ H D I q => h.run pins s σ H D I (i D σ H q)⟩
end
section
variable {K : PySem.W.Frag} {W : WX} {as : List Addr} {H : Hp} {M : Mem} {ρ : Ev} {σ : L2.St} {X' : XM}
/-- a value has come: go on -/
theorem lf_bind {m : ME} {k : DK} {Q : VK} (r : RepM K as H M) (rs : RelS K as H ρ σ) (h : m ρ M k X') (hx : ∀ x M', X' x M' → LX K as H (fun c d H => W c d σ H) x M')
    (hk : ∀ d M' as' H' v, k d M' → Ext K as H as' H' → RepM K as' H' M' → RelS K as' H' ρ σ → Rel K as' H' d v → Q v H') : lf K W m σ H Q :=
  ⟨as, M, ρ, k, X', r, rs, h, fun d M' q as' H' v e r' q' => hk d M' as' H' v q e r' (rs.up e) q', hx⟩
theorem lfT_bind {m : MT} {k : Bool → Mem → Prop} {Q : Bool → Hp → Prop} (r : RepM K as H M) (rs : RelS K as H ρ σ) (h : m ρ M k X') (hx : ∀ x M', X' x M' → LX K as H (fun c d H => W c d σ H) x M')
    (hk : ∀ b M' as' H', k b M' → Ext K as H as' H' → RepM K as' H' M' → RelS K as' H' ρ σ → Q b H') : lfT K W m σ H Q :=
  ⟨as, M, ρ, k, X', r, rs, h, fun d M' q as' H' e r' => hk d M' as' H' q e r' (rs.up e), hx⟩
theorem lfA_bind {m : MA} {k : List D → Mem → Prop} {Q : List V → Hp → Prop} (r : RepM K as H M) (rs : RelS K as H ρ σ) (h : m ρ M k X') (hx : ∀ x M', X' x M' → LX K as H (fun c d H => W c d σ H) x M')
    (hk : ∀ ds M' as' H' vs, k ds M' → Ext K as H as' H' → RepM K as' H' M' → RelS K as' H' ρ σ → RelL K as' H' ds vs → Q vs H') : lfA K W m σ H Q :=
  ⟨as, M, ρ, k, X', r, rs, h, fun d M' q as' H' v e r' q' => hk d M' as' H' v q e r' (rs.up e) q', hx⟩
end
section
variable {X : Cx} {W : WX} {pos : Pos}
def mVar (i : Nat) : ME := fun ρ M Q _ => match ρ[i]? with | some (some d) => Q d M | _ => False
def mC (d : D) : ME := fun _ M Q _ => Q d M
theorem qe_var {i : Nat} {x : Str} (hN : X.N[i]? = some x) (hv : Vis X.env.scope x) (hd : (x == ("__debug__" : Str)) = false := by decide) (hcd : (x == ("__classdict__" : Str)) = false := by decide) : QE X W (.Name x pos) (mVar i) :=
  PEi (pe_var hN hv hd hcd) fun σ H Q ⟨as, M, ρ, Q', X', r, rs, h, hq, hx⟩ => by
    unfold mVar at h
    split at h
    · rename_i d e
      obtain ⟨v, e2, rv⟩ := rs.2 i d e
      exact ⟨v, e2, hq d M h as H v .refl r rv⟩
    · exact h.elim
theorem lf_c {K : PySem.W.Frag} {d : D} {v : V} (hr : ∀ as H, Rel K as H d v) (σ : L2.St) (H : Hp) (Q : VK) (h : lf K W (mC d) σ H Q) : tC v σ H Q := by
  obtain ⟨as, M, ρ, Q', X', r, rs, h, hq, hx⟩ := h
  exact hq d M h as H v .refl r (hr as H)
theorem qe_int {i : Int} {j : Nat} : QE X W (.Constant (.int i) j pos) (mC (.int i)) := PEi pe_int (lf_c fun _ _ => .int i)
theorem qe_bl {b : Bool} {j : Nat} : QE X W (.Constant (.bool b) j pos) (mC (.bl b)) := PEi pe_bl (lf_c fun _ _ => .bl b)
theorem qe_non {j : Nat} : QE X W (.Constant .none j pos) (mC .non) := PEi pe_non (lf_c fun _ _ => .non)
theorem qe_str {x : Str} {j : Nat} : QE X W (.Constant (.str x) j pos) (mC (.str x)) := PEi pe_str (lf_c fun _ _ => .str x)
/-- a def or a class of the module -/
theorem qe_g {x : Str} (hg : Gl X x) (hm : X.mg x = some (.ref (He.ga X.K x))) (hd : (x == ("__debug__" : Str)) = false := by decide) : QE X W (.Name x pos) (mC (.g x)) := PEi (pe_glob (v := .ref (He.ga X.K x)) hg hm rfl hd) (lf_c fun _ _ => .g x)
theorem qe_gint {x : Str} {i : Int} (hg : Gl X x) (h : ∃ t, X.mg x = some (.int i t)) (hd : (x == ("__debug__" : Str)) = false := by decide) : QE X W (.Name x pos) (mC (.int i)) := PEi (DW.pe_gint hg h hd) (lf_c fun _ _ => .int i)
theorem qe_gstr {x z : Str} (hg : Gl X x) (h : ∃ t, X.mg x = some (.str z t)) (hd : (x == ("__debug__" : Str)) = false := by decide) : QE X W (.Name x pos) (mC (.str z)) := PEi (DW.pe_gstr hg h hd) (lf_c fun _ _ => .str z)
end
abbrev OP := D → D → Mem → DK → Prop
abbrev OU := D → Mem → DK → Prop
abbrev OA := List D → Mem → DK → Prop
def SimO (K : PySem.W.Frag) (r : R2) (o : OP) : Prop := ∀ (as : List Addr) (H : Hp) (M : Mem) (dx dy : D) (x y : V) (k : DK) (Q : VK), RepM K as H M → Rel K as H dx x → Rel K as H dy y → o dx dy M k → (∀ d M', k d M' → LQ K as H Q d M') → r x y H Q
def SimU (K : PySem.W.Frag) (r : V → Hp → VK → Prop) (o : OU) : Prop := ∀ (as : List Addr) (H : Hp) (M : Mem) (dx : D) (x : V) (k : DK) (Q : VK), RepM K as H M → Rel K as H dx x → o dx M k → (∀ d M', k d M' → LQ K as H Q d M') → r x H Q
def SimA (K : PySem.W.Frag) (r : List V → Hp → VK → Prop) (o : OA) : Prop := ∀ (as : List Addr) (H : Hp) (M : Mem) (ds : List D) (vs : List V) (k : DK) (Q : VK), RepM K as H M → RelL K as H ds vs → o ds M k → (∀ d M', k d M' → LQ K as H Q d M') → r vs H Q
def mOp (o : OP) (ma mb : ME) : ME := fun ρ M Q X => ma ρ M (fun x M1 => mb ρ M1 (fun y M2 => o x y M2 Q) X) X
def mUn (o : OU) (ma : ME) : ME := fun ρ M Q X => ma ρ M (fun x M1 => o x M1 Q) X
def mCB (o : OA) (ma : MA) : ME := fun ρ M Q X => ma ρ M (fun xs M1 => o xs M1 Q) X
section
variable {K : PySem.W.Frag} {W : WX}
theorem lf_op {r : R2} {o : OP} {ma mb : ME} (hs : SimO K r o) (σ : L2.St) (H : Hp) (Q : VK) (h : lf K W (mOp o ma mb) σ H Q) : tOp r (lf K W ma) (lf K W mb) σ H Q := by
  obtain ⟨as, M, ρ, Q', X', rp, rs, h, hq, hx⟩ := h
  refine lf_bind rp rs h hx fun dx M1 as1 H1 x h1 e1 r1 rs1 rx => ?_
  refine lf_bind r1 rs1 h1 (fun x M' q => (hx x M' q).mono e1) fun dy M2 as2 H2 y h2 e2 r2 rs2 ry => ?_
  exact hs as2 H2 M2 dx dy x y Q' Q r2 (rx.up e2) ry h2 fun d M' q => (hq d M' q).mono (e1.trans e2)
theorem lf_un {r : V → Hp → VK → Prop} {o : OU} {ma : ME} (hs : SimU K r o) (σ : L2.St) (H : Hp) (Q : VK) (h : lf K W (mUn o ma) σ H Q) : tUn r (lf K W ma) σ H Q := by
  obtain ⟨as, M, ρ, Q', X', rp, rs, h, hq, hx⟩ := h
  refine lf_bind rp rs h hx fun dx M1 as1 H1 x h1 e1 r1 rs1 rx => ?_
  exact hs as1 H1 M1 dx x Q' Q r1 rx h1 fun d M' q => (hq d M' q).mono e1
theorem lf_cb {r : List V → Hp → VK → Prop} {o : OA} {ma : MA} (hs : SimA K r o) (σ : L2.St) (H : Hp) (Q : VK) (h : lf K W (mCB o ma) σ H Q) : tCB r (lfA K W ma) σ H Q := by
  obtain ⟨as, M, ρ, Q', X', rp, rs, h, hq, hx⟩ := h
  refine lfA_bind rp rs h hx fun ds M1 as1 H1 vs h1 e1 r1 rs1 rv => ?_
  exact hs as1 H1 M1 ds vs Q' Q r1 rv h1 fun d M' q => (hq d M' q).mono e1
theorem SimO.or {r r' : R2} {o o' : OP} (h : SimO K r o) (h' : SimO K r' o') : SimO K (fun x y H Q => r x y H Q ∨ r' x y H Q) (fun x y M Q => o x y M Q ∨ o' x y M Q) := fun as H M dx dy x y k Q rp rx ry q hk => by
  rcases q with q | q
  · exact .inl (h as H M dx dy x y k Q rp rx ry q hk)
  · exact .inr (h' as H M dx dy x y k Q rp rx ry q hk)
end
section
variable {X : Cx} {W : WX} {a b : Expr} {es : List Expr} {ma mb mc : ME} {pos : Pos}
theorem qe_op {op : Operator} {r : R2} {o : OP} (ho : OpR X (binaryOp op) r) (hs : SimO X.K r o) (ha : QE X W a ma) (hb : QE X W b mb) : QE X W (.BinOp a op b pos) (mOp o ma mb) := PEi (pe_op ho ha hb) (lf_op hs)
theorem qe_un {op : UnaryOp} {r : V → Hp → VK → Prop} {o : OU} (ho : UnR X (unaryOp op) r) (hs : SimU X.K r o) (ha : QE X W a ma) : QE X W (.UnaryOp op a pos) (mUn o ma) := PEi (pe_un ho ha) (lf_un hs)
theorem qe_cmp {op : CmpOp} {r : R2} {o : OP} (ho : OpR X (compareOp op) r) (hs : SimO X.K r o) (ha : QE X W a ma) (hb : QE X W b mb) (hm : behindInMarks op b = false) : QE X W (.Compare a [op] [b] pos) (mOp o ma mb) := PEi (pe_cmpR ho ha hb hm) (lf_op hs)
theorem qe_ix {r : R2} {o : OP} (hr : IxR X r) (hs : SimO X.K r o) (ha : QE X W a ma) (hb : QE X W b mb) (hp : PlainIx b) : QE X W (.Subscript a b pos) (mOp o ma mb) := PEi (pe_ix hr ha hb hp) (lf_op hs)
def mNil : MA := fun _ M Q _ => Q [] M
def mCons (ma : ME) (mr : MA) : MA := fun ρ M Q X => ma ρ M (fun x M1 => mr ρ M1 (fun xs M2 => Q (x :: xs) M2) X) X
theorem qa_nil : QA X W [] mNil := PAi pa_nil fun σ H Q ⟨as, M, ρ, Q', X', r, rs, h, hq, hx⟩ => hq [] M h as H [] .refl r .nil
theorem qa_cons {mr : MA} (ha : QE X W a ma) (hr : QA X W es mr) (hs : starEach (a :: es) X.env = (false, eval a X.env) :: starEach es X.env := by rfl) : QA X W (a :: es) (mCons ma mr) :=
  PAi (pa_cons ha hr hs) fun σ H Q ⟨as, M, ρ, Q', X', r, rs, h, hq, hx⟩ => by
    refine lf_bind r rs h hx fun dx M1 as1 H1 x h1 e1 r1 rs1 rx => ?_
    refine lfA_bind r1 rs1 h1 (fun x M' q => (hx x M' q).mono e1) fun ds M2 as2 H2 vs h2 e2 r2 rs2 rv => ?_
    exact hq _ _ h2 as2 H2 _ (e1.trans e2) r2 (.cons (rx.up e2) rv)
def oTup : OA := fun ds M Q => ds.length ≤ 1000 ∧ Q (.tup ds) M
def oLst : OA := fun ds M Q => ds.length ≤ 1000 ∧ Q (.ref M.length) (M ++ [.lst ds])
theorem app_at {α : Type} {l : List α} {a : α} : (l ++ [a])[l.length]? = some a := by simp
theorem le_size {n : Nat} (h : n ≤ 1000) : n ≤ sizeLine := Nat.le_trans h (by decide)
/-- a new tuple is laid -/
theorem new_tup {K : PySem.W.Frag} {as : List Addr} {H : Hp} {M : Mem} {ds : List D} {xs : List V} {p : Addr} {k : DK} {Q : VK} (r : RepM K as H M) (rv : RelL K as H ds xs) (hp : H p = none) (h : k (.tup ds) M) (hk : ∀ d M', k d M' → LQ K as H Q d M') : Q (.ref p) (upd H p (.tup xs)) :=
  hk _ _ h as _ _ (ext_new hp) (r.laid hp) (.tup Tq.new (rv.up (ext_new hp)))
theorem new_obj {K : PySem.W.Frag} {as : List Addr} {H : Hp} {M : Mem} {o : O} {u : HO} {p : Addr} {k : DK} {Q : VK} (r : RepM K as H M) (hp : H p = none) (ho : OR K (as ++ [p]) (upd H p u) o p) (h : k (.ref M.length) (M ++ [o])) (hk : ∀ d M', k d M' → LQ K as H Q d M') : Q (.ref p) (upd H p u) :=
  hk _ _ h (as ++ [p]) _ _ ((ext_new hp).trans ext_app) (r.new hp ho) (.ref (by rw [← r.len]; exact app_at))
theorem new_lst {K : PySem.W.Frag} {as : List Addr} {H : Hp} {M : Mem} {ds : List D} {xs : List V} {p : Addr} {k : DK} {Q : VK} (r : RepM K as H M) (rv : RelL K as H ds xs) (hp : H p = none) (h : k (.ref M.length) (M ++ [.lst ds])) (hk : ∀ d M', k d M' → LQ K as H Q d M') : Q (.ref p) (upd H p (.lst xs)) :=
  new_obj (o := .lst ds) r hp ⟨xs, upd_same, rv.up ((ext_new hp).trans ext_app)⟩ h hk
theorem qe_tup {n : Nat} {ma : MA} (ha : QA X W es ma) : QE X W (.Tuple es n pos) (mCB oTup ma) := PEi (pe_tup ha) fun σ H Q ⟨as, M, ρ, Q', X', r, rs, h, hq, hx⟩ => by
  refine lfA_bind r rs h hx fun ds M1 as1 H1 vs h1 e1 r1 rs1 rv => ?_
  exact ⟨by rw [← rv.len]; exact le_size h1.1, fun p hp => new_tup r1 rv hp h1.2 fun d M' q => (hq d M' q).mono e1⟩
theorem qe_lst {ma : MA} (ha : QA X W es ma) : QE X W (.List es pos) (mCB oLst ma) := PEi (pe_lst ha) fun σ H Q ⟨as, M, ρ, Q', X', r, rs, h, hq, hx⟩ => by
  refine lfA_bind r rs h hx fun ds M1 as1 H1 vs h1 e1 r1 rs1 rv => ?_
  exact ⟨by rw [← rv.len]; exact le_size h1.1, fun p hp => new_lst r1 rv hp h1.2 fun d M' q => (hq d M' q).mono e1⟩
end
section
variable {X : Cx} {W : WX} {a b c : Expr} {rest : List Expr} {ma mb mc : ME} {ta tb tc : MT} {pos : Pos}
def mB (ma : ME) : MT := fun ρ M Q X => ma ρ M (fun x M1 => match x with | .bl k => Q k M1 | _ => False) X
def mAnd (t u : MT) : MT := fun ρ M Q X => t ρ M (fun k M1 => if k = true then u ρ M1 Q X else Q false M1) X
def mOr (t u : MT) : MT := fun ρ M Q X => t ρ M (fun k M1 => if k = true then Q true M1 else u ρ M1 Q X) X
def mNot (t : MT) : MT := fun ρ M Q X => t ρ M (fun k M1 => Q (!k) M1) X
theorem lfT_b {K : PySem.W.Frag} {σ : L2.St} {H : Hp} {Q : Bool → Hp → Prop} (h : lfT K W (mB ma) σ H Q) : tTest (lf K W ma) σ H Q := by
  obtain ⟨as, M, ρ, Q', X', r, rs, h, hq, hx⟩ := h
  refine lf_bind r rs h hx fun dx M1 as1 H1 x h1 e1 r1 rs1 rx => ?_
  cases rx with
  | bl k => exact ⟨k, rfl, hq k M1 h1 as1 H1 e1 r1⟩
  | _ => exact h1.elim
theorem qt_cmp {op : CmpOp} {r : R2} {o : OP} (ho : OpR X (compareOp op) r) (hs : SimO X.K r o) (ha : QE X W a ma) (hb : QE X W b mb) (hm : behindInMarks op b = false) : QT X W (.Compare a [op] [b] pos) (mB (mOp o ma mb)) :=
  PTi (pt_cmpR ho ha hb hm) fun σ H Q h => by
    have h2 := lfT_b h
    exact lf_op hs σ H _ h2
theorem qw_and1 (ha : QT X W a ta) : QW X W (.BoolOp .And [a] pos) ta := pw_and1 ha
theorem qw_or1 (ha : QT X W a ta) : QW X W (.BoolOp .Or [a] pos) ta := pw_or1 ha
theorem qw_and (ha : QT X W a ta) (hb : QW X W (.BoolOp .And (b :: rest) pos) tb) : QW X W (.BoolOp .And (a :: b :: rest) pos) (mAnd ta tb) := PWi (pw_and ha hb) fun σ H Q ⟨as, M, ρ, Q', X', r, rs, h, hq, hx⟩ => by
  refine lfT_bind r rs h hx fun k M1 as1 H1 h1 e1 r1 rs1 => ?_
  cases k with
  | true => exact ⟨as1, M1, ρ, Q', X', r1, rs1, h1, fun d M' q => (hq d M' q).mono e1, fun x M' q => (hx x M' q).mono e1⟩
  | false => exact hq false M1 h1 as1 H1 e1 r1
theorem qw_or (ha : QT X W a ta) (hb : QW X W (.BoolOp .Or (b :: rest) pos) tb) : QW X W (.BoolOp .Or (a :: b :: rest) pos) (mOr ta tb) := PWi (pw_or ha hb) fun σ H Q ⟨as, M, ρ, Q', X', r, rs, h, hq, hx⟩ => by
  refine lfT_bind r rs h hx fun k M1 as1 H1 h1 e1 r1 rs1 => ?_
  cases k with
  | true => exact hq true M1 h1 as1 H1 e1 r1
  | false => exact ⟨as1, M1, ρ, Q', X', r1, rs1, h1, fun d M' q => (hq d M' q).mono e1, fun x M' q => (hx x M' q).mono e1⟩
theorem qt_not (ha : QT X W a ta) : QT X W (.UnaryOp .Not a pos) (mNot ta) := PTi (pt_not ha) fun σ H Q ⟨as, M, ρ, Q', X', r, rs, h, hq, hx⟩ =>
  lfT_bind r rs h hx fun k M1 as1 H1 h1 e1 r1 _ => hq (!k) M1 h1 as1 H1 e1 r1
/-- a value's truth -/
def tru (x : D) (M : Mem) (Q : Bool → Mem → Prop) : Prop := match x with
  | .non => Q false M
  | .bl b => Q b M
  | .int i => Q (i != 0) M
  | .str y => y.length ≤ 16000000 ∧ Q ((y.length : Int) != 0) M
  | .tup ds => Q (!ds.isEmpty) M
  | .ref n => match M[n]? with
    | some (.lst ds) => Q (!ds.isEmpty) M
    | some (.dct false kvs) => Q (!kvs.isEmpty) M
    | _ => False
  | _ => False
def mTru (ma : ME) : MT := fun ρ M Q X => ma ρ M (fun x M1 => tru x M1 Q) X
theorem RelL.isEmpty {K : PySem.W.Frag} {as : List Addr} {H : Hp} {ds : List D} {vs : List V} (h : RelL K as H ds vs) : ds.isEmpty = vs.isEmpty := by cases h <;> rfl
theorem KVR.isEmpty {K : PySem.W.Frag} {as : List Addr} {H : Hp} {κ : Type} {ds : List (κ × D)} {vs : List (κ × V)} (h : KVR K as H ds vs) : ds.isEmpty = vs.isEmpty := by cases h <;> rfl
theorem tru_ok {K : PySem.W.Frag} {as : List Addr} {H : Hp} {M : Mem} {d : D} {x : V} {k : Bool → Mem → Prop} {Q : Bool → Hp → Prop} (rp : RepM K as H M) (rx : Rel K as H d x) (h : tru d M k) (hk : ∀ b M', k b M' → LT K as H Q b M') : ∃ b, TruV K x H b ∧ Q b H := by
  cases rx with
  | non => exact ⟨false, rfl, hk _ _ h as H .refl rp⟩
  | bl b => exact ⟨b, rfl, hk _ _ h as H .refl rp⟩
  | int i => exact ⟨_, rfl, hk _ _ h as H .refl rp⟩
  | str y => exact ⟨_, ⟨Nat.le_trans h.1 (by decide), rfl⟩, hk _ _ h.2 as H .refl rp⟩
  | tup hs hl => exact ⟨_, .inr (.inl ⟨_, hs.1, rfl⟩), by rw [← hl.isEmpty]; exact hk _ _ h as H .refl rp⟩
  | ref hn =>
    rename_i n a
    dsimp only [tru] at h
    split at h
    · rename_i ds e
      obtain ⟨a', ha, xs, h1, h2⟩ := rp.at_ e
      rw [hn] at ha; cases ha
      exact ⟨_, .inl ⟨xs, SqL.of h1, rfl⟩, by rw [← h2.isEmpty]; exact hk _ _ h as H .refl rp⟩
    · rename_i kvs e
      obtain ⟨a', ha, ks, h1, h2⟩ := rp.at_ e
      rw [hn] at ha; cases ha
      exact ⟨_, .inr (.inr ⟨ks, h2, rfl⟩), by rw [← h1.isEmpty]; exact hk _ _ h as H .refl rp⟩
    · exact h.elim
  | _ => exact h.elim
theorem qt_tru (ha : QE X W a ma) (he : ∀ whole, isTrue a X.env whole = (do let v ← whole; standAt a.pos; holding [v] (truthy v))) : QT X W a (mTru ma) := PTi (pt_truth ha he) fun σ H Q ⟨as, M, ρ, Q', X', r, rs, h, hq, hx⟩ => by
  refine lf_bind r rs h hx fun dx M1 as1 H1 x h1 e1 r1 rs1 rx => ?_
  exact tru_ok r1 rx h1 fun b M' q => (hq b M' q).mono e1
def mAndV (ma mb : ME) : ME := fun ρ M Q X => ma ρ M (fun x M1 => match x with | .bl k => if k = true then mb ρ M1 Q X else Q (.bl false) M1 | _ => False) X
def mOrV (ma mb : ME) : ME := fun ρ M Q X => ma ρ M (fun x M1 => match x with | .bl k => if k = true then Q (.bl true) M1 else mb ρ M1 Q X | _ => False) X
def mNotV (ma : ME) : ME := fun ρ M Q X => ma ρ M (fun x M1 => match x with | .bl k => Q (.bl (!k)) M1 | _ => False) X
def mIf (t : MT) (ma mb : ME) : ME := fun ρ M Q X => t ρ M (fun k M1 => if k = true then ma ρ M1 Q X else mb ρ M1 Q X) X
def mChain (o o' : OP) (ma mb mc : ME) : ME := fun ρ M Q X => ma ρ M (fun x M1 => mb ρ M1 (fun y M2 => o x y M2 fun z M3 => match z with | .bl k => if k = true then mc ρ M3 (fun w M4 => o' y w M4 Q) X else Q (.bl false) M3 | _ => False) X) X
theorem qe_one {op : BoolOp} (ha : QE X W a ma) : QE X W (.BoolOp op [a] pos) ma := pe_one ha
theorem qe_and (ha : QE X W a ma) (hb : QE X W (.BoolOp .And (b :: rest) pos) mb) : QE X W (.BoolOp .And (a :: b :: rest) pos) (mAndV ma mb) := PEi (pe_and ha hb) fun σ H Q ⟨as, M, ρ, Q', X', r, rs, h, hq, hx⟩ => by
  refine lf_bind r rs h hx fun dx M1 as1 H1 x h1 e1 r1 rs1 rx => ?_
  cases rx with
  | bl k =>
    refine ⟨k, rfl, ?_⟩
    cases k with
    | true => exact ⟨as1, M1, ρ, Q', X', r1, rs1, h1, fun d M' q => (hq d M' q).mono e1, fun x M' q => (hx x M' q).mono e1⟩
    | false => exact hq _ M1 h1 as1 H1 _ e1 r1 (.bl false)
  | _ => exact h1.elim
theorem qe_or (ha : QE X W a ma) (hb : QE X W (.BoolOp .Or (b :: rest) pos) mb) : QE X W (.BoolOp .Or (a :: b :: rest) pos) (mOrV ma mb) := PEi (pe_or ha hb) fun σ H Q ⟨as, M, ρ, Q', X', r, rs, h, hq, hx⟩ => by
  refine lf_bind r rs h hx fun dx M1 as1 H1 x h1 e1 r1 rs1 rx => ?_
  cases rx with
  | bl k =>
    refine ⟨k, rfl, ?_⟩
    cases k with
    | true => exact hq _ M1 h1 as1 H1 _ e1 r1 (.bl true)
    | false => exact ⟨as1, M1, ρ, Q', X', r1, rs1, h1, fun d M' q => (hq d M' q).mono e1, fun x M' q => (hx x M' q).mono e1⟩
  | _ => exact h1.elim
theorem qe_not (ha : QE X W a ma) : QE X W (.UnaryOp .Not a pos) (mNotV ma) := PEi (pe_not ha) fun σ H Q ⟨as, M, ρ, Q', X', r, rs, h, hq, hx⟩ => by
  refine lf_bind r rs h hx fun dx M1 as1 H1 x h1 e1 r1 rs1 rx => ?_
  cases rx with
  | bl k => exact ⟨k, rfl, hq _ M1 h1 as1 H1 _ e1 r1 (.bl (!k))⟩
  | _ => exact h1.elim
theorem qe_ifExp (hc : QT X W c tc) (ha : QE X W a ma) (hb : QE X W b mb) : QE X W (.IfExp c a b pos) (mIf tc ma mb) := PEi (pe_ifExp hc ha hb) fun σ H Q ⟨as, M, ρ, Q', X', r, rs, h, hq, hx⟩ => by
  refine lfT_bind r rs h hx fun k M1 as1 H1 h1 e1 r1 rs1 => ?_
  cases k with
  | true => exact ⟨as1, M1, ρ, Q', X', r1, rs1, h1, fun d M' q => (hq d M' q).mono e1, fun x M' q => (hx x M' q).mono e1⟩
  | false => exact ⟨as1, M1, ρ, Q', X', r1, rs1, h1, fun d M' q => (hq d M' q).mono e1, fun x M' q => (hx x M' q).mono e1⟩
theorem lf_chain {K : PySem.W.Frag} {r r' : R2} {o o' : OP} (hs : SimO K r o) (hs' : SimO K r' o') (σ : L2.St) (H : Hp) (Q : VK) (h : lf K W (mChain o o' ma mb mc) σ H Q) : tChain r r' (lf K W ma) (lf K W mb) (lf K W mc) σ H Q := by
  obtain ⟨as, M, ρ, Q', X', rp, rs, h, hq, hx⟩ := h
  refine lf_bind rp rs h hx fun dx M1 as1 H1 x h1 e1 r1 rs1 rx => ?_
  refine lf_bind r1 rs1 h1 (fun x M' q => (hx x M' q).mono e1) fun dy M2 as2 H2 y h2 e2 r2 rs2 ry => ?_
  refine hs as2 H2 M2 dx dy x y _ _ r2 (rx.up e2) ry h2 fun dz M3 q3 as3 H3 z e3 r3 rz => ?_
  cases rz with
  | bl k =>
    refine ⟨k, rfl, ?_⟩
    have e4 := (e1.trans e2).trans e3
    cases k with
    | true =>
      rw [if_pos rfl]
      refine lf_bind r3 (rs2.up e3) q3 (fun x M' q => (hx x M' q).mono e4) fun dw M4 as4 H4 w h4 e5 r4 rs4 rw' => ?_
      exact hs' as4 H4 M4 dy dw y w Q' Q r4 (ry.up (e3.trans e5)) rw' h4 fun d M' q => (hq d M' q).mono (e4.trans e5)
    | false =>
      rw [if_neg Bool.false_ne_true]
      exact hq _ M3 q3 as3 H3 _ e4 r3 (.bl false)
  | _ => exact q3.elim
theorem qt_chain {op op' : CmpOp} {r r' : R2} {o o' : OP} (ho : OpR X (compareOp op) r) (hs : SimO X.K r o) (ho' : OpR X (compareOp op') r') (hs' : SimO X.K r' o') (ha : QE X W a ma) (hb : QE X W b mb) (hc : QE X W c mc) (hm : lastMarks [op, op'] [b, c] = false := by with_unfolding_all rfl) :
    QT X W (.Compare a [op, op'] [b, c] pos) (mB (mChain o o' ma mb mc)) := PTi (pt_chain ho ho' ha hb hc hm) fun σ H Q h => lf_chain hs hs' σ H _ (lfT_b h)
end
end MV
namespace MV
open PySem PySem.Spec PyProof.Rows L2
mutual
def deq : D → D → Bool
  | .non, .non => true
  | .bl a, .bl b => a == b
  | .bl a, .int j => (if a then 1 else 0) == j
  | .int i, .bl b => i == (if b then 1 else 0)
  | .int i, .int j => i == j
  | .str x, .str y => x == y
  | .tup xs, .tup ys => deqL xs ys
  | _, _ => false
def deqL : List D → List D → Bool
  | [], [] => true
  | x :: xs, y :: ys => deq x y && deqL xs ys
  | _, _ => false
end
def fine : Nat → D → Bool
  | _, .non => true
  | _, .bl _ => true
  | _, .int _ => true
  | _, .str x => PyData.strOk x
  | k + 1, .tup ds => ds.all (fine k)
  | _, _ => false
mutual
def toPy : D → PyData
  | .non => .none
  | .bl b => .bool b
  | .int i => .int i
  | .str x => .str x
  | .tup ds => .tuple (toPyL ds)
  | _ => .none
def toPyL : List D → List PyData
  | [] => []
  | d :: ds => toPy d :: toPyL ds
end
section
variable {K : PySem.W.Frag} {as : List Addr} {H : Hp}
theorem fine_ok (k : Nat) : ∀ {d : D} {v : V}, fine k d = true → Rel K as H d v → Dp K H v (toPy d) ∧ (toPy d).canLay0 = true ∧ (toPy d).depth ≤ k := by
  induction k with
  | zero =>
    intro d v f r
    cases r with
    | non => exact ⟨.non, by simp [toPy, PyData.canLay0], by simp [toPy, PyData.depth]⟩
    | bl b => exact ⟨.bl b, by simp [toPy, PyData.canLay0], by simp [toPy, PyData.depth]⟩
    | int b => exact ⟨.int b, by simp [toPy, PyData.canLay0], by simp [toPy, PyData.depth]⟩
    | str b => exact ⟨.str b, by simp only [toPy, PyData.canLay0]; exact f, by simp [toPy, PyData.depth]⟩
    | _ => simp [fine] at f
  | succ k ih =>
    intro d v f r
    cases r with
    | non => exact ⟨.non, by simp [toPy, PyData.canLay0], by simp [toPy, PyData.depth]⟩
    | bl b => exact ⟨.bl b, by simp [toPy, PyData.canLay0], by simp [toPy, PyData.depth]⟩
    | int b => exact ⟨.int b, by simp [toPy, PyData.canLay0], by simp [toPy, PyData.depth]⟩
    | str b => exact ⟨.str b, by simp only [toPy, PyData.canLay0]; exact f, by simp [toPy, PyData.depth]⟩
    | tup hs hl =>
      rename_i a xs ds
      have key : ∀ (ds : List D) (xs : List V), RelL K as H ds xs → ds.all (fine k) = true → DpAll K H xs (toPyL ds) ∧ PyData.canLayAll0 (toPyL ds) = true ∧ PyData.depthAll (toPyL ds) ≤ k := by
        intro ds
        induction ds with
        | nil => intro xs h _; cases h; exact ⟨.nil, by simp [toPyL, PyData.canLayAll0], by simp [toPyL, PyData.depthAll]⟩
        | cons d ds ihd =>
          intro xs h f
          cases h with
          | cons h1 h2 =>
            simp only [List.all_cons, Bool.and_eq_true] at f
            obtain ⟨a1, a2, a3⟩ := ih f.1 h1
            obtain ⟨b1, b2, b3⟩ := ihd _ h2 f.2
            refine ⟨.cons a1 b1, by simp [toPyL, PyData.canLayAll0, a2, b2], ?_⟩
            simp only [toPyL, PyData.depthAll]
            omega
      obtain ⟨a1, a2, a3⟩ := key ds xs hl (by simpa [fine] using f)
      exact ⟨.tup hs.1 a1, by simp only [toPy, PyData.canLay0]; exact a2, by simp only [toPy, PyData.depth]; omega⟩
    | _ => simp [fine] at f
theorem fineL_ok (k : Nat) : ∀ {ds : List D} {xs : List V}, RelL K as H ds xs → ds.all (fine k) = true → DpAll K H xs (toPyL ds) ∧ PyData.canLayAll0 (toPyL ds) = true ∧ PyData.depthAll (toPyL ds) ≤ k
  | _, _, .nil, _ => ⟨.nil, by simp [toPyL, PyData.canLayAll0], by simp [toPyL, PyData.depthAll]⟩
  | _, _, .cons h1 h2, f => by
    simp only [List.all_cons, Bool.and_eq_true] at f
    obtain ⟨a1, a2, a3⟩ := fine_ok k f.1 h1
    obtain ⟨b1, b2, b3⟩ := fineL_ok k h2 f.2
    refine ⟨.cons a1 b1, by simp [toPyL, PyData.canLayAll0, a2, b2], ?_⟩
    simp only [toPyL, PyData.depthAll]
    omega
theorem shaped_of {p : PyData} {k : Nat} (h : p.canLay0 = true) (hd : p.depth ≤ k) (hk : k ≤ 64) : SeqAt.shaped p = true := by
  simp only [SeqAt.shaped, Bool.and_eq_true, decide_eq_true_eq]
  exact ⟨h, Nat.le_trans hd hk⟩
end
theorem eqv_deq (k : Nat) : ∀ {d e : D}, fine k d = true → fine k e = true → PyData.eqv (toPy d) (toPy e) = deq d e := by
  induction k with
  | zero =>
    intro d e f g
    cases d <;> cases e <;> first | (simp [fine] at f; done) | (simp [fine] at g; done) | simp [toPy, PyData.eqv, deq]
  | succ k ih =>
    intro d e f g
    cases d <;> cases e <;> first | (simp [fine] at f; done) | (simp [fine] at g; done) | skip
    case tup.tup ds es =>
      simp only [toPy, PyData.eqv, deq]
      simp only [fine] at f g
      revert es
      induction ds with
      | nil => intro es g; cases es <;> simp [toPyL, PyData.eqvAll, deqL]
      | cons d ds ihd =>
        intro es g
        cases es with
        | nil => simp [toPyL, PyData.eqvAll, deqL]
        | cons e es =>
          simp only [List.all_cons, Bool.and_eq_true] at f g
          simp only [toPyL, PyData.eqvAll, deqL]
          rw [ih f.1 g.1, ihd f.2 es g.2]
    all_goals simp [toPy, PyData.eqv, deq]
def okMul (i j : Int) : Prop := CMul i j ∨ CMulW i j
def okDiv (j : Int) : Prop := j ≠ 0 ∧ j.natAbs.log2 < 9000
def oAdd : OP := fun x y M Q => match x, y with
  | .int i, .int j => Q (.int (i + j)) M
  | .str a, .str b => a.length + b.length ≤ 16000000 ∧ Q (.str (a ++ b)) M
  | .tup a, .tup b => a.length + b.length ≤ 16000000 ∧ Q (.tup (a ++ b)) M
  | .ref m, .ref n => match M[m]?, M[n]? with
    | some (.lst a), some (.lst b) => a.length + b.length ≤ 16000000 ∧ Q (.ref M.length) (M ++ [.lst (a ++ b)])
    | _, _ => False
  | _, _ => False
def oSub : OP := fun x y M Q => match x, y with | .int i, .int j => Q (.int (i - j)) M | _, _ => False
def oMul : OP := fun x y M Q => match x, y with | .int i, .int j => okMul i j ∧ Q (.int (i * j)) M | _, _ => False
def oDiv : OP := fun x y M Q => match x, y with | .int i, .int j => okDiv j ∧ Q (.int (i.fdiv j)) M | _, _ => False
def oMod : OP := fun x y M Q => match x, y with | .int i, .int j => j ≠ 0 ∧ Q (.int (i.fmod j)) M | _, _ => False
def oPow : OP := fun x y M Q => match x, y with | .int i, .int j => CPow i j ∧ Q (.int (i ^ j.toNat)) M | _, _ => False
def oNeg : OU := fun x M Q => match x with | .int i => Q (.int (-i)) M | _ => False
def oLt : OP := fun x y M Q => match x, y with | .int i, .int j => Q (.bl (decide (i < j))) M | _, _ => False
def oLe : OP := fun x y M Q => match x, y with | .int i, .int j => Q (.bl (decide (i ≤ j))) M | _, _ => False
def oGt : OP := fun x y M Q => match x, y with | .int i, .int j => Q (.bl (decide (j < i))) M | _, _ => False
def oGe : OP := fun x y M Q => match x, y with | .int i, .int j => Q (.bl (decide (j ≤ i))) M | _, _ => False
mutual
/-- d, with all that it holds, is the plain data p -/
inductive See (M : Mem) : Nat → D → PyData → Prop
  | non (k : Nat) : See M k .non .none
  | bl (k : Nat) (b : Bool) : See M k (.bl b) (.bool b)
  | int (k : Nat) (i : Int) : See M k (.int i) (.int i)
  | str (k : Nat) {x : Str} : PyData.strOk x = true → See M k (.str x) (.str x)
  | tup {k : Nat} {ds : List D} {ps : List PyData} : SeeL M k ds ps → See M (k + 1) (.tup ds) (.tuple ps)
  | lst {k n : Nat} {ds : List D} {ps : List PyData} : M[n]? = some (.lst ds) → SeeL M k ds ps → See M (k + 1) (.ref n) (.list ps)
inductive SeeL (M : Mem) : Nat → List D → List PyData → Prop
  | nil {k : Nat} : SeeL M k [] []
  | cons {k : Nat} {d : D} {ds : List D} {p : PyData} {ps : List PyData} : See M k d p → SeeL M k ds ps → SeeL M k (d :: ds) (p :: ps)
end
/-- x == y (of all that can be seen as plain data) -/
def oEqB (x y : D) (M : Mem) (k : Bool → Prop) : Prop := match x, y with
  | .str a, .str b => k (decide (a = b))
  | .int i, .int j => k (decide (i = j))
  | x, y => ∃ p q, See M 20 x p ∧ See M 20 y q ∧ k (PyData.eqv p q)
def oEq : OP := fun x y M Q => oEqB x y M fun b => Q (.bl b) M
def oNe : OP := fun x y M Q => oEqB x y M fun b => Q (.bl (!b)) M
def oIsN : OU := fun x M Q => Q (.bl (match x with | .non => true | _ => false)) M
def oNotN : OU := fun x M Q => Q (.bl (match x with | .non => false | _ => true)) M
section
variable {K : PySem.W.Frag}
theorem at_lst {as : List Addr} {H : Hp} {M : Mem} {n : Nat} {a : Addr} {ds : List D} (rp : RepM K as H M) (hn : as[n]? = some a) (e : M[n]? = some (.lst ds)) : ∃ xs, H a = some (.lst xs) ∧ RelL K as H ds xs := by
  obtain ⟨a', ha, xs, h1, h2⟩ := rp.at_ e
  rw [hn] at ha; cases ha
  exact ⟨xs, h1, h2⟩
theorem sim_i0 {f : Int → Int → Int} {o : OP} (ho : ∀ x y M Q, o x y M Q → ∃ i j, x = .int i ∧ y = .int j ∧ Q (.int (f i j)) M) : SimO K (rI0 fun i j => .int (f i j)) o := fun as H M dx dy x y k Q rp rx ry h hk => by
  obtain ⟨i, j, rfl, rfl, q⟩ := ho _ _ _ _ h
  cases rx; cases ry
  exact ⟨i, j, rfl, rfl, hk _ _ q as H _ .refl rp (.int _)⟩
theorem sim_b0 {f : Int → Int → Bool} {o : OP} (ho : ∀ x y M Q, o x y M Q → ∃ i j, x = .int i ∧ y = .int j ∧ Q (.bl (f i j)) M) : SimO K (rI0 fun i j => .bl (f i j)) o := fun as H M dx dy x y k Q rp rx ry h hk => by
  obtain ⟨i, j, rfl, rfl, q⟩ := ho _ _ _ _ h
  cases rx; cases ry
  exact ⟨i, j, rfl, rfl, hk _ _ q as H _ .refl rp (.bl _)⟩
theorem sim_i {C : Int → Int → Prop} {f : Int → Int → Int} {o : OP} (ho : ∀ x y M Q, o x y M Q → ∃ i j, x = .int i ∧ y = .int j ∧ C i j ∧ Q (.int (f i j)) M) : SimO K (rI C fun i j => .int (f i j)) o := fun as H M dx dy x y k Q rp rx ry h hk => by
  obtain ⟨i, j, rfl, rfl, c, q⟩ := ho _ _ _ _ h
  cases rx; cases ry
  exact ⟨i, j, rfl, rfl, c, hk _ _ q as H _ .refl rp (.int _)⟩
theorem sim_sub : SimO K (rI0 fun i j => .int (i - j)) oSub := sim_i0 fun x y M Q h => by
  cases x <;> cases y <;> first | exact h.elim | exact ⟨_, _, rfl, rfl, h⟩
theorem sim_mod : SimO K (rI (fun _ j => j ≠ 0) fun i j => .int (i.fmod j)) oMod := sim_i fun x y M Q h => by
  cases x <;> cases y <;> first | exact h.elim | exact ⟨_, _, rfl, rfl, h⟩
theorem sim_div : SimO K (rI DW.CDivX fun i j => .int (i.fdiv j)) oDiv := sim_i fun x y M Q h => by
  cases x <;> cases y <;> first | exact h.elim | exact ⟨_, _, rfl, rfl, h⟩
theorem sim_pow : SimO K (rI CPow fun i j => .int (i ^ j.toNat)) oPow := sim_i fun x y M Q h => by
  cases x <;> cases y <;> first | exact h.elim | exact ⟨_, _, rfl, rfl, h⟩
theorem sim_lt : SimO K (rI0 fun i j => .bl (decide (i < j))) oLt := sim_b0 fun x y M Q h => by
  cases x <;> cases y <;> first | exact h.elim | exact ⟨_, _, rfl, rfl, h⟩
theorem sim_le : SimO K (rI0 fun i j => .bl (decide (i ≤ j))) oLe := sim_b0 fun x y M Q h => by
  cases x <;> cases y <;> first | exact h.elim | exact ⟨_, _, rfl, rfl, h⟩
theorem sim_gt : SimO K (rI0 fun i j => .bl (decide (j < i))) oGt := sim_b0 fun x y M Q h => by
  cases x <;> cases y <;> first | exact h.elim | exact ⟨_, _, rfl, rfl, h⟩
theorem sim_ge : SimO K (rI0 fun i j => .bl (decide (j ≤ i))) oGe := sim_b0 fun x y M Q h => by
  cases x <;> cases y <;> first | exact h.elim | exact ⟨_, _, rfl, rfl, h⟩
def rMulA : R2 := fun x y H Q => rI CMul (fun i j => .int (i * j)) x y H Q ∨ rI CMulW (fun i j => .int (i * j)) x y H Q
theorem op_mulA {X : Cx} : OpR X (binaryOp .Mult) rMulA := OpR.or op_mul op_mulW
theorem sim_mul : SimO K rMulA oMul := fun as H M dx dy x y k Q rp rx ry h hk => by
  cases dx <;> cases dy <;> first | exact h.elim | skip
  cases rx; cases ry
  rcases h.1 with c | c
  · exact .inl ⟨_, _, rfl, rfl, c, hk _ _ h.2 as H _ .refl rp (.int _)⟩
  · exact .inr ⟨_, _, rfl, rfl, c, hk _ _ h.2 as H _ .refl rp (.int _)⟩
theorem sim_neg : SimU K (rU fun i => .int (-i)) oNeg := fun as H M dx x k Q rp rx h hk => by
  cases dx <;> first | exact h.elim | skip
  cases rx
  exact ⟨_, rfl, hk _ _ h as H _ .refl rp (.int _)⟩
theorem sim_add : SimO K (DW.rPlus K) oAdd := fun as H M dx dy x y k Q rp rx ry h hk => by
  cases rx with
  | int i =>
    cases ry with
    | int j => exact .inl ⟨i, j, rfl, rfl, hk _ _ h as H _ .refl rp (.int _)⟩
    | _ => exact h.elim
  | str a =>
    cases ry with
    | str b => exact .inr (.inl ⟨a, b, rfl, rfl, Nat.le_trans h.1 (by decide), hk _ _ h.2 as H _ .refl rp (.str _)⟩)
    | _ => exact h.elim
  | tup hs hl =>
    cases ry with
    | tup hs2 hl2 =>
      refine .inr (.inr (.inl ⟨_, _, _, _, rfl, rfl, hs.1, hs2.1, ?_, fun z => ?_, fun _ z => ?_, fun _ _ p hp => ?_⟩))
      · rw [← hl.len, ← hl2.len]; exact Nat.le_trans h.1 (by decide)
      · subst z
        cases hl
        exact hk _ _ h.2 as H _ .refl rp (.tup hs2 hl2)
      · subst z
        cases hl2
        exact hk _ _ h.2 as H _ .refl rp (by rw [List.append_nil]; exact .tup hs hl)
      · exact new_tup rp (hl.app hl2) hp h.2 hk
    | _ => exact h.elim
  | ref hn =>
    cases ry with
    | ref hm =>
      dsimp only [oAdd] at h
      split at h
      · rename_i a b e1 e2
        obtain ⟨xs, h1, h2⟩ := at_lst rp hn e1
        obtain ⟨ys, h3, h4⟩ := at_lst rp hm e2
        refine .inr (.inr (.inr ⟨_, _, xs, ys, rfl, rfl, h1, h3, ?_, fun p hp => new_lst rp (h2.app h4) hp h.2 hk⟩))
        rw [← h2.len, ← h4.len]; exact Nat.le_trans h.1 (by decide)
      · exact h.elim
    | _ => exact h.elim
  | _ => cases ry <;> exact h.elim
end
end MV
namespace MV
open PySem PySem.Spec PyProof.Rows L2
section
variable {K : PySem.W.Frag} {as : List Addr} {H : Hp} {M : Mem}
theorem dat_ok {d : D} {v : V} (f : fine 20 d = true) (r : Rel K as H d v) : Dp K H v (toPy d) ∧ SeqAt.shaped (toPy d) = true :=
  let ⟨a, b, c⟩ := fine_ok 20 f r; ⟨a, shaped_of b c (by decide)⟩
theorem datL_ok {ds : List D} {xs : List V} {a : Addr} (h : H a = some (.lst xs)) (f : ds.all (fine 20) = true) (r : RelL K as H ds xs) : Dp K H (.ref a) (.list (toPyL ds)) ∧ SeqAt.shaped (.list (toPyL ds)) = true := by
  obtain ⟨h1, h2, h3⟩ := fineL_ok 20 r f
  exact ⟨.lst (SqL.of h) h1, shaped_of (k := 21) (by simp only [PyData.canLay0]; exact h2) (by simp only [PyData.depth]; omega) (by decide)⟩
mutual
theorem See.ok (rp : RepM K as H M) : ∀ {k : Nat} {d : D} {p : PyData} {v : V}, See M k d p → Rel K as H d v → Dp K H v p ∧ p.canLay0 = true ∧ p.depth ≤ k
  | _, _, _, _, .non _, .non => ⟨.non, by simp [PyData.canLay0], by simp [PyData.depth]⟩
  | _, _, _, _, .bl _ b, .bl _ => ⟨.bl b, by simp [PyData.canLay0], by simp [PyData.depth]⟩
  | _, _, _, _, .int _ b, .int _ => ⟨.int b, by simp [PyData.canLay0], by simp [PyData.depth]⟩
  | _, _, _, _, .str _ f, .str _ => ⟨.str _, by simp only [PyData.canLay0]; exact f, by simp [PyData.depth]⟩
  | _, _, _, _, .tup l, .tup hs hl => by
    obtain ⟨a1, a2, a3⟩ := SeeL.ok rp l hl
    exact ⟨.tup hs.1 a1, by simp only [PyData.canLay0]; exact a2, by simp only [PyData.depth]; omega⟩
  | _, _, _, _, .lst e l, .ref hn => by
    obtain ⟨xs, h1, h2⟩ := at_lst rp hn e
    obtain ⟨a1, a2, a3⟩ := SeeL.ok rp l h2
    exact ⟨.lst (SqL.of h1) a1, by simp only [PyData.canLay0]; exact a2, by simp only [PyData.depth]; omega⟩
theorem SeeL.ok (rp : RepM K as H M) : ∀ {k : Nat} {ds : List D} {ps : List PyData} {vs : List V}, SeeL M k ds ps → RelL K as H ds vs → DpAll K H vs ps ∧ PyData.canLayAll0 ps = true ∧ PyData.depthAll ps ≤ k
  | _, _, _, _, .nil, .nil => ⟨.nil, by simp [PyData.canLayAll0], by simp [PyData.depthAll]⟩
  | _, _, _, _, .cons a b, .cons h1 h2 => by
    obtain ⟨a1, a2, a3⟩ := See.ok rp a h1
    obtain ⟨b1, b2, b3⟩ := SeeL.ok rp b h2
    refine ⟨.cons a1 b1, by simp [PyData.canLayAll0, a2, b2], ?_⟩
    simp only [PyData.depthAll]
    omega
end
theorem eqB_ok {dx dy : D} {x y : V} {k : Bool → Prop} (rp : RepM K as H M) (rx : Rel K as H dx x) (ry : Rel K as H dy y) (h : oEqB dx dy M k) :
    (scal x y = true ∧ k (decide (x = y))) ∨ ∃ d e, Dp K H x d ∧ Dp K H y e ∧ SeqAt.shaped d = true ∧ SeqAt.shaped e = true ∧ k (PyData.eqv d e) := by
  unfold oEqB at h
  split at h
  · rename_i a b
    cases rx
    cases ry
    refine .inl ⟨rfl, ?_⟩
    have e : decide ((V.str a) = V.str b) = decide (a = b) := by simp
    rw [e]; exact h
  · rename_i a b
    cases rx
    cases ry
    · refine .inr ⟨.int a, .int b, .int a, .int b, by simp [SeqAt.shaped, PyData.canLay0, PyData.depth], by simp [SeqAt.shaped, PyData.canLay0, PyData.depth], ?_⟩
      simp only [PyData.eqv]
      have e : (a == b) = decide (a = b) := rfl
      rw [e]; exact h
  · obtain ⟨p, q, s1, s2, h⟩ := h
    obtain ⟨a1, a2, a3⟩ := s1.ok rp rx
    obtain ⟨b1, b2, b3⟩ := s2.ok rp ry
    exact .inr ⟨p, q, a1, b1, shaped_of a2 a3 (by decide), shaped_of b2 b3 (by decide), h⟩
theorem sim_eq : SimO K (DW.rEqq K) oEq := fun as H M dx dy x y k Q rp rx ry h hk => by
  rcases eqB_ok rp rx ry h with ⟨s, q⟩ | ⟨d, e, h1, h2, h3, h4, q⟩
  · exact .inl ⟨s, hk _ _ q as H _ .refl rp (.bl _)⟩
  · exact .inr ⟨d, e, h1, h2, h3, h4, hk _ _ q as H _ .refl rp (.bl _)⟩
theorem sim_ne : SimO K (DW.rNee K) oNe := fun as H M dx dy x y k Q rp rx ry h hk => by
  rcases eqB_ok rp rx ry h with ⟨s, q⟩ | ⟨d, e, h1, h2, h3, h4, q⟩
  · exact .inl ⟨s, hk _ _ q as H _ .refl rp (.bl _)⟩
  · exact .inr ⟨d, e, h1, h2, h3, h4, hk _ _ q as H _ .refl rp (.bl _)⟩
end
def oIs : OP := fun x y M Q => match y with | .non => oIsN x M Q | _ => False
def oIsNot : OP := fun x y M Q => match y with | .non => oNotN x M Q | _ => False
section
variable {K : PySem.W.Frag}
theorem sim_is : SimO K rIsN oIs := fun as H M dx dy x y k Q rp rx ry h hk => by
  cases ry <;> first | exact h.elim | skip
  refine ⟨rfl, ?_⟩
  cases rx <;> exact hk _ _ h as H _ .refl rp (.bl _)
theorem sim_isnot : SimO K rNotN oIsNot := fun as H M dx dy x y k Q rp rx ry h hk => by
  cases ry <;> first | exact h.elim | skip
  refine ⟨rfl, ?_⟩
  cases rx <;> exact hk _ _ h as H _ .refl rp (.bl _)
end
def keyOf : D → Option Key
  | .int i => some (.inl i)
  | .str x => some (.inr x)
  | _ => none
def dget {κ : Type} [DecidableEq κ] (kvs : List (κ × D)) (k : κ) : Option D := (kvs.find? fun kv => decide (kv.1 = k)).map (·.2)
def dput {κ : Type} [DecidableEq κ] (kvs : List (κ × D)) (k : κ) (v : D) : List (κ × D) := if (kvs.any fun kv => decide (kv.1 = k)) then kvs.map (fun kv => if kv.1 = k then (kv.1, v) else kv) else kvs ++ [(k, v)]
def ddrop {κ : Type} [DecidableEq κ] (kvs : List (κ × D)) (k : κ) : List (κ × D) := kvs.filter fun kv => decide (kv.1 ≠ k)
section
variable {K : PySem.W.Frag} {as : List Addr} {H : Hp} {M : Mem} {κ : Type} [DecidableEq κ]
theorem KVR.get {l : List (κ × D)} {m : List (κ × V)} (h : KVR K as H l m) (k : κ) : (dget l k = none ∧ valV m k = none) ∨ ∃ d v, dget l k = some d ∧ valV m k = some v ∧ Rel K as H d v := by
  induction h with
  | nil => exact .inl ⟨rfl, rfl⟩
  | cons h t ih =>
    rename_i p q l m
    obtain ⟨h1, h2⟩ := h
    by_cases e : q.1 = k
    · refine .inr ⟨p.2, q.2, ?_, valV_pos e, h2⟩
      simp [dget, List.find?_cons, h1, e]
    · have e2 : ¬ p.1 = k := by rw [h1]; exact e
      have e3 : dget (p :: l) k = dget l k := by simp [dget, List.find?_cons, e2]
      rw [e3, valV_neg e]; exact ih
theorem KVR.any {l : List (κ × D)} {m : List (κ × V)} (h : KVR K as H l m) (k : κ) : (l.any fun kv => decide (kv.1 = k)) = m.any fun kv => decide (kv.1 = k) := by
  induction h with
  | nil => rfl
  | cons h t ih => simp only [List.any_cons, h.1, ih]
theorem KVR.put {l : List (κ × D)} {m : List (κ × V)} (h : KVR K as H l m) (k : κ) {d : D} {v : V} (r : Rel K as H d v) : KVR K as H (dput l k d) (putK m k v) := by
  unfold dput putK
  rw [h.any k]
  split
  · rename_i hx; clear hx
    induction h with
    | nil => exact .nil
    | cons h t ih =>
      rename_i p q l m
      simp only [List.map_cons]
      refine .cons ?_ ih
      rw [h.1]
      split
      · exact ⟨rfl, r⟩
      · exact h
  · exact Paired.snoc h ⟨rfl, r⟩
theorem KVR.drop {l : List (κ × D)} {m : List (κ × V)} (h : KVR K as H l m) (k : κ) : KVR K as H (ddrop l k) (dropK m k) := by
  unfold ddrop dropK
  induction h with
  | nil => exact .nil
  | cons h t ih =>
    rename_i p q l m
    simp only [List.filter_cons, h.1]
    split
    · exact .cons h ih
    · exact ih
theorem keyOf_ok {d : D} {v : V} {k : Key} (r : Rel K as H d v) (e : keyOf d = some k) : v = kV k := by
  cases r <;> simp [keyOf] at e <;> subst e <;> rfl
/-- the dict at n, read -/
theorem at_dct {n : Nat} {a : Addr} {lk : Bool} {kvs : List (Key × D)} (rp : RepM K as H M) (hn : as[n]? = some a) (e : M[n]? = some (.dct lk kvs)) : ∃ ks, KVR K as H kvs ks ∧ Rd H a (.dK ks) := by
  obtain ⟨a', ha, ks, h1, h2⟩ := rp.at_ e
  rw [hn] at ha; cases ha
  cases lk with
  | true => obtain ⟨ob, h2⟩ := h2; exact ⟨ks, h1, .inr ⟨ob, h2⟩⟩
  | false => exact ⟨ks, h1, .inl h2⟩
theorem at_frz {n : Nat} {a : Addr} {ds : List D} (rp : RepM K as H M) (hn : as[n]? = some a) (e : M[n]? = some (.frz ds)) : ∃ ob xs, H a = some (.frz ob (.lst xs)) ∧ RelL K as H ds xs := by
  obtain ⟨a', ha, ob, xs, h1, h2⟩ := rp.at_ e
  rw [hn] at ha; cases ha
  exact ⟨ob, xs, h1, h2⟩
end
def flat : D → Bool
  | .non => true
  | .bl _ => true
  | .int _ => true
  | .str _ => true
  | _ => false
def inOk (x : D) (ds : List D) : Prop := ((flat x && ds.all flat) || (fine 20 x && ds.all (fine 20))) = true
def oInB (x y : D) (M : Mem) (k : Bool → Prop) : Prop := match y with
  | .str z => match x with
    | .str c => match c.cps.toList with
      | [c] => k (decide (c ∈ z.cps.toList))
      | _ => False
    | _ => False
  | .tup ds => (flat x && ds.all flat) = true ∧ k (ds.any fun e => deq e x)
  | .ref n => match M[n]? with
    | some (.lst ds) => inOk x ds ∧ k (ds.any fun e => deq e x)
    | some (.dct _ kvs) => match keyOf x with
      | some q => k (dget kvs q).isSome
      | none => False
    | _ => False
  | _ => False
def oIn : OP := fun x y M Q => oInB x y M fun b => Q (.bl b) M
def oNotIn : OP := fun x y M Q => oInB x y M fun b => Q (.bl (!b)) M
def rDIn : R2 := fun y x H Q => ∃ a o, x = .ref a ∧ DGet H a y o ∧ Q (.bl o.isSome) H
def rDNotIn : R2 := fun y x H Q => ∃ a o, x = .ref a ∧ DGet H a y o ∧ Q (.bl (!o.isSome)) H
def rInA (K : PySem.W.Frag) : R2 := fun x y H Q => rInS x y H Q ∨ rIn K false x y H Q ∨ rInD K x y H Q ∨ rDIn x y H Q
def rNotInA (K : PySem.W.Frag) : R2 := fun x y H Q => rNotInS x y H Q ∨ rIn K true x y H Q ∨ rNotInD K x y H Q ∨ rDNotIn x y H Q
section
variable {X : Cx}
theorem op_din (hu : X.A.units + 1 < cLine) : OpR X (compareOp .In) rDIn := fun pins s σ H x y v u Q I rx ry h => by
  obtain ⟨a, o, rfl, g, q⟩ := h
  obtain rfl : u = Value.ref a := ry
  exact d_in hu I g rx fun s3 I3 => ⟨.bl o.isSome, H, I3, rfl, q⟩
theorem op_dnotin (hu : X.A.units + 1 < cLine) : OpR X (compareOp .NotIn) rDNotIn := fun pins s σ H x y v u Q I rx ry h => by
  obtain ⟨a, o, rfl, g, q⟩ := h
  obtain rfl : u = Value.ref a := ry
  exact d_notIn hu I g rx fun s3 I3 => ⟨.bl (!o.isSome), H, I3, rfl, q⟩
theorem op_inA (hu : X.A.units + 65 < cLine) : OpR X (compareOp .In) (rInA X.K) := OpR.or op_inS (OpR.or op_in_seq (OpR.or (op_inD hu) (op_din (by omega))))
theorem op_notInA (hu : X.A.units + 65 < cLine) : OpR X (compareOp .NotIn) (rNotInA X.K) := OpR.or op_notInS (OpR.or op_notIn_seq (OpR.or (op_notInD hu) (op_dnotin (by omega))))
end
section
variable {K : PySem.W.Frag} {as : List Addr} {H : Hp} {M : Mem}
theorem flat_ok {d : D} {v : V} (r : Rel K as H d v) (f : flat d = true) : flatV v = true := by
  cases r <;> first | rfl | (simp [flat] at f)
theorem eqV_deq {d e : D} {v w : V} (r : Rel K as H d v) (s : Rel K as H e w) (f : flat d = true) (g : flat e = true) : eqV v w = deq d e := by
  cases r <;> first | (simp [flat] at f; done) | skip
  all_goals (cases s <;> first | (simp [flat] at g; done) | simp [eqV, deq])
theorem inV_any {e : D} {w : V} (s : Rel K as H e w) (g : flat e = true) : ∀ {ds : List D} {vs : List V}, RelL K as H ds vs → ds.all flat = true → inV w vs = ds.any (fun d => deq d e) ∧ vs.all flatV = true
  | _, _, .nil, _ => ⟨rfl, rfl⟩
  | _, _, .cons h r, f => by
    simp only [List.all_cons, Bool.and_eq_true] at f
    obtain ⟨h1, h2⟩ := inV_any s g r f.2
    simp only [inV, List.any_cons] at h1 ⊢
    rw [h1, eqV_deq h s f.1 g]
    exact ⟨rfl, by simp [flat_ok h f.1, h2]⟩
theorem any_eqv {e : D} (g : fine 20 e = true) : ∀ {ds : List D}, ds.all (fine 20) = true → ((toPyL ds).any fun z => PyData.eqv z (toPy e)) = ds.any fun d => deq d e
  | [], _ => by simp [toPyL]
  | d :: ds, f => by
    simp only [List.all_cons, Bool.and_eq_true] at f
    simp only [toPyL, List.any_cons, eqv_deq 20 f.1 g, any_eqv g f.2]
theorem inB_ok {neg : Bool} {dx dy : D} {x y : V} {k : Bool → Prop} (rp : RepM K as H M) (rx : Rel K as H dx x) (ry : Rel K as H dy y) (h : oInB dx dy M k) :
    (∃ (c : Nat) (z : Str), x = .str ⟨#[c]⟩ ∧ y = .str z ∧ k (decide (c ∈ z.cps.toList))) ∨
    (∃ p xs, y = .ref p ∧ (SqL K H p xs ∨ SqT K H p xs) ∧ flatV x = true ∧ xs.all flatV = true ∧ k (inV x xs)) ∨
    (∃ d ds, Dp K H x d ∧ Dp K H y (.list ds) ∧ SeqAt.shaped d = true ∧ SeqAt.shaped (.list ds) = true ∧ k (ds.any fun z => PyData.eqv z d)) ∨
    ∃ a o, y = .ref a ∧ DGet H a x o ∧ k o.isSome := by
  cases ry with
  | str z =>
    cases rx <;> first | exact h.elim | skip
    rename_i c
    dsimp only [oInB] at h
    split at h
    · rename_i c0 e
      refine .inl ⟨c0, z, ?_, rfl, h⟩
      obtain ⟨⟨l⟩⟩ := c
      have e2 : l = [c0] := e
      subst e2
      rfl
    · exact h.elim
  | tup hs hl =>
    obtain ⟨f, q⟩ := h
    simp only [Bool.and_eq_true] at f
    obtain ⟨h1, h2⟩ := inV_any rx f.1 hl f.2
    exact .inr (.inl ⟨_, _, rfl, .inr hs.1, flat_ok rx f.1, h2, by rw [h1]; exact q⟩)
  | ref hn =>
    dsimp only [oInB] at h
    split at h
    · rename_i ds e
      obtain ⟨xs, h1, h2⟩ := at_lst rp hn e
      obtain ⟨f, q⟩ := h
      rcases Bool.or_eq_true_iff.mp f with f | f
      · simp only [Bool.and_eq_true] at f
        obtain ⟨h3, h4⟩ := inV_any rx f.1 h2 f.2
        exact .inr (.inl ⟨_, _, rfl, .inl (SqL.of h1), flat_ok rx f.1, h4, by rw [h3]; exact q⟩)
      · simp only [Bool.and_eq_true] at f
        obtain ⟨a1, a2⟩ := dat_ok f.1 rx
        obtain ⟨b1, b2⟩ := datL_ok h1 f.2 h2
        exact .inr (.inr (.inl ⟨_, _, a1, b1, a2, b2, by rw [any_eqv f.1 f.2]; exact q⟩))
    · rename_i lk kvs e
      split at h
      · rename_i q0 eq
        obtain ⟨ks, h1, h2⟩ := at_dct rp hn e
        refine .inr (.inr (.inr ⟨_, valV ks q0, rfl, .inl ⟨ks, q0, h2, keyOf_ok rx eq, rfl⟩, ?_⟩))
        rcases h1.get q0 with ⟨g1, g2⟩ | ⟨d, v, g1, g2, _⟩
        · rw [g2]; rw [g1] at h; exact h
        · rw [g2]; rw [g1] at h; exact h
      · exact h.elim
    · exact h.elim
  | _ => exact h.elim
theorem sim_in : SimO K (rInA K) oIn := fun as H M dx dy x y k Q rp rx ry h hk => by
  have fin : ∀ b, k (.bl b) M → Q (.bl b) H := fun b q => hk _ _ q as H _ .refl rp (.bl _)
  rcases inB_ok (neg := false) rp rx ry h with ⟨c, z, h1, h2, q⟩ | ⟨p, xs, h1, h2, h3, h4, q⟩ | ⟨d, ds, h1, h2, h3, h4, q⟩ | ⟨a, o, h1, h2, q⟩
  · exact .inl ⟨c, z, h1, h2, fin _ q⟩
  · exact .inr (.inl ⟨p, xs, h1, h2, h3, h4, fin _ q⟩)
  · exact .inr (.inr (.inl ⟨d, ds, h1, h2, h3, h4, fin _ q⟩))
  · exact .inr (.inr (.inr ⟨a, o, h1, h2, fin _ q⟩))
theorem sim_notin : SimO K (rNotInA K) oNotIn := fun as H M dx dy x y k Q rp rx ry h hk => by
  have fin : ∀ b, k (.bl b) M → Q (.bl b) H := fun b q => hk _ _ q as H _ .refl rp (.bl _)
  rcases inB_ok (neg := false) rp rx ry h with ⟨c, z, h1, h2, q⟩ | ⟨p, xs, h1, h2, h3, h4, q⟩ | ⟨d, ds, h1, h2, h3, h4, q⟩ | ⟨a, o, h1, h2, q⟩
  · exact .inl ⟨c, z, h1, h2, fin _ q⟩
  · exact .inr (.inl ⟨p, xs, h1, h2, h3, h4, fin _ q⟩)
  · exact .inr (.inr (.inl ⟨d, ds, h1, h2, h3, h4, fin _ q⟩))
  · exact .inr (.inr (.inr ⟨a, o, h1, h2, fin _ q⟩))
end
def oIx : OP := fun x y M Q => match x with
  | .tup ds => match y with
    | .int i => match atI ds i with | some d => Q d M | none => False
    | _ => False
  | .str z => match y with
    | .int i => z.length ≤ 16000000 ∧ match atI z.cps.toList i with | some c => Q (.str ⟨#[c]⟩) M | none => False
    | _ => False
  | .ref n => match M[n]? with
    | some (.lst ds) => match y with
      | .int i => match atI ds i with | some d => Q d M | none => False
      | _ => False
    | some (.frz ds) => match y with
      | .int i => match atI ds i with | some d => Q d M | none => False
      | _ => False
    | some (.dct _ kvs) => match keyOf y with
      | some q => match dget kvs q with | some d => Q d M | none => False
      | none => False
    | _ => False
  | _ => False
def rIxD : R2 := fun x y H Q => ∃ a v, x = .ref a ∧ DGet H a y (some v) ∧ Q v H
theorem ix_dict {X : Cx} (hu : X.A.units + 1 < cLine) : IxR X rIxD := by
  intro value slice pins s σ H x y v u Q I rx ry h hs
  obtain ⟨a, w, rfl, g, q⟩ := h
  obtain rfl : v = Value.ref a := rx
  have hT := dict_typeIs I g
  unfold subscriptTail
  refine wpAny_bind ?_
  rw [getitemInPython_of_ne hT.not_modules]
  refine wpAny_bind (wpAny_specialOf hT PySem.F.slot_dict_getitem.lookup ?_)
  have fin : wpAny (model X.prog X.w) X.A (subscripted slice false (.ref a) u) (fun r s₃ => wpAny (model X.prog X.w) X.A (letTemporaryGo value (.ref a) r >>= fun _ => pure r) (EP X pins σ Q) X.xe s₃) X.xe s := by
    rw [hs]
    exact wpAny_operating (wpAny_mono (d_getItem hu I g ry fun w' s3 I3 rw' => (⟨w, H, I3, rw', q⟩ : EP X pins σ Q w' s3)) (fun r s₃ h₃ => wpAny_bind (wpAny_letTemporaryGo (wpAny_pure h₃))) fun _ _ x => x)
  first
    | exact wpAny_pure (wpAny_bind fin)
    | exact wpAny_bind (wpAny_pure (wpAny_bind fin))
    | exact wpAny_bind fin
def rIxA (K : PySem.W.Frag) : R2 := fun x y H Q => rIx K x y H Q ∨ rIxD x y H Q
theorem ix_any {X : Cx} (hu : X.A.units + 1 < cLine) : IxR X (rIxA X.K) := IxR.or ix_seq (ix_dict hu)
section
variable {K : PySem.W.Frag} {as : List Addr} {H : Hp} {M : Mem}
theorem atI_rel {ds : List D} {vs : List V} {i : Int} {d : D} (r : RelL K as H ds vs) (e : atI ds i = some d) : ∃ v, atI vs i = some v ∧ Rel K as H d v := by
  unfold atI at e ⊢
  rw [← r.len]
  cases h : ixN ds.length i with
  | none => rw [h] at e; cases e
  | some j =>
    rw [h] at e
    exact r.get (show ds[j]? = some d from e)
theorem sim_ix : SimO K (rIxA K) oIx := fun as H M dx dy x y k Q rp rx ry h hk => by
  cases rx with
  | tup hs hl =>
    cases ry <;> first | exact h.elim | skip
    rename_i i
    dsimp only [oIx] at h
    split at h
    · rename_i d e
      obtain ⟨v, e2, rv⟩ := atI_rel hl e
      exact .inl (.inr (.inl ⟨_, _, i, v, rfl, rfl, hs.1, e2, hk _ _ h as H _ .refl rp rv⟩))
    · exact h.elim
  | str z =>
    cases ry <;> first | exact h.elim | skip
    rename_i i
    obtain ⟨hz, h⟩ := h
    split at h
    · rename_i c e
      exact .inl (.inr (.inr ⟨z, i, c, rfl, rfl, Nat.le_trans hz (by decide), e, hk _ _ h as H _ .refl rp (.str _)⟩))
    · exact h.elim
  | ref hn =>
    dsimp only [oIx] at h
    split at h
    · rename_i ds e
      cases ry <;> first | exact h.elim | skip
      rename_i i
      dsimp only at h
      split at h
      · rename_i d e1
        obtain ⟨xs, h1, h2⟩ := at_lst rp hn e
        obtain ⟨v, e2, rv⟩ := atI_rel h2 e1
        exact .inl (.inl ⟨_, xs, i, v, rfl, rfl, SqL.of h1, e2, hk _ _ h as H _ .refl rp rv⟩)
      · exact h.elim
    · rename_i ds e
      cases ry <;> first | exact h.elim | skip
      rename_i i
      dsimp only at h
      split at h
      · rename_i d e1
        obtain ⟨ob, xs, h1, h2⟩ := at_frz rp hn e
        obtain ⟨v, e2, rv⟩ := atI_rel h2 e1
        exact .inl (.inl ⟨_, xs, i, v, rfl, rfl, .inl (.inr ⟨ob, h1⟩), e2, hk _ _ h as H _ .refl rp rv⟩)
      · exact h.elim
    · rename_i lk kvs e
      split at h
      · rename_i q0 eq
        split at h
        · rename_i d e1
          obtain ⟨ks, h1, h2⟩ := at_dct rp hn e
          rcases h1.get q0 with ⟨g1, g2⟩ | ⟨d', v, g1, g2, rv⟩
          · rw [g1] at e1; cases e1
          · rw [g1] at e1; cases e1
            exact .inr ⟨_, v, rfl, .inl ⟨ks, q0, h2, keyOf_ok ry eq, g2.symm⟩, hk _ _ h as H _ .refl rp rv⟩
        · exact h.elim
      · exact h.elim
    · exact h.elim
  | _ => exact h.elim
end
end MV
namespace MV
open PySem PySem.Spec PyProof.Rows L2
abbrev MO := Ev → Mem → (Option Int → Mem → Prop) → XM → Prop
def lfO (K : PySem.W.Frag) (W : WX) (m : MO) : TO := fun σ H Q => ∃ as M ρ Q' X', RepM K as H M ∧ RelS K as H ρ σ ∧ m ρ M Q' X' ∧ (∀ d M', Q' d M' → ∀ as' H', Ext K as H as' H' → RepM K as' H' M' → Q d H') ∧ ∀ x M', X' x M' → LX K as H (fun c d H => W c d σ H) x M'
abbrev QO (X : Cx) (W : WX) (e : Option Expr) (m : MO) : Prop := PO X e (lfO X.K W m)
def mNoPart : MO := fun _ M Q _ => Q none M
def mPart (m : ME) : MO := fun ρ M Q X => m ρ M (fun x M1 => match x with | .int i => Q (some i) M1 | _ => False) X
def cutD {α : Type} (xs : List α) (lo hi : Option Int) : List α := (xs.drop (HT.sIx xs.length 0 lo)).take (HT.sIx xs.length xs.length hi - HT.sIx xs.length 0 lo)
def oSl (x : D) (lo hi : Option Int) (M : Mem) (Q : DK) : Prop := match x with
  | .str z => z.length ≤ 16000000 ∧ Q (.str (cutS z lo hi)) M
  | .tup ds => Q (.tup (cutD ds lo hi)) M
  | .kl ds => Q (.ref M.length) (M ++ [.lst (cutD ds lo hi)])
  | .ref n => match M[n]? with
    | some (.lst ds) => Q (.ref M.length) (M ++ [.lst (cutD ds lo hi)])
    | some (.frz ds) => Q (.ref M.length) (M ++ [.lst (cutD ds lo hi)])
    | _ => False
  | _ => False
def mSl (me : ME) (ml mh : MO) : ME := fun ρ M Q X => me ρ M (fun x M1 => ml ρ M1 (fun l M2 => mh ρ M2 (fun h M3 => oSl x l h M3 Q) X) X) X
def rSlAll (K : PySem.W.Frag) : V → Option Int → Option Int → Hp → VK → Prop := fun x lo hi H Q => rSlS x lo hi H Q ∨ rSlA K x lo hi H Q ∨ rSlL K x lo hi H Q
section
variable {X : Cx} {W : WX} {e : Expr} {lo hi : Option Expr} {me : ME} {ml mh : MO} {pos p2 : Pos}
theorem po_imp {t t' : TO} {o : Option Expr} (h : PO X o t) (i : ∀ σ H Q, t' σ H Q → t σ H Q) : PO X o t' := ⟨fun pins s σ H Q I q => h.run pins s σ H Q I (i σ H Q q)⟩
theorem qo_none : QO X W none mNoPart := po_imp po_none fun σ H Q ⟨as, M, ρ, Q', X', r, rs, h, hq, hx⟩ => hq _ _ h as H .refl r
theorem qo_some (he : QE X W e me) : QO X W (some e) (mPart me) := po_imp (po_some he) fun σ H Q ⟨as, M, ρ, Q', X', r, rs, h, hq, hx⟩ => by
  refine lf_bind r rs h hx fun dx M1 as1 H1 x h1 e1 r1 rs1 rx => ?_
  cases rx <;> first | exact h1.elim | skip
  exact ⟨_, rfl, hq _ _ h1 as1 H1 e1 r1⟩
theorem SlR_or {r r' : V → Option Int → Option Int → Hp → VK → Prop} (h : SlR X r) (h' : SlR X r') : SlR X (fun x lo hi H Q => r x lo hi H Q ∨ r' x lo hi H Q) := by
  intro pins s σ H x v vl vu lo hi sl Q I rx hs pl pu q
  rcases q with q | q
  · exact h pins s σ H x v vl vu lo hi sl Q I rx hs pl pu q
  · exact h' pins s σ H x v vl vu lo hi sl Q I rx hs pl pu q
theorem cut_rel {K : PySem.W.Frag} {as : List Addr} {H : Hp} {ds : List D} {vs : List V} (r : RelL K as H ds vs) (lo hi : Option Int) : RelL K as H (cutD ds lo hi) (cutV vs lo hi) := by
  unfold cutD cutV
  rw [← r.len]
  exact (r.drop _).take _
theorem cut_whole {α : Type} {xs : List α} {lo hi : Option Int} (h : HT.sIx xs.length 0 lo = 0 ∧ HT.sIx xs.length xs.length hi = xs.length) : cutD xs lo hi = xs := by
  unfold cutD; rw [h.1, h.2]; simp
theorem sim_sl {K : PySem.W.Frag} {as : List Addr} {H : Hp} {M : Mem} {dx : D} {x : V} {lo hi : Option Int} {k : DK} {Q : VK} (rp : RepM K as H M) (rx : Rel K as H dx x) (h : oSl dx lo hi M k) (hk : ∀ d M', k d M' → LQ K as H Q d M') : rSlAll K x lo hi H Q := by
  cases rx with
  | str z => exact .inl ⟨z, rfl, Nat.le_trans h.1 (by decide), hk _ _ h.2 as H _ .refl rp (.str _)⟩
  | tup hs hl =>
    refine .inr (.inl ⟨_, _, rfl, hs.1, fun w => ?_, fun _ p hp => new_tup rp (cut_rel hl lo hi) hp h hk⟩)
    refine hk _ _ h as H _ .refl rp ?_
    rw [← hl.len] at w
    rw [cut_whole w]
    exact .tup hs hl
  | kl hs hl => exact .inr (.inr ⟨_, _, rfl, hs.sq, fun p hp => new_lst rp (cut_rel hl lo hi) hp h hk⟩)
  | ref hn =>
    dsimp only [oSl] at h
    split at h
    · rename_i ds e
      obtain ⟨xs, h1, h2⟩ := at_lst rp hn e
      exact .inr (.inr ⟨_, xs, rfl, SqL.of h1, fun p hp => new_lst rp (cut_rel h2 lo hi) hp h hk⟩)
    · rename_i ds e
      obtain ⟨ob, xs, h1, h2⟩ := at_frz rp hn e
      exact .inr (.inr ⟨_, xs, rfl, .inl (.inr ⟨ob, h1⟩), fun p hp => new_lst rp (cut_rel h2 lo hi) hp h hk⟩)
    · exact h.elim
  | _ => exact h.elim
theorem qe_slice (he : QE X W e me) (hl : QO X W lo ml) (hh : QO X W hi mh) : QE X W (.Subscript e (.Slice lo hi none p2) pos) (mSl me ml mh) :=
  PEi (pe_slice (r := rSlAll X.K) (SlR_or sl_str (SlR_or sl_tupA sl_list)) he hl hh) fun σ H Q ⟨as, M, ρ, Q', X', r, rs, h, hq, hx⟩ => by
    refine lf_bind r rs h hx fun dx M1 as1 H1 x h1 e1 r1 rs1 rx => ?_
    refine ⟨as1, M1, ρ, _, X', r1, rs1, h1, fun l M2 h2 as2 H2 e2 r2 => ?_, fun x M' q => (hx x M' q).mono e1⟩
    refine ⟨as2, M2, ρ, _, X', r2, rs1.up e2, h2, fun h M3 h3 as3 H3 e3 r3 => ?_, fun x M' q => (hx x M' q).mono (e1.trans e2)⟩
    exact sim_sl r3 (rx.up (e2.trans e3)) h3 fun d M' q => (hq d M' q).mono ((e1.trans e2).trans e3)
end
def oLen : OA := fun xs M Q => match xs with
  | [.str z] => z.length ≤ 16000000 ∧ Q (.int z.length) M
  | [.tup ds] => Q (.int ds.length) M
  | [.ref n] => match M[n]? with
    | some (.lst ds) => Q (.int ds.length) M
    | some (.frz ds) => Q (.int ds.length) M
    | some (.dct _ kvs) => Q (.int kvs.length) M
    | _ => False
  | _ => False
def oAbs : OA := fun xs M Q => match xs with | [.int i] => Q (.int (if i < 0 then -i else i)) M | _ => False
def oMin2 : OA := fun xs M Q => match xs with | [.int i, .int j] => Q (.int (if j < i then j else i)) M | _ => False
def oMax2 : OA := fun xs M Q => match xs with | [.int i, .int j] => Q (.int (if j > i then j else i)) M | _ => False
def oInt1 : OA := fun xs M Q => match xs with
  | [.int i] => Q (.int i) M
  | [.bl k] => Q (.int (if k then 1 else 0)) M
  | [.str a] => match PySem.intText? a with | some n => a.length ≤ 640 ∧ Q (.int n) M | none => False
  | _ => False
def oStr1 : OA := fun xs M Q => match xs with
  | [.int i] => i.natAbs.log2 < 1920 ∧ Q (.str (toString i)) M
  | [.str a] => Q (.str a) M
  | _ => False
def kD : Key → D
  | .inl i => .int i
  | .inr x => .str x
def oList1 : OA := fun xs M Q => match xs with
  | [.tup ds] => Q (.ref M.length) (M ++ [.lst ds])
  | [.ref n] => match M[n]? with
    | some (.lst ds) => Q (.ref M.length) (M ++ [.lst ds])
    | some (.frz ds) => Q (.ref M.length) (M ++ [.lst ds])
    | some (.dct false kvs) => Q (.ref M.length) (M ++ [.lst (kvs.map fun kv => kD kv.1)])
    | _ => False
  | _ => False
def oTuple1 : OA := fun xs M Q => match xs with
  | [.tup ds] => Q (.tup ds) M
  | [.ref n] => match M[n]? with
    | some (.lst ds) => Q (.tup ds) M
    | some (.frz ds) => Q (.tup ds) M
    | _ => False
  | _ => False
def oDict1 : OA := fun xs M Q => match xs with
  | [.ref n] => match M[n]? with
    | some (.dct _ kvs) => Q (.ref M.length) (M ++ [.dct false kvs])
    | _ => False
  | _ => False
def rLenA (K : PySem.W.Frag) : List V → Hp → VK → Prop := fun xs H Q => (∃ x n, xs = [x] ∧ LenV K x H n ∧ Q (.int n) H) ∨ ∃ a kvs, xs = [V.ref a] ∧ Rd H a (.dK kvs) ∧ Q (.int kvs.length) H
theorem CallR_or {X : Cx} {f : Value} {r r' : List V → Hp → VK → Prop} (h : CallR X f r) (h' : CallR X f r') : CallR X f (fun xs H Q => r xs H Q ∨ r' xs H Q) := by
  intro pins s σ H xs us Q I r q
  rcases q with q | q
  · exact h pins s σ H xs us Q I r q
  · exact h' pins s σ H xs us Q I r q
section
variable {X : Cx} {K : PySem.W.Frag}
theorem call_lenR : CallR X (.builtin "len") (fun xs H Q => ∃ a kvs, xs = [V.ref a] ∧ Rd H a (.dK kvs) ∧ Q (.int kvs.length) H) := by
  intro pins s σ H xs us Q I r h
  obtain ⟨a, kvs, rfl, e, q⟩ := h
  obtain ⟨u, rfl, rx⟩ := vals1 r
  cases rx
  exact d_len I e fun t s' I' => ⟨.int _, H, I', ⟨_, rfl⟩, q⟩
theorem call_lenA : CallR X (.builtin "len") (rLenA X.K) := CallR_or call_len call_lenR
theorem RelL.one {as : List Addr} {H : Hp} {d : D} {vs : List V} (h : RelL K as H [d] vs) : ∃ v, vs = [v] ∧ Rel K as H d v := by
  cases h with
  | cons h r => cases r; exact ⟨_, rfl, h⟩
theorem RelL.two {as : List Addr} {H : Hp} {d e : D} {vs : List V} (h : RelL K as H [d, e] vs) : ∃ v w, vs = [v, w] ∧ Rel K as H d v ∧ Rel K as H e w := by
  cases h with
  | cons h r => obtain ⟨w, rfl, h2⟩ := r.one; exact ⟨_, _, rfl, h, h2⟩
theorem sim_len : SimA K (rLenA K) oLen := fun as H M ds vs k Q rp rv h hk => by
  unfold oLen at h
  split at h
  · obtain ⟨v, rfl, rx⟩ := rv.one
    cases rx
    exact .inl ⟨_, _, rfl, ⟨Nat.le_trans h.1 (by decide), rfl⟩, hk _ _ h.2 as H _ .refl rp (.int _)⟩
  · obtain ⟨v, rfl, rx⟩ := rv.one
    cases rx with
    | tup hs hl => exact .inl ⟨_, _, rfl, .inr ⟨_, hs.1, rfl⟩, by rw [← hl.len]; exact hk _ _ h as H _ .refl rp (.int _)⟩
  · obtain ⟨v, rfl, rx⟩ := rv.one
    cases rx with
    | ref hn =>
      split at h
      · rename_i ds e
        obtain ⟨xs, h1, h2⟩ := at_lst rp hn e
        exact .inl ⟨_, _, rfl, .inl ⟨_, SqL.of h1, rfl⟩, by rw [← h2.len]; exact hk _ _ h as H _ .refl rp (.int _)⟩
      · rename_i ds e
        obtain ⟨ob, xs, h1, h2⟩ := at_frz rp hn e
        exact .inl ⟨_, _, rfl, .inl ⟨_, .inl (.inr ⟨ob, h1⟩), rfl⟩, by rw [← h2.len]; exact hk _ _ h as H _ .refl rp (.int _)⟩
      · rename_i lk kvs e
        obtain ⟨ks, h1, h2⟩ := at_dct rp hn e
        exact .inr ⟨_, ks, rfl, h2, by rw [← h1.len]; exact hk _ _ h as H _ .refl rp (.int _)⟩
      · exact h.elim
  · exact h.elim
theorem sim_abs : SimA K DW.rAbs oAbs := fun as H M ds vs k Q rp rv h hk => by
  unfold oAbs at h
  split at h
  · obtain ⟨v, rfl, rx⟩ := rv.one
    cases rx
    exact ⟨_, rfl, hk _ _ h as H _ .refl rp (.int _)⟩
  · exact h.elim
theorem sim_min2 : SimA K DW.rMin2 oMin2 := fun as H M ds vs k Q rp rv h hk => by
  unfold oMin2 at h
  split at h
  · obtain ⟨v, w, rfl, rx, ry⟩ := rv.two
    cases rx; cases ry
    exact ⟨_, _, rfl, hk _ _ h as H _ .refl rp (.int _)⟩
  · exact h.elim
def rIntA : List V → Hp → VK → Prop := fun xs H Q => DW.rInt1 xs H Q ∨ DW.rIntStr xs H Q
theorem call_intA : CallR X (.type "int") rIntA := CallR_or call_int1 call_int_str
theorem sim_int : SimA K rIntA oInt1 := fun as H M ds vs k Q rp rv h hk => by
  unfold oInt1 at h
  split at h
  · obtain ⟨v, rfl, rx⟩ := rv.one
    cases rx
    exact .inl (.inl ⟨_, rfl, hk _ _ h as H _ .refl rp (.int _)⟩)
  · obtain ⟨v, rfl, rx⟩ := rv.one
    cases rx
    exact .inl (.inr ⟨_, rfl, hk _ _ h as H _ .refl rp (.int _)⟩)
  · obtain ⟨v, rfl, rx⟩ := rv.one
    cases rx
    split at h
    · rename_i n e
      exact .inr ⟨_, n, rfl, e, h.1, hk _ _ h.2 as H _ .refl rp (.int _)⟩
    · exact h.elim
  · exact h.elim
def rStrA : List V → Hp → VK → Prop := fun xs H Q => DW.rStrInt xs H Q ∨ DW.rStrStr xs H Q
theorem call_strA : CallR X (.type "str") rStrA := CallR_or call_str_int SkE.call_str_str
theorem sim_str : SimA K rStrA oStr1 := fun as H M ds vs k Q rp rv h hk => by
  unfold oStr1 at h
  split at h
  · obtain ⟨v, rfl, rx⟩ := rv.one
    cases rx
    exact .inl ⟨_, rfl, h.1, hk _ _ h.2 as H _ .refl rp (.str _)⟩
  · obtain ⟨v, rfl, rx⟩ := rv.one
    cases rx
    exact .inr ⟨_, rfl, hk _ _ h as H _ .refl rp (.str _)⟩
  · exact h.elim
theorem kD_rel {as : List Addr} {H : Hp} (k : Key) : Rel K as H (kD k) (kV k) := by
  cases k with
  | inl i => exact .int i
  | inr x => exact .str x
theorem KVR.keys {as : List Addr} {H : Hp} {l : List (Key × D)} {m : List (Key × V)} (h : KVR K as H l m) : RelL K as H (l.map fun kv => kD kv.1) (m.map fun kv => kV kv.1) := by
  induction h with
  | nil => exact .nil
  | cons h t ih =>
    simp only [List.map_cons]
    rw [h.1]
    exact .cons (kD_rel _) ih
def rListA (K : PySem.W.Frag) : List V → Hp → VK → Prop := fun xs H Q => DW.rListOf K xs H Q ∨ rListD xs H Q
theorem sim_list : SimA K (rListA K) oList1 := fun as H M ds vs k Q rp rv h hk => by
  unfold oList1 at h
  split at h
  · obtain ⟨v, rfl, rx⟩ := rv.one
    cases rx with
    | tup hs hl => exact .inl ⟨_, _, rfl, .inr hs.1, fun p hp => new_lst rp hl hp h hk⟩
  · obtain ⟨v, rfl, rx⟩ := rv.one
    cases rx with
    | ref hn =>
      split at h
      · rename_i ds e
        obtain ⟨xs, h1, h2⟩ := at_lst rp hn e
        exact .inl ⟨_, _, rfl, .inl (SqL.of h1), fun p hp => new_lst rp h2 hp h hk⟩
      · rename_i ds e
        obtain ⟨ob, xs, h1, h2⟩ := at_frz rp hn e
        exact .inl ⟨_, _, rfl, .inl (.inl (.inr ⟨ob, h1⟩)), fun p hp => new_lst rp h2 hp h hk⟩
      · rename_i kvs e
        obtain ⟨a', ha, ks, h1, h2⟩ := rp.at_ e
        rw [hn] at ha; cases ha
        exact .inr ⟨_, ks, rfl, h2, fun p hp => new_lst rp h1.keys hp h hk⟩
      · exact h.elim
  · exact h.elim
theorem sim_tuple : SimA K (DW.rTupleOf K) oTuple1 := fun as H M ds vs k Q rp rv h hk => by
  unfold oTuple1 at h
  split at h
  · obtain ⟨v, rfl, rx⟩ := rv.one
    cases rx with
    | tup hs hl => exact ⟨_, _, rfl, .inr ⟨hs.1, hk _ _ h as H _ .refl rp (.tup hs hl)⟩⟩
  · obtain ⟨v, rfl, rx⟩ := rv.one
    cases rx with
    | ref hn =>
      split at h
      · rename_i ds e
        obtain ⟨xs, h1, h2⟩ := at_lst rp hn e
        exact ⟨_, _, rfl, .inl ⟨SqL.of h1, fun p hp => new_tup rp h2 hp h hk⟩⟩
      · rename_i ds e
        obtain ⟨ob, xs, h1, h2⟩ := at_frz rp hn e
        exact ⟨_, _, rfl, .inl ⟨.inl (.inr ⟨ob, h1⟩), fun p hp => new_tup rp h2 hp h hk⟩⟩
      · exact h.elim
  · exact h.elim
def rDictD : List V → Hp → VK → Prop := fun xs H Q => ∃ (a : Addr) (kvs : List (Key × V)), xs = [.ref a] ∧ Rd H a (.dK kvs) ∧ ∀ p, H p = none → Q (.ref p) (upd H p (.dK kvs))
theorem sim_dict : SimA K rDictD oDict1 := fun as H M ds vs k Q rp rv h hk => by
  unfold oDict1 at h
  split at h
  · obtain ⟨v, rfl, rx⟩ := rv.one
    cases rx with
    | ref hn =>
      split at h
      · rename_i lk kvs e
        obtain ⟨ks, h1, h2⟩ := at_dct rp hn e
        exact ⟨_, ks, rfl, h2, fun p hp => new_obj (o := .dct false kvs) rp hp ⟨ks, h1.up ((ext_new hp).trans ext_app), upd_same⟩ h hk⟩
      · exact h.elim
  · exact h.elim
end
section
variable {X : Cx} {W : WX} {e : Expr} {es : List Expr} {ma : MA} {p pos : Pos} {x : Str}
theorem qe_callB {id : String} {r : List V → Hp → VK → Prop} {o : OA} (hc : CallR X (.builtin id) r) (hs : SimA X.K r o) (hg : Gl X x) (hm : X.mg x = none) (hv : bootBuiltins x = some (.builtin id)) (ha : QA X W (e :: es) ma) (hn : x ≠ "__name__" := by decide) (hdb : (x == ("__debug__" : Str)) = false := by decide)
    (he : starEach (e :: es) X.env = (false, eval e X.env) :: starEach es X.env := by rfl) (hpl : (backTo pos (starEach es X.env)).any (·.1) = false := by rfl) : QE X W (.Call (.Name x p) (e :: es) [] pos) (mCB o ma) :=
  PEi (pe_callB hc hg hm hv ha hn hdb he hpl) (lf_cb hs)
theorem qe_callTy {T : String} {r : List V → Hp → VK → Prop} {o : OA} (hc : CallR X (.type T) r) (hs : SimA X.K r o) (hg : Gl X x) (hm : X.mg x = none) (hv : bootBuiltins x = some (.type T)) (ha : QA X W (e :: es) ma) (hn : x ≠ "__name__" := by decide) (hdb : (x == ("__debug__" : Str)) = false := by decide)
    (he : starEach (e :: es) X.env = (false, eval e X.env) :: starEach es X.env := by rfl) (hpl : (backTo pos (starEach es X.env)).any (·.1) = false := by rfl) : QE X W (.Call (.Name x p) (e :: es) [] pos) (mCB o ma) :=
  PEi (pe_callTy hc hg hm hv ha hn hdb he hpl) (lf_cb hs)
end
end MV
namespace MV
open PySem PySem.Spec PyProof.Rows L2
def mNext : MS := fun E ρ M => E.nx ρ M
def mRetN : MS := fun E _ M => E.rt .non M
def mSeq (a b : MS) : MS := fun E ρ M => a ⟨fun ρ' M' => b E ρ' M', E.rt, E.bk, E.ct, E.ex⟩ ρ M
def mDrop (m : ME) : MS := fun E ρ M => m ρ M (fun _ M1 => E.nx ρ M1) (fun x M1 => E.ex x ρ M1)
def mRet (m : ME) : MS := fun E ρ M => m ρ M E.rt (fun x M1 => E.ex x ρ M1)
def mIfS (t : MT) (a b : MS) : MS := fun E ρ M => t ρ M (fun k M1 => if k = true then a E ρ M1 else b E ρ M1) (fun x M1 => E.ex x ρ M1)
section
variable {X : Cx} {W : WX} {st : Stmt} {rest a b : List Stmt} {m n : MS} {e c : Expr} {me : ME} {mt : MT} {pos : Pos}
theorem exS {K : PySem.W.Frag} {as : List Addr} {H : Hp} {E : Nd} {D : Ends} {ρ : Ev} {σ : L2.St} (hE : NdOk K W as H E D) (rs : RelS K as H ρ σ) : ∀ x M', E.ex x ρ M' → LX K as H (fun c d H => W c d σ H) x M' :=
  fun x M' q as' H' c d e r' rx => hE.ex x ρ M' q as' H' σ c d e r' (rs.up e) rx
theorem qss_nil : QSs X W [] mNext := PSsi pss_nil fun D σ H ⟨as, M, ρ, E, r, rs, h, hE⟩ => hE.nx _ _ h as H σ .refl r rs
theorem qss_cons (h1 : QS X W st m) (h2 : QSs X W rest n) : QSs X W (st :: rest) (mSeq m n) := PSsi (pss_cons h1 h2) fun D σ H ⟨as, M, ρ, E, r, rs, h, hE⟩ =>
  ⟨as, M, ρ, _, r, rs, h, ⟨fun ρ' M' q as' H' σ' e' r' rs' => ⟨as', M', ρ', E, r', rs', q, hE.mono e'⟩, hE.rt, hE.bk, hE.ct, hE.ex⟩⟩
theorem qss_one (h1 : QS X W st m) : QSs X W [st] m := pss_one h1
theorem qs_expr (he : QE X W e me) (hs : swapsWith e none pos.line X.env = pure false := by rfl) : QS X W (.Expr e pos) (mDrop me) := PSi (ps_expr he hs) fun D σ H ⟨as, M, ρ, E, r, rs, h, hE⟩ =>
  lf_bind r rs h (exS hE rs) fun d M1 as1 H1 v h1 e1 r1 rs1 rv => hE.nx _ _ h1 as1 H1 σ e1 r1 rs1
theorem qs_ret (he : QE X W e me) : QS X W (.Return (some e) pos) (mRet me) := PSi (ps_ret he) fun D σ H ⟨as, M, ρ, E, r, rs, h, hE⟩ =>
  lf_bind r rs h (exS hE rs) fun d M1 as1 H1 v h1 e1 r1 rs1 rv => hE.rt _ _ h1 as1 H1 v e1 r1 rv
theorem qs_if (hc : QT X W c mt) (ha : QSs X W a m) (hb : QSs X W b n) : QS X W (.If c a b pos) (mIfS mt m n) := PSi (ps_if hc ha hb) fun D σ H ⟨as, M, ρ, E, r, rs, h, hE⟩ => by
  refine lfT_bind r rs h (exS hE rs) fun k M1 as1 H1 h1 e1 r1 rs1 => ?_
  cases k with
  | true => exact ⟨as1, M1, ρ, E, r1, rs1, h1, hE.mono e1⟩
  | false => exact ⟨as1, M1, ρ, E, r1, rs1, h1, hE.mono e1⟩
end
mutual
inductive Tg where
  | nm (i : Nat)
  | tp (n : Nat) (l : Tgs)
inductive Tgs where
  | nil
  | cons (t : Tg) (l : Tgs)
end
abbrev MG := D → Ev → Mem → (Ev → Prop) → Prop
abbrev MGs := List D → Ev → Mem → (Ev → Prop) → Prop
mutual
/-- HandS's reading of a target -/
def Tg.rd (K : PySem.W.Frag) : Tg → TG
  | .nm i => gName i
  | .tp n l => fun v σ H Q => gTup K n (l.rd K) v σ H Q ∨ gLst K n (l.rd K) v σ H Q
def Tgs.rd (K : PySem.W.Frag) : Tgs → TGs
  | .nil => gNil
  | .cons t l => gCons (t.rd K) (l.rd K)
end
mutual
/-- the mirror's -/
def Tg.mg : Tg → MG
  | .nm i => fun d ρ _ N => N (ρ.set i (some d))
  | .tp n l => fun d ρ M N => match d with
    | .tup ds => ds.length = n ∧ l.mg ds ρ M N
    | .ref a => match M[a]? with
      | some (.lst ds) => ds.length = n ∧ l.mg ds ρ M N
      | _ => False
    | _ => False
def Tgs.mg : Tgs → MGs
  | .nil => fun ds ρ _ N => match ds with | [] => N ρ | _ => False
  | .cons t l => fun ds ρ M N => match ds with | d :: r => t.mg d ρ M fun ρ' => l.mg r ρ' M N | _ => False
end
mutual
def Tg.slots : Tg → List Nat
  | .nm i => [i]
  | .tp _ l => l.slots
def Tgs.slots : Tgs → List Nat
  | .nil => []
  | .cons t l => t.slots ++ l.slots
end
mutual
theorem Tg.sim {K : PySem.W.Frag} : ∀ (T : Tg) {as : List Addr} {H : Hp} {M : Mem} {ρ : Ev} {σ : L2.St} {d : D} {v : V} {N : Ev → Prop} {Q : L2.St → Hp → Prop}, RepM K as H M → RelS K as H ρ σ → Rel K as H d v → T.mg d ρ M N →
    (∀ ρ' σ', N ρ' → RelS K as H ρ' σ' → Q σ' H) → T.rd K v σ H Q
  | .nm i, as, H, M, ρ, σ, d, v, N, Q, r, rs, rd, h, hq => by
    simp only [Tg.mg] at h
    simp only [Tg.rd]
    exact hq _ _ h (rs.set rd)
  | .tp n l, as, H, M, ρ, σ, d, v, N, Q, r, rs, rd, h, hq => by
    simp only [Tg.mg] at h
    simp only [Tg.rd]
    cases rd with
    | tup hs hl => exact .inl ⟨_, _, rfl, hs.1, by rw [← hl.len]; exact h.1, Tgs.sim l r rs hl h.2 hq⟩
    | ref ha =>
      dsimp only at h
      split at h
      · rename_i ds e
        obtain ⟨xs, h1, h2⟩ := at_lst r ha e
        exact .inr ⟨_, xs, rfl, SqL.of h1, by rw [← h2.len]; exact h.1, Tgs.sim l r rs h2 h.2 hq⟩
      · exact h.elim
    | _ => exact h.elim
theorem Tgs.sim {K : PySem.W.Frag} : ∀ (T : Tgs) {as : List Addr} {H : Hp} {M : Mem} {ρ : Ev} {σ : L2.St} {ds : List D} {vs : List V} {N : Ev → Prop} {Q : L2.St → Hp → Prop}, RepM K as H M → RelS K as H ρ σ → RelL K as H ds vs → T.mg ds ρ M N →
    (∀ ρ' σ', N ρ' → RelS K as H ρ' σ' → Q σ' H) → T.rd K vs σ H Q
  | .nil, as, H, M, ρ, σ, ds, vs, N, Q, r, rs, rd, h, hq => by
    simp only [Tgs.mg] at h
    simp only [Tgs.rd]
    cases rd with
    | nil => exact ⟨rfl, hq _ _ h rs⟩
    | cons _ _ => exact h.elim
  | .cons t l, as, H, M, ρ, σ, ds, vs, N, Q, r, rs, rd, h, hq => by
    simp only [Tgs.mg] at h
    simp only [Tgs.rd]
    cases rd with
    | nil => exact h.elim
    | cons rd rr => exact ⟨_, _, rfl, Tg.sim t r rs rd h fun ρ' σ' h' rs' => Tgs.sim l r rs' rr h' hq⟩
end
theorem set_set_comm {α : Type} (l : List α) {i j : Nat} (a b : α) (h : i ≠ j) : (l.set i a).set j b = (l.set j b).set i a := by
  apply List.ext_getElem?
  intro k
  simp only [List.getElem?_set]
  split <;> split <;> simp_all
theorem wipe_set {σ : L2.St} {i : Nat} {v : Option V} : ∀ {vs : List Nat}, i ∈ vs → wipe (σ.set i v) vs = wipe σ vs
  | w :: vs, h => by
    show (wipe (σ.set i v) vs).set w none = (wipe σ vs).set w none
    by_cases e : i ∈ vs
    · rw [wipe_set e]
    · have hw : i = w := by
        rcases List.mem_cons.mp h with z | z
        · exact z
        · exact absurd z e
      subst hw
      have key : ∀ vs : List Nat, i ∉ vs → wipe (σ.set i v) vs = (wipe σ vs).set i v := by
        intro vs
        induction vs with
        | nil => intro _; rfl
        | cons u vs ih =>
          intro hn
          show (wipe (σ.set i v) vs).set u none = ((wipe σ vs).set u none).set i v
          rw [ih (fun z => hn (List.mem_cons_of_mem _ z)), set_set_comm _ _ _ (fun z => hn (by rw [z]; exact List.mem_cons_self))]
      rw [key vs e, List.set_set]
mutual
/-- only the slots vs are stored -/
theorem Tg.keep {K : PySem.W.Frag} {vs : List Nat} : ∀ (T : Tg), (∀ i ∈ T.slots, i ∈ vs) → ∀ {v : V} {σ : L2.St} {H : Hp} {Q Q' : L2.St → Hp → Prop}, (∀ σ2 H2, wipe σ2 vs = wipe σ vs → Q σ2 H2 → Q' σ2 H2) → T.rd K v σ H Q → T.rd K v σ H Q'
  | .nm i, hi, v, σ, H, Q, Q', im, h => by
    simp only [Tg.rd] at h ⊢
    exact im _ _ (wipe_set (hi i (by simp [Tg.slots]))) h
  | .tp n l, hi, v, σ, H, Q, Q', im, h => by
    simp only [Tg.rd] at h ⊢
    have hi' : ∀ i ∈ l.slots, i ∈ vs := fun i z => hi i (by simpa [Tg.slots] using z)
    rcases h with ⟨a, xs, e, hs, hl, h⟩ | ⟨a, xs, e, hs, hl, h⟩
    · exact .inl ⟨a, xs, e, hs, hl, Tgs.keep l hi' im h⟩
    · exact .inr ⟨a, xs, e, hs, hl, Tgs.keep l hi' im h⟩
theorem Tgs.keep {K : PySem.W.Frag} {vs : List Nat} : ∀ (T : Tgs), (∀ i ∈ T.slots, i ∈ vs) → ∀ {v : List V} {σ : L2.St} {H : Hp} {Q Q' : L2.St → Hp → Prop}, (∀ σ2 H2, wipe σ2 vs = wipe σ vs → Q σ2 H2 → Q' σ2 H2) → T.rd K v σ H Q → T.rd K v σ H Q'
  | .nil, hi, v, σ, H, Q, Q', im, h => by
    simp only [Tgs.rd] at h ⊢
    exact ⟨h.1, im _ _ rfl h.2⟩
  | .cons t l, hi, v, σ, H, Q, Q', im, h => by
    simp only [Tgs.rd] at h ⊢
    obtain ⟨w, ws, e, h⟩ := h
    refine ⟨w, ws, e, Tg.keep t (fun i z => hi i (by simp [Tgs.slots, z])) (fun σ1 H1 e1 q => ?_) h⟩
    exact Tgs.keep l (fun i z => hi i (by simp [Tgs.slots, z])) (fun σ2 H2 e2 q2 => im _ _ (e2.trans e1) q2) q
end
section
variable {X : Cx} {W : WX} {pos : Pos}
def QG (X : Cx) (tg : Expr) (T : Tg) : Prop := PG X tg (T.rd X.K)
def QGs (X : Cx) (tgs : List Expr) (T : Tgs) : Prop := PGs X tgs (T.rd X.K)
theorem qg_name {i : Nat} {x : Str} (hN : X.N.Nodup) (hi : X.N[i]? = some x) (hx : Loc X.env.scope x) (hf : X.fn x = true ∨ X.env.scope.names.lookup x = some .local := by first | exact .inl rfl | exact .inr rfl | assumption) : QG X (.Name x pos) (.nm i) := by
  have h := pg_name (pos := pos) hN hi hx hf
  unfold QG; simp only [Tg.rd]; exact h
theorem qgs_nil : QGs X [] .nil := by
  unfold QGs; simp only [Tgs.rd]; exact pgs_nil
theorem qgs_cons {e : Expr} {es : List Expr} {t : Tg} {l : Tgs} (h1 : QG X e t) (h2 : QGs X es l) (hs : (assignEach (e :: es) X.env).map (·.2) = assign e X.env :: (assignEach es X.env).map (·.2) := by rfl) : QGs X (e :: es) (.cons t l) := by
  unfold QGs; simp only [Tgs.rd]; exact pgs_cons h1 h2 hs
theorem PG_or {tg : Expr} {t u : TG} (h : PG X tg t) (h' : PG X tg u) : PG X tg (fun v σ H Q => t v σ H Q ∨ u v σ H Q) := ⟨fun pins s σ H v w Q I r q => by
  rcases q with q | q
  · exact h.run pins s σ H v w Q I r q
  · exact h'.run pins s σ H v w Q I r q⟩
theorem qg_tup {es : List Expr} {k : Nat} {l : Tgs} {n : Nat} (hc : X.calm = true) (h : QGs X es l) (hn : (assignEach es X.env).length = n := by rfl) (hst : (assignEach es X.env).findIdx? (·.1) = none := by rfl) : QG X (.Tuple es k pos) (.tp n l) := by
  unfold QG; simp only [Tg.rd]; exact PG_or (pg_tup hc h hn hst) (pg_lst hc h hn hst)
variable {e : Expr} {me : ME}
def mSet (i : Nat) (m : ME) : MS := fun E ρ M => m ρ M (fun d M1 => E.nx (ρ.set i (some d)) M1) (fun x M1 => E.ex x ρ M1)
def mAsg (m : ME) (T : Tg) : MS := fun E ρ M => m ρ M (fun d M1 => T.mg d ρ M1 fun ρ' => E.nx ρ' M1) (fun x M1 => E.ex x ρ M1)
theorem qs_set {i : Nat} {x : Str} {pos' : Pos} (hN : X.N.Nodup) (hi : X.N[i]? = some x) (hx : Loc X.env.scope x) (he : QE X W e me) (hs : swapsWith e (some (.Name x pos')) pos.line X.env = pure false := by rfl) (hf : X.fn x = true ∨ X.env.scope.names.lookup x = some .local := by first | exact .inl rfl | exact .inr rfl | assumption) :
    QS X W (.Assign [.Name x pos'] e pos) (mSet i me) := PSi (ps_set hN hi hx he hs hf) fun D σ H ⟨as, M, ρ, E, r, rs, h, hE⟩ =>
  lf_bind r rs h (exS hE rs) fun d M1 as1 H1 v h1 e1 r1 rs1 rv => hE.nx _ _ h1 as1 H1 _ e1 r1 (rs1.set rv)
theorem qs_asg {tg : Expr} {T : Tg} (he : QE X W e me) (hg : QG X tg T) (hs : swapsWithSole [tg] e pos.line X.env = pure false := by rfl) (hw : swappedStores [tg] e X.env = pure none := by rfl)
    (h1 : (assignEach [tg] X.env).map (·.2) = [assign tg X.env] := by rfl) : QS X W (.Assign [tg] e pos) (mAsg me T) := by
  refine PSi (ps_asg he hg hs hw h1) fun D σ H ⟨as, M, ρ, E, r, rs, h, hE⟩ => ?_
  exact lf_bind r rs h (exS hE rs) fun d M1 as1 H1 v h1 e1 r1 rs1 rv => T.sim r1 rs1 rv h1 fun ρ' σ' q rs' => hE.nx _ _ q as1 H1 _ e1 r1 rs'
def mPar (i j : Nat) (ma : MA) : MS := fun E ρ M => ma ρ M (fun ds M1 => match ds with | [d, e] => E.nx ((ρ.set i (some d)).set j (some e)) M1 | _ => False) (fun x M1 => E.ex x ρ M1)
theorem qs_par {i j : Nat} {x y : Str} {a b : Expr} {ma : MA} {px py pt : Pos} {kt k2 pt2} (hc : X.calm = true) (hN : X.N.Nodup) (hi : X.N[i]? = some x) (hj : X.N[j]? = some y) (hij : i ≠ j)
    (hx : X.env.scope.names.lookup x = some .local) (hy : X.env.scope.names.lookup y = some .local) (ha : QA X W [a, b] ma)
    (hw : swappedStores [.Tuple [.Name x px, .Name y py] kt pt] (.Tuple [a, b] k2 pt2) X.env = pure (some [x, y]))
    (hs : swapsWithSole [.Tuple [.Name x px, .Name y py] kt pt] (.Tuple [a, b] k2 pt2) pos.line X.env = pure false := by rfl) :
    QS X W (.Assign [.Tuple [.Name x px, .Name y py] kt pt] (.Tuple [a, b] k2 pt2) pos) (mPar i j ma) := PSi (ps_par hc hN hi hj hij hx hy ha hw hs) fun D σ H ⟨as, M, ρ, E, r, rs, h, hE⟩ => by
  refine lfA_bind r rs h (exS hE rs) fun ds M1 as1 H1 vs h1 e1 r1 rs1 rv => ?_
  split at h1
  · obtain ⟨v, w, rfl, r2, r3⟩ := rv.two
    exact ⟨v, w, rfl, hE.nx _ _ h1 as1 H1 _ e1 r1 ((rs1.set r2).set r3)⟩
  · exact h1.elim
def oSetIx (o i v : D) (M : Mem) (N : Mem → Prop) : Prop := match o with
  | .ref n => match M[n]? with
    | some (.lst ds) => match i with
      | .int k => match ixN ds.length k with
        | some j => N (M.set n (.lst (ds.set j v)))
        | none => False
      | _ => False
    | some (.dct false kvs) => match keyOf i with
      | some q => kvs.length < 16000000 ∧ N (M.set n (.dct false (dput kvs q v)))
      | none => False
    | _ => False
  | _ => False
def mSetIx (mv mo mi : ME) : MS := fun E ρ M => mv ρ M (fun v M1 => mo ρ M1 (fun o M2 => mi ρ M2 (fun i M3 => oSetIx o i v M3 fun M4 => E.nx ρ M4) (fun x M3 => E.ex x ρ M3)) (fun x M2 => E.ex x ρ M2)) (fun x M1 => E.ex x ρ M1)
def rSetD : TSet := fun o y v H Q => ∃ a H', o = .ref a ∧ DPut H a y v H' ∧ Q H'
theorem set_dict (hu : X.A.units + 1 < cLine) : PSet X rSetD := fun pins s σ H o i v ov iv u Q I ro ri rv h => by
  obtain ⟨a, H', rfl, g, q⟩ := h
  obtain rfl : ov = Value.ref a := ro
  exact d_setItem hu I g ri rv fun s4 I4 => ⟨H', I4, q⟩
theorem PSet_or {t u : TSet} (h : PSet X t) (h' : PSet X u) : PSet X (fun o i v H Q => t o i v H Q ∨ u o i v H Q) := fun pins s σ H o i v ov iv w Q I ro ri rv q => by
  rcases q with q | q
  · exact h pins s σ H o i v ov iv w Q I ro ri rv q
  · exact h' pins s σ H o i v ov iv w Q I ro ri rv q
theorem nfrz_lst {H : Hp} {a : Addr} {xs : List V} (h : H a = some (.lst xs)) : ∀ ob w, H a ≠ some (.frz ob w) := fun ob w z => by rw [h] at z; cases z
theorem nfrz_dK {H : Hp} {a : Addr} {xs : List (Key × V)} (h : H a = some (.dK xs)) : ∀ ob w, H a ≠ some (.frz ob w) := fun ob w z => by rw [h] at z; cases z
theorem nfrz_ins {H : Hp} {a C dx : Addr} {xs : List (Str × V)} (h : H a = some (.ins C dx xs)) : ∀ ob w, H a ≠ some (.frz ob w) := fun ob w z => by rw [h] at z; cases z
/-- a list is written -/
theorem put_lst {K : PySem.W.Frag} {as : List Addr} {H : Hp} {M : Mem} {n : Nat} {a : Addr} {xs ys : List V} {ds : List D} (rp : RepM K as H M) (hn : as[n]? = some a) (h1 : H a = some (.lst xs)) (r : RelL K as H ds ys) :
    Ext K as H as (upd H a (.lst ys)) ∧ RepM K as (upd H a (.lst ys)) (M.set n (.lst ds)) :=
  have e := ext_put (u := .lst ys) rp hn (nfrz_lst h1)
  ⟨e, rp.put hn (nfrz_lst h1) ⟨ys, upd_same, r.up e⟩⟩
theorem put_dct {K : PySem.W.Frag} {as : List Addr} {H : Hp} {M : Mem} {n : Nat} {a : Addr} {xs ys : List (Key × V)} {ds : List (Key × D)} (rp : RepM K as H M) (hn : as[n]? = some a) (h1 : H a = some (.dK xs)) (r : KVR K as H ds ys) :
    Ext K as H as (upd H a (.dK ys)) ∧ RepM K as (upd H a (.dK ys)) (M.set n (.dct false ds)) :=
  have e := ext_put (u := .dK ys) rp hn (nfrz_dK h1)
  ⟨e, rp.put hn (nfrz_dK h1) ⟨ys, r.up e, upd_same⟩⟩
theorem at_dK {K : PySem.W.Frag} {as : List Addr} {H : Hp} {M : Mem} {n : Nat} {a : Addr} {kvs : List (Key × D)} (rp : RepM K as H M) (hn : as[n]? = some a) (e : M[n]? = some (.dct false kvs)) : ∃ ks, KVR K as H kvs ks ∧ H a = some (.dK ks) := by
  obtain ⟨a', ha, ks, h1, h2⟩ := rp.at_ e
  rw [hn] at ha; cases ha
  exact ⟨ks, h1, h2⟩
theorem setIx_ok {K : PySem.W.Frag} {as : List Addr} {H : Hp} {M : Mem} {o i v : D} {vo vi vv : V} {N : Mem → Prop} {Q : Hp → Prop} (rp : RepM K as H M) (ro : Rel K as H o vo) (ri : Rel K as H i vi) (rv : Rel K as H v vv) (h : oSetIx o i v M N)
    (hq : ∀ M' H', N M' → Ext K as H as H' → RepM K as H' M' → Q H') : rSetL vo vi vv H Q ∨ rSetD vo vi vv H Q := by
  cases ro <;> first | exact h.elim | skip
  rename_i n a hn
  dsimp only [oSetIx] at h
  split at h
  · rename_i ds e
    cases ri <;> first | exact h.elim | skip
    rename_i k
    dsimp only at h
    split at h
    · rename_i j ej
      obtain ⟨xs, h1, h2⟩ := at_lst rp hn e
      obtain ⟨e1, r1⟩ := put_lst rp hn h1 (h2.set rv j)
      exact .inl ⟨a, xs, k, j, rfl, rfl, h1, by rw [← h2.len]; exact ej, hq _ _ h e1 r1⟩
    · exact h.elim
  · rename_i kvs e
    split at h
    · rename_i q0 eq
      obtain ⟨ks, h1, h2⟩ := at_dK rp hn e
      obtain ⟨e1, r1⟩ := put_dct rp hn h2 (h1.put q0 rv)
      refine .inr ⟨a, _, rfl, .inl ⟨ks, q0, h2, keyOf_ok ri eq, ?_, rfl⟩, hq _ _ h.2 e1 r1⟩
      rw [← h1.len]; exact Nat.lt_of_lt_of_le h.1 (by decide)
    · exact h.elim
  · exact h.elim
theorem qs_setIx {o i : Expr} {mo mi : ME} {pos' : Pos} (hu : X.A.units + 1 < cLine) (he : QE X W e me) (ho : QE X W o mo) (hi : QE X W i mi)
    (ha : ∀ v, assign (.Subscript o i pos') X.env v = (do
      let ov ← holding [v] (eval o X.env)
      let iv ← holding [v, ov] (eval i X.env)
      standAt pos'
      holding [v, ov, iv] (setItem ov iv v)
      release [v, ov, iv] []) := by intro _; rfl)
    (hs : swapsWithSole [.Subscript o i pos'] e pos.line X.env = pure false := by rfl) (hw : swappedStores [.Subscript o i pos'] e X.env = pure none := by rfl)
    (h1 : (assignEach [.Subscript o i pos'] X.env).map (·.2) = [assign (.Subscript o i pos') X.env] := by rfl) : QS X W (.Assign [.Subscript o i pos'] e pos) (mSetIx me mo mi) :=
  PSi (ps_asg he (pg_sub ho hi (PSet_or set_list (set_dict hu)) ha) hs hw h1) fun D σ H ⟨as, M, ρ, E, r, rs, h, hE⟩ => by
    refine lf_bind r rs h (exS hE rs) fun v M1 as1 H1 vv h1 e1 r1 rs1 rv => ?_
    refine lf_bind r1 rs1 h1 (fun x M' q => (exS hE rs x M' q).mono e1) fun o M2 as2 H2 vo h2 e2 r2 rs2 ro => ?_
    refine lf_bind r2 rs2 h2 (fun x M' q => (exS hE rs x M' q).mono (e1.trans e2)) fun i M3 as3 H3 vi h3 e3 r3 rs3 ri => ?_
    exact setIx_ok r3 (ro.up e3) ri (rv.up (e2.trans e3)) h3 fun M' H' q e4 r4 => hE.nx _ _ q as3 H' _ (((e1.trans e2).trans e3).trans e4) r4 (rs3.up e4)
end
end MV
namespace MV
open PySem PySem.Spec PyProof.Rows L2
abbrev MI := Ev → Mem → (List D → (Mem → Prop) → Mem → Prop) → XM → Prop
/-- J walks the items while guard stands -/
def ItOk (K : PySem.W.Frag) (as : List Addr) (H : Hp) (J : It) (items : List D) (guard : Mem → Prop) : Prop := ∀ (as' : List Addr) (H' : Hp) (M' : Mem) (i : Nat), Ext K as H as' H' → RepM K as' H' M' → guard M' →
  (i = items.length → J.stop i H') ∧ ∀ d, items[i]? = some d → J.go i H' ∧ ∀ x H2, J.yld i H' x H2 → Ext K as' H' as' H2 ∧ RepM K as' H2 M' ∧ Rel K as' H2 d x
def lfI (K : PySem.W.Frag) (W : WX) (m : MI) : TI := fun σ H R => ∃ as M ρ k X', RepM K as H M ∧ RelS K as H ρ σ ∧ m ρ M k X' ∧
  (∀ items guard M' as' H' J, k items guard M' → Ext K as H as' H' → RepM K as' H' M' → ItOk K as' H' J items guard → R J H') ∧ ∀ x M', X' x M' → LX K as H (fun c d H => W c d σ H) x M'
abbrev QI (X : Cx) (W : WX) (tg iter : Expr) (m : MI) : Prop := PI X tg iter (lfI X.K W m)
theorem PIi {X : Cx} {tg e : Expr} {t t' : TI} (h : PI X tg e t) (i : ∀ σ H R, t' σ H R → t σ H R) : PI X tg e t' := ⟨fun pins s σ H R I q => h.run pins s σ H R I (i σ H R q)⟩
def mForL (guard : Mem → Prop) (T : Tg) (b : MS) (E : Nd) : List D → Ev → Mem → Prop
  | [], ρ, M => guard M ∧ E.nx ρ M
  | d :: ds, ρ, M => guard M ∧ T.mg d ρ M fun ρ1 => b ⟨fun ρ2 M2 => mForL guard T b E ds ρ2 M2, E.rt, E.nx, fun ρ2 M2 => mForL guard T b E ds ρ2 M2, E.ex⟩ ρ1 M
def mFor (mi : MI) (T : Tg) (b : MS) : MS := fun E ρ M => mi ρ M (fun items guard M1 => mForL guard T b E items ρ M1) (fun x M1 => E.ex x ρ M1)
theorem drop_cons {α : Type} {l : List α} {i : Nat} (h : i < l.length) : l.drop i = l[i] :: l.drop (i + 1) := List.drop_eq_getElem_cons h
section
variable {X : Cx} {W : WX} {tg iter : Expr} {body : List Stmt} {mi : MI} {T : Tg} {mb : MS} {pos : Pos}
theorem qs_for (hp : PassesOwn (model X.prog X.w) X.A X.env X.xe) (hc : X.calm = true) (hi : QI X W tg iter mi) (hg : QG X tg T) (hb : QSs X W body mb) (hs : ∀ x, foldedSetIterable iter X.env x = pure x := by intro _; rfl) :
    QS X W (.For tg iter body [] pos) (mFor mi T mb) := PSi (ps_for hp hc hi hg hb hs) fun D σ H ⟨as, M, ρ, E, r, rs, h, hE⟩ => by
  refine ⟨as, M, ρ, _, _, r, rs, h, fun items guard M1 as1 H1 J h1 e1 r1 ok => ?_, exS hE rs⟩
  refine ⟨fun i m σ' H' => ∃ as' M' ρ', Ext X.K as1 H1 as' H' ∧ RepM X.K as' H' M' ∧ RelS X.K as' H' ρ' σ' ∧ i + m = items.length ∧ mForL guard T mb E (items.drop i) ρ' M', ⟨items.length, as1, M1, ρ, .refl, r1, rs.up e1, by simp, h1⟩, ?_⟩
  rintro i m σ' H' ⟨as', M', ρ', e', r', rs', hm, h'⟩
  by_cases hl : i < items.length
  · right
    rw [drop_cons hl] at h'
    obtain ⟨hgd, h'⟩ := h'
    obtain ⟨_, ok2⟩ := ok as' H' M' i e' r' hgd
    obtain ⟨go, yld⟩ := ok2 _ (List.getElem?_eq_getElem hl)
    refine ⟨go, fun σ2 H2 => ∃ as2 M2 ρ2, Ext X.K as1 H1 as2 H2 ∧ RepM X.K as2 H2 M2 ∧ RelS X.K as2 H2 ρ2 σ2 ∧ mForL guard T mb E (items.drop (i + 1)) ρ2 M2, fun σ2 H2 ⟨as2, M2, ρ2, a, b, c, d⟩ => ⟨m - 1, by omega, as2, M2, ρ2, a, b, c, by omega, d⟩, fun x H2 y => ?_⟩
    obtain ⟨e2, r2, rx⟩ := yld x H2 y
    refine T.sim r2 (rs'.up e2) rx h' fun ρ3 σ3 h3 rs3 => ?_
    have e3 := e'.trans e2
    exact ⟨as', M', ρ3, _, r2, rs3, h3, ⟨fun ρ4 M4 q as4 H4 σ4 e4 r4 rs4 => ⟨as4, M4, ρ4, e3.trans e4, r4, rs4, q⟩, (hE.mono (e1.trans e3)).rt, (hE.mono (e1.trans e3)).nx, fun ρ4 M4 q as4 H4 σ4 e4 r4 rs4 => ⟨as4, M4, ρ4, e3.trans e4, r4, rs4, q⟩, (hE.mono (e1.trans e3)).ex⟩⟩
  · left
    have hi' : i = items.length := by omega
    rw [List.drop_eq_nil_of_le (by omega)] at h'
    exact ⟨(ok as' H' M' i e' r' h'.1).1 hi', hE.nx _ _ h'.2 as' H' σ' (e1.trans e') r' rs'⟩
end
def mISeq (me : ME) : MI := fun ρ M k X => me ρ M (fun x M1 => match x with
  | .tup ds => k ds (fun _ => True) M1
  | .str z => k (z.cps.toList.map fun c => .str ⟨#[c]⟩) (fun _ => True) M1
  | .ref n => match M1[n]? with
    | some (.lst ds) => k ds (fun M => M[n]? = some (.lst ds)) M1
    | some (.frz ds) => k ds (fun M => M[n]? = some (.frz ds)) M1
    | some (.dct true kvs) => k (kvs.map fun kv => kD kv.1) (fun M => M[n]? = some (.dct true kvs)) M1
    | _ => False
  | _ => False) X
def iSeqA (K : PySem.W.Frag) (tl : TE) : TI := fun σ H R => tl σ H fun x H1 =>
  (∃ a, x = .ref a ∧ (∃ xs, SqL K H1 a xs) ∧ R (Itl K a) H1) ∨ (∃ a, x = .ref a ∧ (∃ xs, SqT K H1 a xs) ∧ R (Itt K a) H1) ∨ (∃ z, x = .str z ∧ R (Its z) H1) ∨
  ∃ d o kvs, x = .ref d ∧ H1 d = some (.frz o (.dK kvs)) ∧ R (Itk d o kvs) H1
section
variable {X : Cx} {W : WX} {tg e e2 : Expr} {me : ME} {pos : Pos}
theorem pi_seqA {tl : TE} (hl : PE X e tl) : PI X tg e (iSeqA X.K tl) := by
  refine ⟨fun pins s σ H R I h => ?_⟩
  refine thn (hl.run pins s σ H _ I h) fun v s1 ⟨x, H1, I1, r1, q1⟩ => ?_
  rcases q1 with ⟨a, e, ⟨xs, hq⟩, q⟩ | ⟨a, e, ⟨xs, hq⟩, q⟩ | ⟨z, e, q⟩ | ⟨d, o, kvs, e, hd, q⟩
  · subst e
    cases r1
    obtain ⟨its, rv, p, hz⟩ := I1.list hq
    refine wpAny_pyIter_list p.isList ?_
    refine ⟨s1.heap.objs.size, [s1.heap.objs.size], _, _, H1, rfl, I1.kept (t' := s1.toks) fun b o e => Heap.get?_push_of_some _ e, turn_list a _, ⟨_, Heap.get?_push_size _ rfl, rfl, rfl⟩, fun b hb => ?_, q⟩
    have e : b = s1.heap.objs.size := by simpa using hb
    subst e
    exact I1.fpOk (Nat.le_refl _) (I1.hok.fresh (Nat.le_refl _))
  · subst e
    cases r1
    obtain ⟨its, rv, p, hz⟩ := I1.tuple hq
    refine wpAny_pyIter_tuple (show s1.heap.IsTuple a its.toArray from p) ?_
    refine ⟨s1.heap.objs.size, [s1.heap.objs.size], _, _, H1, rfl, I1.kept (t' := s1.toks) fun b o e => Heap.get?_push_of_some _ e, turn_tuple a _, ⟨_, Heap.get?_push_size _ rfl, rfl, rfl⟩, fun b hb => ?_, q⟩
    have e : b = s1.heap.objs.size := by simpa using hb
    subst e
    exact I1.fpOk (Nat.le_refl _) (I1.hok.fresh (Nat.le_refl _))
  · subst e
    obtain ⟨t, rfl⟩ := r1
    cases ha : z.cps.all (· < 128)
    · exact wpAny_pyIter_wide ha (pi_one (tk := s1.toks) I1 _ (turn_str _ z t "str_iterator" (.inr rfl)) ⟨_, Heap.get?_push_size _ rfl, rfl, rfl⟩ q)
    · exact wpAny_pyIter_ascii ha (pi_one (tk := s1.toks) I1 _ (turn_str _ z t "str_ascii_iterator" (.inl rfl)) ⟨_, Heap.get?_push_size _ rfl, rfl, rfl⟩ q)
  · subst e
    obtain rfl : v = Value.ref d := r1
    obtain ⟨hs, hgd, hx, es, ep, vs, hdt, hsz, kv, hm⟩ := I1.frzK hd
    refine iter_keys hs hgd hx hdt (pi_one (tk := s1.toks) I1 _ (turn_keys _ hdt) ⟨_, Heap.get?_push_size _ rfl, rfl, ?_⟩ q)
    rw [hsz] <;> rfl
theorem itok_lst {K : PySem.W.Frag} {as : List Addr} {H : Hp} {n : Nat} {a : Addr} {ds : List D} (hn : as[n]? = some a) : ItOk K as H (Itl K a) ds (fun M => M[n]? = some (.lst ds)) := fun as' H' M' i e r g => by
  obtain ⟨xs, h1, h2⟩ := at_lst r (pre_get e.pre hn) g
  refine ⟨fun hi => ⟨xs, SqL.of h1, by rw [← h2.len]; omega⟩, fun d hd => ?_⟩
  obtain ⟨v, hv, rv⟩ := h2.get hd
  refine ⟨⟨xs, v, SqL.of h1, hv⟩, fun x H2 ⟨e2, y⟩ => ?_⟩
  have e3 := y xs (SqL.of h1)
  rw [hv] at e3; cases e3
  subst e2
  exact ⟨.refl, r, rv⟩
theorem itok_frz {K : PySem.W.Frag} {as : List Addr} {H : Hp} {n : Nat} {a : Addr} {ds : List D} (hn : as[n]? = some a) : ItOk K as H (Itl K a) ds (fun M => M[n]? = some (.frz ds)) := fun as' H' M' i e r g => by
  obtain ⟨ob, xs, h1, h2⟩ := at_frz r (pre_get e.pre hn) g
  refine ⟨fun hi => ⟨xs, .inl (.inr ⟨ob, h1⟩), by rw [← h2.len]; omega⟩, fun d hd => ?_⟩
  obtain ⟨v, hv, rv⟩ := h2.get hd
  refine ⟨⟨xs, v, .inl (.inr ⟨ob, h1⟩), hv⟩, fun x H2 ⟨e2, y⟩ => ?_⟩
  have e3 := y xs (.inl (.inr ⟨ob, h1⟩))
  rw [hv] at e3; cases e3
  subst e2
  exact ⟨.refl, r, rv⟩
theorem itok_tup {K : PySem.W.Frag} {as : List Addr} {H : Hp} {a : Addr} {ds : List D} {xs : List V} (hs : SqT K H a xs) (hl : RelL K as H ds xs) : ItOk K as H (Itt K a) ds (fun _ => True) := fun as' H' M' i e r g => by
  have h1 := e.tup _ _ hs
  have h2 := hl.up e
  refine ⟨fun hi => ⟨xs, h1, by rw [← h2.len]; omega⟩, fun d hd => ?_⟩
  obtain ⟨v, hv, rv⟩ := h2.get hd
  refine ⟨⟨xs, v, h1, hv⟩, fun x H2 ⟨e2, y⟩ => ?_⟩
  have e3 := y xs h1
  rw [hv] at e3; cases e3
  subst e2
  exact ⟨.refl, r, rv⟩
theorem itok_str {K : PySem.W.Frag} {as : List Addr} {H : Hp} {z : Str} : ItOk K as H (Its z) (z.cps.toList.map fun c => .str ⟨#[c]⟩) (fun _ => True) := fun as' H' M' i e r g => by
  refine ⟨fun hi => ?_, fun d hd => ?_⟩
  · simp at hi
    show z.cps.size ≤ i
    omega
  · rw [List.getElem?_map] at hd
    cases hc : z.cps.toList[i]? with
    | none => rw [hc] at hd; cases hd
    | some c =>
      rw [hc] at hd
      simp only [Option.map_some, Option.some.injEq] at hd
      have hc2 : z.cps[i]? = some c := by rw [← hc]; simp
      refine ⟨(Array.getElem?_eq_some_iff.mp hc2).1, fun x H2 ⟨e2, c', hc', hx⟩ => ?_⟩
      rw [hc2] at hc'; cases hc'
      subst e2 hx hd
      exact ⟨.refl, r, .str _⟩
theorem itok_keys {K : PySem.W.Frag} {as : List Addr} {H : Hp} {n : Nat} {a : Addr} {o : Obj} {kvs : List (Key × D)} {ks : List (Key × V)} (h2 : H a = some (.frz o (.dK ks))) (h1 : KVR K as H kvs ks) : ItOk K as H (Itk a o ks) (kvs.map fun kv => kD kv.1) (fun M => M[n]? = some (.dct true kvs)) := fun as' H' M' i e r g => by
  have h3 := e.frz _ _ _ h2
  have h4 := (h1.up e)
  refine ⟨fun hi => ⟨h3, by rw [← h4.len]; simp at hi; omega⟩, fun d hd => ?_⟩
  obtain ⟨v, hv, rv⟩ := h4.keys.get hd
  rw [List.getElem?_map] at hv
  cases hk : ks[i]? with
  | none => rw [hk] at hv; cases hv
  | some kv =>
    rw [hk] at hv
    simp only [Option.map_some, Option.some.injEq] at hv
    refine ⟨⟨h3, (List.getElem?_eq_some_iff.mp hk).1⟩, fun x H2 ⟨e2, k', v', hk', hx⟩ => ?_⟩
    rw [hk] at hk'; cases hk'
    subst e2 hx hv
    exact ⟨.refl, r, rv⟩
theorem qi_seq (he : QE X W e me) : QI X W tg e (mISeq me) := PIi (pi_seqA he) fun σ H R ⟨as, M, ρ, k, X', r, rs, h, hq, hx⟩ => by
  refine lf_bind r rs h hx fun d M1 as1 H1 v h1 e1 r1 rs1 rv => ?_
  cases rv with
  | tup hs hl => exact .inr (.inl ⟨_, rfl, ⟨_, hs.1⟩, hq _ _ M1 as1 H1 _ h1 e1 r1 (itok_tup hs.1 hl)⟩)
  | str z => exact .inr (.inr (.inl ⟨z, rfl, hq _ _ M1 as1 H1 _ h1 e1 r1 itok_str⟩))
  | ref hn =>
    dsimp only at h1
    split at h1
    · rename_i ds e2
      obtain ⟨xs, h2, h3⟩ := at_lst r1 hn e2
      exact .inl ⟨_, rfl, ⟨xs, SqL.of h2⟩, hq _ _ M1 as1 H1 _ h1 e1 r1 (itok_lst hn)⟩
    · rename_i ds e2
      obtain ⟨ob, xs, h2, h3⟩ := at_frz r1 hn e2
      exact .inl ⟨_, rfl, ⟨xs, .inl (.inr ⟨ob, h2⟩)⟩, hq _ _ M1 as1 H1 _ h1 e1 r1 (itok_frz hn)⟩
    · rename_i kvs e2
      obtain ⟨a', ha, ks, h2, ob, h3⟩ := r1.at_ e2
      rw [hn] at ha; cases ha
      exact .inr (.inr (.inr ⟨_, ob, ks, rfl, h3, hq _ _ M1 as1 H1 _ h1 e1 r1 (itok_keys h3 h2)⟩))
    · exact h1.elim
  | _ => exact h1.elim
def rangeD (lo : Int) (n : Nat) : List D := (List.range n).map fun i => .int (lo + (i : Nat))
def mIRng1 (ma : MA) : MI := fun ρ M k X => ma ρ M (fun ds M1 => match ds with | [.int j] => (-(2 ^ 62) ≤ j ∧ j < 2 ^ 62) ∧ k (rangeD 0 j.toNat) (fun _ => True) M1 | _ => False) X
def mIRng2 (ma : MA) : MI := fun ρ M k X => ma ρ M (fun ds M1 => match ds with | [.int i, .int j] => (-(2 ^ 62) ≤ i ∧ i < 2 ^ 62 ∧ -(2 ^ 62) ≤ j ∧ j < 2 ^ 62) ∧ k (rangeD i (j - i).toNat) (fun _ => True) M1 | _ => False) X
theorem itok_rng {K : PySem.W.Frag} {as : List Addr} {H : Hp} {lo : Int} {n : Nat} : ItOk K as H (Itr lo n) (rangeD lo n) (fun _ => True) := fun as' H' M' i e r g => by
  refine ⟨fun hi => ?_, fun d hd => ?_⟩
  · simp [rangeD] at hi
    show n ≤ i
    omega
  · have hl : i < n := by
      have := (List.getElem?_eq_some_iff.mp hd).1
      simpa [rangeD] using this
    refine ⟨hl, fun x H2 ⟨e2, hx⟩ => ?_⟩
    subst e2 hx
    simp only [rangeD, List.getElem?_map, List.getElem?_range hl, Option.map_some, Option.some.injEq] at hd
    subst hd
    exact ⟨.refl, r, .int _⟩
theorem qi_range1 {ma : MA} {p : Pos} (hg : Gl X "range") (hm : X.mg "range" = none) (ha : QA X W [e] ma) (hs : starEach [e] X.env = [(false, eval e X.env)] := by rfl) : QI X W tg (.Call (.Name "range" p) [e] [] pos) (mIRng1 ma) :=
  PIi (pi_range1 hg hm ha hs) fun σ H R ⟨as, M, ρ, k, X', r, rs, h, hq, hx⟩ => by
    refine lfA_bind r rs h hx fun ds M1 as1 H1 vs h1 e1 r1 rs1 rv => ?_
    split at h1
    · obtain ⟨v, rfl, rx⟩ := rv.one
      cases rx
      exact ⟨_, rfl, h1.1.1, h1.1.2, hq _ _ M1 as1 H1 _ h1.2 e1 r1 itok_rng⟩
    · exact h1.elim
theorem qi_range2 {ma : MA} {p : Pos} (hg : Gl X "range") (hm : X.mg "range" = none) (ha : QA X W [e, e2] ma) (hs : starEach [e, e2] X.env = [(false, eval e X.env), (false, eval e2 X.env)] := by rfl) (hs2 : starEach [e2] X.env = [(false, eval e2 X.env)] := by rfl) : QI X W tg (.Call (.Name "range" p) [e, e2] [] pos) (mIRng2 ma) :=
  PIi (pi_range2 hg hm ha hs hs2) fun σ H R ⟨as, M, ρ, k, X', r, rs, h, hq, hx⟩ => by
    refine lfA_bind r rs h hx fun ds M1 as1 H1 vs h1 e1 r1 rs1 rv => ?_
    split at h1
    · obtain ⟨v, w, rfl, rx, ry⟩ := rv.two
      cases rx; cases ry
      exact ⟨_, _, rfl, h1.1, hq _ _ M1 as1 H1 _ h1.2 e1 r1 itok_rng⟩
    · exact h1.elim
def enumD (ds : List D) : List D := ds.mapIdx fun i d => .tup [.int (i : Nat), d]
def mIEnumT (ma : MA) : MI := fun ρ M k X => ma ρ M (fun ds M1 => match ds with
  | [.tup ds] => k (enumD ds) (fun _ => True) M1
  | _ => False) X
theorem enumD_get {ds : List D} {i : Nat} {d : D} (h : (enumD ds)[i]? = some d) : ∃ d0, ds[i]? = some d0 ∧ d = .tup [.int (i : Nat), d0] := by
  simp only [enumD, List.getElem?_mapIdx] at h
  cases e : ds[i]? with
  | none => rw [e] at h; cases h
  | some d0 => rw [e] at h; simp at h; exact ⟨d0, rfl, h.symm⟩
theorem new_pair {K : PySem.W.Frag} {as : List Addr} {H : Hp} {M : Mem} {T : Addr} {d1 d2 : D} {v1 v2 : V} (r : RepM K as H M) (hT : H T = none) (r1 : Rel K as H d1 v1) (r2 : Rel K as H d2 v2) :
    Ext K as H as (upd H T (.tup [v1, v2])) ∧ RepM K as (upd H T (.tup [v1, v2])) M ∧ Rel K as (upd H T (.tup [v1, v2])) (.tup [d1, d2]) (.ref T) :=
  ⟨ext_new hT, r.laid hT, .tup Tq.new (.cons (r1.up (ext_new hT)) (.cons (r2.up (ext_new hT)) .nil))⟩
theorem qi_enumT {ma : MA} {p tpos : Pos} {elts : List Expr} {kk : Nat} (hg : Gl X "enumerate") (hm : X.mg "enumerate" = none) (ha : QA X W [e] ma) (hs : starEach [e] X.env = [(false, eval e X.env)] := by rfl) : QI X W (.Tuple elts kk tpos) (.Call (.Name "enumerate" p) [e] [] pos) (mIEnumT ma) :=
  PIi (DW.pi_enumT hg hm ha hs) fun σ H R ⟨as, M, ρ, k, X', r, rs, h, hq, hx⟩ => by
    refine lfA_bind r rs h hx fun ds M1 as1 H1 vs h1 e1 r1 rs1 rv => ?_
    split at h1
    · rename_i ds0
      obtain ⟨v, rfl, rx⟩ := rv.one
      cases rx with
      | tup hs hl =>
        refine ⟨_, _, rfl, hs.1, hq _ _ M1 as1 H1 _ h1 e1 r1 fun as' H' M' i e r g => ?_⟩
        have h4 := e.tup _ _ hs.1
        have h5 := hl.up e
        refine ⟨fun hi => ⟨_, h4, by rw [← h5.len]; simp [enumD] at hi; omega⟩, fun d hd => ?_⟩
        obtain ⟨d0, hd0, rfl⟩ := enumD_get hd
        obtain ⟨v, hv, rv⟩ := h5.get hd0
        refine ⟨⟨_, v, h4, hv⟩, fun x H2 ⟨T, w, ex, hT, eH, y⟩ => ?_⟩
        have e3 := y _ h4
        rw [hv] at e3; cases e3
        subst ex eH
        exact new_pair r hT (.int _) rv
    · exact h1.elim
end
end MV
namespace MV
open PySem PySem.Spec PyProof.Rows L2
section
variable {X : Cx} {W : WX} {st : Stmt} {e : Expr}
end
end MV
namespace MV
open PySem PySem.Spec PyProof.Rows L2
def wipeE (ρ : Ev) : List Nat → Ev
  | [] => ρ
  | v :: vs => (wipeE ρ vs).set v none
def mYes : MT := fun _ M Q _ => Q true M
def noX : XM := fun _ _ => False
def mLcL (guard : Mem → Prop) (T : Tg) (tt : MT) (me : ME) (ρ : Ev) (n : Nat) (Q : Mem → Prop) : List D → Mem → Prop
  | [], M => guard M ∧ Q M
  | d :: ds, M => guard M ∧ T.mg d ρ M fun ρ2 => tt ρ2 M (fun b M3 => if b = true then me ρ2 M3 (fun y M4 => match M4[n]? with
      | some (.lst acc) => acc.length < 16000000 ∧ mLcL guard T tt me ρ n Q ds (M4.set n (.lst (acc ++ [y])))
      | _ => False) noX else mLcL guard T tt me ρ n Q ds M3) noX
def mLc (mi : MI) (T : Tg) (tt : MT) (me : ME) (vs : List Nat) : ME := fun ρ M Q X => mi ρ M (fun items guard M1 => mLcL guard T tt me (wipeE ρ vs) M1.length (fun M2 => Q (.ref M1.length) M2) items (M1 ++ [.lst []])) X
abbrev W0 : WX := fun _ _ _ _ => False
section
variable {K : PySem.W.Frag} {as : List Addr} {H : Hp} {M : Mem}
theorem RelS.wipe {ρ : Ev} {σ : L2.St} (r : RelS K as H ρ σ) : ∀ vs : List Nat, RelS K as H (wipeE ρ vs) (L2.wipe σ vs)
  | [] => r
  | v :: vs => (RelS.wipe r vs).unset
theorem noX_ok {σ : L2.St} : ∀ x M', noX x M' → LX K as H (fun c d H => W0 c d σ H) x M' := fun _ _ h => h.elim
theorem lf_lc {W : WX} {mi : MI} {T : Tg} {tt : MT} {me : ME} {vs : List Nat} (hT : ∀ i ∈ T.slots, i ∈ vs) {σ : L2.St} {H : Hp} {Q : VK} (h : lf K W (mLc mi T tt me vs) σ H Q) : tLc (lfI K W mi) (T.rd K) (lfT K W0 tt) (lf K W0 me) vs σ H Q := by
  obtain ⟨as, M, ρ, Q', X', r, rs, h, hq, hx⟩ := h
  refine ⟨as, M, ρ, _, X', r, rs, h, fun items guard M1 as1 H1 J h1 e1 r1 ok D hD => ?_, hx⟩
  have rD : RepM K (as1 ++ [D]) (upd H1 D (.lst [])) (M1 ++ [.lst []]) := r1.new (o := .lst []) hD ⟨[], upd_same, .nil⟩
  have eD : Ext K as1 H1 (as1 ++ [D]) (upd H1 D (.lst [])) := (ext_new hD).trans ext_app
  have nD : (as1 ++ [D])[M1.length]? = some D := by rw [← r1.len]; exact app_at
  refine ⟨fun i m H' => ∃ as' M', Ext K (as1 ++ [D]) (upd H1 D (.lst [])) as' H' ∧ RepM K as' H' M' ∧ i + m = items.length ∧ mLcL guard T tt me (wipeE ρ vs) M1.length (fun M2 => Q' (.ref M1.length) M2) (items.drop i) M', ⟨items.length, _, _, .refl, rD, by simp, h1⟩, ?_⟩
  rintro i m H' ⟨as', M', e', r', hm, h'⟩
  have e2 := eD.trans e'
  have nD' := pre_get e'.pre nD
  by_cases hl : i < items.length
  · right
    rw [drop_cons hl] at h'
    obtain ⟨hgd, h'⟩ := h'
    obtain ⟨_, ok2⟩ := ok as' H' M' i e2 r' hgd
    obtain ⟨go, yld⟩ := ok2 _ (List.getElem?_eq_getElem hl)
    refine ⟨go, fun H2 => ∃ as2 M2, Ext K (as1 ++ [D]) (upd H1 D (.lst [])) as2 H2 ∧ RepM K as2 H2 M2 ∧ mLcL guard T tt me (wipeE ρ vs) M1.length (fun M2 => Q' (.ref M1.length) M2) (items.drop (i + 1)) M2, fun H2 ⟨as2, M2, a, b, c⟩ => ⟨m - 1, by omega, as2, M2, a, b, by omega, c⟩, fun x H2 y => ?_⟩
    obtain ⟨e3, r3, rx⟩ := yld x H2 y
    have e4 := e'.trans e3
    have rs3 : RelS K as' H2 (wipeE ρ vs) (L2.wipe σ vs) := (rs.up (e1.trans (e2.trans e3))).wipe vs
    refine T.keep hT (fun σ2 H2' ew q => ⟨?_, q⟩) (T.sim r3 rs3 rx h' fun ρ4 σ4 h4 rs4 => ?_)
    · rw [ew]
      have : ∀ (vs : List Nat) (τ : L2.St), L2.wipe (L2.wipe τ vs) vs = L2.wipe τ vs := fun vs τ => by
        apply List.ext_getElem?
        intro j
        by_cases hj : j ∈ vs
        · have key : ∀ (us : List Nat) (τ : L2.St), j ∈ us → (L2.wipe τ us)[j]? = (if j < τ.length then some none else none) := fun us τ hj => by
            induction us with
            | nil => cases hj
            | cons u us ih =>
              show ((L2.wipe τ us).set u none)[j]? = _
              by_cases hu : u = j
              · subst hu
                by_cases hl : u < τ.length
                · rw [List.getElem?_set_self (by rw [wipe_length]; exact hl), if_pos hl]
                · rw [List.getElem?_eq_none_iff.mpr (by rw [List.length_set, wipe_length]; omega), if_neg hl]
              · rw [List.getElem?_set_ne hu]
                exact ih (by rcases List.mem_cons.mp hj with z | z; exact absurd z.symm hu; exact z)
          rw [key vs _ hj, key vs _ hj, wipe_length]
        · rw [wipe_out hj]
      exact this vs σ
    · refine lfT_bind r3 rs4 h4 noX_ok fun b M3 as3 H3 h5 e5 r5 rs5 => ?_
      cases b with
      | true =>
        rw [if_pos rfl] at h5 ⊢
        refine lf_bind r5 rs5 h5 noX_ok fun dy M4 as4 H4 y h6 e6 r6 rs6 ry => ?_
        split at h6
        · rename_i acc ea
          have n4 := pre_get (e4.trans (e5.trans e6)).pre nD
          obtain ⟨ys, g1, g2⟩ := at_lst r6 n4 ea
          obtain ⟨e7, r7⟩ := put_lst r6 n4 g1 (g2.app (.cons ry .nil))
          exact ⟨ys, g1, by rw [← g2.len]; exact Nat.lt_of_lt_of_le h6.1 (by decide), as4, _, (e4.trans (e5.trans e6)).trans e7, r7, h6.2⟩
        · exact h6.elim
      | false =>
        rw [if_neg Bool.false_ne_true] at h5 ⊢
        exact ⟨as3, M3, e4.trans e5, r5, h5⟩
  · left
    have hi' : i = items.length := by omega
    rw [List.drop_eq_nil_of_le (by omega)] at h'
    exact ⟨(ok as' H' M' i e2 r' h'.1).1 hi', hq _ _ h'.2 as' H' _ (e1.trans e2) r' (.ref nD')⟩
end
section
variable {X : Cx} {W : WX} {elt tg iter : Expr} {ifs : List Expr} {scope : Scope} {own : List (Str × Nat)} {pos spos : Pos} {mi : MI} {T : Tg} {tt : MT} {me : ME}
abbrev QTs (X : Cx) (W : WX) (ifs : List Expr) (m : MT) : Prop := PTs X ifs (lfT X.K W m)
theorem qts_nil : QTs X W [] mYes := ⟨fun pins s σ H Q I ⟨as, M, ρ, Q', X', r, rs, h, hq, hx⟩ => pts_nil.run pins s σ H Q I (hq true M h as H .refl r)⟩
theorem qe_lc (hc : X.calm = true) (hN : X.N.Nodup) (hi : QI X W tg iter mi) (ok : BlkOk X.N X.env.scope scope own)
    (hg : ∀ (s : Shared) (H : Hp) (C : Addr) (cl : List (Str × Addr)) (fp : List Addr), QG (X.blk s H scope (compEnvC scope cl C X.env) fp) tg T) (ht : ∀ (s : Shared) (H : Hp) (C : Addr) (cl : List (Str × Addr)) (fp : List Addr), QTs (X.blk s H scope (compEnvC scope cl C X.env) fp) W0 ifs tt)
    (he : ∀ (s : Shared) (H : Hp) (C : Addr) (cl : List (Str × Addr)) (fp : List Addr), QE (X.blk s H scope (compEnvC scope cl C X.env) fp) W0 elt me) (hT : ∀ i ∈ T.slots, i ∈ own.map (·.2)) (hs : ∀ x, foldedSetIterable iter X.env x = pure x := by intro _; rfl) :
    QE X W (.ListComp elt [⟨tg, iter, ifs, 0⟩] scope pos) (mLc mi T tt me (own.map (·.2))) := PEi (pe_lc (g := T.rd X.K) (tt := lfT X.K W0 tt) (te := lf X.K W0 me) hc hN hi ok hg ht he hs) fun σ H Q h => lf_lc hT h
end
def putD (f : Str) (y : D) : List (Str × D) → List (Str × D)
  | [] => [(f, y)]
  | (g, z) :: r => if g = f then (g, y) :: r else (g, z) :: putD f y r
/-- what is known of the classes by their names; fs: the names of fields and of methods that are asked -/
structure ClsN (K : PySem.W.Frag) (cs : List Str) (fs : List Str) : Prop where
  cls : ∀ c ∈ cs, Cls K (He.ga K c)
  no : ∀ c ∈ cs, ∀ f ∈ fs, NoAttr K (He.ga K c) f
def mFld (cs : List Str) (ma : ME) (f : Str) : ME := fun ρ M Q X => ma ρ M (fun x M1 => match x with
  | .ref n => match M1[n]? with
    | some (.ins c fs) => c ∈ cs ∧ match fs.lookup f with
      | some d => Q d M1
      | none => False
    | _ => False
  | _ => False) X
def mSetFld (cs : List Str) (ma mv : ME) (f : Str) : MS := fun E ρ M => mv ρ M (fun y M1 => ma ρ M1 (fun x M2 => match x with
  | .ref n => match M2[n]? with
    | some (.ins c fs) => c ∈ cs ∧ fs.length < 100 ∧ E.nx ρ (M2.set n (.ins c (putD f y fs)))
    | _ => False
  | _ => False) (fun x M2 => E.ex x ρ M2)) (fun x M1 => E.ex x ρ M1)
section
variable {K : PySem.W.Frag} {as : List Addr} {H : Hp} {M : Mem}
theorem KVR.look {l : List (Str × D)} {m : List (Str × V)} (h : KVR K as H l m) (f : Str) : (l.lookup f = none ∧ m.lookup f = none) ∨ ∃ d v, l.lookup f = some d ∧ m.lookup f = some v ∧ Rel K as H d v := by
  induction h with
  | nil => exact .inl ⟨rfl, rfl⟩
  | cons h t ih =>
    rename_i p q l m
    obtain ⟨h1, h2⟩ := h
    obtain ⟨p1, p2⟩ := p
    obtain ⟨q1, q2⟩ := q
    cases h1
    simp only [List.lookup_cons]
    cases e : (f == p1) with
    | true => exact .inr ⟨p2, q2, rfl, rfl, h2⟩
    | false => exact ih
theorem putF_eq (f : Str) (y : V) : ∀ l : List (Str × V), putF f y l = match l with | [] => [(f, y)] | (g, z) :: r => if g = f then (g, y) :: r else (g, z) :: putF f y r
  | [] => by simp [putF]
  | (g, z) :: r => by simp [putF]
theorem KVR.putF {l : List (Str × D)} {m : List (Str × V)} (h : KVR K as H l m) (f : Str) {d : D} {v : V} (r : Rel K as H d v) : KVR K as H (putD f d l) (L2.putF f v m) := by
  induction h with
  | nil => rw [putF_eq]; exact .cons ⟨rfl, r⟩ .nil
  | cons h t ih =>
    rename_i p q l m
    obtain ⟨h1, h2⟩ := h
    obtain ⟨p1, p2⟩ := p
    obtain ⟨q1, q2⟩ := q
    cases h1
    rw [putF_eq]
    simp only [putD]
    split
    · exact .cons ⟨rfl, r⟩ t
    · exact .cons ⟨rfl, h2⟩ ih
theorem at_ins {n : Nat} {a : Addr} {c : Str} {fs : List (Str × D)} (rp : RepM K as H M) (hn : as[n]? = some a) (e : M[n]? = some (.ins c fs)) : ∃ dx ys, H a = some (.ins (He.ga K c) dx ys) ∧ KVR K as H fs ys := by
  obtain ⟨a', ha, dx, ys, h1, h2⟩ := rp.at_ e
  rw [hn] at ha; cases ha
  exact ⟨dx, ys, h1, h2⟩
end
section
variable {X : Cx} {W : WX} {o e value : Expr} {f : Str} {pos pos' apos cpos : Pos} {ma mv : ME} {cs : List Str} {all : List Str} {es : List Expr}
theorem qe_fld (c : ClsN X.K cs all) (hf : f ∈ all) (he : QE X W e ma) (hb : attributeBase e f X.env (eval e X.env) = eval e X.env := by rfl) : QE X W (.Attribute e f pos) (mFld cs ma f) := PEi (pe_fld he hb) fun σ H Q ⟨as, M, ρ, Q', X', r, rs, h, hq, hx⟩ => by
  refine lf_bind r rs h hx fun d M1 as1 H1 v h1 e1 r1 rs1 rv => ?_
  cases rv <;> first | exact h1.elim | skip
  rename_i n a hn
  dsimp only at h1
  split at h1
  · rename_i cc fs em
    obtain ⟨hc, h1⟩ := h1
    obtain ⟨dx, ys, g1, g2⟩ := at_ins r1 hn em
    rcases g2.look f with ⟨l1, l2⟩ | ⟨d, v, l1, l2, rv⟩
    · rw [l1] at h1; exact h1.elim
    · rw [l1] at h1
      exact ⟨_, _, dx, ys, v, rfl, g1, c.cls cc hc, c.no cc hc f hf, l2, hq _ _ h1 as1 H1 _ e1 r1 rv⟩
  · exact h1.elim
theorem qs_fld (c : ClsN X.K cs all) (hf : f ∈ all) (ha : QE X W o ma) (hv : QE X W value mv) (hs : swapsWith value (some (.Attribute o f pos')) pos.line X.env = pure false := by rfl) : QS X W (.Assign [.Attribute o f pos'] value pos) (mSetFld cs ma mv f) := PSi (ps_fld ha hv hs) fun D σ H ⟨as, M, ρ, E, r, rs, h, hE⟩ => by
  refine lf_bind r rs h (exS hE rs) fun y M1 as1 H1 vy h1 e1 r1 rs1 ry => ?_
  refine lf_bind r1 rs1 h1 (fun x M' q => (exS hE rs x M' q).mono e1) fun x M2 as2 H2 v h2 e2 r2 rs2 rv => ?_
  cases rv <;> first | exact h2.elim | skip
  rename_i n a hn
  dsimp only at h2
  split at h2
  · rename_i cc fs em
    obtain ⟨hc, hl, h2⟩ := h2
    obtain ⟨dx, ys, g1, g2⟩ := at_ins r2 hn em
    refine ⟨_, _, dx, ys, rfl, g1, c.cls cc hc, c.no cc hc f hf, by rw [← g2.len]; omega, ?_⟩
    have e3 := ext_put (u := .ins (He.ga X.K cc) dx (L2.putF f vy ys)) r2 hn (nfrz_ins g1)
    have r3 : RepM X.K as2 _ (M2.set n (.ins cc (putD f y fs))) := r2.put hn (nfrz_ins g1) ⟨dx, _, upd_same, (g2.putF f (ry.up e2)).up e3⟩
    exact hE.nx _ _ h2 as2 _ σ ((e1.trans e2).trans e3) r3 (rs2.up e3)
  · exact h2.elim
abbrev OM := D → List D → Mem → DK → Prop
def isT (T : String) (x : D) (M : Mem) : Prop := match x with
  | .str _ => T = "str"
  | .ref n => T = "list" ∧ match M[n]? with | some (.lst _) => True | _ => False
  | _ => False
def mBM (T : String) (r : OM) (mo : ME) (ma : MA) : ME := fun ρ M Q X => mo ρ M (fun x M1 => isT T x M1 ∧ ma ρ M1 (fun xs M2 => r x xs M2 Q) X) X
def SimM (K : PySem.W.Frag) (r : V → List V → Hp → VK → Prop) (o : OM) : Prop := ∀ (as : List Addr) (H : Hp) (M : Mem) (dx : D) (ds : List D) (x : V) (vs : List V) (k : DK) (Q : VK), RepM K as H M → Rel K as H dx x → RelL K as H ds vs → o dx ds M k → (∀ d M', k d M' → LQ K as H Q d M') → r x vs H Q
theorem isT_ok {K : PySem.W.Frag} {as : List Addr} {H : Hp} {M : Mem} {T : String} {d : D} {x : V} (rp : RepM K as H M) (rx : Rel K as H d x) (h : isT T d M) : tyV K T x H := by
  cases rx <;> first | exact h.elim | skip
  · exact h
  · rename_i n a hn
    obtain ⟨h1, h2⟩ := h
    split at h2
    · rename_i ds e
      obtain ⟨xs, g1, g2⟩ := at_lst rp hn e
      exact .inl ⟨h1, xs, SqL.of g1⟩
    · exact h2.elim
theorem qe_bm {T id : String} {name : Str} {r : V → List V → Hp → VK → Prop} {rm : OM} {mo : ME} {mar : MA} (pa : PlainAttrs T) (slot : Slot T name id) (hty : typeOf (.builtin id) = pure (.type "method_descriptor")) (hm : MtR X id r) (hs : SimM X.K r rm) (ho : QE X W o mo) (ha : QA X W (e :: es) mar)
    (hbase : attributeBase o name X.env (eval o X.env) = eval o X.env := by rfl)
    (hfew : ((backTo cpos (starEach (e :: es) X.env)).all (fun x => !x.1) && (backToKw cpos (keywordEach [] X.env)).all (fun x => x.1.isSome)
      && decide ((e :: es).length + ([] : List Keyword).length + (if ([] : List Keyword).isEmpty then 0 else 1) < 30)) = true := by rfl)
    (hline : (apos.endLine == cpos.line) = true := by rfl) (hst : starEach (e :: es) X.env = (false, eval e X.env) :: starEach es X.env := by rfl) (hplain : (backTo cpos (starEach es X.env)).any (·.1) = false := by rfl) :
    QE X W (.Call (.Attribute o name apos) (e :: es) [] cpos) (mBM T rm mo mar) := PEi (pe_bm pa slot hty hm ho ha hbase hfew hline hst hplain) fun σ H Q ⟨as, M, ρ, Q', X', r, rs, h, hq, hx⟩ => by
  refine lf_bind r rs h hx fun d M1 as1 H1 v h1 e1 r1 rs1 rv => ⟨isT_ok r1 rv h1.1, ?_⟩
  refine lfA_bind r1 rs1 h1.2 (fun x M' q => (hx x M' q).mono e1) fun ds M2 as2 H2 vs h2 e2 r2 rs2 rvs => ?_
  exact hs as2 H2 M2 d ds v vs Q' Q r2 (rv.up e2) rvs h2 fun d M' q => (hq d M' q).mono (e1.trans e2)
end
def omAppend : OM := fun x ds M Q => match x, ds with
  | .ref n, [d] => match M[n]? with
    | some (.lst l) => l.length < 16000000 ∧ Q .non (M.set n (.lst (l ++ [d])))
    | _ => False
  | _, _ => False
def omExtend : OM := fun x ds M Q => match x, ds with
  | .ref n, [.ref m] => match M[n]?, M[m]? with
    | some (.lst l), some (.lst k) => l.length + k.length ≤ 16000000 ∧ Q .non (M.set n (.lst (l ++ k)))
    | _, _ => False
  | _, _ => False
def strsOf : List D → Option (List Str)
  | [] => some []
  | .str x :: r => (strsOf r).map (x :: ·)
  | _ => none
def omJoin : OM := fun x ds M Q => match x, ds with
  | .str a, [.ref n] => match M[n]? with
    | some (.lst l) => match strsOf l with
      | some ys => (ys.map (·.length)).sum + ys.length * a.length ≤ 16777216 ∧ Q (.str (Txt.join a ys)) M
      | none => False
    | _ => False
  | _, _ => False
section
variable {K : PySem.W.Frag}
theorem sim_append : SimM K rAppend omAppend := fun as H M dx ds x vs k Q rp rx rv h hk => by
  unfold omAppend at h
  split at h
  · obtain ⟨v, rfl, r1⟩ := rv.one
    cases rx with
    | ref hn =>
      split at h
      · rename_i l e
        obtain ⟨xs, g1, g2⟩ := at_lst rp hn e
        obtain ⟨e7, r7⟩ := put_lst rp hn g1 (g2.app (.cons r1 .nil))
        exact ⟨_, xs, v, rfl, rfl, g1, by rw [← g2.len]; exact Nat.lt_of_lt_of_le h.1 (by decide), hk _ _ h.2 as _ _ e7 r7 .non⟩
      · exact h.elim
  · exact h.elim
theorem sim_extend : SimM K rExtend omExtend := fun as H M dx ds x vs k Q rp rx rv h hk => by
  unfold omExtend at h
  split at h
  · obtain ⟨v, rfl, r1⟩ := rv.one
    cases rx with
    | ref hn =>
      cases r1 with
      | ref hm =>
        split at h
        · rename_i l kk e1 e2
          obtain ⟨xs, g1, g2⟩ := at_lst rp hn e1
          obtain ⟨ys, g3, g4⟩ := at_lst rp hm e2
          obtain ⟨e7, r7⟩ := put_lst rp hn g1 (g2.app g4)
          exact ⟨_, _, xs, ys, rfl, rfl, g1, g3, by rw [← g2.len, ← g4.len]; exact Nat.le_trans h.1 (by decide), hk _ _ h.2 as _ _ e7 r7 .non⟩
        · exact h.elim
  · exact h.elim
theorem RelL.dropLast {as : List Addr} {H : Hp} : ∀ {ds : List D} {vs : List V}, RelL K as H ds vs → RelL K as H ds.dropLast vs.dropLast := fun {ds vs} r => by
  rw [List.dropLast_eq_take, List.dropLast_eq_take, ← r.len]
  exact r.take _
theorem strsOf_ok {as : List Addr} {H : Hp} : ∀ {ds : List D} {vs : List V} {ys : List Str}, RelL K as H ds vs → strsOf ds = some ys → vs = ys.map V.str
  | _, _, _, .nil, e => by simp [strsOf] at e; subst e; rfl
  | _, _, _, .cons h r, e => by
    cases h <;> simp [strsOf] at e
    obtain ⟨zs, e1, rfl⟩ := e
    rw [strsOf_ok r e1]; rfl
def rJoin (K : PySem.W.Frag) : V → List V → Hp → VK → Prop := fun x xs H Q => ∃ a p, ∃ ys : List Str, x = .str a ∧ xs = [.ref p] ∧ (SqL K H p (ys.map V.str) ∨ SqT K H p (ys.map V.str)) ∧
    (ys.map (·.length)).sum + ys.length * a.length ≤ 16777216 ∧ Q (.str (Txt.join a ys)) H
theorem sim_join : SimM K (rJoin K) omJoin := fun as H M dx ds x vs k Q rp rx rv h hk => by
  unfold omJoin at h
  split at h
  · obtain ⟨v, rfl, r1⟩ := rv.one
    cases rx
    cases r1 with
    | ref hn =>
      split at h
      · rename_i l e
        split at h
        · rename_i ys ey
          obtain ⟨xs, g1, g2⟩ := at_lst rp hn e
          have e2 := strsOf_ok g2 ey
          subst e2
          exact ⟨_, _, ys, rfl, rfl, .inl (SqL.of g1), h.1, hk _ _ h.2 as H _ .refl rp (.str _)⟩
        · exact h.elim
      · exact h.elim
  · exact h.elim
end
def oFmt : OU := fun x M Q => match x with
  | .str y => y.length ≤ 16000000 ∧ Q (.str y) M
  | .int i => i.natAbs.log2 < 1920 ∧ Q (.str (toString i)) M
  | _ => False
def mJs : List ME → Str → Ev → Mem → DK → XM → Prop
  | [], acc, _, M, Q, _ => Q (.str acc) M
  | m :: ms, acc, ρ, M, Q, X => m ρ M (fun x M1 => match x with | .str y => (acc ++ y).length ≤ 16000000 ∧ mJs ms (acc ++ y) ρ M1 Q X | _ => False) X
inductive QJ (X : Cx) (W : WX) : List Expr → List ME → Prop where
  | nil : QJ X W [] []
  | cons {e : Expr} {m : ME} {es : List Expr} {ms : List ME} (h : QE X W e m) (r : QJ X W es ms) : QJ X W (e :: es) (m :: ms)
section
variable {X : Cx} {W : WX} {e : Expr} {me : ME} {pos : Pos}
theorem qe_fmt (he : QE X W e me) : QE X W (.FormattedValue e (-1) none pos) (mUn oFmt me) := PEi (pe_fmt he) fun σ H Q ⟨as, M, ρ, Q', X', r, rs, h, hq, hx⟩ => by
  refine lf_bind r rs h hx fun d M1 as1 H1 v h1 e1 r1 rs1 rv => ?_
  cases rv <;> first | exact h1.elim | skip
  · exact .inr ⟨_, rfl, h1.1, hq _ _ h1.2 as1 H1 _ e1 r1 (.str _)⟩
  · exact .inl ⟨_, rfl, Nat.le_trans h1.1 (by decide), hq _ _ h1.2 as1 H1 _ e1 r1 (.str _)⟩
theorem QJ.pj {es : List Expr} {ms : List ME} (h : QJ X W es ms) : PJ X es (ms.map (lf X.K W)) := by
  induction h with
  | nil => exact .nil
  | cons h r ih => exact .cons h ih
theorem js_ok {K : PySem.W.Frag} {ρ : Ev} {σ : L2.St} {Q : VK} {Q' : DK} {X' : XM} : ∀ (ms : List ME) (acc : Str) (as : List Addr) (H : Hp) (M : Mem), RepM K as H M → RelS K as H ρ σ → mJs ms acc ρ M Q' X' → (∀ d M', Q' d M' → LQ K as H Q d M') → (∀ x M', X' x M' → LX K as H (fun c d H => W c d σ H) x M') → tJs (ms.map (lf K W)) acc σ H fun out H1 => Q (.str out) H1
  | [], acc, as, H, M, r, rs, h, hq, hx => hq _ _ h as H _ .refl r (.str _)
  | m :: ms, acc, as, H, M, r, rs, h, hq, hx => lf_bind r rs h hx fun d M1 as1 H1 v h1 e1 r1 rs1 rv => by
    cases rv <;> first | exact h1.elim | skip
    exact ⟨_, rfl, Nat.le_trans h1.1 (by decide), js_ok ms _ as1 H1 M1 r1 rs1 h1.2 (fun d M' q => (hq d M' q).mono e1) fun x M' q => (hx x M' q).mono e1⟩
theorem qe_joined {v1 v2 : Expr} {rest : List Expr} {ms : List ME} (h : QJ X W (v1 :: v2 :: rest) ms) : QE X W (.JoinedStr (v1 :: v2 :: rest) pos) (mJs ms Str.empty) := PEi (pe_joined h.pj) fun σ H Q ⟨as, M, ρ, Q', X', r, rs, h, hq, hx⟩ => js_ok ms _ as H M r rs h hq hx
end
end MV
namespace MV
open PySem PySem.Spec PyProof.Rows L2
abbrev WF := List D → Mem → DK → XM → Prop
/-- the promise: what the mirror says -/
def spM (K : PySem.W.Frag) (n : Nat) (w : WF) : Sp := fun vs H Q E => ∃ as M ds Q' X', vs.length = n ∧ RepM K as H M ∧ RelL K as H ds vs ∧ w ds M Q' X' ∧ (∀ d M', Q' d M' → LQ K as H Q d M') ∧ ∀ x M', X' x M' → LX K as H E x M'
/-- how a call of n positional values and keywords ks binds -/
structure DBn (K : PySem.W.Frag) (fd : FuncData) (ps : List Str) (n : Nat) (ks : List Str) (gD : List D → List D → List D) : Prop where
  ex : ∃ g gV, KBn K fd ps n ks g gV ∧ ∀ (as : List Addr) (H : Hp) (ds es : List D) (vs zs : List V), ds.length = n → es.length = ks.length → RelL K as H ds vs → RelL K as H es zs → RelL K as H (gD ds es) (gV vs zs)
structure Fn (P : Program) (w : World) (K : PySem.W.Frag) (mg : Str → Option Value) (base : Heap) (k : Nat) (f : Addr) (ps : List Str) (W : WF) (n : Nat) (ks : List Str) (gD : List D → List D → List D) : Prop where
  ok : ∃ fd, FnOk P w K mg base (L2.CX P w) k f fd ps (spM K ps.length W) ∧ DBn K fd ps n ks gD
  kp : PySem.W.keepIn K (.ref f) = true
abbrev TA2 := L2.St → Hp → (List V → List V → Hp → Prop) → Prop
abbrev MA2 := Ev → Mem → (List D → List D → Mem → Prop) → XM → Prop
def PCW (X : Cx) (es : List Expr) (kws : List Keyword) (ks : List Str) (pos : Pos) (t : TA2) : Prop := ∀ (f : Value) (first : List Value) (pins : List (Addr × Obj)) (s : Shared) (σ : L2.St) (H : Hp) (R : List V → List V → Hp → Prop) (Qv : Value → Shared → Prop), Inv X pins σ H s → PySem.W.keepIn X.K f = true → t σ H R →
  (∀ us ws vs zs H2 s2, Inv X pins σ H2 s2 → Vals vs us → Vals zs ws → R vs zs H2 → wpAny (model X.prog X.w) X.A (call f (first ++ us) (ks.zip ws)) Qv X.xe s2) →
  wpAny (model X.prog X.w) X.A (callWith pos f first (backTo pos (starEach es X.env)) (backToKw pos (keywordEach kws X.env))) Qv X.xe s
def lfA2 (K : PySem.W.Frag) (W : WX) (m : MA2) : TA2 := fun σ H R => ∃ as M ρ k X', RepM K as H M ∧ RelS K as H ρ σ ∧ m ρ M k X' ∧ (∀ ds es M' as' H' vs zs, k ds es M' → Ext K as H as' H' → RepM K as' H' M' → RelL K as' H' ds vs → RelL K as' H' es zs → R vs zs H') ∧ ∀ x M', X' x M' → LX K as H (fun c d H => W c d σ H) x M'
abbrev QCW (X : Cx) (W : WX) (es : List Expr) (kws : List Keyword) (ks : List Str) (pos : Pos) (m : MA2) : Prop := PCW X es kws ks pos (lfA2 X.K W m)
def mArgs0 : MA2 := fun _ M k _ => k [] [] M
def mArgsP (ma : MA) : MA2 := fun ρ M k X => ma ρ M (fun ds M1 => k ds [] M1) X
def mArgsK (mk : MA) : MA2 := fun ρ M k X => mk ρ M (fun es M1 => k [] es M1) X
def mArgsPK (ma mk : MA) : MA2 := fun ρ M k X => ma ρ M (fun ds M1 => mk ρ M1 (fun es M2 => k ds es M2) X) X
abbrev QK (X : Cx) (W : WX) (kws : List Keyword) (m : MA) : Prop := PK X kws (lfA X.K W m)
section
variable {X : Cx} {W : WX} {e : Expr} {es : List Expr} {kws : List Keyword} {ks : List Str} {pos : Pos} {ma mk : MA} {me : ME}
theorem qk_nil : QK X W [] mNil := ⟨fun pos pins s σ H Q I ⟨as, M, ρ, Q', X', r, rs, h, hq, hx⟩ => pk_nil.run pos pins s σ H Q I (hq [] M h as H [] .refl r .nil)⟩
theorem qk_cons {nm : Option Str} {kpos : Pos} (ha : QE X W e me) (hr : QK X W kws mk) : QK X W (⟨nm, e, kpos⟩ :: kws) (mCons me mk) := ⟨fun pos pins s σ H Q I ⟨as, M, ρ, Q', X', r, rs, h, hq, hx⟩ => (pk_cons ha hr).run pos pins s σ H Q I (by
    refine lf_bind r rs h hx fun dx M1 as1 H1 x h1 e1 r1 rs1 rx => ?_
    refine lfA_bind r1 rs1 h1 (fun x M' q => (hx x M' q).mono e1) fun ds M2 as2 H2 vs h2 e2 r2 rs2 rv => ?_
    exact hq _ _ h2 as2 H2 _ (e1.trans e2) r2 (.cons (rx.up e2) rv))⟩
theorem qcw0 : QCW X W [] [] [] pos mArgs0 := fun f first pins s σ H R Qv I kp ⟨as, M, ρ, k, X', r, rs, h, hq, hx⟩ hk =>
  PySem.W.callWith_K0 I.kIn kp (hk [] [] [] [] H s I .nil .nil (hq [] [] M as H [] [] h .refl r .nil .nil))
theorem qcwP (ha : QA X W (e :: es) ma) (he : starEach (e :: es) X.env = (false, eval e X.env) :: starEach es X.env := by rfl) (hpl : (backTo pos (starEach es X.env)).any (·.1) = false := by rfl) : QCW X W (e :: es) [] [] pos (mArgsP ma) := fun f first pins s σ H R Qv I kp ⟨as, M, ρ, k, X', r, rs, h, hq, hx⟩ hk =>
  PySem.W.callWith_K (h₀ := X.base) I.ok.mod.kin kp (thn (ha.run pos pins s σ H (fun vs H' => R vs [] H') I ⟨as, M, ρ, _, X', r, rs, h, fun ds M' q as' H' vs e r' rv => hq ds [] M' as' H' vs [] q e r' rv .nil, hx⟩) fun us s1 ⟨vs, H1, I1, rv, q⟩ => ⟨I1.kIn, hk us [] vs [] H1 s1 I1 rv .nil q⟩) he hpl
theorem qcwK (hkw : QK X W kws mk) (hall : (backToKw pos (keywordEach kws X.env)).all (·.1.isSome) = true := by kernel_rfl) (hks : (backToKw pos (keywordEach kws X.env)).filterMap (·.1) = ks := by kernel_rfl)
    (hpl : ((backTo pos (starEach [] X.env)).any (·.1) || (backToKw pos (keywordEach kws X.env)).any (·.1.isNone)) = false := by kernel_rfl) : QCW X W [] kws ks pos (mArgsK mk) := fun f first pins s σ H R Qv I kp ⟨as, M, ρ, k, X', r, rs, h, hq, hx⟩ hk =>
  PySem.W.callWith_KW0 (h₀ := X.base) I.ok.mod.kin kp hall (thn (hkw.run pos pins s σ H (fun zs H' => R [] zs H') I ⟨as, M, ρ, _, X', r, rs, h, fun ds M' q as' H' vs e r' rv => hq [] ds M' as' H' [] vs q e r' .nil rv, hx⟩) fun ws s1 ⟨zs, H1, I1, rz, q⟩ => ⟨I1.kIn, by rw [hks]; exact hk [] ws [] zs H1 s1 I1 .nil rz q⟩) hpl
theorem qcwPK (ha : QA X W (e :: es) ma) (hkw : QK X W kws mk) (hall : (backToKw pos (keywordEach kws X.env)).all (·.1.isSome) = true := by kernel_rfl) (hks : (backToKw pos (keywordEach kws X.env)).filterMap (·.1) = ks := by kernel_rfl)
    (he : starEach (e :: es) X.env = (false, eval e X.env) :: starEach es X.env := by rfl)
    (hpl : ((backTo pos (starEach (e :: es) X.env)).any (·.1) || (backToKw pos (keywordEach kws X.env)).any (·.1.isNone)) = false := by kernel_rfl) : QCW X W (e :: es) kws ks pos (mArgsPK ma mk) := fun f first pins s σ H R Qv I kp ⟨as, M, ρ, k, X', r, rs, h, hq, hx⟩ hk =>
  PySem.W.callWith_KW (h₀ := X.base) I.ok.mod.kin kp hall (thn (ha.run pos pins s σ H (fun vs H' => lfA X.K W mk σ H' fun zs H2 => R vs zs H2) I ⟨as, M, ρ, _, X', r, rs, h, fun ds M' q as' H' vs e r' rv =>
      ⟨as', M', ρ, _, X', r', rs.up e, q, fun es M2 q2 as2 H2 zs e2 r2 rz => hq ds es M2 as2 H2 vs zs q2 (e.trans e2) r2 (rv.up e2) rz, fun x M' q => (hx x M' q).mono e⟩, hx⟩) fun us s1 ⟨vs, H1, I1, rv, q⟩ =>
    thn (hkw.run pos pins s1 σ H1 _ I1 q) fun ws s2 ⟨zs, H2, I2, rz, q2⟩ => ⟨I2.kIn, by rw [hks]; exact hk us ws vs zs H2 s2 I2 rv rz q2⟩) hpl he
end
def mCall (w : WF) (n m : Nat) (gD : List D → List D → List D) (ma : MA2) : ME := fun ρ M Q X => ma ρ M (fun ds es M1 => (ds.length = n ∧ es.length = m) ∧ w (gD ds es) M1 Q X) X
def mMeth (c : Str) (mn : Str) (w : WF) (n m : Nat) (gD : List D → List D → List D) (mo : ME) (ma : MA2) : ME := fun ρ M Q X => mo ρ M (fun x M1 => match x with
  | .ref a => match M1[a]? with
    | some (.ins c' fs) => (c' = c ∧ fs.lookup mn = none) ∧ ma ρ M1 (fun ds es M2 => ((x :: ds).length = n ∧ es.length = m) ∧ w (gD (x :: ds) es) M2 Q X) X
    | _ => False
  | _ => False) X
def mMake (c : Str) (w : WF) (n m : Nat) (gD : List D → List D → List D) (ma : MA2) : ME := fun ρ M Q X => ma ρ M (fun ds es M1 => (ds.length + 1 = n ∧ es.length = m) ∧ w (gD (.ref M1.length :: ds) es) (M1 ++ [.ins c []]) (fun v M2 => match v with | .non => Q (.ref M1.length) M2 | _ => False) X) X
section
variable {X : Cx} {W : WX} {x m : Str} {es : List Expr} {kws : List Keyword} {ks ps : List Str} {p pos apos : Pos} {ma : MA2} {k n : Nat} {w : WF} {gD : List D → List D → List D} {f C : Addr} {o : Expr} {mo : ME}
theorem run_fnU {fd : FuncData} {sp : Sp} {E : XK} {g : List Value → List Value → List Value} {gV : List V → List V → List V} {pins : List (Addr × Obj)} {σ : L2.St} {H : Hp} {s : Shared} {Q : VK} {us ws : List Value} {vs zs : List V} (F : FnOk X.prog X.w X.K X.mg X.base (L2.CX X.prog X.w) k f fd ps sp) (hr : Room k X.A) (hb : KBn X.K fd ps n ks g gV) (hx : PassesAt (L2.CX X.prog X.w) X σ E)
    (I : Inv X pins σ H s) (r : Vals vs us) (rz : Vals zs ws) (l1 : vs.length = n) (l2 : zs.length = ks.length) (h : sp (gV vs zs) H Q E) : wpAny (model X.prog X.w) X.A (call (.ref f) us (ks.zip ws)) (EP X pins σ Q) X.xe s := by
  have r2 := hb.rel r rz
  refine wpAny_call (codeAny_mono (F.run X.A X.stack s H ⟨us, ks.zip ws⟩ (g us ws) (gV vs zs) Q E hr I.env0 (hb.to s us ws I.kIn (r.length.symm.trans l1) (rz.length.symm.trans l2)) r2 h) fun r s' hq => ?_)
  cases r with
  | error e => exact hx pins H s e s' I hq
  | ok fl =>
    cases fl with
    | ret u => exact I.after hq
    | next => exact False.elim hq
    | brk => exact False.elim hq
    | cont => exact False.elim hq
/-- the mirror's word as the promise -/
theorem spM_of {K : PySem.W.Frag} {as : List Addr} {H : Hp} {M : Mem} {ds : List D} {vs : List V} {N : Nat} {Q : VK} {E : XK} {k : DK} {X' : XM} (r : RepM K as H M) (rv : RelL K as H ds vs) (hl : vs.length = N) (h : w ds M k X') (hq : ∀ d M', k d M' → LQ K as H Q d M') (hx : ∀ x M', X' x M' → LX K as H E x M') : spM K N w vs H Q E := ⟨as, M, ds, k, X', hl, r, rv, h, hq, hx⟩
/-- f(..) -/
theorem qe_call (F : Fn X.prog X.w X.K X.mg X.base k f ps w n ks gD) (hr : Room k X.A) (hg : Gl X x) (hm : X.mg x = some (.ref f)) (tk : Takes X W) (ha : QCW X W es kws ks pos ma) (hgl : ∀ (ds es : List D), ds.length = n → es.length = ks.length → (gD ds es).length = ps.length) (hdb : (x == ("__debug__" : Str)) = false := by decide) :
    QE X W (.Call (.Name x p) es kws pos) (mCall w n ks.length gD ma) := by
  obtain ⟨⟨fd, G, ⟨g, gV, hb, hrel⟩⟩, kp⟩ := F
  refine ⟨fun pins s σ H Q I ⟨as, M, ρ, Q', X', r, rs, h, hq, hx⟩ => ?_⟩
  refine wpAny_Call_Name_kw (ld_glob I hg hm ?_ hdb)
  refine ha (.ref f) [] pins s σ H (fun vs zs H1 => (vs.length = n ∧ zs.length = ks.length) ∧ spM X.K ps.length w (gV vs zs) H1 Q (WE W σ)) _ I kp ⟨as, M, ρ, _, X', r, rs, h, fun ds es M1 as1 H1 vs zs q e1 r1 rv rz => ?_, hx⟩ fun us ws vs zs H2 s2 I2 rv rz q => ?_
  · obtain ⟨⟨l1, l2⟩, q⟩ := q
    have rg := hrel as1 H1 ds es vs zs l1 l2 rv rz
    exact ⟨⟨by rw [← rv.len]; exact l1, by rw [← rz.len]; exact l2⟩, spM_of r1 rg (by rw [← rg.len]; exact hgl ds es l1 l2) q (fun d M' q => (hq d M' q).mono e1) fun x M' q => (hx x M' q).mono e1⟩
  · exact run_fnU G hr hb (passAt tk σ) I2 rv rz q.1.1 q.1.2 q.2
/-- o.m(..) -/
theorem qe_meth {c : Str} {pl : Sem Bool} (he : QE X W o mo) (cl : Cls X.K (He.ga X.K c)) (hm : Meth X.K (He.ga X.K c) m f) (F : Fn X.prog X.w X.K X.mg X.base k f ps w n ks gD) (hr : Room k X.A) (tk : Takes X W) (ha : QCW X W es kws ks pos ma) (hgl : ∀ (ds es : List D), ds.length = n → es.length = ks.length → (gD ds es).length = ps.length)
    (ht : eval (.Call (.Attribute o m apos) es kws pos) X.env = (do
      let ov ← eval o X.env
      standAt apos.atName
      let (f, first) ← holding [ov] (getMethod ov m pl)
      callWith pos f first (backTo pos (starEach es X.env)) (backToKw pos (keywordEach kws X.env))) := by rfl) :
    QE X W (.Call (.Attribute o m apos) es kws pos) (mMeth c m w n ks.length gD mo ma) := by
  obtain ⟨⟨fd, G, ⟨g, gV, hb, hrel⟩⟩, kp⟩ := F
  refine ⟨fun pins s σ H Q I ⟨as, M, ρ, Q', X', r, rs, h, hq, hx⟩ => ?_⟩
  refine PySem.W.methodCall_KW (pl := pl) (thn (he.run pins s σ H (fun v H1 => ∃ a dx fs, v = .ref a ∧ H1 a = some (.ins (He.ga X.K c) dx fs) ∧ fs.lookup m = none ∧ lfA2 X.K W (fun ρ M k X => ma ρ M k X) σ H1 fun vs zs H2 => (vs.length + 1 = n ∧ zs.length = ks.length) ∧ spM X.K ps.length w (gV (.ref a :: vs) zs) H2 Q (WE W σ)) I ?_) fun u s1 ⟨v, H1, I1, rx, a, dx, fs, ex, ea, l, q⟩ => ?_) ht
  · refine lf_bind r rs h hx fun d M1 as1 H1 v h1 e1 r1 rs1 rv => ?_
    cases rv <;> first | exact h1.elim | skip
    rename_i nn a hn
    dsimp only at h1
    split at h1
    · rename_i c' fs em
      obtain ⟨⟨ec, el⟩, h1⟩ := h1
      subst ec
      obtain ⟨dx, ys, g1, g2⟩ := at_ins r1 hn em
      have l2 : ys.lookup m = none := by
        rcases g2.look m with ⟨_, z⟩ | ⟨d, v, z, _⟩
        · exact z
        · rw [z] at el; cases el
      refine ⟨a, dx, ys, rfl, g1, l2, as1, M1, ρ, _, X', r1, rs1, h1, fun ds es M2 as2 H2 vs zs q e2 r2 rv rz => ?_, fun x M' q => (hx x M' q).mono e1⟩
      obtain ⟨⟨l1, l3⟩, q⟩ := q
      have rv2 : RelL X.K as2 H2 (.ref nn :: ds) (.ref a :: vs) := .cons (.ref (pre_get e2.pre hn)) rv
      have rg := hrel as2 H2 _ es _ zs l1 l3 rv2 rz
      have e3 := e1.trans e2
      exact ⟨⟨by rw [← rv.len]; exact l1, by rw [← rz.len]; exact l3⟩, spM_of r2 rg (by rw [← rg.len]; exact hgl _ es l1 l3) q (fun d M' q => (hq d M' q).mono e3) fun x M' q => (hx x M' q).mono e3⟩
    · exact h1.elim
  · subst ex
    obtain rfl : u = Value.ref a := rx
    refine getmeth_ok I1 ea cl hm l ?_
    refine ha (.ref f) [.ref a] pins s1 σ H1 _ _ I1 kp q fun us ws vs zs H2 s2 I2 rv rz q => ?_
    exact run_fnU (us := .ref a :: us) (vs := .ref a :: vs) G hr hb (passAt tk σ) I2 (.cons rfl rv) rz q.1.1 q.1.2 q.2
/-- C(..) -/
theorem run_makeU {fd : FuncData} {sp : Sp} {E : XK} {g : List Value → List Value → List Value} {gV : List V → List V → List V} {pins : List (Addr × Obj)} {σ : L2.St} {H : Hp} {s : Shared} {Q : VK} {us ws : List Value} {vs zs : List V} (Mk' : Mk X.K C f) (F : FnOk X.prog X.w X.K X.mg X.base (L2.CX X.prog X.w) k f fd ps sp) (hr : Room (k + 1) X.A) (hb : KBn X.K fd ps n ks g gV) (hx : ∀ (pins : List (Addr × Obj)) (H : Hp) (s : Shared) (e : Value) (s' : Shared), Inv X pins σ H s → L2.CX X.prog X.w X.stack H s E e s' → X.xe e s')
    (I : Inv X pins σ H s) (r : Vals vs us) (rz : Vals zs ws) (l1 : vs.length + 1 = n) (l2 : zs.length = ks.length)
    (h : ∀ x dx, H x = none → H dx = none → dx ≠ x → sp (gV (.ref x :: vs) zs) (upd (upd H dx (.own x)) x (.ins C dx [])) (fun v H2 => v = .non ∧ Q (.ref x) H2) E) :
    wpAny (model X.prog X.w) X.A (call (.ref C) us (ks.zip ws)) (EP X pins σ Q) X.xe s := by
  have hq := h (s.heap.objs.size + 1) s.heap.objs.size (I.hok.fresh (Nat.le_succ _)) (I.hok.fresh (Nat.le_refl _)) (Nat.ne_of_lt (Nat.lt_succ_self _))
  have I2 := Inv.made (C := C) I
  have r1 : Vals (V.ref (s.heap.objs.size + 1) :: vs) (Value.ref (s.heap.objs.size + 1) :: us) := .cons rfl r
  have r2 := hb.rel r1 rz
  have n1 : (Value.ref (s.heap.objs.size + 1) :: us).length = n := by
    rw [List.length_cons, ← r.length, l1]
  refine wpAny_call (make_map (f := f) I.kIn Mk'.makes Mk'.init (beq_iff_eq.mp Mk'.fn) (codeAny_mono (F.run _ X.stack _ _ ⟨Value.ref (s.heap.objs.size + 1) :: us, ks.zip ws⟩ (g (Value.ref (s.heap.objs.size + 1) :: us) ws) _ _ E (hr.make C us (ks.zip ws))
    (I2.env0.make C us (ks.zip ws)) (hb.to _ (Value.ref (s.heap.objs.size + 1) :: us) ws I2.kIn n1 (rz.length.symm.trans l2)) r2 hq) fun r s' hq' => ?_))
  cases r with
  | error e => exact hx pins _ _ e s' I2 hq'
  | ok fl =>
    cases fl with
    | ret u =>
      obtain ⟨v, H', I3, rv, ev, q3⟩ := I2.after hq'
      subst ev
      exact ⟨rv, ⟨V.ref (s.heap.objs.size + 1), H', I3, rfl, q3⟩⟩
    | next => exact False.elim hq'
    | brk => exact False.elim hq'
    | cont => exact False.elim hq'
theorem qe_make (Mk' : Mk X.K (He.ga X.K x) f) (F : Fn X.prog X.w X.K X.mg X.base k f ps w n ks gD) (hr : Room (k + 1) X.A) (hg : Gl X x) (hm : X.mg x = some (.ref (He.ga X.K x))) (tk : Takes X W) (ha : QCW X W es kws ks pos ma) (hgl : ∀ (ds es : List D), ds.length = n → es.length = ks.length → (gD ds es).length = ps.length) (hdb : (x == ("__debug__" : Str)) = false := by decide) :
    QE X W (.Call (.Name x p) es kws pos) (mMake x w n ks.length gD ma) := by
  obtain ⟨⟨fd, G, ⟨g, gV, hb, hrel⟩⟩, _⟩ := F
  refine ⟨fun pins s σ H Q I ⟨as, M, ρ, Q', X', r, rs, h, hq, hx⟩ => ?_⟩
  refine wpAny_Call_Name_kw (ld_glob I hg hm ?_ hdb)
  refine ha (.ref (He.ga X.K x)) [] pins s σ H (fun vs zs H1 => (vs.length + 1 = n ∧ zs.length = ks.length) ∧ ∀ y dx, H1 y = none → H1 dx = none → dx ≠ y → spM X.K ps.length w (gV (.ref y :: vs) zs) (upd (upd H1 dx (.own y)) y (.ins (He.ga X.K x) dx [])) (fun v H2 => v = .non ∧ Q (.ref y) H2) (WE W σ)) _ I Mk'.kp ⟨as, M, ρ, _, X', r, rs, h, fun ds es M1 as1 H1 vs zs q e1 r1 rv rz => ?_, hx⟩ fun us ws vs zs H2 s2 I2 rv rz q => ?_
  · obtain ⟨⟨l1, l2⟩, q⟩ := q
    refine ⟨⟨by rw [← rv.len]; exact l1, by rw [← rz.len]; exact l2⟩, fun y dx hy hdx hne => ?_⟩
    have hy2 : upd H1 dx (.own y) y = none := by rw [upd_ne (Ne.symm hne)]; exact hy
    have e2 : Ext X.K as1 H1 (as1 ++ [y]) (upd (upd H1 dx (.own y)) y (.ins (He.ga X.K x) dx [])) := ((ext_new hdx).trans (ext_new hy2)).trans ext_app
    have r2 : RepM X.K (as1 ++ [y]) (upd (upd H1 dx (.own y)) y (.ins (He.ga X.K x) dx [])) (M1 ++ [.ins x []]) := (r1.laid hdx).new hy2 ⟨dx, [], upd_same, .nil⟩
    have ny : (as1 ++ [y])[M1.length]? = some y := by rw [← r1.len]; exact app_at
    have rv2 : RelL X.K (as1 ++ [y]) _ (.ref M1.length :: ds) (.ref y :: vs) := .cons (.ref ny) (rv.up e2)
    have l1' : (D.ref M1.length :: ds).length = n := l1
    have rg := hrel _ _ _ es _ zs l1' l2 rv2 (rz.up e2)
    have e3 := e1.trans e2
    refine spM_of r2 rg (by rw [← rg.len]; exact hgl _ es l1' l2) q (fun d M' q as' H' v e r' rd => ?_) fun x M' q => (hx x M' q).mono e3
    cases rd <;> first | exact q.elim | skip
    exact ⟨rfl, hq _ _ q as' H' _ (e3.trans e) r' (.ref (pre_get e.pre ny))⟩
  · exact run_makeU Mk' G hr hb (passAt tk σ) I2 rv rz q.1.1 q.1.2 q.2
end
def startE (N : List Str) (ds : List D) : Ev := ds.map some ++ List.replicate (N.length - ds.length) none
theorem RelL.start {K : PySem.W.Frag} {as : List Addr} {H : Hp} {ds : List D} {vs : List V} (N : List Str) (r : RelL K as H ds vs) : RelS K as H (startE N ds) (L2.start N vs) := by
  refine ⟨by simp [startE, L2.start, r.len], fun i d h => ?_⟩
  unfold startE at h
  unfold L2.start
  by_cases hl : i < ds.length
  · rw [List.getElem?_append_left (by simpa using hl), List.getElem?_map] at h
    cases e : ds[i]? with
    | none => rw [e] at h; cases h
    | some d0 =>
      rw [e] at h
      simp at h
      subst h
      obtain ⟨v, e2, rv⟩ := r.get e
      exact ⟨v, by rw [List.getElem?_append_left (by simpa [← r.len] using hl), List.getElem?_map, e2]; rfl, rv⟩
  · rw [List.getElem?_append_right (by simpa using hl), List.getElem?_replicate] at h
    split at h <;> cases h
/-- the mirror of a def by its body -/
def wOf (N : List Str) (m : MS) : WF := fun ds M Q X => m ⟨fun _ M' => Q .non M', Q, fun _ _ => False, fun _ _ => False, fun x _ M' => X x M'⟩ (startE N ds) M
theorem body_ok {K : PySem.W.Frag} {N : List Str} {m : MS} {n : Nat} {vs : List V} {H : Hp} {Q : VK} {E : XK} (h : spM K n (wOf N m) vs H Q E) : lfS K (fun c d _ H => E c d H) m { nx := fun _ H' => Q .non H', rt := Q } (L2.start N vs) H := by
  obtain ⟨as, M, ds, Q', X', hl, r, rv, h, hq, hx⟩ := h
  refine ⟨as, M, startE N ds, _, r, rv.start N, h, ⟨fun ρ M' q as' H' σ e r' _ => hq _ _ q as' H' _ e r' .non, hq, fun _ _ q => q.elim, fun _ _ q => q.elim, fun x ρ M' q as' H' σ c d e r' _ rx => hx _ _ q as' H' c d e r' rx⟩⟩
theorem spM_len {K : PySem.W.Frag} {n : Nat} {w : WF} (vs : List V) (H : Hp) (Q : VK) (E : XK) (h : spM K n w vs H Q E) : vs.length = n := let ⟨_, _, _, _, _, hl, _⟩ := h; hl
/-- the def: from the derivation of its body -/
theorem fn_ok {P : Program} {w : World} {K : PySem.W.Frag} {mg : Str → Option Value} {base : Heap} {x qual : Str} {params : Arguments} {body : List Stmt} {scope : Scope} {dvs : List V} {kws : List (Str × V)} {f : Addr} {fd : FuncData} {N ps : List Str} {k : Nat} {m : MS}
    (F : FunD K x qual params body scope dvs kws f fd) (S : FnScope N ps scope)
    (hb : ∀ (cdv : Value) (A : Around) (outer : List Env) (s : Shared) (H : Hp) (E : XK), Room k (A.deeper (envOfC qual scope s.heap.objs.size f cdv)) → Takes (cxOf (L2.CX P w) P w K mg base N qual scope f cdv A outer s H E) (fun c d _ H => E c d H) → PassesOwn (model P w) (A.deeper (envOfC qual scope s.heap.objs.size f cdv)) (envOfC qual scope s.heap.objs.size f cdv) (cxOf (L2.CX P w) P w K mg base N qual scope f cdv A outer s H E).xe →
      QSs (cxOf (L2.CX P w) P w K mg base N qual scope f cdv A outer s H E) (fun c d _ H => E c d H) body m) : FnOk P w K mg base (L2.CX P w) (k + 1) f fd ps (spM K ps.length (wOf N m)) :=
  F.ok S spM_len fun cdv A outer s H vs Q E hr h => ⟨_, hb cdv A outer s H E hr (takes_of rfl rfl rfl rfl) (passes_of rfl), body_ok h⟩
end MV
namespace MV
open PySem PySem.Spec PyProof.Rows L2
/-- the test of a clause: the classes cs -/
def TyOk (X : Cx) (ty : Expr) (cs : List Value) : Prop := ∀ (a : Addr) (pn pins : List (Addr × Obj)) (s : Shared) (σ : L2.St) (H : Hp) (cls : Value) (b : Bool) (Q : Value → Shared → Prop) (E : Value → Shared → Prop), Inv (X.suite a pn) pins σ H s →
  PySem.W.Looks (model X.prog X.w) s.heap (typeOf (.ref a)) cls → PySem.W.exmAny X.K cls cs = some b →
  (∀ v h', (∀ c o, s.heap.get? c = some o → h'.get? c = some o) → PySem.W.Looks (model X.prog X.w) h' (excMatches (.ref a) v) b → Q v { s with heap := h' }) → wpAny (model X.prog X.w) (X.A.mark (some (.ref a))) (eval ty X.env) Q E s
abbrev Clause := List Value × Option Nat × (Addr → Value → Option Addr → TS)
inductive HdA (X : Cx) : List ExceptHandler → List Clause → Prop
  | nil : HdA X [] []
  | one {ty : Expr} {cs : List Value} {ts : Addr → Value → Option Addr → TS} {b₀ : Stmt} {suite : List Stmt} {pos' : Pos} {hds : List ExceptHandler} {l : List Clause} (hc : TyOk X ty cs)
      (hsu : ∀ (a : Addr) (oe : Obj) (cls : Value) (d : Option Addr) (pn : List (Addr × Obj)), Zc cls d oe → (∃ vs, oe.data = .fields vs) → PSs (X.suite a ((a, oe) :: pn)) (b₀ :: suite) (ts a cls d)) (r : HdA X hds l) :
      HdA X (.ExceptHandler (some ty) none (b₀ :: suite) pos' :: hds) ((cs, none, ts) :: l)
  | as_ {ty : Expr} {n : Str} {i : Nat} {cs : List Value} {ts : Addr → Value → Option Addr → TS} {b₀ : Stmt} {suite : List Stmt} {pos' : Pos} {hds : List ExceptHandler} {l : List Clause} (hc : TyOk X ty cs) (hN : X.N.Nodup) (hi : X.N[i]? = some n) (hln : X.env.kindOf n = some .local)
      (hsu : ∀ (a : Addr) (oe : Obj) (cls : Value) (d : Option Addr) (pn : List (Addr × Obj)), Zc cls d oe → (∃ vs, oe.data = .fields vs) → PSs (X.suite a ((a, oe) :: pn)) (b₀ :: suite) (ts a cls d)) (r : HdA X hds l) :
      HdA X (.ExceptHandler (some ty) (some n) (b₀ :: suite) pos' :: hds) ((cs, some i, ts) :: l)
section
variable {X : Cx} {body : List Stmt} {h₀ : ExceptHandler} {hds : List ExceptHandler} {l : List Clause} {pos : Pos} {tb : WX → TS} {Wout : WX}
end
/-- a clause: the names of its classes, the slot of its name, its suite by the exception's addresses and class -/
structure MCl where
  cs : List Str
  i : Option Nat
  s : Addr → Addr → Str → MS
/-- sub x y: whether the class x is a subclass of y (of the program's exceptions) -/
def ndAs (i : Nat) (E : Nd) : Nd := ⟨fun ρ M => E.nx (ρ.set i none) M, E.rt, fun ρ M => E.bk (ρ.set i none) M, fun ρ M => E.ct (ρ.set i none) M, E.ex⟩
def mCatch (sub : Str → Str → Option Bool) (E : Nd) : List MCl → Exn → Ev → Mem → Prop
  | [], x, ρ, M => E.ex x ρ M
  | c :: r, x, ρ, M => (∀ y ∈ c.cs, (sub x.c y).isSome = true) ∧ if (c.cs.any fun y => sub x.c y == some true) = true then (∀ a dd, match c.i with
      | none => c.s a dd x.c ⟨E.nx, E.rt, E.bk, E.ct, fun _ _ _ => False⟩ ρ M
      | some i => c.s a dd x.c ⟨(ndAs i E).nx, E.rt, (ndAs i E).bk, (ndAs i E).ct, fun _ _ _ => False⟩ (ρ.set i (some (.exn a dd x.c x.ns x.ds))) M) else mCatch sub E r x ρ M
def mTry (sub : Str → Str → Option Bool) (b : MS) (cl : List MCl) : MS := fun E ρ M => b ⟨E.nx, E.rt, E.bk, E.ct, mCatch sub E cl⟩ ρ M
/-- what the head tells of the exceptions -/
def XOk (K : PySem.W.Frag) (fl : List Str) (c : Str) : Prop := XfC K (He.ga K c) ∧ ∀ f ∈ fl, PySem.W.findIn K (.ref (He.ga K c)) f = some none
structure XcN (K : PySem.W.Frag) (sub : Str → Str → Option Bool) (fl : List Str) : Prop where
  exm : ∀ x y b, sub x y = some b → PySem.W.exmOne K (.ref (He.ga K x)) (.ref (He.ga K y)) = some b
  xf : ∀ x y b, sub x y = some b → XOk K fl x
inductive HdM (X : Cx) (fl : List Str) : List ExceptHandler → List MCl → Prop
  | nil : HdM X fl [] []
  | one {ty : Expr} {c0 : Str} {cs : List Str} {s : Addr → Addr → Str → MS} {b₀ : Stmt} {suite : List Stmt} {pos' : Pos} {hds : List ExceptHandler} {l : List MCl} (hc : TyOk X ty ((c0 :: cs).map fun y => .ref (He.ga X.K y)))
      (hsu : ∀ (a : Addr) (oe : Obj) (cls : Value) (d : Option Addr) (pn : List (Addr × Obj)) (dd : Addr) (c : Str), Zc cls d oe → (∃ vs, oe.data = .fields vs) → cls = .ref (He.ga X.K c) → d = some dd → XOk X.K fl c → QSs (X.suite a ((a, oe) :: pn)) W0 (b₀ :: suite) (s a dd c)) (r : HdM X fl hds l) :
      HdM X fl (.ExceptHandler (some ty) none (b₀ :: suite) pos' :: hds) (⟨c0 :: cs, none, s⟩ :: l)
  | as_ {ty : Expr} {n : Str} {i : Nat} {c0 : Str} {cs : List Str} {s : Addr → Addr → Str → MS} {b₀ : Stmt} {suite : List Stmt} {pos' : Pos} {hds : List ExceptHandler} {l : List MCl} (hc : TyOk X ty ((c0 :: cs).map fun y => .ref (He.ga X.K y))) (hN : X.N.Nodup) (hi : X.N[i]? = some n) (hln : X.env.kindOf n = some .local)
      (hsu : ∀ (a : Addr) (oe : Obj) (cls : Value) (d : Option Addr) (pn : List (Addr × Obj)) (dd : Addr) (c : Str), Zc cls d oe → (∃ vs, oe.data = .fields vs) → cls = .ref (He.ga X.K c) → d = some dd → XOk X.K fl c → QSs (X.suite a ((a, oe) :: pn)) W0 (b₀ :: suite) (s a dd c)) (r : HdM X fl hds l) :
      HdM X fl (.ExceptHandler (some ty) (some n) (b₀ :: suite) pos' :: hds) (⟨c0 :: cs, some i, s⟩ :: l)
section
variable {X : Cx} {W : WX} {body : List Stmt} {h₀ : ExceptHandler} {hds : List ExceptHandler} {cl : List MCl} {pos : Pos} {mb : MS} {sub : Str → Str → Option Bool} {fl : List Str}
theorem HdM.ne (h : HdM X fl hds cl) : ∀ m ∈ cl, m.cs ≠ [] := by
  induction h with
  | nil => intro m hm; cases hm
  | one hc hsu r ih =>
    intro m hm
    rcases List.mem_cons.mp hm with z | z
    · rw [z]; simp
    · exact ih m z
  | as_ hc hN hi hln hsu r ih =>
    intro m hm
    rcases List.mem_cons.mp hm with z | z
    · rw [z]; simp
    · exact ih m z
end
inductive Src where
  | arg (j : Nat)
  | word (s : Str)
def Src.v (ws : List V) : Src → V
  | .arg j => ws.getD j .non
  | .word s => .str s
def Src.d (ds : List D) : Src → D
  | .arg j => ds.getD j .non
  | .word s => .str s
def flV (sp : List (Str × Src)) (ws : List V) : List (Str × V) := sp.map fun p => (p.1, p.2.v ws)
/-- what the __init__ of an exception promises: its fields -/
def spIn (K : PySem.W.Frag) (n : Nat) (sp : List (Str × Src)) : Sp := fun vs H Q _ => ∃ a ws, vs = .ref a :: ws ∧ ws.length = n ∧ DW.spInitAt K a H Q (flV sp ws)
def mRaise (x : Str) (n : Nat) (sp : List (Str × Src)) (ma : MA) : MS := fun E ρ M => ma ρ M (fun ds M1 => ds.length = n ∧ E.ex ⟨x, sp.map (·.1), sp.map fun p => p.2.d ds⟩ ρ M1) (fun y M1 => E.ex y ρ M1)
section
variable {X : Cx} {W : WX} {x : Str} {e : Expr} {es : List Expr} {ma : MA} {n k : Nat} {sp : List (Str × Src)} {fs ps : List Str} {p pos pos' : Pos}
theorem src_rel {K : PySem.W.Frag} {as : List Addr} {H : Hp} {ds : List D} {ws : List V} (r : RelL K as H ds ws) : ∀ s : Src, Rel K as H (s.d ds) (s.v ws)
  | .arg j => by
    simp only [Src.d, Src.v, List.getD_eq_getElem?_getD]
    cases h : ds[j]? with
    | none =>
      have : ws[j]? = none := by
        rw [List.getElem?_eq_none_iff] at h ⊢
        rw [← r.len]; exact h
      rw [this]; exact .non
    | some d =>
      obtain ⟨v, e, rv⟩ := r.get h
      rw [e]; exact rv
  | .word s => .str s
theorem zip_flV (sp : List (Str × Src)) (ws : List V) : (sp.map (·.1)).zip (sp.map fun p => p.2.v ws) = flV sp ws := by
  induction sp with
  | nil => rfl
  | cons p sp ih => simp [flV, ih]
theorem srcs_rel {K : PySem.W.Frag} {as : List Addr} {H : Hp} {ds : List D} {ws : List V} (r : RelL K as H ds ws) : ∀ sp : List (Str × Src), RelL K as H (sp.map fun p => p.2.d ds) (sp.map fun p => p.2.v ws)
  | [] => .nil
  | p :: sp => .cons (src_rel r p.2) (srcs_rel r sp)
theorem mk_in {K : PySem.W.Frag} {mg : Str → Option Value} {H : Hp} {QX : XK} {vs : List V} (c : DW.ExcX K mg x fs) (hl : vs.length = n) (hn : n ≤ 1000) (hfl : ∀ f ∈ sp.map (·.1), f ∈ fs) (q : ∀ d, H d = none → QX (.ref (He.ga K x)) (some d) (upd H d (.xd (flV sp vs)))) :
    vs.length ≤ 1000 ∧ ∀ a, H a = none → spIn K n sp (.ref a :: (vs ++ [])) (upd H a (exo a (He.ga K x) none))
      (fun v H2 => v = .non ∧ ∃ (d : Addr) (fl : List (Str × V)), H2 a = some (exo a (He.ga K x) (some d)) ∧ H2 d = some (exd d fl) ∧ H d = none ∧ QX (.ref (He.ga K x)) (some d) (upd (del H2 a) d (.xd fl))) (fun _ _ _ => False) := by
  refine ⟨by omega, fun a ha => ?_⟩
  rw [List.append_nil]
  refine ⟨a, vs, rfl, hl, _, upd_same, c.oex, fun f hf => c.no f (hfl f (by simpa [flV] using hf)), fun dx hdx hne => ⟨rfl, dx, flV sp vs, upd_same, ?_, ?_, ?_⟩⟩
  · rw [upd_ne hne, upd_same]
  · rw [upd_ne hne] at hdx; exact hdx
  · rw [upd_ne hne] at hdx
    rw [DW.mk_heap ha hne]
    exact q dx hdx
theorem qs_raise (hc : X.calm = true) (tk : Takes X W) (c : DW.ExcX X.K X.mg x fs) (F : DW.FnM X.prog X.w X.K X.mg X.base CX0 k x "__init__" ps (spIn X.K n sp)) (hr : Room (k + 1) X.A) (hg : Gl X x) (ha : QA X W (e :: es) ma) (hn : n ≤ 1000) (hfl : ∀ f ∈ sp.map (·.1), f ∈ fs) (hdb : (x == ("__debug__" : Str)) = false := by decide)
    (he : starEach (e :: es) X.env = (false, eval e X.env) :: starEach es X.env := by rfl) (hpl : (backTo pos (starEach es X.env)).any (·.1) = false := by rfl) : QS X W (.Raise (some (.Call (.Name x p) (e :: es) [] pos)) none pos') (mRaise x n sp ma) :=
  PSi (ps_raise hc tk (DW.pmk_x c F hr hg ha hdb he hpl)) fun D σ H ⟨as, M, ρ, E, r, rs, h, hE⟩ => by
    refine lfA_bind r rs h (exS hE rs) fun ds M1 as1 H1 vs h1 e1 r1 rs1 rv => ?_
    refine mk_in (H := H1) (QX := fun cls d H' => W cls d σ H') c (by rw [← rv.len]; exact h1.1) hn hfl fun d hd => ?_
    have e2 : Ext X.K as1 H1 as1 (upd H1 d (.xd (flV sp vs))) := ext_new hd
    exact hE.ex _ _ _ h1.2 as1 _ σ _ _ (e1.trans e2) (r1.laid hd) (rs1.up e2) ⟨rfl, d, _, rfl, by rw [upd_same, ← zip_flV], srcs_rel (rv.up e2) sp⟩
end
theorem fn_law {P : Program} {w : World} {K : PySem.W.Frag} {mg : Str → Option Value} {base : Heap} {k : Nat} {f : Addr} {fd : FuncData} {ps : List Str} {sp : Sp} (F : FnOk P w K mg base (L2.CX P w) k f fd ps sp) : FnOk P w K mg base CX0 k f fd ps (fun vs H Q _ => sp vs H Q E0) where
  len := fun vs H Q E h => F.len vs H Q E0 h
  run := fun A outer s H args us vs Q E hr e b r h => codeAny_mono (F.run A outer s H args us vs Q E0 hr e b r h) fun r s' q => by
    cases r with
    | error e => obtain ⟨_, _, _, _, _, _, _, _, _, _, _, _, z⟩ := q; exact z.elim
    | ok fl => cases fl <;> exact q
/-- the law's start -/
theorem law_st {K : PySem.W.Frag} {w : WF} (hw : ∀ ns : List Int, ns.length ≤ 63 → w [.kl (ns.map .int)] [] (fun d _ => d = .bl true) (fun _ _ => False)) (H : Hp) (a : Addr) (ns : List Int) (hl : ns.length ≤ 63) (hO : Only H) (hS : SqL K H a (ns.map V.int)) :
    spM K 1 w [.ref a] H (fun v _ => v = .bl true) E0 := by
  have hR : RdL K H a (ns.map V.int) := by
    rcases hS with (h | h) | h
    · rcases hO a with z | ⟨o, xs, z⟩
      · rw [z] at h; cases h
      · rw [z] at h; cases h
    · exact .inl h
    · exact .inr h
  have hL : ∀ ns : List Int, RelL K [] H (ns.map .int) (ns.map V.int) := fun ns => by
    induction ns with
    | nil => exact .nil
    | cons i ns ih => exact .cons (.int i) ih
  refine ⟨[], [], [.kl (ns.map .int)], _, _, rfl, ⟨rfl, by simp, fun n b o h1 h2 => by simp at h1⟩, .cons (.kl hR (hL ns)) .nil, hw ns hl, fun d M' q as' H' v _ _ rv => ?_, fun _ _ q => q.elim⟩
  subst q
  cases rv
  rfl
end MV
namespace MV
open PySem PySem.Spec PyProof.Rows L2
section
variable {X : Cx} {W : WX}
theorem qv (i : Nat) {x : Str} {pos : Pos} (hN : X.N[i]? = some x := by rfl) (hv : Vis X.env.scope x := by first | exact Or.inl rfl | exact Or.inr (Or.inl rfl) | exact Or.inr (Or.inr rfl)) (hd : (x == ("__debug__" : Str)) = false := by decide)
    (hcd : (x == ("__classdict__" : Str)) = false := by decide) : QE X W (.Name x pos) (mVar i) := qe_var hN hv hd hcd
theorem units65 {k : Nat} {A : Around} (r : Room k A) : A.units + 65 < cLine := by have := r.un; omega
theorem units1 {k : Nat} {A : Around} (r : Room k A) : A.units + 1 < cLine := by have := r.un; omega
end
theorem call_listA {X : Cx} (hc : X.calm = true) : CallR X (.type "list") (rListA X.K) := CallR_or call_list_of (call_list_dK hc)
/-- every parameter is given -/
theorem dbn_all {K : PySem.W.Frag} {fd : FuncData} {ps : List Str} (h : Binds K fd ps []) : DBn K fd ps ps.length [] (fun ds _ => ds) :=
  ⟨⟨fun us _ => us, fun vs _ => vs, ⟨fun s us ws X l1 _ => by
    have := h s us X (by simp [l1])
    simpa using this, fun r _ => r⟩, fun as H ds es vs zs _ _ r _ => r⟩⟩
theorem relL_app {K : PySem.W.Frag} {as : List Addr} {H : Hp} {ds es : List D} {vs ws : List V} (h : RelL K as H ds vs) (h' : RelL K as H es ws) : RelL K as H (ds ++ es) (vs ++ ws) := h.app h'
end MV
namespace MV
open PySem PySem.Spec PyProof.Rows L2
def tyD (x : D) (M : Mem) : Option String := match x with
  | .non => some "NoneType"
  | .bl _ => some "bool"
  | .int _ => some "int"
  | .str _ => some "str"
  | .tup _ => some "tuple"
  | .ref n => match M[n]? with
    | some (.lst _) => some "list"
    | some (.dct false _) => some "dict"
    | _ => none
  | _ => none
/-- of the five types: is t a u? -/
def subTy (t u : String) : Bool := t == u || (t == "bool" && u == "int")
def oIsi : OA := fun xs M Q => match xs with
  | [x, .ty u] => match tyD x M with
    | some t => (["int", "str", "tuple", "list", "bool", "dict"].contains u = true) ∧ Q (.bl (subTy t u)) M
    | none => match x with
      | .ref n => match M[n]? with
        | some (.ins _ _) => False
        | _ => False
      | _ => False
  | _ => False
theorem SqT_ty {K : PySem.W.Frag} {H : Hp} {a : Addr} {xs : List V} (h : SqT K H a xs) : TyX K H (.ref a) (.type "tuple") := by
  rcases h with (h | ⟨o, h⟩) | ⟨o, its, n, h1, h2, h3⟩
  · exact .base (.tup h)
  · exact .fTuple h
  · exact .kTuple h1 h2
def mDict0 : ME := fun _ M Q _ => Q (.ref M.length) (M ++ [.dct false []])
section
variable {X : Cx} {W : WX} {pos : Pos}
theorem qe_dict0 : QE X W (.Dict [] [] pos) mDict0 := PEi pe_dnewK fun σ H Q ⟨as, M, ρ, Q', X', r, rs, h, hq, hx⟩ => fun p hp => new_obj (o := .dct false []) r hp ⟨[], .nil, upd_same⟩ h hq
def mPairs : List (ME × ME) → Ev → Mem → (List (D × D) → Mem → Prop) → XM → Prop
  | [], _, M, Q, _ => Q [] M
  | (mk, mv) :: r, ρ, M, Q, X => mk ρ M (fun x M1 => mv ρ M1 (fun y M2 => mPairs r ρ M2 (fun ps M3 => Q ((x, y) :: ps) M3) X) X) X
def keysOf : List (D × D) → Option (List (Key × D))
  | [] => some []
  | (k, v) :: r => match keyOf k, keysOf r with
    | some q, some l => some ((q, v) :: l)
    | _, _ => none
def mergeD (kvs more : List (Key × D)) : List (Key × D) := more.foldl (fun acc kv => dput acc kv.1 kv.2) kvs
def mDisp (trs : List (ME × ME)) : ME := fun ρ M Q X => mPairs trs ρ (M ++ [.dct false []]) (fun ps M2 => M2[M.length]? = some (.dct false []) ∧ ps.length ≤ 15 ∧ match keysOf ps with
  | some kvs => Q (.ref M.length) (M2.set M.length (.dct false (mergeD [] kvs)))
  | none => False) X
inductive QPs (X : Cx) (W : WX) (pos : Pos) : List (Option Expr) → List Expr → List (ME × ME) → Prop where
  | nil : QPs X W pos [] [] []
  | cons {k v : Expr} {ks : List (Option Expr)} {vs : List Expr} {mk mv : ME} {trs : List (ME × ME)} (hk : QE X W k mk) (hv : QE X W v mv) (hr : QPs X W pos ks vs trs) : QPs X W pos (some k :: ks) (v :: vs) ((mk, mv) :: trs)
theorem qps_nil : QPs X W pos [] [] [] := .nil
theorem qps_cons {k v : Expr} {ks : List (Option Expr)} {vs : List Expr} {mk mv : ME} {trs : List (ME × ME)} (hk : QE X W k mk) (hv : QE X W v mv) (hr : QPs X W pos ks vs trs) : QPs X W pos (some k :: ks) (v :: vs) ((mk, mv) :: trs) := .cons hk hv hr
theorem QPs.pps {ks : List (Option Expr)} {vs : List Expr} {trs : List (ME × ME)} (h : QPs X W pos ks vs trs) : PPs X pos ks vs (trs.map fun p => (lf X.K W p.1, lf X.K W p.2)) := by
  induction h with
  | nil => exact L2.pps_nil
  | cons hk hv hr ih => exact L2.pps_cons hk hv ih
def PR (K : PySem.W.Frag) (as : List Addr) (H : Hp) (l : List (D × D)) (m : List (V × V)) : Prop := Paired (fun p q => Rel K as H p.1 q.1 ∧ Rel K as H p.2 q.2) l m
theorem pairs_ok {K : PySem.W.Frag} {σ : L2.St} {ρ : Ev} {X' : XM} : ∀ (trs : List (ME × ME)) (as : List Addr) (H : Hp) (M : Mem) (k : List (D × D) → Mem → Prop) (Q : List (V × V) → Hp → Prop), RepM K as H M → RelS K as H ρ σ → mPairs trs ρ M k X' → (∀ x M', X' x M' → LX K as H (fun c d H => W c d σ H) x M') →
    (∀ ps M' as' H' qs, k ps M' → Ext K as H as' H' → RepM K as' H' M' → PR K as' H' ps qs → Q qs H') → tPairs (trs.map fun p => (lf K W p.1, lf K W p.2)) σ H Q
  | [], as, H, M, k, Q, r, rs, h, hx, hk => hk [] M as H [] h .refl r .nil
  | (mk, mv) :: trs, as, H, M, k, Q, r, rs, h, hx, hk => lf_bind r rs h hx fun dx M1 as1 H1 x h1 e1 r1 rs1 rx => lf_bind r1 rs1 h1 (fun x M' q => (hx x M' q).mono e1) fun dy M2 as2 H2 y h2 e2 r2 rs2 ry =>
    pairs_ok trs as2 H2 M2 _ _ r2 rs2 h2 (fun x M' q => (hx x M' q).mono (e1.trans e2)) fun ps M3 as3 H3 qs h3 e3 r3 rp => hk _ M3 as3 H3 _ h3 ((e1.trans e2).trans e3) r3 (.cons ⟨rx.up (e2.trans e3), ry.up e3⟩ rp)
theorem keysOf_ok {K : PySem.W.Frag} {as : List Addr} {H : Hp} : ∀ {ps : List (D × D)} {qs : List (V × V)} {kvs : List (Key × D)}, PR K as H ps qs → keysOf ps = some kvs → ∃ ks : List (Key × V), qs = ks.map (fun kv => (kV kv.1, kv.2)) ∧ KVR K as H kvs ks ∧ kvs.length = ps.length
  | _, _, _, .nil, e => by cases e; exact ⟨[], rfl, .nil, rfl⟩
  | _, _, _, .cons (a := p) (b := q) h t, e => by
    obtain ⟨p1, p2⟩ := p
    obtain ⟨q1, q2⟩ := q
    simp only [keysOf] at e
    split at e
    · rename_i k l ek el
      cases e
      obtain ⟨ks, e1, e2, e3⟩ := keysOf_ok t el
      have h1 := keyOf_ok h.1 ek
      exact ⟨(k, q2) :: ks, by rw [e1]; simp [← h1], .cons ⟨rfl, h.2⟩ e2, by simp [e3]⟩
    · cases e
theorem KVR.merge {K : PySem.W.Frag} {as : List Addr} {H : Hp} : ∀ {l : List (Key × D)} {m : List (Key × V)} {k0 : List (Key × D)} {k1 : List (Key × V)}, KVR K as H l m → KVR K as H k0 k1 → KVR K as H (mergeD k0 l) (mergeK k1 m) := by
  intro l m k0 k1 h
  unfold KVR at h
  induction h generalizing k0 k1 with
  | nil => intro h; exact h
  | cons h t ih =>
    rename_i p q l m
    intro h0
    show KVR K as H (mergeD (dput k0 p.1 p.2) l) (mergeK (putK k1 q.1 q.2) m)
    rw [h.1]
    exact ih (h0.put q.1 h.2)
theorem qe_disp {keys : List (Option Expr)} {values : List Expr} {trs : List (ME × ME)} (h : QPs X W pos keys values trs) (hall : keys.all (·.isSome) = true) (hl : keys.length = values.length) (h0 : keys ≠ []) (h15 : keys.length ≤ 15) : QE X W (.Dict keys values pos) (mDisp trs) :=
  PEi (pe_disp h.pps hall hl h0 h15) fun σ H Q ⟨as, M, ρ, Q', X', r, rs, h, hq, hx⟩ => fun p hp => by
    have rD : RepM X.K (as ++ [p]) (upd H p (.dK [])) (M ++ [.dct false []]) := r.new (o := .dct false []) hp ⟨[], .nil, upd_same⟩
    have eD : Ext X.K as H (as ++ [p]) (upd H p (.dK [])) := (ext_new hp).trans ext_app
    have nD : (as ++ [p])[M.length]? = some p := by rw [← r.len]; exact app_at
    refine pairs_ok trs _ _ _ _ _ rD (rs.up eD) h (fun x M' q => (hx x M' q).mono eD) fun ps M2 as2 H2 qs h2 e2 r2 rp => ?_
    obtain ⟨em, hl, h2⟩ := h2
    split at h2
    · rename_i kvs ek
      have n2 := pre_get e2.pre nD
      obtain ⟨k0, g1, g2⟩ := at_dK r2 n2 em
      cases g1
      obtain ⟨ks, e3, e4, e5⟩ := keysOf_ok rp ek
      refine ⟨g2, ks, e3, by rw [← e4.len]; omega, ?_⟩
      obtain ⟨e6, r6⟩ := put_dct r2 n2 g2 (e4.merge (k0 := []) (k1 := []) .nil)
      exact hq _ _ h2 as2 _ _ ((eD.trans e2).trans e6) r6 (.ref n2)
    · exact h2.elim
end
end MV
namespace MV
open PySem PySem.Spec PyProof.Rows L2
def pick {α : Type} (l : List α) (is : List Nat) : List α := is.filterMap (l[·]?)
theorem vals_pick {xs : List V} {us : List Value} (r : Vals xs us) : ∀ is : List Nat, Vals (pick xs is) (pick us is)
  | [] => .nil
  | i :: is => by
    have t := vals_pick r is
    unfold pick at t ⊢
    cases e : xs[i]? with
    | none => simpa [List.filterMap_cons, e, r.none_of e] using t
    | some x =>
      obtain ⟨u, eu, ru⟩ := r.get e
      simpa [List.filterMap_cons, e, eu] using Paired.cons ru t
theorem relL_pick {K : PySem.W.Frag} {as : List Addr} {H : Hp} {ds : List D} {vs : List V} (r : RelL K as H ds vs) : ∀ is : List Nat, RelL K as H (pick ds is) (pick vs is)
  | [] => .nil
  | i :: is => by
    have t := relL_pick r is
    unfold pick at t ⊢
    cases e : ds[i]? with
    | none =>
      have ev : vs[i]? = none := by
        have := r.len
        simp at e ⊢; omega
      simpa [List.filterMap_cons, e, ev] using t
    | some x =>
      obtain ⟨u, eu, ru⟩ := r.get e
      simpa [List.filterMap_cons, e, eu] using RelL.cons ru t
theorem vals_pick3 {is : List Nat} {vs mz zs : List V} {us mv ws : List Value} (a : Vals vs us) (b : Vals mz mv) (c : Vals zs ws) : Vals (pick (vs ++ mz ++ zs) is) (pick (us ++ mv ++ ws) is) := vals_pick ((a.append b).append c) is
theorem kbindsE {K : PySem.W.Frag} {x qual : Str} {params : Arguments} {body : List Stmt} {scope : Scope} {f : Addr} {fd : FuncData} {ps : List Str} (F : FunD K x qual params body scope [] [] f fd) (n : Nat) (ks : List Str) (is : List Nat)
    (h : ∀ (kV doc pm : Value) (an : Option Addr) (cdv ct : Value) (us ws : List Value), us.length = n → ws.length = ks.length → bindArgs (PySem.W.fnOf x qual params body scope .none kV doc pm an cdv ct) ⟨us, ks.zip ws⟩ = pure (ps.zip (pick (us ++ [] ++ ws) is))) : KBn K fd ps n ks (fun us ws => pick (us ++ [] ++ ws) is) (fun vs zs => pick (vs ++ [] ++ zs) is) := by
  obtain ⟨oc, od, dV, kV, doc, pm, an, cdv, ct, osl, rfl, lk, hcd, hD, hK⟩ := F.ex
  rcases hD with ⟨_, rfl⟩ | ⟨e, _⟩
  · exact ⟨fun s us ws _ l1 l2 => .of_eq (h kV doc pm an cdv ct us ws l1 l2), fun a c => vals_pick3 a .nil c⟩
  · exact absurd rfl e
theorem dbn_kw {K : PySem.W.Frag} {fd : FuncData} {ps ks : List Str} {n : Nat} {is : List Nat} {mv : List Value} {mz : List V} {md : List D} {gD : List D → List D → List D} (hb : KBn K fd ps n ks (fun us ws => pick (us ++ mv ++ ws) is) (fun vs zs => pick (vs ++ mz ++ zs) is))
    (hm : ∀ as H, RelL K as H md mz) (he : ∀ ds es : List D, ds.length = n → es.length = ks.length → gD ds es = pick (ds ++ md ++ es) is) : DBn K fd ps n ks gD :=
  ⟨⟨_, _, hb, fun as H ds es vs zs l1 l2 r1 r2 => by
    rw [he ds es l1 l2]
    exact relL_pick ((r1.app (hm as H)).app r2) is⟩⟩
theorem dbn_dfl {K : PySem.W.Frag} {fd : FuncData} {ps : List Str} {n : Nat} {dv : List Value} {dz : List V} {gD : List D → List D → List D} (hb : Binds K fd ps dv) (hd : Vals dz dv) (hl : n + dz.length = ps.length)
    (hr : ∀ as H (ds : List D) (vs : List V), ds.length = n → RelL K as H ds vs → RelL K as H (gD ds []) (vs ++ dz)) : DBn K fd ps n [] gD :=
  ⟨⟨fun us _ => us ++ dv, fun vs _ => vs ++ dz, ⟨fun s us ws X l1 _ => by
    have := hb s us X (by rw [List.length_append, ← hd.length, l1, hl])
    simpa using this, fun r _ => r.append hd⟩, fun as H ds es vs zs l1 l2 r _ => by
    cases es with
    | nil => exact hr as H ds vs l1 r
    | cons e es => simp at l2⟩⟩
/-- the keyword-only default k of the def at f, if it is an object -/
def kwdAt (f : Str × Option Str) (k : Str) (K : PySem.W.Frag) : Addr := match K.lookup (He.fAd K f) with
  | some ⟨_, _, .func fd, _⟩ => (match fd.kwdefaults with
    | .ref T => (match PySem.W.nsIn K T k with
      | some (some (.ref a)) => a
      | _ => 0)
    | _ => 0)
  | _ => 0
mutual
/-- d stands in K as u -/
def datAt (K : PySem.W.Frag) : Nat → D → Value → Bool
  | _, .non, .none => true
  | _, .bl b, .bool c => b == c
  | _, .int i, .int j _ => i == j
  | _, .str x, .str y _ => x == y
  | k + 1, .tup ds, .ref a => match K.lookup a with
    | some ⟨.type "tuple", _, .seq its _, _⟩ => !hdS ds && decide (its.size ≤ sizeLine) && datL K k ds its.toList
    | _ => false
  | _, _, _ => false
def datL (K : PySem.W.Frag) : Nat → List D → List Value → Bool
  | _, [], [] => true
  | k, d :: ds, u :: us => datAt K k d u && datL K k ds us
  | _, _, _ => false
end
theorem datAt_v {K : PySem.W.Frag} : ∀ (k : Nat) (d : D) (u : Value), datAt K k d u = true → ∃ v, RelV v u ∧ ∀ as H, Rel K as H d v := by
  intro k
  induction k with
  | zero =>
    intro d u h
    unfold datAt at h
    split at h
    · exact ⟨.non, rfl, fun _ _ => .non⟩
    · exact ⟨.bl _, rfl, fun _ _ => by rw [eq_of_beq h]; exact .bl _⟩
    · exact ⟨.int _, ⟨_, rfl⟩, fun _ _ => by rw [eq_of_beq h]; exact .int _⟩
    · exact ⟨.str _, ⟨_, rfl⟩, fun _ _ => by rw [eq_of_beq h]; exact .str _⟩
    · cases ‹0 = _ + 1›
    · cases h
  | succ k ih =>
    have ihl : ∀ (ds : List D) (us : List Value), datL K k ds us = true → ∃ vs, Vals vs us ∧ ∀ as H, RelL K as H ds vs := by
      intro ds
      induction ds with
      | nil => intro us h; cases us with
        | nil => exact ⟨[], .nil, fun _ _ => .nil⟩
        | cons u us => simp [datL] at h
      | cons d ds ihd => intro us h; cases us with
        | nil => simp [datL] at h
        | cons u us =>
          simp only [datL, Bool.and_eq_true] at h
          obtain ⟨v, r1, r2⟩ := ih d u h.1
          obtain ⟨vs, q1, q2⟩ := ihd us h.2
          exact ⟨v :: vs, .cons r1 q1, fun as H => .cons (r2 as H) (q2 as H)⟩
    intro d u h
    unfold datAt at h
    split at h
    · exact ⟨.non, rfl, fun _ _ => .non⟩
    · exact ⟨.bl _, rfl, fun _ _ => by rw [eq_of_beq h]; exact .bl _⟩
    · exact ⟨.int _, ⟨_, rfl⟩, fun _ _ => by rw [eq_of_beq h]; exact .int _⟩
    · exact ⟨.str _, ⟨_, rfl⟩, fun _ _ => by rw [eq_of_beq h]; exact .str _⟩
    · rename_i k' ds a ek
      cases ek
      split at h
      · rename_i od its n osl e
        simp only [Bool.and_eq_true, decide_eq_true_eq] at h
        obtain ⟨vs, q1, q2⟩ := ihl ds _ h.2
        exact ⟨.ref a, rfl, fun as H => .tup ⟨.inr ⟨_, its, n, e, rfl, rfl, h.1.2, q1⟩, fun z => by rw [z] at h; exact absurd h.1.1 (by decide)⟩ (q2 as H)⟩
      · cases h
    · cases h
theorem datAt_ok {K : PySem.W.Frag} {d : D} {a : Addr} {as : List Addr} {H : Hp} (h : datAt K 20 d (.ref a) = true) : Rel K as H d (.ref a) := by
  obtain ⟨v, r, q⟩ := datAt_v 20 d _ h
  have e : v = .ref a := by
    have := r.abs
    simpa [absV] using this.symm
  rw [← e]; exact q as H
end MV
namespace MV
open PySem PySem.Spec PyProof.Rows L2
section
variable {K : PySem.W.Frag}
end
section
variable {X : Cx} {W : WX} {elt tg iter tg1 iter1 : Expr} {ifs ifs1 : List Expr} {scope : Scope} {own : List (Str × Nat)} {vs1 : List Nat} {pos spos : Pos} {mi mi1 : MI} {T T1 : Tg} {tt tt1 : MT} {me : ME}
end
end MV
namespace MV
open PySem PySem.Spec PyProof.Rows L2
def oStrO (c : Str) (w : WF) (gD : List D → List D → List D) : OA := fun xs M Q => match xs with
  | [.ref a] => match M[a]? with
    | some (.ins c' _) => c' = c ∧ w (gD [.ref a] []) M (fun d M' => match d with | .str z => Q (.str z) M' | _ => False) (fun _ _ => False)
    | _ => False
  | _ => False
section
variable {X : Cx} {W : WX} {c x : Str} {e : Expr} {es : List Expr} {p pos : Pos} {ma : MA} {k : Nat} {ps : List Str} {w : WF} {gD : List D → List D → List D} {f : Addr} {gV : List V → List V → List V}
def rOwn (K : PySem.W.Frag) (c : Str) (N : Nat) (w : WF) (gV : List V → List V → List V) (T : V → Prop) : List V → Hp → VK → Prop := fun xs H Q => ∃ a dx fs, xs = [V.ref a] ∧ H a = some (.ins (He.ga K c) dx fs) ∧ spM K N w (gV [.ref a] []) H (fun v H' => T v ∧ Q v H') (fun _ _ _ => False)
def isStrV (v : V) : Prop := ∃ z, v = .str z
theorem env_sub {A : Around} {pins : List (Addr × Obj)} {σ : L2.St} {H : Hp} {s : Shared} (I : Inv X pins σ H s) (fr : A.frames = X.A.frames) : Env0 X.prog X.w X.K X.mg X.base A X.stack s H := by
  have e := I.env0
  exact ⟨by rw [fr]; exact e.frames, e.mod, e.bs, e.bsz, e.funs, e.frf, e.hok, e.bare⟩
theorem run_own {A : Around} {fd : FuncData} {sp : Sp} {g : List Value → List Value → List Value} {pins : List (Addr × Obj)} {σ : L2.St} {H : Hp} {s : Shared} {Q : VK} {a : Addr} {B : Value → Shared → Prop} (F : FnOk X.prog X.w X.K X.mg X.base (L2.CX X.prog X.w) k f fd ps sp) (hr : Room k A) (fr : A.frames = X.A.frames) (hb : KBn X.K fd ps 1 [] g gV)
    (I : Inv X pins σ H s) (h : sp (gV [.ref a] []) H Q (fun _ _ _ => False)) (hB : ∀ v u H' s', Inv X pins σ H' s' → RelV v u → Q v H' → B u s') : wpAny (model X.prog X.w) A (call (.ref f) [.ref a]) B X.xe s := by
  have r1 : Vals [V.ref a] [Value.ref a] := .cons rfl .nil
  have r2 := hb.rel r1 (zs := []) (ws := []) .nil
  refine wpAny_call (codeAny_mono (F.run A X.stack s H ⟨[.ref a], []⟩ (g [.ref a] []) (gV [.ref a] []) Q _ hr (env_sub I fr) (hb.to s [.ref a] [] I.kIn rfl rfl) r2 h) fun r s' hq => ?_)
  cases r with
  | error e =>
    obtain ⟨a, B, H', cls, d, _, _, _, _, _, _, _, z⟩ := hq
    exact z.elim
  | ok fl =>
    cases fl with
    | ret u =>
      obtain ⟨v, H', I', rv, q⟩ := I.after hq
      exact hB v u H' s' I' rv q
    | next => exact False.elim hq
    | brk => exact False.elim hq
    | cont => exact False.elim hq
theorem call_strO {fd : FuncData} {g : List Value → List Value → List Value} {N : Nat} (hmt : Meth X.K (He.ga X.K c) "__str__" f) (F : FnOk X.prog X.w X.K X.mg X.base (L2.CX X.prog X.w) k f fd ps (spM X.K N w)) (hr : Room (k + 2) X.A) (hb : KBn X.K fd ps 1 [] g gV) : CallR X (.type "str") (rOwn X.K c N w gV isStrV) := by
  rintro pins s σ H xs us Q I rv ⟨a, dx, fs, rfl, ha, hsp⟩
  obtain ⟨u, us', rfl, ru, rus⟩ : ∃ u us', us = u :: us' ∧ RelV (.ref a) u ∧ Vals [] us' := by cases rv with | cons h t => exact ⟨_, _, rfl, h, t⟩
  cases rus
  obtain rfl : u = Value.ref a := ru
  obtain ⟨mA, J, _⟩ := ins_get I.hok ha
  obtain ⟨od, J, _⟩ := J.look
  have hr2 : Room k X.A.in1.in1 := hr.in1.in1
  refine PySem.W.kso_call hr2.units0 I.kIn J hmt.at_ hmt.fn ?_
  refine run_own F hr2 rfl hb I hsp fun v u H' s' I' rv q => ?_
  obtain ⟨⟨z, rfl⟩, q⟩ := q
  obtain ⟨t, rfl⟩ : ∃ t, u = Value.str z t := rv
  exact ⟨.str z, H', I', ⟨t, rfl⟩, q⟩
theorem sim_own {N : Nat} {gV : List V → List V → List V} {T : V → Prop} {o : D → (D → Prop) → Prop}
    (hrel : ∀ (as : List Addr) (H : Hp) (ds es : List D) (vs zs : List V), ds.length = 1 → es.length = 0 → RelL X.K as H ds vs → RelL X.K as H es zs → RelL X.K as H (gD ds es) (gV vs zs)) (hgl : ∀ (ds es : List D), ds.length = 1 → es.length = 0 → (gD ds es).length = N)
    (hT : ∀ as H d v (q : D → Prop), Rel X.K as H d v → o d q → T v ∧ q d) : SimA X.K (rOwn X.K c N w gV T) (fun xs M Q => match xs with
  | [.ref a] => match M[a]? with
    | some (.ins c' _) => c' = c ∧ w (gD [.ref a] []) M (fun d M' => o d fun d => Q d M') (fun _ _ => False)
    | _ => False
  | _ => False) := fun as H M ds vs k Q rp rv h hk => by
  dsimp only at h
  split at h
  · rename_i n
    split at h
    · rename_i c' fs em
      obtain ⟨rfl, h⟩ := h
      cases rv with
      | cons hd ht =>
        cases ht
        cases hd
        rename_i a hn
        obtain ⟨dx, ys, g1, g2⟩ := at_ins rp hn em
        have rg := hrel as H [.ref n] [] [.ref a] [] rfl rfl (.cons (.ref hn) .nil) .nil
        refine ⟨a, dx, ys, rfl, g1, spM_of rp rg (by rw [← rg.len]; exact hgl _ _ rfl rfl) h (fun d M' q as' H' v e r' rd => ?_) fun x M' q => q.elim⟩
        obtain ⟨h1, h2⟩ := hT as' H' d v _ rd q
        exact ⟨h1, hk d M' h2 as' H' v e r' rd⟩
    · exact h.elim
  · exact h.elim
theorem qe_strO (hmt : Meth X.K (He.ga X.K c) "__str__" f) (F : Fn X.prog X.w X.K X.mg X.base k f ps w 1 [] gD) (hr : Room (k + 2) X.A) (hgl : ∀ (ds es : List D), ds.length = 1 → es.length = ([] : List Str).length → (gD ds es).length = ps.length) (hg : Gl X x) (hm : X.mg x = none) (hv : bootBuiltins x = some (.type "str")) (ha : QA X W (e :: es) ma) (hn : x ≠ "__name__" := by decide) (hdb : (x == ("__debug__" : Str)) = false := by decide)
    (he : starEach (e :: es) X.env = (false, eval e X.env) :: starEach es X.env := by rfl) (hpl : (backTo pos (starEach es X.env)).any (·.1) = false := by rfl) : QE X W (.Call (.Name x p) (e :: es) [] pos) (mCB (oStrO c w gD) ma) := by
  obtain ⟨⟨fd, G, ⟨g, gV, hb, hrel⟩⟩, kp⟩ := F
  refine qe_callTy (call_strO hmt G hr hb) (o := oStrO c w gD) ?_ hg hm hv ha hn hdb he hpl
  refine sim_own (o := fun d q => match d with | .str z => q (.str z) | _ => False) hrel hgl fun as H d v q rd h => ?_
  cases rd <;> first | exact h.elim | exact ⟨⟨_, rfl⟩, h⟩
end
end MV
namespace MV
open PySem PySem.Spec PyProof.Rows L2
section
variable {K : PySem.W.Frag} {as : List Addr} {H : Hp} {M : Mem}
end
section
variable {X : Cx} {W : WX} {kx vx tg iter : Expr} {ifs : List Expr} {scope : Scope} {own : List (Str × Nat)} {pos spos : Pos} {mi : MI} {T : Tg} {tt : MT} {mk mv : ME}
end
end MV
namespace MV
open PySem PySem.Spec PyProof.Rows L2
end MV
namespace MV
open PySem PySem.Spec PyProof.Rows L2
section
variable {K : PySem.W.Frag}
end
end MV
namespace MV
open PySem PySem.Spec PyProof.Rows L2
end MV
namespace MV
open PySem PySem.Spec PyProof.Rows L2
section
variable {X : Cx}
end
end MV
namespace MV
open PySem PySem.Spec PyProof.Rows L2
section
variable {X : Cx}
end
section
variable {X : Cx} {W : WX} {kx vx tg iter : Expr} {ifs : List Expr} {scope : Scope} {own : List (Str × Nat)} {pos spos : Pos} {mi : MI} {T : Tg} {tt : MT} {mk mv : ME}
end
end MV
namespace MV
open PySem PySem.Spec PyProof.Rows L2
section
variable {X : Cx} {o : Expr} {f : Str} {pos : Pos}
end
section
variable {X : Cx} {W : WX} {e : Expr} {es : List Expr} {me : ME} {pos pos' : Pos} {cs all fns : List Str} {i : Nat} {k : Nat}
end
end MV
namespace MV
open PySem PySem.Spec PyProof.Rows L2
def bts : List String := ["NoneType", "bool", "int", "str", "tuple", "list", "dict"]
def ownTB (K : PySem.W.Frag) (d : Str) : Bool := decide (PySem.W.findIn K (.ref (He.ga K d)) "__class__" = some (some (.builtin "object.__class__"))) &&
  (decide (PySem.W.specialIn K (.builtin "object.__class__") "__get__" = some (some (.builtin "getset_descriptor.__get__"))) && (decide (PySem.W.takesIn K (.builtin "object.__class__") = some true) && decide (PySem.W.mroIn K (He.ga K d) (.type "object") = some true)))
def ownB (K : PySem.W.Frag) (cs : List Str) (c : Str) : Bool := (bts.all fun t => decide (PySem.W.kitOne K (.type t) (.ref (He.ga K c)) = some false) && PySem.W.notFirst K (He.ga K c) (.type t)) &&
  (cs.all fun d => decide (PySem.W.kitOne K (.ref (He.ga K d)) (.ref (He.ga K c)) = some (decide (d = c))) && (PySem.W.notFirst K (He.ga K c) (.ref (He.ga K d)) && ownTB K d))
inductive TyK where
  | b (t : String)
  | c (d : Str)
def TyK.v (K : PySem.W.Frag) : TyK → Value
  | .b t => .type t
  | .c d => .ref (He.ga K d)
def TyK.ok (cs : List Str) : TyK → Prop
  | .b t => t ∈ bts
  | .c d => d ∈ cs
def TyK.is (c : Str) : TyK → Bool
  | .b _ => false
  | .c d => decide (d = c)
structure OwnC (K : PySem.W.Frag) (cs : List Str) (c : Str) : Prop where
  kit : ∀ t : TyK, t.ok cs → PySem.W.kitOne K (t.v K) (.ref (He.ga K c)) = some (t.is c)
  nf : ∀ t : TyK, t.ok cs → PySem.W.notFirst K (He.ga K c) (t.v K) = true
  ot : ∀ d ∈ cs, ownTB K d = true
theorem ownC_ok {K : PySem.W.Frag} {cs : List Str} {c : Str} (h : ownB K cs c = true) : OwnC K cs c := by
  obtain ⟨h1, h2⟩ := Bool.and_eq_true_iff.mp h
  refine ⟨fun t ht => ?_, fun t ht => ?_, fun d hd => ?_⟩
  · cases t with
    | b t => exact of_decide_eq_true (Bool.and_eq_true_iff.mp (List.all_eq_true.mp h1 t ht)).1
    | c d => exact of_decide_eq_true (Bool.and_eq_true_iff.mp (List.all_eq_true.mp h2 d ht)).1
  · cases t with
    | b t => exact (Bool.and_eq_true_iff.mp (List.all_eq_true.mp h1 t ht)).2
    | c d => exact (Bool.and_eq_true_iff.mp (Bool.and_eq_true_iff.mp (List.all_eq_true.mp h2 d ht)).2).1
  · exact (Bool.and_eq_true_iff.mp (Bool.and_eq_true_iff.mp (List.all_eq_true.mp h2 d hd)).2).2
theorem ownA_ok {K : PySem.W.Frag} {cs : List Str} (h : cs.all (ownB K cs) = true) : ∀ c ∈ cs, OwnC K cs c := fun c hc => ownC_ok (List.all_eq_true.mp h c hc)
def tyK (x : D) (M : Mem) : Option TyK := match x with
  | .non => some (.b "NoneType")
  | .bl _ => some (.b "bool")
  | .int _ => some (.b "int")
  | .str _ => some (.b "str")
  | .tup _ => some (.b "tuple")
  | .ref n => match M[n]? with
    | some (.lst _) => some (.b "list")
    | some (.dct false _) => some (.b "dict")
    | some (.ins c _) => some (.c c)
    | _ => none
  | _ => none
theorem tyK_x {K : PySem.W.Frag} {cs : List Str} {as : List Addr} {H : Hp} {M : Mem} {d : D} {v : V} {t : TyK} (hcl : ∀ c ∈ cs, Cls K (He.ga K c)) (ho : ∀ c ∈ cs, ownTB K c = true) (rp : RepM K as H M) (rd : Rel K as H d v) (e : tyK d M = some t) (ok : t.ok cs) : TyX K H v (t.v K) := by
  cases rd with
  | non => cases e; exact .base .non
  | bl b => cases e; exact .base (.bl b)
  | int b => cases e; exact .base (.int b)
  | str b => cases e; exact .base (.str b)
  | tup hs hl => cases e; exact SqT_ty hs.1
  | ref hn =>
    simp only [tyK] at e
    split at e
    · rename_i l el
      obtain ⟨xs, g1, g2⟩ := at_lst rp hn el
      cases e; exact .base (.lst g1)
    · rename_i kvs el
      obtain ⟨a', ha, ks, h1, h2⟩ := rp.at_ el
      rw [hn] at ha; cases ha
      cases e; exact .base (.dK h2)
    · rename_i c fs el
      obtain ⟨dx, ys, g1, g2⟩ := at_ins rp hn el
      cases e
      have h := ho c ok
      unfold ownTB at h
      obtain ⟨h1, h⟩ := Bool.and_eq_true_iff.mp h
      obtain ⟨h2, h⟩ := Bool.and_eq_true_iff.mp h
      obtain ⟨h3, h4⟩ := Bool.and_eq_true_iff.mp h
      exact .base (.ins g1 (hcl c ok) (of_decide_eq_true h1) (of_decide_eq_true h2) (of_decide_eq_true h3) (of_decide_eq_true h4))
    · cases e
  | _ => cases e
/-- isinstance(x, C) -/
def oIsiC (cs : List Str) : OA := fun xs M Q => match xs with
  | [x, .g c] => c ∈ cs ∧ match tyK x M with
    | some t => t.ok cs ∧ Q (.bl (t.is c)) M
    | none => False
  | _ => False
theorem sim_isiC {K : PySem.W.Frag} {cs all : List Str} (T : ∀ c ∈ cs, OwnC K cs c) (C : ClsN K cs all) : SimA K (rIsi K) (oIsiC cs) := fun as H M ds vs k Q rp rv h hk => by
  unfold oIsiC at h
  split at h
  · rename_i x c
    obtain ⟨v, w, rfl, rx, ry⟩ := rv.two
    cases ry
    obtain ⟨hc, h⟩ := h
    split at h
    · rename_i t et
      obtain ⟨ok, h⟩ := h
      exact ⟨_, _, _, _, _, rfl, .own _, tyK_x C.cls (T c hc).ot rp rx et ok, (T c hc).kit t ok, hk _ _ h as H _ .refl rp (.bl _)⟩
    · exact h.elim
  · exact h.elim
/-- x == y -/
def oEqO (cs : List Str) (c : Str) (w : WF) (gD : List D → List D → List D) : OP := fun x y M Q => match x with
  | .ref a => match M[a]? with
    | some (.ins c' _) => c' = c ∧ match tyK y M with
      | some t => t.ok cs ∧ w (gD [.ref a, y] []) M (fun d M' => match d with | .bl z => Q (.bl z) M' | _ => False) (fun _ _ => False)
      | none => False
    | _ => False
  | _ => False
def isBlV (v : V) : Prop := ∃ z, v = .bl z
def rEqO (K : PySem.W.Frag) (c : Str) (N : Nat) (w : WF) (gV : List V → List V → List V) : R2 := fun x y H Q => ∃ a dx fs t, x = V.ref a ∧ H a = some (.ins (He.ga K c) dx fs) ∧ TyX K H y t ∧ PySem.W.notFirst K (He.ga K c) t = true ∧ spM K N w (gV [x, y] []) H (fun v H' => isBlV v ∧ Q v H') (fun _ _ _ => False)
section
variable {X : Cx} {W : WX} {c : Str} {k : Nat} {ps : List Str} {w : WF} {gD : List D → List D → List D} {f : Addr} {gV : List V → List V → List V}
theorem run_own2 {A : Around} {fd : FuncData} {sp : Sp} {g : List Value → List Value → List Value} {pins : List (Addr × Obj)} {σ : L2.St} {H : Hp} {s : Shared} {Q : VK} {a : Addr} {y : V} {u : Value} {B : Value → Shared → Prop} (F : FnOk X.prog X.w X.K X.mg X.base (L2.CX X.prog X.w) k f fd ps sp) (hr : Room k A) (fr : A.frames = X.A.frames) (hb : KBn X.K fd ps 2 [] g gV)
    (I : Inv X pins σ H s) (ry : RelV y u) (h : sp (gV [.ref a, y] []) H Q (fun _ _ _ => False)) (hB : ∀ v u H' s', Inv X pins σ H' s' → RelV v u → Q v H' → B u s') : wpAny (model X.prog X.w) A (call (.ref f) [.ref a, u]) B X.xe s := by
  have r1 : Vals [V.ref a, y] [Value.ref a, u] := .cons rfl (.cons ry .nil)
  have r2 := hb.rel r1 (zs := []) (ws := []) .nil
  refine wpAny_call (codeAny_mono (F.run A X.stack s H ⟨[.ref a, u], []⟩ (g [.ref a, u] []) (gV [.ref a, y] []) Q _ hr (env_sub I fr) (hb.to s [.ref a, u] [] I.kIn rfl rfl) r2 h) fun r s' hq => ?_)
  cases r with
  | error e =>
    obtain ⟨a, B, H', cls, d, _, _, _, _, _, _, _, z⟩ := hq
    exact z.elim
  | ok fl =>
    cases fl with
    | ret u =>
      obtain ⟨v, H', I', rv, q⟩ := I.after hq
      exact hB v u H' s' I' rv q
    | next => exact False.elim hq
    | brk => exact False.elim hq
    | cont => exact False.elim hq
theorem op_eqO {fd : FuncData} {g : List Value → List Value → List Value} {N : Nat} (hmt : Meth X.K (He.ga X.K c) "__eq__" f) (F : FnOk X.prog X.w X.K X.mg X.base (L2.CX X.prog X.w) k f fd ps (spM X.K N w)) (hr : Room (k + 2) X.A) (hb : KBn X.K fd ps 2 [] g gV) : OpR X (compareOp .Eq) (rEqO X.K c N w gV) := by
  rintro pins s σ H x y v u Q I rx ry ⟨a, dx, fs, t, rfl, ha, ty, hn, hsp⟩
  obtain rfl : v = Value.ref a := rx
  obtain ⟨mA, J, _⟩ := ins_get I.hok ha
  obtain ⟨od, J, _⟩ := J.look
  obtain ⟨m, hF⟩ := I.fr
  obtain ⟨P, Z, hP, _⟩ := kit_of I ry ty
  have hr2 : Room k X.A := hr.mono (by omega)
  show wpAny _ _ (richCompare .Eq (.ref a) u) _ _ _
  refine PySem.W.cmp_K (op := .Eq) (tb := t) hr2.units0 hF I.ok.mod.kin J (Z.ty _ _ I.kIn hP) hn hmt.at_ hmt.fn ?_
  refine run_own2 F hr2 rfl hb I ry hsp fun v u H' s' I' rv q => ?_
  obtain ⟨⟨z, rfl⟩, q⟩ := q
  obtain rfl : u = Value.bool z := rv
  exact ⟨.bl z, H', I', rfl, q⟩
theorem sim_eqO {cs all : List Str} {N : Nat} (C : ClsN X.K cs all) (T : OwnC X.K cs c)
    (hrel : ∀ (as : List Addr) (H : Hp) (ds es : List D) (vs zs : List V), ds.length = 2 → es.length = 0 → RelL X.K as H ds vs → RelL X.K as H es zs → RelL X.K as H (gD ds es) (gV vs zs)) (hgl : ∀ (ds es : List D), ds.length = 2 → es.length = 0 → (gD ds es).length = N) : SimO X.K (rEqO X.K c N w gV) (oEqO cs c w gD) := fun as H M dx dy x y k Q rp rx ry h hk => by
  unfold oEqO at h
  split at h
  · rename_i n
    split at h
    · rename_i c' fs em
      obtain ⟨rfl, h⟩ := h
      split at h
      · rename_i t et
        obtain ⟨ok, h⟩ := h
        cases rx with
        | ref hn =>
          rename_i a
          obtain ⟨dx, ys, g1, g2⟩ := at_ins rp hn em
          have rg := hrel as H [.ref n, dy] [] [.ref a, y] [] rfl rfl (.cons (.ref hn) (.cons ry .nil)) .nil
          refine ⟨a, dx, ys, _, rfl, g1, tyK_x C.cls T.ot rp ry et ok, T.nf t ok, spM_of rp rg (by rw [← rg.len]; exact hgl _ _ rfl rfl) h (fun d M' q as' H' v e r' rd => ?_) fun x M' q => q.elim⟩
          cases rd <;> first | exact q.elim | exact ⟨⟨_, rfl⟩, hk _ M' q as' H' _ e r' (.bl _)⟩
      · exact h.elim
    · exact h.elim
  · exact h.elim
theorem qe_eqO {cs all : List Str} {a b : Expr} {ma mb : ME} {pos : Pos} (C : ClsN X.K cs all) (T : OwnC X.K cs c) (hmt : Meth X.K (He.ga X.K c) "__eq__" f) (F : Fn X.prog X.w X.K X.mg X.base k f ps w 2 [] gD) (hr : Room (k + 2) X.A) (hgl : ∀ (ds es : List D), ds.length = 2 → es.length = ([] : List Str).length → (gD ds es).length = ps.length) (ha : QE X W a ma) (hb : QE X W b mb) :
    QE X W (.Compare a [.Eq] [b] pos) (mOp (oEqO cs c w gD) ma mb) := by
  obtain ⟨⟨fd, G, ⟨g, gV, hb', hrel⟩⟩, kp⟩ := F
  exact qe_cmp (op_eqO hmt G hr hb') (sim_eqO C T hrel hgl) ha hb (nomark _)
end
end MV
namespace MV
open PySem PySem.Spec PyProof.Rows L2
section
variable {X : Cx} {pins : List (Addr × Obj)} {σ : L2.St} {H : Hp} {s : Shared}
end
section
variable {X : Cx}
end
section
variable {P : Program} {w : World} {K : PySem.W.Frag} {d : Addr} {o : Obj} {es : Array DictEntry} {ep : Nat}
end
end MV
namespace MV
open PySem PySem.Spec PyProof.Rows L2
section
variable {K : PySem.W.Frag} {as : List Addr} {H : Hp} {M : Mem}
end
section
variable {X : Cx} {W : WX} {e : Expr} {me : ME} {pos : Pos}
end
section
variable {X : Cx} {W : WX}
end
section
variable {X : Cx} {W : WX} {e : Expr} {me : ME}
end
section
variable {K : PySem.W.Frag} {as : List Addr} {H : Hp} {M : Mem}
end
section
variable {X : Cx} {W : WX} {kx vx tg iter : Expr} {ifs : List Expr} {scope : Scope} {own : List (Str × Nat)} {pos spos : Pos} {mi : MI} {T : Tg} {tt : MT} {mk mv : ME}
end
section
variable {X : Cx}
end
section
variable {X : Cx} {W : WX} {kx vx tg iter : Expr} {ifs : List Expr} {scope : Scope} {own : List (Str × Nat)} {pos spos : Pos} {mi : MI} {T : Tg} {tt : MT} {mk mv : ME}
end
section
variable {X : Cx} {W : WX} {st : Stmt} {e : Expr}
end
end MV
namespace MV
open PySem PySem.Spec PyProof.Rows L2
end MV
namespace MV
open PySem PySem.Spec PyProof.Rows L2
section
variable {X : Cx} {W : WX} {e o1 i1 o2 i2 : Expr} {me mo1 mi1 mo2 mi2 : ME} {pos p0 p1 p2 : Pos} {k : Nat}
end
end MV
namespace MV
open PySem PySem.Spec PyProof.Rows L2
section
variable {prog : Program} {w : World} {A : Around} {E : Value → Shared → Prop} {s : Shared}
end
section
variable {X : Cx}
end
section
variable {X : Cx} {W : WX} {e : Expr} {me : ME} {pos : Pos}
end
end MV
namespace MV
open PySem PySem.Spec PyProof.Rows L2
theorem DpAll.len {K : PySem.W.Frag} {H : Hp} : ∀ {xs : List V} {ds : List PyData}, DpAll K H xs ds → xs.length = ds.length
  | _, _, .nil => rfl
  | _, _, .cons _ r => by simp only [List.length_cons, DpAll.len r]
end MV
namespace MV
open PySem PySem.Spec PyProof.Rows L2
end MV
namespace MV
open PySem PySem.Spec PyProof.Rows L2
section
variable {M : Model} {prog : Program} {w : World} {A : Around} {E : Value → Shared → Prop} {s : Shared} {K : PySem.W.Frag} {x C L f : Addr} {h₀ : Heap} {mm : Str → Option Value} {ox : Obj} {od : Option Obj} {b tb : Value}
theorem ifBound_objNe {args : List Value} {Q : Option Value → Shared → Prop} (X : K.In s.heap) (I : PySem.W.InstAt s.heap x ox C od) (hs : PySem.W.findIn K (.ref C) "__ne__" = some (some (.builtin "object.__ne__")))
    (h : wpAny M A (call (.builtin "object.__ne__") (.ref x :: args)) (fun v => Q (some v)) E s) : wpAny M A (callSpecialIfBound? (.ref x) "__ne__" args) Q E s := by
  simp only [callSpecialIfBound?, bindSpecialIfBound?]
  refine wpAny_holding (wpAny_bind (wpAny_bind (wpAny_bind (I.type.here ((PySem.W.looks_findIn X hs).here ?_)))))
  refine wpAny_bind (wpAny_askSetting (wpAny_ite ?_))
  have fin : wpAny M A (call (.builtin "object.__ne__") ([.ref x] ++ args) >>= fun v => pure (some v)) Q E s := wpAny_bind (wpAny_mono h (fun v s' h' => wpAny_pure h') fun _ _ h' => h')
  split
  · exact wpAny_bind (wpAny_of_eq (F.cmp_object.ne.bind _) (wpAny_pure (by exact fin)))
  · exact wpAny_tryCatch (wpAny_bind (wpAny_of_eq (F.cmp_object.ne.bind _) (wpAny_pure (by exact fin))))
theorem ne_entry {Q : Fin → Shared → Prop} (hu : A.units < cLine) (X : K.In s.heap) (I : PySem.W.InstAt s.heap x ox C od) (hs : PySem.W.findIn K (.ref C) "__eq__" = some (some (.ref f))) (hf : PySem.W.isFn K (.ref f) = true)
    (h : wpAny (model prog w) A (call (.ref f) [.ref x, b]) (fun v s' => ∃ z, v = .bool z ∧ Q (.done (.ret (.bool (!z)))) s') E s) : wpAny (model prog w) A (Builtin.«object.__ne__» ⟨[.ref x, b], []⟩) Q E s := by
  unfold Builtin.«object.__ne__»
  repeat (first
    | with_reducible refine wpAny_cRoomFor hu ?_
    | (refine wpAny_bind (m := callSpecialIfBound? (.ref x) (Str.ofString "__eq__") [b])
        (PySem.W.ifBound_K X I hs hf (wpAny_mono h (fun r s' hr => by
          obtain ⟨b, rfl, hq⟩ := hr
          repeat (first | exact hq | exact wpAny_pure hq | exact wpAny_truthy_bool hq | (refine wpAny_bind (m := truthy (.bool _)) (wpAny_truthy_bool ?_)) | wp_step)) fun _ _ e => e)))
    | wp_step)
theorem cmpNe_K {Q : Value → Shared → Prop} (hu : A.units + 1 < cLine) (F : Fr h₀ L s.heap mm) (X₀ : K.In h₀) (I : PySem.W.InstAt s.heap x ox C od) (hb : PySem.W.Looks (model prog w) s.heap (typeOf b) tb) (hn : PySem.W.notFirst K C tb = true)
    (hne : PySem.W.findIn K (.ref C) "__ne__" = some (some (.builtin "object.__ne__"))) (hm : PySem.W.mroIn K C (.type "object") = some true)
    (hs : PySem.W.findIn K (.ref C) "__eq__" = some (some (.ref f))) (hf : PySem.W.isFn K (.ref f) = true)
    (h : wpAny (model prog w) A.in1 (call (.ref f) [.ref x, b]) (fun v s' => ∃ z, v = .bool z ∧ Q (.bool (!z)) s') E s) : wpAny (model prog w) A (richCompare .NotEq (.ref x) b) Q E s := by
  have X := X₀.keeps F.keep
  have one : wpAny (model prog w) A (tryCompare (.ref x) "__ne__" b) (fun r s' => ∃ v, r = some v ∧ Q v s') E s := by
    unfold tryCompare
    refine wpAny_bind (ifBound_objNe X I hne (wpAny_call (codeAny_call_builtin PySem.F.cmp_object.ne.plain PySem.F.cmpEntry_ne (PySem.W.check_slot PySem.F.cmpKind_ne PySem.F.cmpSplit_ne (I.type.andThen (PySem.W.looks_mroIn X hm)) (PySem.F.cmpArgs_ne _ _) (ne_entry (A := A.in1) hu X I hs hf (wpAny_mono h (fun v s' hv => ?_) fun _ _ e => e))))))
    obtain ⟨z, rfl, hq⟩ := hv
    exact ⟨z, rfl, wpAny_pure ⟨_, rfl, hq⟩⟩
  unfold richCompare
  simp only [oneThing_ref]
  refine wpAny_holding (wpAny_bind (wpAny_cRoomFor (Nat.lt_of_succ_lt hu) ?_))
  rw [cmpInfo_NotEq]
  dsimp only
  refine wpAny_bind (I.type.here (wpAny_bind (hb.here ?_)))
  split
  · rename_i q
    have e : PySem.W.subIn K tb (.ref C) = some false := by
      rcases Bool.or_eq_true_iff.mp hn with e | e
      · rw [beq_iff_eq.mp e] at q; simp at q
      · exact beq_iff_eq.mp e
    refine wpAny_bind ((PySem.W.looks_subIn X e).here ?_)
    simp only [Bool.false_eq_true, if_false]
    refine wpAny_bind (wpAny_mono one (fun r s' z => ?_) fun _ _ e => e)
    obtain ⟨v, rfl, hq⟩ := z
    exact wpAny_pure hq
  · refine wpAny_bind (wpAny_pure ?_)
    simp only [Bool.false_eq_true, if_false]
    refine wpAny_bind (wpAny_mono one (fun r s' z => ?_) fun _ _ e => e)
    obtain ⟨v, rfl, hq⟩ := z
    exact wpAny_pure hq
end
def ownNB (K : PySem.W.Frag) (c : Str) : Bool := decide (PySem.W.findIn K (.ref (He.ga K c)) "__ne__" = some (some (.builtin "object.__ne__"))) && decide (PySem.W.mroIn K (He.ga K c) (.type "object") = some true)
structure OwnN (K : PySem.W.Frag) (c : Str) : Prop where
  ne : PySem.W.findIn K (.ref (He.ga K c)) "__ne__" = some (some (.builtin "object.__ne__"))
  mro : PySem.W.mroIn K (He.ga K c) (.type "object") = some true
theorem ownN_ok {K : PySem.W.Frag} {cs : List Str} (h : cs.all (ownNB K) = true) : ∀ c ∈ cs, OwnN K c := fun c hc => by
  obtain ⟨h1, h2⟩ := Bool.and_eq_true_iff.mp (List.all_eq_true.mp h c hc)
  exact ⟨of_decide_eq_true h1, of_decide_eq_true h2⟩
def notV (Q : VK) : VK := fun v H => match v with
  | .bl z => Q (.bl (!z)) H
  | _ => False
def notD (Q : DK) : DK := fun d M => match d with
  | .bl z => Q (.bl (!z)) M
  | _ => False
def oNeO (cs : List Str) (c : Str) (w : WF) (gD : List D → List D → List D) : OP := fun x y M Q => oEqO cs c w gD x y M (notD Q)
def rNeO (K : PySem.W.Frag) (c : Str) (N : Nat) (w : WF) (gV : List V → List V → List V) : R2 := fun x y H Q => rEqO K c N w gV x y H (notV Q)
section
variable {X : Cx} {W : WX} {c : Str} {k : Nat} {ps : List Str} {w : WF} {gD : List D → List D → List D} {f : Addr} {gV : List V → List V → List V}
theorem op_neO {fd : FuncData} {g : List Value → List Value → List Value} {N : Nat} (hN : OwnN X.K c) (hmt : Meth X.K (He.ga X.K c) "__eq__" f) (F : FnOk X.prog X.w X.K X.mg X.base (L2.CX X.prog X.w) k f fd ps (spM X.K N w)) (hr : Room (k + 2) X.A) (hb : KBn X.K fd ps 2 [] g gV) : OpR X (compareOp .NotEq) (rNeO X.K c N w gV) := by
  rintro pins s σ H x y v u Q I rx ry ⟨a, dx, fs, t, rfl, ha, ty, hn, hsp⟩
  obtain rfl : v = Value.ref a := rx
  obtain ⟨mA, J, _⟩ := ins_get I.hok ha
  obtain ⟨od, J, _⟩ := J.look
  obtain ⟨m, hF⟩ := I.fr
  obtain ⟨P, Z, hP, _⟩ := kit_of I ry ty
  have hr2 : Room k X.A.in1 := (hr.mono (by omega)).in1
  have hu := hr.units
  show wpAny _ _ (richCompare .NotEq (.ref a) u) _ _ _
  refine cmpNe_K (tb := t) (by omega) hF I.ok.mod.kin J (Z.ty _ _ I.kIn hP) hn hN.ne hN.mro hmt.at_ hmt.fn ?_
  refine run_own2 F hr2 rfl hb I ry hsp fun v u H' s' I' rv q => ?_
  obtain ⟨⟨z, rfl⟩, q⟩ := q
  obtain rfl : u = Value.bool z := rv
  exact ⟨z, rfl, .bl (!z), H', I', rfl, q⟩
theorem sim_neO {cs all : List Str} {N : Nat} (C : ClsN X.K cs all) (T : OwnC X.K cs c)
    (hrel : ∀ (as : List Addr) (H : Hp) (ds es : List D) (vs zs : List V), ds.length = 2 → es.length = 0 → RelL X.K as H ds vs → RelL X.K as H es zs → RelL X.K as H (gD ds es) (gV vs zs)) (hgl : ∀ (ds es : List D), ds.length = 2 → es.length = 0 → (gD ds es).length = N) : SimO X.K (rNeO X.K c N w gV) (oNeO cs c w gD) := fun as H M dx dy x y k Q rp rx ry h hk => by
  refine sim_eqO C T hrel hgl as H M dx dy x y (notD k) (notV Q) rp rx ry h fun d M' q as' H' v e r' rd => ?_
  cases rd <;> first | exact q.elim | exact hk _ M' q as' H' _ e r' (.bl _)
theorem qe_neO {cs all : List Str} {a b : Expr} {ma mb : ME} {pos : Pos} (C : ClsN X.K cs all) (T : OwnC X.K cs c) (hN : OwnN X.K c) (hmt : Meth X.K (He.ga X.K c) "__eq__" f) (F : Fn X.prog X.w X.K X.mg X.base k f ps w 2 [] gD) (hr : Room (k + 2) X.A) (hgl : ∀ (ds es : List D), ds.length = 2 → es.length = ([] : List Str).length → (gD ds es).length = ps.length) (ha : QE X W a ma) (hb : QE X W b mb) :
    QE X W (.Compare a [.NotEq] [b] pos) (mOp (oNeO cs c w gD) ma mb) := by
  obtain ⟨⟨fd, G, ⟨g, gV, hb', hrel⟩⟩, kp⟩ := F
  exact qe_cmp (op_neO hN hmt G hr hb') (sim_neO C T hrel hgl) ha hb (nomark _)
end
end MV
namespace MV
open PySem PySem.Spec PyProof.Rows L2
structure FmtO (K : PySem.W.Frag) (c : Str) : Prop where
  fm : PySem.W.findIn K (.ref (He.ga K c)) "__format__" = some (some (.builtin "object.__format__"))
  mro : PySem.W.mroIn K (He.ga K c) (.type "object") = some true
section
variable {X : Cx} {W : WX} {c x : Str} {e : Expr} {es : List Expr} {p pos : Pos} {ma : MA} {me : ME} {k : Nat} {ps : List Str} {w : WF} {gD : List D → List D → List D} {f : Addr} {gV : List V → List V → List V}
end
end MV
namespace Prf
open PySem L2 MV
def xfl : List Str := ["word", "name", "why", "number", "said", "dial", "most"]
def cfl : List Str := ["hours", "s_box", "t_box", "places", "roads"]
def ccs : List Str := ["Net"]
def xs_WeirError : List (Str × Src) := [("word", .arg 0)]
def xs_NetError : List (Str × Src) := [("word", .arg 0)]
def xs_BadBox : List (Str × Src) := [("dial", .arg 0), ("word", .word "bad box")]
def xs_BadHours : List (Str × Src) := [("number", .arg 0), ("word", .word "bad hours")]
def xs_FormError : List (Str × Src) := [("word", .arg 0)]
def xs_BadName : List (Str × Src) := [("name", .arg 0), ("word", .word "bad name")]
def xs_BadRungs : List (Str × Src) := [("name", .arg 0), ("word", .word "bad rungs")]
def xs_BadTakes : List (Str × Src) := [("number", .arg 0), ("word", .word "bad takes")]
def xs_Below : List (Str × Src) := [("name", .arg 0), ("word", .word "below")]
def xs_Falls : List (Str × Src) := [("name", .arg 0), ("word", .word "falls")]
def xs_NoHour : List (Str × Src) := [("number", .arg 0), ("word", .word "no hour")]
def xs_NoPlace : List (Str × Src) := [("name", .arg 0), ("word", .word "no place")]
def xs_NoRoad : List (Str × Src) := [("name", .arg 0), ("word", .word "no road")]
def xs_Taken : List (Str × Src) := [("name", .arg 0), ("word", .word "taken")]
def xs_TooFar : List (Str × Src) := [("number", .arg 0), ("word", .word "too far")]
def xs_TooMany : List (Str × Src) := [("most", .arg 0), ("word", .word "too many")]
def N_Lfeed : List Str := ["_law_script"]
def m_Lfeed : MS :=
  (mRet (mCB oLst (mCons (mCB oList1 (mCons (mSl (mVar 0) mNoPart (mPart (mC (.int 63)))) mNil)) (mCons (mC (.int 0)) (mCons (mC (.int 0)) (mCons (mC (.int 1)) mNil))))))
def w_Lfeed : WF := wOf N_Lfeed m_Lfeed
def N_Ldraw : List Str := ["_law_feed_here", "_law_many", "_law_got", "_law_cell", "_law_spread"]
def m_Ldraw : MS :=
  (mSeq (mIfS (mB (mOp oGt (mOp oIx (mVar 0) (mC (.int 2))) (mC (.int 0)))) (mSeq (mSet 2 (mOp oMod (mOp oIx (mVar 0) (mC (.int 2))) (mVar 1)))
    (mSeq (mSetIx (mOp oDiv (mOp oIx (mVar 0) (mC (.int 2))) (mVar 1)) (mVar 0) (mC (.int 2)))
    (mRet (mVar 2)))) mNext)
    (mSeq (mSet 3 (mC (.int 0)))
    (mSeq (mIfS (mB (mOp oLt (mOp oIx (mVar 0) (mC (.int 1))) (mCB oLen (mCons (mOp oIx (mVar 0) (mC (.int 0))) mNil)))) (mSeq (mSet 3 (mOp oIx (mOp oIx (mVar 0) (mC (.int 0))) (mOp oIx (mVar 0) (mC (.int 1)))))
    (mSetIx (mOp oAdd (mOp oIx (mVar 0) (mC (.int 1))) (mC (.int 1))) (mVar 0) (mC (.int 1)))) mNext)
    (mSeq (mIfS (mB (mOp oGe (mVar 3) (mC (.int 1000000000000000000)))) (mSeq (mSetIx (mOp oDiv (mVar 3) (mVar 1)) (mVar 0) (mC (.int 2)))
    (mRet (mOp oMod (mVar 3) (mVar 1)))) mNext)
    (mSeq (mSetIx (mOp oMod (mOp oAdd (mOp oAdd (mOp oMul (mOp oIx (mVar 0) (mC (.int 3))) (mC (.int 48271))) (mOp oMod (mVar 3) (mC (.int 1000003)))) (mC (.int 11))) (mC (.int 2147483647))) (mVar 0) (mC (.int 3)))
    (mSeq (mSet 4 (mOp oIx (mCB oLst (mCons (mOp oIx (mVar 0) (mC (.int 3))) (mCons (mOp oPow (mOp oIx (mVar 0) (mC (.int 3))) (mC (.int 4))) mNil))) (mCB oInt1 (mCons (mOp oGt (mVar 1) (mC (.int 100000))) mNil))))
    (mRet (mOp oMod (mOp oAdd (mOp oDiv (mVar 4) (mC (.int 16))) (mVar 3)) (mVar 1)))))))))
def w_Ldraw : WF := wOf N_Ldraw m_Ldraw
def N_Lnames : List Str := ["_law_feed_here", "_law_many", "_law_signs", "_law_found", "_law_k", "_law_name", "_law_j"]
def m_Lnames : MS :=
  (mSeq (mSet 2 (mC (.str "abcdefghijklmnopqrstuvwxyz0123456789")))
    (mSeq (mSet 3 (mCB oLst mNil))
    (mSeq (mFor (mIRng1 (mCons (mVar 1) mNil)) (.nm 4) (mSeq (mSet 5 (mOp oIx (mVar 2) (mCall w_Ldraw 2 0 (fun ds _ => ds) (mArgsP (mCons (mVar 0) (mCons (mC (.int 26)) mNil))))))
    (mSeq (mFor (mIRng1 (mCons (mCall w_Ldraw 2 0 (fun ds _ => ds) (mArgsP (mCons (mVar 0) (mCons (mC (.int 4)) mNil)))) mNil)) (.nm 6) (mSet 5 (mOp oAdd (mVar 5) (mOp oIx (mVar 2) (mCall w_Ldraw 2 0 (fun ds _ => ds) (mArgsP (mCons (mVar 0) (mCons (mC (.int 36)) mNil))))))))
    (mSeq (mIfS (mB (mOp oIn (mVar 5) (mVar 3))) (mSet 5 (mOp oAdd (mC (.str "qqqqqqq")) (mOp oIx (mVar 2) (mOp oMod (mVar 4) (mC (.int 36)))))) mNext)
    (mDrop (mBM "list" omAppend (mVar 3) (mCons (mVar 5) mNil)))))))
    (mRet (mVar 3)))))
def w_Lnames : WF := wOf N_Lnames m_Lnames
def N_Lroom : List Str := ["_law_feed_here", "_law_top", "_law_pair", "_law_base", "_law_step", "_law_least"]
def m_Lroom : MS :=
  (mSeq (mSet 3 (mCall w_Ldraw 2 0 (fun ds _ => ds) (mArgsP (mCons (mVar 0) (mCons (mOp oAdd (mVar 1) (mC (.int 1))) mNil)))))
    (mSeq (mSet 4 (mOp oSub (mCall w_Ldraw 2 0 (fun ds _ => ds) (mArgsP (mCons (mVar 0) (mCons (mC (.int 3)) mNil)))) (mC (.int 1))))
    (mSeq (mSet 5 (mCB oMin2 (mCons (mOp oAdd (mVar 3) (mOp oMul (mVar 4) (mOp oIx (mVar 2) (mC (.int 0))))) (mCons (mOp oAdd (mVar 3) (mOp oMul (mVar 4) (mOp oIx (mVar 2) (mC (.int 1))))) mNil))))
    (mSeq (mIfS (mB (mOp oLt (mVar 5) (mC (.int 0)))) (mSet 3 (mOp oSub (mVar 3) (mVar 5))) mNext)
    (mRet (mCB oTup (mCons (mVar 3) (mCons (mVar 4) mNil))))))))
def w_Lroom : WF := wOf N_Lroom m_Lroom
def N_Lsome_place : List Str := ["_law_feed_here", "_law_name", "_law_clock", "_law_pair", "_law_room_here", "_law_kept", "_law_price", "_law_hour"]
def m_Lsome_place : MS :=
  (mSeq (mSet 4 (mC .non))
    (mSeq (mIfS (mB (mOp oEq (mCall w_Ldraw 2 0 (fun ds _ => ds) (mArgsP (mCons (mVar 0) (mCons (mC (.int 6)) mNil)))) (mC (.int 0)))) (mSet 4 (mCall w_Lroom 3 0 (fun ds _ => ds) (mArgsP (mCons (mVar 0) (mCons (mC (.int 9)) (mCons (mVar 3) mNil)))))) mNext)
    (mSeq (mSet 5 (mCB oTup (mCons (mC (.int 0)) (mCons (mC (.int 0)) mNil))))
    (mSeq (mSet 6 (mCB oTup (mCons (mC (.int 0)) (mCons (mC (.int 0)) mNil))))
    (mSeq (mIfS (mB (mOp oEq (mCall w_Ldraw 2 0 (fun ds _ => ds) (mArgsP (mCons (mVar 0) (mCons (mC (.int 3)) mNil)))) (mC (.int 0)))) (mSeq (mSet 5 (mCall w_Lroom 3 0 (fun ds _ => ds) (mArgsP (mCons (mVar 0) (mCons (mC (.int 5)) (mCons (mVar 3) mNil))))))
    (mSeq (mIfS (mB (mOp oEq (mCall w_Ldraw 2 0 (fun ds _ => ds) (mArgsP (mCons (mVar 0) (mCons (mC (.int 2)) mNil)))) (mC (.int 0)))) (mSet 5 (mC .non)) mNext)
    (mIfS (mB (mOp oNe (mVar 5) (mCB oTup (mCons (mC (.int 0)) (mCons (mC (.int 0)) mNil))))) (mSet 6 (mCB oTup (mCons (mOp oSub (mCall w_Ldraw 2 0 (fun ds _ => ds) (mArgsP (mCons (mVar 0) (mCons (mC (.int 5)) mNil)))) (mC (.int 1))) (mCons (mOp oSub (mCall w_Ldraw 2 0 (fun ds _ => ds) (mArgsP (mCons (mVar 0) (mCons (mC (.int 3)) mNil)))) (mC (.int 1))) mNil)))) mNext))) mNext)
    (mRet (mCB oLst (mCons (mVar 1) (mCons (mVar 4) (mCons (mVar 5) (mCons (mVar 6) (mCons (mLc (mIRng1 (mCons (mVar 2) mNil)) (.nm 7) mYes (mCB oTup (mCons (mC (.int 0)) (mCons (mC (.int 0)) mNil))) [7]) mNil))))))))))))
def w_Lsome_place : WF := wOf N_Lsome_place m_Lsome_place
def N_Lsome_rungs : List Str := ["_law_feed_here", "_law_s_pair", "_law_t_pair", "_law_ladder", "_law_price", "_law_k", "_law_more"]
def m_Lsome_rungs : MS :=
  (mSeq (mSet 3 (mCB oLst mNil))
    (mSeq (mSet 4 (mCB oTup (mCons (mOp oSub (mCall w_Ldraw 2 0 (fun ds _ => ds) (mArgsP (mCons (mVar 0) (mCons (mC (.int 9)) mNil)))) (mC (.int 2))) (mCons (mOp oSub (mCall w_Ldraw 2 0 (fun ds _ => ds) (mArgsP (mCons (mVar 0) (mCons (mC (.int 3)) mNil)))) (mC (.int 1))) mNil))))
    (mSeq (mFor (mIRng1 (mCons (mOp oAdd (mC (.int 1)) (mOp oDiv (mCall w_Ldraw 2 0 (fun ds _ => ds) (mArgsP (mCons (mVar 0) (mCons (mC (.int 3)) mNil)))) (mC (.int 2)))) mNil)) (.nm 5) (mSeq (mSet 6 (mCall w_Lroom 3 0 (fun ds _ => ds) (mArgsP (mCons (mVar 0) (mCons (mC (.int 3)) (mCons (mVar 2) mNil))))))
    (mSeq (mIfS (mB (mOp oGt (mVar 5) (mC (.int 0)))) (mSet 4 (mCB oTup (mCons (mOp oAdd (mOp oIx (mVar 4) (mC (.int 0))) (mOp oIx (mVar 6) (mC (.int 0)))) (mCons (mOp oAdd (mOp oIx (mVar 4) (mC (.int 1))) (mOp oIx (mVar 6) (mC (.int 1)))) mNil)))) mNext)
    (mDrop (mBM "list" omAppend (mVar 3) (mCons (mCB oTup (mCons (mCall w_Lroom 3 0 (fun ds _ => ds) (mArgsP (mCons (mVar 0) (mCons (mC (.int 4)) (mCons (mVar 1) mNil))))) (mCons (mVar 4) mNil))) mNil))))))
    (mSeq (mIfS (mB (mOp oEq (mCall w_Ldraw 2 0 (fun ds _ => ds) (mArgsP (mCons (mVar 0) (mCons (mC (.int 2)) mNil)))) (mC (.int 0)))) (mSetIx (mCB oTup (mCons (mC .non) (mCons (mOp oIx (mOp oIx (mVar 3) (mUn oNeg (mC (.int 1)))) (mC (.int 1))) mNil))) (mVar 3) (mUn oNeg (mC (.int 1)))) mNext)
    (mRet (mCB oTuple1 (mCons (mVar 3) mNil)))))))
def w_Lsome_rungs : WF := wOf N_Lsome_rungs m_Lsome_rungs
def N_Lsome_road : List Str := ["_law_feed_here", "_law_name", "_law_ends", "_law_clock", "_law_s_pair", "_law_t_pair", "_law_start", "_law_end", "_law_delay", "_law_ground"]
def m_Lsome_road : MS :=
  (mSeq (mSet 6 (mOp oIx (mVar 2) (mCall w_Ldraw 2 0 (fun ds _ => ds) (mArgsP (mCons (mVar 0) (mCons (mCB oLen (mCons (mVar 2) mNil)) mNil))))))
    (mSeq (mSet 7 (mOp oIx (mVar 2) (mCall w_Ldraw 2 0 (fun ds _ => ds) (mArgsP (mCons (mVar 0) (mCons (mCB oLen (mCons (mVar 2) mNil)) mNil))))))
    (mSeq (mSet 8 (mC (.int 0)))
    (mSeq (mIfS (mB (mOp oGt (mVar 3) (mC (.int 1)))) (mSet 8 (mCall w_Ldraw 2 0 (fun ds _ => ds) (mArgsP (mCons (mVar 0) (mCons (mC (.int 2)) mNil))))) mNext)
    (mSeq (mSet 9 (mCB oTup (mCons (mC (.int 0)) (mCons (mC (.int 0)) mNil))))
    (mSeq (mIfS (mB (mOp oEq (mCall w_Ldraw 2 0 (fun ds _ => ds) (mArgsP (mCons (mVar 0) (mCons (mC (.int 3)) mNil)))) (mC (.int 0)))) (mSet 9 (mCall w_Lroom 3 0 (fun ds _ => ds) (mArgsP (mCons (mVar 0) (mCons (mC (.int 2)) (mCons (mVar 4) mNil)))))) mNext)
    (mRet (mCB oLst (mCons (mVar 1) (mCons (mVar 6) (mCons (mVar 7) (mCons (mVar 8) (mCons (mVar 9) (mCons (mCall w_Lsome_rungs 3 0 (fun ds _ => ds) (mArgsP (mCons (mVar 0) (mCons (mVar 4) (mCons (mVar 5) mNil))))) mNil))))))))))))))
def w_Lsome_road : WF := wOf N_Lsome_road m_Lsome_road
def N_Lbare : List Str := ["_law_feed_here", "_law_places", "_law_roads", "_law_clock", "_law_many", "_law_count", "_law_names_here", "_law_low", "_law_s_pair", "_law_t_pair", "_law_told", "_law_name"]
def m_Lbare : MS :=
  (mSeq (mSet 4 (mOp oAdd (mC (.int 1)) (mCall w_Ldraw 2 0 (fun ds _ => ds) (mArgsP (mCons (mVar 0) (mCons (mVar 1) mNil))))))
    (mSeq (mSet 5 (mCall w_Ldraw 2 0 (fun ds _ => ds) (mArgsP (mCons (mVar 0) (mCons (mOp oAdd (mVar 2) (mC (.int 1))) mNil)))))
    (mSeq (mSet 6 (mCall w_Lnames 2 0 (fun ds _ => ds) (mArgsP (mCons (mVar 0) (mCons (mOp oAdd (mVar 4) (mVar 5)) mNil)))))
    (mSeq (mSet 7 (mOp oSub (mCall w_Ldraw 2 0 (fun ds _ => ds) (mArgsP (mCons (mVar 0) (mCons (mC (.int 5)) mNil)))) (mC (.int 2))))
    (mSeq (mSet 8 (mCB oTup (mCons (mVar 7) (mCons (mOp oAdd (mVar 7) (mCall w_Ldraw 2 0 (fun ds _ => ds) (mArgsP (mCons (mVar 0) (mCons (mC (.int 5)) mNil))))) mNil))))
    (mSeq (mSet 7 (mOp oSub (mCall w_Ldraw 2 0 (fun ds _ => ds) (mArgsP (mCons (mVar 0) (mCons (mC (.int 5)) mNil)))) (mC (.int 2))))
    (mSeq (mSet 9 (mCB oTup (mCons (mVar 7) (mCons (mOp oAdd (mVar 7) (mCall w_Ldraw 2 0 (fun ds _ => ds) (mArgsP (mCons (mVar 0) (mCons (mC (.int 5)) mNil))))) mNil))))
    (mSeq (mSet 3 (mOp oAdd (mC (.int 1)) (mCall w_Ldraw 2 0 (fun ds _ => ds) (mArgsP (mCons (mVar 0) (mCons (mVar 3) mNil))))))
    (mSeq (mSet 10 (mDisp (((mC (.str "hours")), (mVar 3)) :: ((mC (.str "s")), (mVar 8)) :: ((mC (.str "t")), (mVar 9)) :: ((mC (.str "places")), (mCB oLst mNil)) :: ((mC (.str "roads")), (mCB oLst mNil)) :: ((mC (.str "plan")), (mCB oLst mNil)) :: [])))
    (mSeq (mFor (mISeq (mSl (mVar 6) mNoPart (mPart (mVar 4)))) (.nm 11) (mDrop (mBM "list" omAppend (mOp oIx (mVar 10) (mC (.str "places"))) (mCons (mCall w_Lsome_place 4 0 (fun ds _ => ds) (mArgsP (mCons (mVar 0) (mCons (mVar 11) (mCons (mVar 3) (mCons (mVar 8) mNil)))))) mNil))))
    (mSeq (mFor (mISeq (mSl (mVar 6) (mPart (mVar 4)) mNoPart)) (.nm 11) (mDrop (mBM "list" omAppend (mOp oIx (mVar 10) (mC (.str "roads"))) (mCons (mCall w_Lsome_road 6 0 (fun ds _ => ds) (mArgsP (mCons (mVar 0) (mCons (mVar 11) (mCons (mSl (mVar 6) mNoPart (mPart (mVar 4))) (mCons (mVar 3) (mCons (mVar 8) (mCons (mVar 9) mNil)))))))) mNil))))
    (mRet (mVar 10)))))))))))))
def w_Lbare : WF := wOf N_Lbare m_Lbare
def N_check_number : List Str := ["number", "far"]
def m_check_number : MS :=
  (mIfS (mNot (mB (mChain oLe oLe (mUn oNeg (mVar 1)) (mVar 0) (mVar 1)))) (mRaise "TooFar" 1 xs_TooFar (mCons (mVar 0) mNil)) mNext)
def w_check_number : WF := wOf N_check_number m_check_number
def N_check_box : List Str := ["dial", "pair", "far"]
def m_check_box : MS :=
  (mSeq (mDrop (mCall w_check_number 2 0 (fun ds _ => ds) (mArgsP (mCons (mOp oIx (mVar 1) (mC (.int 0))) (mCons (mVar 2) mNil)))))
    (mSeq (mDrop (mCall w_check_number 2 0 (fun ds _ => ds) (mArgsP (mCons (mOp oIx (mVar 1) (mC (.int 1))) (mCons (mVar 2) mNil)))))
    (mIfS (mB (mOp oGt (mOp oIx (mVar 1) (mC (.int 0))) (mOp oIx (mVar 1) (mC (.int 1))))) (mRaise "BadBox" 1 xs_BadBox (mCons (mVar 0) mNil)) mNext)))
def w_check_box : WF := wOf N_check_box m_check_box
def N_Net_UinitU : List Str := ["self", "hours", "s_box", "t_box"]
def m_Net_UinitU : MS :=
  (mSeq (mIfS (mNot (mB (mChain oLe oLe (mC (.int 1)) (mVar 1) (mC (.int 6))))) (mRaise "BadHours" 1 xs_BadHours (mCons (mVar 1) mNil)) mNext)
    (mSeq (mDrop (mCall w_check_box 3 0 (fun ds _ => ds) (mArgsP (mCons (mC (.str "s")) (mCons (mVar 2) (mCons (mC (.int 1000000)) mNil))))))
    (mSeq (mDrop (mCall w_check_box 3 0 (fun ds _ => ds) (mArgsP (mCons (mC (.str "t")) (mCons (mVar 3) (mCons (mC (.int 1000000)) mNil))))))
    (mSeq (mSetFld ccs (mVar 0) (mVar 1) "hours")
    (mSeq (mSetFld ccs (mVar 0) (mVar 2) "s_box")
    (mSeq (mSetFld ccs (mVar 0) (mVar 3) "t_box")
    (mSeq (mSetFld ccs (mVar 0) mDict0 "places")
    (mSetFld ccs (mVar 0) mDict0 "roads"))))))))
def w_Net_UinitU : WF := wOf N_Net_UinitU m_Net_UinitU
def N_check_name : List Str := ["name", "sign"]
def m_check_name : MS :=
  (mSeq (mIfS (mOr (mNot (mB (mChain oLe oLe (mC (.int 1)) (mCB oLen (mCons (mVar 0) mNil)) (mC (.int 8))))) (mB (mOp oNotIn (mOp oIx (mVar 0) (mC (.int 0))) (mC (.str "abcdefghijklmnopqrstuvwxyz"))))) (mRaise "BadName" 1 xs_BadName (mCons (mVar 0) mNil)) mNext)
    (mFor (mISeq (mVar 0)) (.nm 1) (mIfS (mB (mOp oNotIn (mVar 1) (mC (.str "abcdefghijklmnopqrstuvwxyz0123456789")))) (mRaise "BadName" 1 xs_BadName (mCons (mVar 0) mNil)) mNext)))
def w_check_name : WF := wOf N_check_name m_check_name
def N_Net_fresh : List Str := ["self", "name"]
def m_Net_fresh : MS :=
  (mSeq (mDrop (mCall w_check_name 1 0 (fun ds _ => ds) (mArgsP (mCons (mVar 1) mNil))))
    (mIfS (mOr (mB (mOp oIn (mVar 1) (mFld ccs (mVar 0) "places"))) (mB (mOp oIn (mVar 1) (mFld ccs (mVar 0) "roads")))) (mRaise "Taken" 1 xs_Taken (mCons (mVar 1) mNil)) mNext))
def w_Net_fresh : WF := wOf N_Net_fresh m_Net_fresh
def N_Net_set_place : List Str := ["self", "name", "told", "places"]
def m_Net_set_place : MS :=
  (mSeq (mSet 3 (mCB oDict1 (mCons (mFld ccs (mVar 0) "places") mNil)))
    (mSeq (mSetIx (mVar 2) (mVar 3) (mVar 1))
    (mSetFld ccs (mVar 0) (mVar 3) "places")))
def w_Net_set_place : WF := wOf N_Net_set_place m_Net_set_place
def N_Net_place : List Str := ["self", "name", "hour"]
def m_Net_place : MS :=
  (mSeq (mDrop (mMeth "Net" "fresh" w_Net_fresh 2 0 (fun ds _ => ds) (mVar 0) (mArgsP (mCons (mVar 1) mNil))))
    (mSeq (mIfS (mB (mOp oGe (mCB oLen (mCons (mFld ccs (mVar 0) "places") mNil)) (mC (.int 12)))) (mRaise "TooMany" 1 xs_TooMany (mCons (mC (.int 12)) mNil)) mNext)
    (mDrop (mMeth "Net" "set_place" w_Net_set_place 3 0 (fun ds _ => ds) (mVar 0) (mArgsP (mCons (mVar 1) (mCons (mCB oTup (mCons (mC .non) (mCons (mCB oTup (mCons (mC (.int 0)) (mCons (mC (.int 0)) mNil))) (mCons (mCB oTup (mCons (mC (.int 0)) (mCons (mC (.int 0)) mNil))) (mCons (mCB oTuple1 (mCons (mLc (mIRng1 (mCons (mFld ccs (mVar 0) "hours") mNil)) (.nm 2) mYes (mCB oTup (mCons (mC (.int 0)) (mCons (mC (.int 0)) mNil))) [2]) mNil)) mNil))))) mNil)))))))
def w_Net_place : WF := wOf N_Net_place m_Net_place
def N_Net_known : List Str := ["self", "name"]
def m_Net_known : MS :=
  (mSeq (mIfS (mB (mOp oNotIn (mVar 1) (mFld ccs (mVar 0) "places"))) (mRaise "NoPlace" 1 xs_NoPlace (mCons (mVar 1) mNil)) mNext)
    (mRet (mOp oIx (mFld ccs (mVar 0) "places") (mVar 1))))
def w_Net_known : WF := wOf N_Net_known m_Net_known
def N_check_move : List Str := ["move", "far"]
def m_check_move : MS :=
  (mSeq (mDrop (mCall w_check_number 2 0 (fun ds _ => ds) (mArgsP (mCons (mOp oIx (mVar 0) (mC (.int 0))) (mCons (mVar 1) mNil)))))
    (mDrop (mCall w_check_number 2 0 (fun ds _ => ds) (mArgsP (mCons (mOp oIx (mVar 0) (mC (.int 1))) (mCons (mVar 1) mNil))))))
def w_check_move : WF := wOf N_check_move m_check_move
def N_sinks : List Str := ["move", "pair"]
def m_sinks : MS :=
  (mRet (mOrV (mOp oLt (mOp oAdd (mOp oIx (mVar 0) (mC (.int 0))) (mOp oMul (mOp oIx (mVar 0) (mC (.int 1))) (mOp oIx (mVar 1) (mC (.int 0))))) (mC (.int 0))) (mOp oLt (mOp oAdd (mOp oIx (mVar 0) (mC (.int 0))) (mOp oMul (mOp oIx (mVar 0) (mC (.int 1))) (mOp oIx (mVar 1) (mC (.int 1))))) (mC (.int 0)))))
def w_sinks : WF := wOf N_sinks m_sinks
def N_check_room : List Str := ["name", "room", "s_box"]
def m_check_room : MS :=
  (mIfS (mTru (mCall w_sinks 2 0 (fun ds _ => ds) (mArgsP (mCons (mVar 1) (mCons (mVar 2) mNil))))) (mRaise "Below" 1 xs_Below (mCons (mVar 0) mNil)) mNext)
def w_check_room : WF := wOf N_check_room m_check_room
def N_Net_through : List Str := ["self", "place", "room", "told"]
def m_Net_through : MS :=
  (mSeq (mSet 3 (mMeth "Net" "known" w_Net_known 2 0 (fun ds _ => ds) (mVar 0) (mArgsP (mCons (mVar 1) mNil))))
    (mSeq (mIfS (mB (mOp oIsNot (mVar 2) (mC .non))) (mSeq (mDrop (mCall w_check_move 2 0 (fun ds _ => ds) (mArgsP (mCons (mVar 2) (mCons (mC (.int 1000000)) mNil)))))
    (mDrop (mCall w_check_room 3 0 (fun ds _ => ds) (mArgsP (mCons (mVar 1) (mCons (mVar 2) (mCons (mFld ccs (mVar 0) "s_box") mNil))))))) mNext)
    (mDrop (mMeth "Net" "set_place" w_Net_set_place 3 0 (fun ds _ => ds) (mVar 0) (mArgsP (mCons (mVar 1) (mCons (mOp oAdd (mCB oTup (mCons (mVar 2) mNil)) (mSl (mVar 3) (mPart (mC (.int 1))) mNoPart)) mNil)))))))
def w_Net_through : WF := wOf N_Net_through m_Net_through
def N_Net_store : List Str := ["self", "place", "room", "price", "told"]
def m_Net_store : MS :=
  (mSeq (mSet 4 (mMeth "Net" "known" w_Net_known 2 0 (fun ds _ => ds) (mVar 0) (mArgsP (mCons (mVar 1) mNil))))
    (mSeq (mIfS (mB (mOp oIsNot (mVar 2) (mC .non))) (mDrop (mCall w_check_move 2 0 (fun ds _ => ds) (mArgsP (mCons (mVar 2) (mCons (mC (.int 1000000)) mNil))))) mNext)
    (mSeq (mDrop (mCall w_check_move 2 0 (fun ds _ => ds) (mArgsP (mCons (mVar 3) (mCons (mC (.int 1000000)) mNil)))))
    (mSeq (mIfS (mB (mOp oIsNot (mVar 2) (mC .non))) (mDrop (mCall w_check_room 3 0 (fun ds _ => ds) (mArgsP (mCons (mVar 1) (mCons (mVar 2) (mCons (mFld ccs (mVar 0) "s_box") mNil)))))) mNext)
    (mSeq (mIfS (mB (mOp oEq (mVar 2) (mCB oTup (mCons (mC (.int 0)) (mCons (mC (.int 0)) mNil))))) (mSet 3 (mCB oTup (mCons (mC (.int 0)) (mCons (mC (.int 0)) mNil)))) mNext)
    (mDrop (mMeth "Net" "set_place" w_Net_set_place 3 0 (fun ds _ => ds) (mVar 0) (mArgsP (mCons (mVar 1) (mCons (mCB oTup (mCons (mOp oIx (mVar 4) (mC (.int 0))) (mCons (mVar 2) (mCons (mVar 3) (mCons (mOp oIx (mVar 4) (mC (.int 3))) mNil))))) mNil))))))))))
def w_Net_store : WF := wOf N_Net_store m_Net_store
def N_Net_want : List Str := ["self", "place", "hour", "move", "room", "kept", "price", "wants"]
def m_Net_want : MS :=
  (mSeq (mAsg (mMeth "Net" "known" w_Net_known 2 0 (fun ds _ => ds) (mVar 0) (mArgsP (mCons (mVar 1) mNil))) (.tp 4 (.cons (.nm 4) (.cons (.nm 5) (.cons (.nm 6) (.cons (.nm 7) .nil))))))
    (mSeq (mIfS (mNot (mB (mChain oLe oLe (mC (.int 1)) (mVar 2) (mFld ccs (mVar 0) "hours")))) (mRaise "NoHour" 1 xs_NoHour (mCons (mVar 2) mNil)) mNext)
    (mSeq (mDrop (mCall w_check_move 2 0 (fun ds _ => ds) (mArgsP (mCons (mVar 3) (mCons (mC (.int 1000000)) mNil)))))
    (mDrop (mMeth "Net" "set_place" w_Net_set_place 3 0 (fun ds _ => ds) (mVar 0) (mArgsP (mCons (mVar 1) (mCons (mCB oTup (mCons (mVar 4) (mCons (mVar 5) (mCons (mVar 6) (mCons (mOp oAdd (mOp oAdd (mSl (mVar 7) mNoPart (mPart (mOp oSub (mVar 2) (mC (.int 1))))) (mCB oTup (mCons (mVar 3) mNil))) (mSl (mVar 7) (mPart (mVar 2)) mNoPart)) mNil))))) mNil))))))))
def w_Net_want : WF := wOf N_Net_want m_Net_want
def N_check_rising : List Str := ["name", "rungs", "t_box", "k", "here", "ahead"]
def m_check_rising : MS :=
  (mFor (mIRng2 (mCons (mC (.int 1)) (mCons (mCB oLen (mCons (mVar 1) mNil)) mNil))) (.nm 3) (mSeq (mPar 4 5 (mCons (mOp oIx (mOp oIx (mVar 1) (mVar 3)) (mC (.int 1))) (mCons (mOp oIx (mOp oIx (mVar 1) (mOp oSub (mVar 3) (mC (.int 1)))) (mC (.int 1))) mNil)))
    (mIfS (mTru (mCall w_sinks 2 0 (fun ds _ => ds) (mArgsP (mCons (mCB oTup (mCons (mOp oSub (mOp oIx (mVar 4) (mC (.int 0))) (mOp oIx (mVar 5) (mC (.int 0)))) (mCons (mOp oSub (mOp oIx (mVar 4) (mC (.int 1))) (mOp oIx (mVar 5) (mC (.int 1)))) mNil))) (mCons (mVar 2) mNil))))) (mRaise "Falls" 1 xs_Falls (mCons (mVar 0) mNil)) mNext)))
def w_check_rising : WF := wOf N_check_rising m_check_rising
def N_check_rungs : List Str := ["name", "rungs", "s_box", "t_box", "most", "far", "room", "price"]
def m_check_rungs : MS :=
  (mSeq (mIfS (mNot (mB (mChain oLe oLe (mC (.int 1)) (mCB oLen (mCons (mVar 1) mNil)) (mVar 4)))) (mRaise "BadRungs" 1 xs_BadRungs (mCons (mVar 0) mNil)) mNext)
    (mSeq (mFor (mISeq (mSl (mVar 1) mNoPart (mPart (mUn oNeg (mC (.int 1)))))) (.tp 2 (.cons (.nm 6) (.cons (.nm 7) .nil))) (mIfS (mB (mOp oIs (mVar 6) (mC .non))) (mRaise "BadRungs" 1 xs_BadRungs (mCons (mVar 0) mNil)) mNext))
    (mSeq (mFor (mISeq (mVar 1)) (.tp 2 (.cons (.nm 6) (.cons (.nm 7) .nil))) (mSeq (mIfS (mB (mOp oIsNot (mVar 6) (mC .non))) (mDrop (mCall w_check_move 2 0 (fun ds _ => ds) (mArgsP (mCons (mVar 6) (mCons (mVar 5) mNil))))) mNext)
    (mSeq (mDrop (mCall w_check_move 2 0 (fun ds _ => ds) (mArgsP (mCons (mVar 7) (mCons (mVar 5) mNil)))))
    (mIfS (mB (mOp oIsNot (mVar 6) (mC .non))) (mDrop (mCall w_check_room 3 0 (fun ds _ => ds) (mArgsP (mCons (mVar 0) (mCons (mVar 6) (mCons (mVar 2) mNil)))))) mNext))))
    (mDrop (mCall w_check_rising 3 0 (fun ds _ => ds) (mArgsP (mCons (mVar 0) (mCons (mVar 1) (mCons (mVar 3) mNil)))))))))
def w_check_rungs : WF := wOf N_check_rungs m_check_rungs
def N_Net_set_road : List Str := ["self", "name", "told", "roads"]
def m_Net_set_road : MS :=
  (mSeq (mIfS (mNot (mB (mChain oLe oLe (mC (.int 0)) (mOp oIx (mVar 2) (mC (.int 2))) (mC (.int 9))))) (mRaise "BadTakes" 1 xs_BadTakes (mCons (mOp oIx (mVar 2) (mC (.int 2))) mNil)) mNext)
    (mSeq (mDrop (mCall w_check_move 2 0 (fun ds _ => ds) (mArgsP (mCons (mOp oIx (mVar 2) (mC (.int 3))) (mCons (mC (.int 1000000)) mNil)))))
    (mSeq (mDrop (mCall w_check_room 3 0 (fun ds _ => ds) (mArgsP (mCons (mVar 1) (mCons (mOp oIx (mVar 2) (mC (.int 3))) (mCons (mFld ccs (mVar 0) "s_box") mNil))))))
    (mSeq (mDrop (mCall w_check_rungs 4 2 (fun ds es => [ds.getD 0 .non, ds.getD 1 .non, ds.getD 2 .non, ds.getD 3 .non, es.getD 0 .non, es.getD 1 .non]) (mArgsPK (mCons (mVar 1) (mCons (mOp oIx (mVar 2) (mC (.int 4))) (mCons (mFld ccs (mVar 0) "s_box") (mCons (mFld ccs (mVar 0) "t_box") mNil)))) (mCons (mC (.int 4)) (mCons (mC (.int 1000000)) mNil)))))
    (mSeq (mSet 3 (mCB oDict1 (mCons (mFld ccs (mVar 0) "roads") mNil)))
    (mSeq (mSetIx (mVar 2) (mVar 3) (mVar 1))
    (mSetFld ccs (mVar 0) (mVar 3) "roads")))))))
def w_Net_set_road : WF := wOf N_Net_set_road m_Net_set_road
def N_Net_road : List Str := ["self", "name", "start", "end", "takes", "floor", "rungs"]
def m_Net_road : MS :=
  (mSeq (mDrop (mMeth "Net" "fresh" w_Net_fresh 2 0 (fun ds _ => ds) (mVar 0) (mArgsP (mCons (mVar 1) mNil))))
    (mSeq (mDrop (mMeth "Net" "known" w_Net_known 2 0 (fun ds _ => ds) (mVar 0) (mArgsP (mCons (mVar 2) mNil))))
    (mSeq (mDrop (mMeth "Net" "known" w_Net_known 2 0 (fun ds _ => ds) (mVar 0) (mArgsP (mCons (mVar 3) mNil))))
    (mSeq (mIfS (mB (mOp oGe (mCB oLen (mCons (mFld ccs (mVar 0) "roads") mNil)) (mC (.int 24)))) (mRaise "TooMany" 1 xs_TooMany (mCons (mC (.int 24)) mNil)) mNext)
    (mDrop (mMeth "Net" "set_road" w_Net_set_road 3 0 (fun ds _ => ds) (mVar 0) (mArgsP (mCons (mVar 1) (mCons (mCB oTup (mCons (mVar 2) (mCons (mVar 3) (mCons (mVar 4) (mCons (mVar 5) (mCons (mVar 6) mNil)))))) mNil)))))))))
def w_Net_road : WF := wOf N_Net_road m_Net_road
def N_Lmade : List Str := ["_law_told", "_law_net", "_law_name", "_law_room_here", "_law_kept", "_law_price", "_law_wants", "_law_k", "_law_start", "_law_end", "_law_delay", "_law_ground", "_law_ladder"]
def m_Lmade : MS :=
  (mSeq (mSet 1 (mMake "Net" w_Net_UinitU 1 3 (fun ds es => [ds.getD 0 .non, es.getD 0 .non, es.getD 1 .non, es.getD 2 .non]) (mArgsK (mCons (mOp oIx (mVar 0) (mC (.str "hours"))) (mCons (mOp oIx (mVar 0) (mC (.str "s"))) (mCons (mOp oIx (mVar 0) (mC (.str "t"))) mNil))))))
    (mSeq (mFor (mISeq (mOp oIx (mVar 0) (mC (.str "places")))) (.tp 5 (.cons (.nm 2) (.cons (.nm 3) (.cons (.nm 4) (.cons (.nm 5) (.cons (.nm 6) .nil)))))) (mSeq (mDrop (mMeth "Net" "place" w_Net_place 2 0 (fun ds _ => ds) (mVar 1) (mArgsP (mCons (mVar 2) mNil))))
    (mSeq (mDrop (mMeth "Net" "through" w_Net_through 3 0 (fun ds _ => ds) (mVar 1) (mArgsP (mCons (mVar 2) (mCons (mVar 3) mNil)))))
    (mSeq (mDrop (mMeth "Net" "store" w_Net_store 4 0 (fun ds _ => ds) (mVar 1) (mArgsP (mCons (mVar 2) (mCons (mVar 4) (mCons (mVar 5) mNil))))))
    (mFor (mIRng1 (mCons (mCB oLen (mCons (mVar 6) mNil)) mNil)) (.nm 7) (mDrop (mMeth "Net" "want" w_Net_want 4 0 (fun ds _ => ds) (mVar 1) (mArgsP (mCons (mVar 2) (mCons (mOp oAdd (mVar 7) (mC (.int 1))) (mCons (mOp oIx (mVar 6) (mVar 7)) mNil)))))))))))
    (mSeq (mFor (mISeq (mOp oIx (mVar 0) (mC (.str "roads")))) (.tp 6 (.cons (.nm 2) (.cons (.nm 8) (.cons (.nm 9) (.cons (.nm 10) (.cons (.nm 11) (.cons (.nm 12) .nil))))))) (mDrop (mMeth "Net" "road" w_Net_road 4 3 (fun ds es => [ds.getD 0 .non, ds.getD 1 .non, ds.getD 2 .non, ds.getD 3 .non, es.getD 0 .non, es.getD 1 .non, es.getD 2 .non]) (mVar 1) (mArgsPK (mCons (mVar 2) (mCons (mVar 8) (mCons (mVar 9) mNil))) (mCons (mVar 10) (mCons (mVar 11) (mCons (mVar 12) mNil)))))))
    (mRet (mVar 1)))))
def w_Lmade : WF := wOf N_Lmade m_Lmade
def N_Lcopy : List Str := ["_law_told", "_law_other", "_law_place", "_law_road"]
def m_Lcopy : MS :=
  (mSeq (mSet 1 (mCB oDict1 (mCons (mVar 0) mNil)))
    (mSeq (mSetIx (mLc (mISeq (mOp oIx (mVar 0) (mC (.str "places")))) (.nm 2) mYes (mOp oAdd (mSl (mVar 2) mNoPart (mPart (mC (.int 4)))) (mCB oLst (mCons (mCB oList1 (mCons (mOp oIx (mVar 2) (mC (.int 4))) mNil)) mNil))) [2]) (mVar 1) (mC (.str "places")))
    (mSeq (mSetIx (mLc (mISeq (mOp oIx (mVar 0) (mC (.str "roads")))) (.nm 3) mYes (mCB oList1 (mCons (mVar 3) mNil)) [3]) (mVar 1) (mC (.str "roads")))
    (mRet (mVar 1)))))
def w_Lcopy : WF := wOf N_Lcopy m_Lcopy
def N_Lpick : List Str := ["_law_feed_here", "_law_row"]
def m_Lpick : MS :=
  (mRet (mOp oIx (mVar 1) (mCall w_Ldraw 2 0 (fun ds _ => ds) (mArgsP (mCons (mVar 0) (mCons (mCB oLen (mCons (mVar 1) mNil)) mNil))))))
def w_Lpick : WF := wOf N_Lpick m_Lpick
def N_Lchanged : List Str := ["_law_feed_here", "_law_told", "_law_way", "_law_other", "_law_places", "_law_roads", "_law_place", "_law_road"]
def m_Lchanged : MS :=
  (mSeq (mSet 3 (mCall w_Lcopy 1 0 (fun ds _ => ds) (mArgsP (mCons (mVar 1) mNil))))
    (mSeq (mSet 4 (mOp oIx (mVar 3) (mC (.str "places"))))
    (mSeq (mSet 5 (mOp oIx (mVar 3) (mC (.str "roads"))))
    (mSeq (mSet 6 (mCall w_Lpick 2 0 (fun ds _ => ds) (mArgsP (mCons (mVar 0) (mCons (mVar 4) mNil)))))
    (mSeq (mIfS (mB (mOp oEq (mVar 2) (mC (.int 0)))) (mSetIx (mCB oTup (mCons (mOp oIx (mOp oIx (mVar 3) (mC (.str "s"))) (mC (.int 0))) (mCons (mOp oIx (mOp oIx (mVar 3) (mC (.str "s"))) (mC (.int 0))) mNil))) (mVar 3) (mC (.str "s"))) mNext)
    (mSeq (mIfS (mB (mOp oEq (mVar 2) (mC (.int 1)))) (mSetIx (mCB oTup (mCons (mOp oIx (mOp oIx (mVar 3) (mC (.str "t"))) (mC (.int 0))) (mCons (mOp oIx (mOp oIx (mVar 3) (mC (.str "t"))) (mC (.int 0))) mNil))) (mVar 3) (mC (.str "t"))) mNext)
    (mSeq (mIfS (mB (mOp oEq (mVar 2) (mC (.int 2)))) (mSetIx (mCB oTup (mCons (mCall w_Ldraw 2 0 (fun ds _ => ds) (mArgsP (mCons (mVar 0) (mCons (mC (.int 3)) mNil)))) (mCons (mCall w_Ldraw 2 0 (fun ds _ => ds) (mArgsP (mCons (mVar 0) (mCons (mC (.int 2)) mNil)))) mNil))) (mOp oIx (mVar 6) (mC (.int 4))) (mCall w_Ldraw 2 0 (fun ds _ => ds) (mArgsP (mCons (mVar 0) (mCons (mCB oLen (mCons (mOp oIx (mVar 6) (mC (.int 4))) mNil)) mNil))))) mNext)
    (mSeq (mIfS (mB (mOp oEq (mVar 2) (mC (.int 3)))) (mSetIx (mCall w_Lpick 2 0 (fun ds _ => ds) (mArgsP (mCons (mVar 0) (mCons (mCB oLst (mCons (mC .non) (mCons (mCB oTup (mCons (mC (.int 90)) (mCons (mC (.int 0)) mNil))) mNil))) mNil)))) (mVar 6) (mC (.int 1))) mNext)
    (mSeq (mIfS (mB (mOp oEq (mVar 2) (mC (.int 4)))) (mSeq (mSetIx (mCall w_Lpick 2 0 (fun ds _ => ds) (mArgsP (mCons (mVar 0) (mCons (mCB oLst (mCons (mCB oTup (mCons (mC (.int 0)) (mCons (mC (.int 0)) mNil))) (mCons (mCB oTup (mCons (mC (.int 90)) (mCons (mC (.int 0)) mNil))) mNil))) mNil)))) (mVar 6) (mC (.int 2)))
    (mSetIx (mCB oTup (mCons (mC (.int 0)) (mCons (mC (.int 0)) mNil))) (mVar 6) (mC (.int 3)))) mNext)
    (mSeq (mIfS (mAnd (mB (mOp oEq (mVar 2) (mC (.int 5)))) (mB (mOp oNe (mOp oIx (mVar 6) (mC (.int 2))) (mCB oTup (mCons (mC (.int 0)) (mCons (mC (.int 0)) mNil)))))) (mSetIx (mCB oTup (mCons (mC (.int 5)) (mCons (mC (.int 5)) mNil))) (mVar 6) (mC (.int 3))) mNext)
    (mSeq (mIfS (mB (mOp oEq (mVar 2) (mC (.int 6)))) (mSetIx (mOp oAdd (mSl (mVar 4) (mPart (mC (.int 1))) mNoPart) (mSl (mVar 4) mNoPart (mPart (mC (.int 1))))) (mVar 3) (mC (.str "places"))) mNext)
    (mSeq (mIfS (mB (mOp oEq (mVar 2) (mC (.int 7)))) (mSetIx (mOp oAdd (mSl (mVar 5) (mPart (mC (.int 1))) mNoPart) (mSl (mVar 5) mNoPart (mPart (mC (.int 1))))) (mVar 3) (mC (.str "roads"))) mNext)
    (mSeq (mIfS (mAnd (mB (mOp oGt (mVar 2) (mC (.int 7)))) (mTru (mVar 5))) (mSeq (mSet 7 (mCall w_Lpick 2 0 (fun ds _ => ds) (mArgsP (mCons (mVar 0) (mCons (mVar 5) mNil)))))
    (mSeq (mIfS (mB (mOp oEq (mVar 2) (mC (.int 8)))) (mSetIx (mOp oAdd (mOp oIx (mVar 7) (mC (.int 3))) (mC (.int 1))) (mVar 7) (mC (.int 3))) mNext)
    (mSeq (mIfS (mB (mOp oEq (mVar 2) (mC (.int 9)))) (mSetIx (mCB oTup (mCons (mC (.int 90)) (mCons (mC (.int 0)) mNil))) (mVar 7) (mC (.int 4))) mNext)
    (mSeq (mIfS (mB (mOp oEq (mVar 2) (mC (.int 10)))) (mSetIx (mSl (mOp oIx (mVar 7) (mC (.int 5))) mNoPart (mPart (mC (.int 1)))) (mVar 7) (mC (.int 5))) mNext)
    (mSeq (mIfS (mB (mOp oEq (mVar 2) (mC (.int 11)))) (mSetIx (mOp oIx (mOp oIx (mVar 4) (mC (.int 0))) (mC (.int 0))) (mVar 7) (mC (.int 1))) mNext)
    (mIfS (mB (mOp oEq (mVar 2) (mC (.int 12)))) (mSetIx (mC (.str "zzzzzzzz")) (mVar 7) (mC (.int 0))) mNext)))))) mNext)
    (mRet (mVar 3)))))))))))))))
def w_Lchanged : WF := wOf N_Lchanged m_Lchanged
def N_Lmove_word : List Str := ["_law_move", "_law_letter"]
def m_Lmove_word : MS :=
  (mSeq (mIfS (mB (mOp oIs (mVar 0) (mC .non))) (mRet (mC (.str "open"))) mNext)
    (mSeq (mIfS (mB (mOp oEq (mOp oIx (mVar 0) (mC (.int 1))) (mC (.int 0)))) (mRet (mCB oStr1 (mCons (mOp oIx (mVar 0) (mC (.int 0))) mNil))) mNext)
    (mSeq (mIfS (mB (mOp oGt (mOp oIx (mVar 0) (mC (.int 1))) (mC (.int 0)))) (mRet (mOp oAdd (mOp oAdd (mOp oAdd (mCB oStr1 (mCons (mOp oIx (mVar 0) (mC (.int 0))) mNil)) (mC (.str "+"))) (mCB oStr1 (mCons (mOp oIx (mVar 0) (mC (.int 1))) mNil))) (mVar 1))) mNext)
    (mRet (mOp oAdd (mOp oAdd (mOp oAdd (mCB oStr1 (mCons (mOp oIx (mVar 0) (mC (.int 0))) mNil)) (mC (.str "-"))) (mCB oStr1 (mCons (mUn oNeg (mOp oIx (mVar 0) (mC (.int 1)))) mNil))) (mVar 1))))))
def w_Lmove_word : WF := wOf N_Lmove_word m_Lmove_word
def N_Lroad_row : List Str := ["_law_road", "_law_words", "_law_room_here", "_law_price"]
def m_Lroad_row : MS :=
  (mSeq (mSet 1 (mCB oLst (mCons (mC (.str "road")) (mCons (mOp oIx (mVar 0) (mC (.int 0))) (mCons (mOp oIx (mVar 0) (mC (.int 1))) (mCons (mOp oIx (mVar 0) (mC (.int 2))) (mCons (mCB oStr1 (mCons (mOp oIx (mVar 0) (mC (.int 3))) mNil)) (mCons (mCall w_Lmove_word 2 0 (fun ds _ => ds) (mArgsP (mCons (mOp oIx (mVar 0) (mC (.int 4))) (mCons (mC (.str "s")) mNil)))) mNil))))))))
    (mSeq (mFor (mISeq (mOp oIx (mVar 0) (mC (.int 5)))) (.tp 2 (.cons (.nm 2) (.cons (.nm 3) .nil))) (mDrop (mBM "list" omAppend (mVar 1) (mCons (mOp oAdd (mOp oAdd (mCall w_Lmove_word 2 0 (fun ds _ => ds) (mArgsP (mCons (mVar 2) (mCons (mC (.str "s")) mNil)))) (mC (.str ":"))) (mCall w_Lmove_word 2 0 (fun ds _ => ds) (mArgsP (mCons (mVar 3) (mCons (mC (.str "t")) mNil))))) mNil))))
    (mRet (mBM "str" omJoin (mC (.str " ")) (mCons (mVar 1) mNil)))))
def w_Lroad_row : WF := wOf N_Lroad_row m_Lroad_row
def N_Lrows : List Str := ["_law_told", "_law_rows_here", "_law_name", "_law_room_here", "_law_kept", "_law_price", "_law_wants", "_law_k", "_law_words", "_law_road"]
def m_Lrows : MS :=
  (mSeq (mSet 1 (mCB oLst (mCons (mOp oAdd (mC (.str "hours ")) (mCB oStr1 (mCons (mOp oIx (mVar 0) (mC (.str "hours"))) mNil))) mNil)))
    (mSeq (mDrop (mBM "list" omAppend (mVar 1) (mCons (mOp oAdd (mOp oAdd (mOp oAdd (mC (.str "s ")) (mCB oStr1 (mCons (mOp oIx (mOp oIx (mVar 0) (mC (.str "s"))) (mC (.int 0))) mNil))) (mC (.str " "))) (mCB oStr1 (mCons (mOp oIx (mOp oIx (mVar 0) (mC (.str "s"))) (mC (.int 1))) mNil))) mNil)))
    (mSeq (mDrop (mBM "list" omAppend (mVar 1) (mCons (mOp oAdd (mOp oAdd (mOp oAdd (mC (.str "t ")) (mCB oStr1 (mCons (mOp oIx (mOp oIx (mVar 0) (mC (.str "t"))) (mC (.int 0))) mNil))) (mC (.str " "))) (mCB oStr1 (mCons (mOp oIx (mOp oIx (mVar 0) (mC (.str "t"))) (mC (.int 1))) mNil))) mNil)))
    (mSeq (mFor (mISeq (mOp oIx (mVar 0) (mC (.str "places")))) (.tp 5 (.cons (.nm 2) (.cons (.nm 3) (.cons (.nm 4) (.cons (.nm 5) (.cons (.nm 6) .nil)))))) (mSeq (mDrop (mBM "list" omAppend (mVar 1) (mCons (mOp oAdd (mC (.str "place ")) (mVar 2)) mNil)))
    (mSeq (mIfS (mB (mOp oIsNot (mVar 3) (mC .non))) (mDrop (mBM "list" omAppend (mVar 1) (mCons (mOp oAdd (mOp oAdd (mOp oAdd (mC (.str "through ")) (mVar 2)) (mC (.str " "))) (mCall w_Lmove_word 2 0 (fun ds _ => ds) (mArgsP (mCons (mVar 3) (mCons (mC (.str "s")) mNil))))) mNil))) mNext)
    (mSeq (mIfS (mB (mOp oNe (mVar 4) (mCB oTup (mCons (mC (.int 0)) (mCons (mC (.int 0)) mNil))))) (mSeq (mSet 8 (mCB oLst (mCons (mC (.str "store")) (mCons (mVar 2) (mCons (mCall w_Lmove_word 2 0 (fun ds _ => ds) (mArgsP (mCons (mVar 4) (mCons (mC (.str "s")) mNil)))) (mCons (mCall w_Lmove_word 2 0 (fun ds _ => ds) (mArgsP (mCons (mVar 5) (mCons (mC (.str "t")) mNil)))) mNil))))))
    (mDrop (mBM "list" omAppend (mVar 1) (mCons (mBM "str" omJoin (mC (.str " ")) (mCons (mVar 8) mNil)) mNil)))) mNext)
    (mFor (mIRng1 (mCons (mCB oLen (mCons (mVar 6) mNil)) mNil)) (.nm 7) (mIfS (mB (mOp oNe (mOp oIx (mVar 6) (mVar 7)) (mCB oTup (mCons (mC (.int 0)) (mCons (mC (.int 0)) mNil))))) (mSeq (mSet 8 (mCB oLst (mCons (mC (.str "want")) (mCons (mVar 2) (mCons (mCB oStr1 (mCons (mOp oAdd (mVar 7) (mC (.int 1))) mNil)) (mCons (mCall w_Lmove_word 2 0 (fun ds _ => ds) (mArgsP (mCons (mOp oIx (mVar 6) (mVar 7)) (mCons (mC (.str "s")) mNil)))) mNil))))))
    (mDrop (mBM "list" omAppend (mVar 1) (mCons (mBM "str" omJoin (mC (.str " ")) (mCons (mVar 8) mNil)) mNil)))) mNext))))))
    (mSeq (mFor (mISeq (mOp oIx (mVar 0) (mC (.str "roads")))) (.nm 9) (mDrop (mBM "list" omAppend (mVar 1) (mCons (mCall w_Lroad_row 1 0 (fun ds _ => ds) (mArgsP (mCons (mVar 9) mNil))) mNil))))
    (mRet (mVar 1)))))))
def w_Lrows : WF := wOf N_Lrows m_Lrows
def N_Ltext : List Str := ["_law_told"]
def m_Ltext : MS :=
  (mRet (mBM "str" omJoin (mC (.str "\n")) (mCons (mCall w_Lrows 1 0 (fun ds _ => ds) (mArgsP (mCons (mVar 0) mNil))) mNil)))
def w_Ltext : WF := wOf N_Ltext m_Ltext
def N_Net_place_names : List Str := ["self"]
def m_Net_place_names : MS :=
  (mRet (mCB oList1 (mCons (mFld ccs (mVar 0) "places") mNil)))
def w_Net_place_names : WF := wOf N_Net_place_names m_Net_place_names
def N_Net_place_told : List Str := ["self", "name"]
def m_Net_place_told : MS :=
  (mRet (mMeth "Net" "known" w_Net_known 2 0 (fun ds _ => ds) (mVar 0) (mArgsP (mCons (mVar 1) mNil))))
def w_Net_place_told : WF := wOf N_Net_place_told m_Net_place_told
def N_written : List Str := ["m", "letter", "sign"]
def m_written : MS :=
  (mSeq (mIfS (mB (mOp oEq (mOp oIx (mVar 0) (mC (.int 1))) (mC (.int 0)))) (mRet (mCB oStr1 (mCons (mOp oIx (mVar 0) (mC (.int 0))) mNil))) mNext)
    (mSeq (mSet 2 (mIf (mB (mOp oGt (mOp oIx (mVar 0) (mC (.int 1))) (mC (.int 0)))) (mC (.str "+")) (mC (.str "-"))))
    (mRet (mJs [(mUn oFmt (mOp oIx (mVar 0) (mC (.int 0)))), (mUn oFmt (mVar 2)), (mUn oFmt (mCB oAbs (mCons (mOp oIx (mVar 0) (mC (.int 1))) mNil))), (mUn oFmt (mVar 1))] Str.empty))))
def w_written : WF := wOf N_written m_written
def N_room_word : List Str := ["room"]
def m_room_word : MS :=
  (mSeq (mIfS (mB (mOp oIs (mVar 0) (mC .non))) (mRet (mC (.str "open"))) mNext)
    (mRet (mCall w_written 2 0 (fun ds _ => ds) (mArgsP (mCons (mVar 0) (mCons (mC (.str "s")) mNil))))))
def w_room_word : WF := wOf N_room_word m_room_word
def N_place_rows : List Str := ["net", "name", "room", "kept", "price", "wants", "rows", "told", "k", "want"]
def m_place_rows : MS :=
  (mSeq (mAsg (mMeth "Net" "place_told" w_Net_place_told 2 0 (fun ds _ => ds) (mVar 0) (mArgsP (mCons (mVar 1) mNil))) (.tp 4 (.cons (.nm 2) (.cons (.nm 3) (.cons (.nm 4) (.cons (.nm 5) .nil))))))
    (mSeq (mSet 6 (mCB oLst (mCons (mJs [(mC (.str "place ")), (mUn oFmt (mVar 1))] Str.empty) mNil)))
    (mSeq (mIfS (mB (mOp oIsNot (mVar 2) (mC .non))) (mDrop (mBM "list" omAppend (mVar 6) (mCons (mJs [(mC (.str "through ")), (mUn oFmt (mVar 1)), (mC (.str " ")), (mUn oFmt (mCall w_room_word 1 0 (fun ds _ => ds) (mArgsP (mCons (mVar 2) mNil))))] Str.empty) mNil))) mNext)
    (mSeq (mIfS (mB (mOp oNe (mVar 3) (mCB oTup (mCons (mC (.int 0)) (mCons (mC (.int 0)) mNil))))) (mSeq (mSet 7 (mCall w_written 2 0 (fun ds _ => ds) (mArgsP (mCons (mVar 4) (mCons (mC (.str "t")) mNil)))))
    (mDrop (mBM "list" omAppend (mVar 6) (mCons (mJs [(mC (.str "store ")), (mUn oFmt (mVar 1)), (mC (.str " ")), (mUn oFmt (mCall w_room_word 1 0 (fun ds _ => ds) (mArgsP (mCons (mVar 3) mNil)))), (mC (.str " ")), (mUn oFmt (mVar 7))] Str.empty) mNil)))) mNext)
    (mSeq (mFor (mIEnumT (mCons (mVar 5) mNil)) (.tp 2 (.cons (.nm 8) (.cons (.nm 9) .nil))) (mIfS (mB (mOp oNe (mVar 9) (mCB oTup (mCons (mC (.int 0)) (mCons (mC (.int 0)) mNil))))) (mSeq (mSet 7 (mCall w_written 2 0 (fun ds _ => ds) (mArgsP (mCons (mVar 9) (mCons (mC (.str "s")) mNil)))))
    (mDrop (mBM "list" omAppend (mVar 6) (mCons (mJs [(mC (.str "want ")), (mUn oFmt (mVar 1)), (mC (.str " ")), (mUn oFmt (mOp oAdd (mVar 8) (mC (.int 1)))), (mC (.str " ")), (mUn oFmt (mVar 7))] Str.empty) mNil)))) mNext))
    (mRet (mVar 6)))))))
def w_place_rows : WF := wOf N_place_rows m_place_rows
def N_Net_road_names : List Str := ["self"]
def m_Net_road_names : MS :=
  (mRet (mCB oList1 (mCons (mFld ccs (mVar 0) "roads") mNil)))
def w_Net_road_names : WF := wOf N_Net_road_names m_Net_road_names
def N_Net_road_told : List Str := ["self", "name"]
def m_Net_road_told : MS :=
  (mSeq (mIfS (mB (mOp oNotIn (mVar 1) (mFld ccs (mVar 0) "roads"))) (mRaise "NoRoad" 1 xs_NoRoad (mCons (mVar 1) mNil)) mNext)
    (mRet (mOp oIx (mFld ccs (mVar 0) "roads") (mVar 1))))
def w_Net_road_told : WF := wOf N_Net_road_told m_Net_road_told
def N_road_row : List Str := ["net", "name", "start", "end", "takes", "floor", "rungs", "words", "room", "price"]
def m_road_row : MS :=
  (mSeq (mAsg (mMeth "Net" "road_told" w_Net_road_told 2 0 (fun ds _ => ds) (mVar 0) (mArgsP (mCons (mVar 1) mNil))) (.tp 5 (.cons (.nm 2) (.cons (.nm 3) (.cons (.nm 4) (.cons (.nm 5) (.cons (.nm 6) .nil)))))))
    (mSeq (mSet 7 (mCB oLst (mCons (mC (.str "road")) (mCons (mVar 1) (mCons (mVar 2) (mCons (mVar 3) (mCons (mCB oStr1 (mCons (mVar 4) mNil)) (mCons (mCall w_written 2 0 (fun ds _ => ds) (mArgsP (mCons (mVar 5) (mCons (mC (.str "s")) mNil)))) mNil))))))))
    (mSeq (mDrop (mBM "list" omExtend (mVar 7) (mCons (mLc (mISeq (mVar 6)) (.tp 2 (.cons (.nm 8) (.cons (.nm 9) .nil))) mYes (mOp oAdd (mOp oAdd (mCall w_room_word 1 0 (fun ds _ => ds) (mArgsP (mCons (mVar 8) mNil))) (mC (.str ":"))) (mCall w_written 2 0 (fun ds _ => ds) (mArgsP (mCons (mVar 9) (mCons (mC (.str "t")) mNil))))) [8, 9]) mNil)))
    (mRet (mBM "str" omJoin (mC (.str " ")) (mCons (mVar 7) mNil))))))
def w_road_row : WF := wOf N_road_row m_road_row
def N_text_of : List Str := ["net", "rows", "name"]
def m_text_of : MS :=
  (mSeq (mSet 1 (mCB oLst (mCons (mJs [(mC (.str "hours ")), (mUn oFmt (mFld ccs (mVar 0) "hours"))] Str.empty) (mCons (mJs [(mC (.str "s ")), (mUn oFmt (mOp oIx (mFld ccs (mVar 0) "s_box") (mC (.int 0)))), (mC (.str " ")), (mUn oFmt (mOp oIx (mFld ccs (mVar 0) "s_box") (mC (.int 1))))] Str.empty) (mCons (mJs [(mC (.str "t ")), (mUn oFmt (mOp oIx (mFld ccs (mVar 0) "t_box") (mC (.int 0)))), (mC (.str " ")), (mUn oFmt (mOp oIx (mFld ccs (mVar 0) "t_box") (mC (.int 1))))] Str.empty) mNil)))))
    (mSeq (mFor (mISeq (mMeth "Net" "place_names" w_Net_place_names 1 0 (fun ds _ => ds) (mVar 0) mArgs0)) (.nm 2) (mDrop (mBM "list" omExtend (mVar 1) (mCons (mCall w_place_rows 2 0 (fun ds _ => ds) (mArgsP (mCons (mVar 0) (mCons (mVar 2) mNil)))) mNil))))
    (mSeq (mFor (mISeq (mMeth "Net" "road_names" w_Net_road_names 1 0 (fun ds _ => ds) (mVar 0) mArgs0)) (.nm 2) (mDrop (mBM "list" omAppend (mVar 1) (mCons (mCall w_road_row 2 0 (fun ds _ => ds) (mArgsP (mCons (mVar 0) (mCons (mVar 2) mNil)))) mNil))))
    (mRet (mBM "str" omJoin (mC (.str "\n")) (mCons (mVar 1) mNil))))))
def w_text_of : WF := wOf N_text_of m_text_of
def N_Net_UeqU : List Str := ["self", "other"]
def m_Net_UeqU : MS :=
  (mRet (mAndV (mCB (oIsiC ccs) (mCons (mVar 1) (mCons (mC (.g "Net")) mNil))) (mOp oEq (mCall w_text_of 1 0 (fun ds _ => ds) (mArgsP (mCons (mVar 0) mNil))) (mCall w_text_of 1 0 (fun ds _ => ds) (mArgsP (mCons (mVar 1) mNil))))))
def w_Net_UeqU : WF := wOf N_Net_UeqU m_Net_UeqU
def N_Net_twin : List Str := ["self", "other"]
def m_Net_twin : MS :=
  (mSeq (mSet 1 (mMake "Net" w_Net_UinitU 1 3 (fun ds es => [ds.getD 0 .non, es.getD 0 .non, es.getD 1 .non, es.getD 2 .non]) (mArgsK (mCons (mFld ccs (mVar 0) "hours") (mCons (mFld ccs (mVar 0) "s_box") (mCons (mFld ccs (mVar 0) "t_box") mNil))))))
    (mSeq (mSetFld ccs (mVar 1) (mCB oDict1 (mCons (mFld ccs (mVar 0) "places") mNil)) "places")
    (mSeq (mSetFld ccs (mVar 1) (mCB oDict1 (mCons (mFld ccs (mVar 0) "roads") mNil)) "roads")
    (mRet (mVar 1)))))
def w_Net_twin : WF := wOf N_Net_twin m_Net_twin
def N_Net_UstrU : List Str := ["self"]
def m_Net_UstrU : MS :=
  (mRet (mCB oStr1 (mCons (mCall w_text_of 1 0 (fun ds _ => ds) (mArgsP (mCons (mVar 0) mNil))) mNil)))
def w_Net_UstrU : WF := wOf N_Net_UstrU m_Net_UstrU
def N_law : List Str := ["_law_script", "_law_feed_here", "_law_told", "_law_net", "_law_way", "_law_other", "_law_there", "_law_due", "_law_place", "_law_hour"]
def m_law : MS :=
  (mSeq (mSet 1 (mCall w_Lfeed 1 0 (fun ds _ => ds) (mArgsP (mCons (mVar 0) mNil))))
    (mSeq (mSet 2 (mCall w_Lbare 4 0 (fun ds _ => ds) (mArgsP (mCons (mVar 1) (mCons (mC (.int 3)) (mCons (mC (.int 4)) (mCons (mC (.int 2)) mNil)))))))
    (mSeq (mSet 3 (mCall w_Lmade 1 0 (fun ds _ => ds) (mArgsP (mCons (mVar 2) mNil))))
    (mSeq (mFor (mIRng1 (mCons (mC (.int 13)) mNil)) (.nm 4) (mSeq (mSet 5 (mCall w_Lchanged 3 0 (fun ds _ => ds) (mArgsP (mCons (mVar 1) (mCons (mVar 2) (mCons (mVar 4) mNil))))))
    (mSeq (mSet 6 (mCall w_Lmade 1 0 (fun ds _ => ds) (mArgsP (mCons (mVar 5) mNil))))
    (mSeq (mSet 7 (mOp oEq (mCall w_Ltext 1 0 (fun ds _ => ds) (mArgsP (mCons (mVar 2) mNil))) (mCall w_Ltext 1 0 (fun ds _ => ds) (mArgsP (mCons (mVar 5) mNil)))))
    (mSeq (mIfS (mOr (mB (mOp oNe (mOp (oEqO ccs "Net" w_Net_UeqU (fun ds _ => ds)) (mVar 3) (mVar 6)) (mVar 7))) (mOr (mB (mOp oNe (mOp (oEqO ccs "Net" w_Net_UeqU (fun ds _ => ds)) (mVar 6) (mVar 3)) (mVar 7))) (mOr (mB (mOp oEq (mOp (oNeO ccs "Net" w_Net_UeqU (fun ds _ => ds)) (mVar 3) (mVar 6)) (mVar 7))) (mB (mOp oNe (mOp (oEqO ccs "Net" w_Net_UeqU (fun ds _ => ds)) (mMeth "Net" "twin" w_Net_twin 1 0 (fun ds _ => ds) (mVar 6) mArgs0) (mVar 3)) (mVar 7)))))) (mRet (mC (.bl false))) mNext)
    (mIfS (mB (mOp oNe (mCB (oStrO "Net" w_Net_UstrU (fun ds _ => ds)) (mCons (mVar 6) mNil)) (mCall w_Ltext 1 0 (fun ds _ => ds) (mArgsP (mCons (mVar 5) mNil))))) (mRet (mC (.bl false))) mNext))))))
    (mSeq (mSet 5 (mCall w_Lcopy 1 0 (fun ds _ => ds) (mArgsP (mCons (mVar 2) mNil))))
    (mSeq (mSetIx (mC (.int 3)) (mVar 5) (mC (.str "hours")))
    (mSeq (mFor (mISeq (mOp oIx (mVar 5) (mC (.str "places")))) (.nm 8) (mSetIx (mOp oAdd (mOp oIx (mVar 8) (mC (.int 4))) (mLc (mIRng1 (mCons (mOp oSub (mC (.int 3)) (mCB oLen (mCons (mOp oIx (mVar 8) (mC (.int 4))) mNil))) mNil)) (.nm 9) mYes (mCB oTup (mCons (mC (.int 0)) (mCons (mC (.int 0)) mNil))) [9])) (mVar 8) (mC (.int 4))))
    (mRet (mAndV (mNotV (mOp (oEqO ccs "Net" w_Net_UeqU (fun ds _ => ds)) (mVar 3) (mCall w_Lmade 1 0 (fun ds _ => ds) (mArgsP (mCons (mVar 5) mNil))))) (mOp oEq (mCB (oStrO "Net" w_Net_UstrU (fun ds _ => ds)) (mCons (mVar 3) mNil)) (mCall w_Ltext 1 0 (fun ds _ => ds) (mArgsP (mCons (mVar 2) mNil)))))))))))))
def w_law : WF := wOf N_law m_law
end Prf
namespace Prf
open PySem L2 MV
def topS (i : Nat) : Stmt := PySem.Challenge.pw_dialweir_k83_nets_unlike_in_one_thing.main.body.getD i (.Pass ⟨0, 0, 0, 0⟩)
abbrev s_Lfeed : Stmt := topS 70
abbrev s_Ldraw : Stmt := topS 71
abbrev s_Lnames : Stmt := topS 73
abbrev s_Lroom : Stmt := topS 74
abbrev s_Lsome_place : Stmt := topS 75
abbrev s_Lsome_rungs : Stmt := topS 76
abbrev s_Lsome_road : Stmt := topS 77
abbrev s_Lbare : Stmt := topS 78
abbrev s_check_number : Stmt := topS 27
abbrev s_check_box : Stmt := topS 29
abbrev s_Net_UinitU : Stmt := inClass (topS 68) 0
abbrev s_check_name : Stmt := topS 26
abbrev s_Net_fresh : Stmt := inClass (topS 68) 1
abbrev s_Net_set_place : Stmt := inClass (topS 68) 3
abbrev s_Net_place : Stmt := inClass (topS 68) 4
abbrev s_Net_known : Stmt := inClass (topS 68) 2
abbrev s_check_move : Stmt := topS 28
abbrev s_sinks : Stmt := topS 30
abbrev s_check_room : Stmt := topS 31
abbrev s_Net_through : Stmt := inClass (topS 68) 6
abbrev s_Net_store : Stmt := inClass (topS 68) 7
abbrev s_Net_want : Stmt := inClass (topS 68) 5
abbrev s_check_rising : Stmt := topS 32
abbrev s_check_rungs : Stmt := topS 33
abbrev s_Net_set_road : Stmt := inClass (topS 68) 8
abbrev s_Net_road : Stmt := inClass (topS 68) 9
abbrev s_Lmade : Stmt := topS 79
abbrev s_Lcopy : Stmt := topS 84
abbrev s_Lpick : Stmt := topS 72
abbrev s_Lchanged : Stmt := topS 85
abbrev s_Lmove_word : Stmt := topS 80
abbrev s_Lroad_row : Stmt := topS 82
abbrev s_Lrows : Stmt := topS 81
abbrev s_Ltext : Stmt := topS 83
abbrev s_Net_place_names : Stmt := inClass (topS 68) 14
abbrev s_Net_place_told : Stmt := inClass (topS 68) 16
abbrev s_written : Stmt := topS 40
abbrev s_room_word : Stmt := topS 45
abbrev s_place_rows : Stmt := topS 57
abbrev s_Net_road_names : Stmt := inClass (topS 68) 15
abbrev s_Net_road_told : Stmt := inClass (topS 68) 17
abbrev s_road_row : Stmt := topS 58
abbrev s_text_of : Stmt := topS 59
abbrev s_Net_UeqU : Stmt := inClass (topS 68) 21
abbrev s_Net_twin : Stmt := inClass (topS 68) 20
abbrev s_Net_UstrU : Stmt := inClass (topS 68) 23
abbrev s_law : Stmt := topS 86
abbrev si0_WeirError : Stmt := inClass (topS 2) 0
abbrev si0_NetError : Stmt := inClass (topS 7) 0
abbrev si0_BadBox : Stmt := inClass (topS 9) 0
abbrev si0_BadHours : Stmt := inClass (topS 8) 0
abbrev si0_FormError : Stmt := inClass (topS 3) 0
abbrev si0_BadName : Stmt := inClass (topS 4) 0
abbrev si0_BadRungs : Stmt := inClass (topS 20) 0
abbrev si0_BadTakes : Stmt := inClass (topS 21) 0
abbrev si0_Below : Stmt := inClass (topS 18) 0
abbrev si0_Falls : Stmt := inClass (topS 19) 0
abbrev si0_NoHour : Stmt := inClass (topS 16) 0
abbrev si0_NoPlace : Stmt := inClass (topS 13) 0
abbrev si0_NoRoad : Stmt := inClass (topS 14) 0
abbrev si0_Taken : Stmt := inClass (topS 12) 0
abbrev si0_TooFar : Stmt := inClass (topS 10) 0
abbrev si0_TooMany : Stmt := inClass (topS 11) 0
def dd_Lfeed : He.DefD := ⟨("_law_feed", none), "_law_feed", "_law_feed", defArgs s_Lfeed, defBody s_Lfeed, defScope s_Lfeed, [], []⟩
def dd_Ldraw : He.DefD := ⟨("_law_draw", none), "_law_draw", "_law_draw", defArgs s_Ldraw, defBody s_Ldraw, defScope s_Ldraw, [], []⟩
def dd_Lnames : He.DefD := ⟨("_law_names", none), "_law_names", "_law_names", defArgs s_Lnames, defBody s_Lnames, defScope s_Lnames, [], []⟩
def dd_Lroom : He.DefD := ⟨("_law_room", none), "_law_room", "_law_room", defArgs s_Lroom, defBody s_Lroom, defScope s_Lroom, [], []⟩
def dd_Lsome_place : He.DefD := ⟨("_law_some_place", none), "_law_some_place", "_law_some_place", defArgs s_Lsome_place, defBody s_Lsome_place, defScope s_Lsome_place, [], []⟩
def dd_Lsome_rungs : He.DefD := ⟨("_law_some_rungs", none), "_law_some_rungs", "_law_some_rungs", defArgs s_Lsome_rungs, defBody s_Lsome_rungs, defScope s_Lsome_rungs, [], []⟩
def dd_Lsome_road : He.DefD := ⟨("_law_some_road", none), "_law_some_road", "_law_some_road", defArgs s_Lsome_road, defBody s_Lsome_road, defScope s_Lsome_road, [], []⟩
def dd_Lbare : He.DefD := ⟨("_law_bare", none), "_law_bare", "_law_bare", defArgs s_Lbare, defBody s_Lbare, defScope s_Lbare, [], []⟩
def dd_check_number : He.DefD := ⟨("check_number", none), "check_number", "check_number", defArgs s_check_number, defBody s_check_number, defScope s_check_number, [], []⟩
def dd_check_box : He.DefD := ⟨("check_box", none), "check_box", "check_box", defArgs s_check_box, defBody s_check_box, defScope s_check_box, [], []⟩
def dd_Net_UinitU : He.DefD := ⟨("Net", some "__init__"), "__init__", "Net.__init__", defArgs s_Net_UinitU, defBody s_Net_UinitU, defScope s_Net_UinitU, [], [("hours", .int 1), ("s_box", .adr (kwdAt ("Net", some "__init__") "s_box")), ("t_box", .adr (kwdAt ("Net", some "__init__") "t_box"))]⟩
def dd_check_name : He.DefD := ⟨("check_name", none), "check_name", "check_name", defArgs s_check_name, defBody s_check_name, defScope s_check_name, [], []⟩
def dd_Net_fresh : He.DefD := ⟨("Net", some "fresh"), "fresh", "Net.fresh", defArgs s_Net_fresh, defBody s_Net_fresh, defScope s_Net_fresh, [], []⟩
def dd_Net_set_place : He.DefD := ⟨("Net", some "set_place"), "set_place", "Net.set_place", defArgs s_Net_set_place, defBody s_Net_set_place, defScope s_Net_set_place, [], []⟩
def dd_Net_place : He.DefD := ⟨("Net", some "place"), "place", "Net.place", defArgs s_Net_place, defBody s_Net_place, defScope s_Net_place, [], []⟩
def dd_Net_known : He.DefD := ⟨("Net", some "known"), "known", "Net.known", defArgs s_Net_known, defBody s_Net_known, defScope s_Net_known, [], []⟩
def dd_check_move : He.DefD := ⟨("check_move", none), "check_move", "check_move", defArgs s_check_move, defBody s_check_move, defScope s_check_move, [], []⟩
def dd_sinks : He.DefD := ⟨("sinks", none), "sinks", "sinks", defArgs s_sinks, defBody s_sinks, defScope s_sinks, [], []⟩
def dd_check_room : He.DefD := ⟨("check_room", none), "check_room", "check_room", defArgs s_check_room, defBody s_check_room, defScope s_check_room, [], []⟩
def dd_Net_through : He.DefD := ⟨("Net", some "through"), "through", "Net.through", defArgs s_Net_through, defBody s_Net_through, defScope s_Net_through, [.non], []⟩
def dd_Net_store : He.DefD := ⟨("Net", some "store"), "store", "Net.store", defArgs s_Net_store, defBody s_Net_store, defScope s_Net_store, [.adr (He.dflAt ("Net", some "store") 0), .adr (He.dflAt ("Net", some "store") 1)], []⟩
def dd_Net_want : He.DefD := ⟨("Net", some "want"), "want", "Net.want", defArgs s_Net_want, defBody s_Net_want, defScope s_Net_want, [.adr (He.dflAt ("Net", some "want") 0)], []⟩
def dd_check_rising : He.DefD := ⟨("check_rising", none), "check_rising", "check_rising", defArgs s_check_rising, defBody s_check_rising, defScope s_check_rising, [], []⟩
def dd_check_rungs : He.DefD := ⟨("check_rungs", none), "check_rungs", "check_rungs", defArgs s_check_rungs, defBody s_check_rungs, defScope s_check_rungs, [], []⟩
def dd_Net_set_road : He.DefD := ⟨("Net", some "set_road"), "set_road", "Net.set_road", defArgs s_Net_set_road, defBody s_Net_set_road, defScope s_Net_set_road, [], []⟩
def dd_Net_road : He.DefD := ⟨("Net", some "road"), "road", "Net.road", defArgs s_Net_road, defBody s_Net_road, defScope s_Net_road, [], [("takes", .int 0), ("floor", .adr (kwdAt ("Net", some "road") "floor")), ("rungs", .glo "OPEN_RUNG")]⟩
def dd_Lmade : He.DefD := ⟨("_law_made", none), "_law_made", "_law_made", defArgs s_Lmade, defBody s_Lmade, defScope s_Lmade, [], []⟩
def dd_Lcopy : He.DefD := ⟨("_law_copy", none), "_law_copy", "_law_copy", defArgs s_Lcopy, defBody s_Lcopy, defScope s_Lcopy, [], []⟩
def dd_Lpick : He.DefD := ⟨("_law_pick", none), "_law_pick", "_law_pick", defArgs s_Lpick, defBody s_Lpick, defScope s_Lpick, [], []⟩
def dd_Lchanged : He.DefD := ⟨("_law_changed", none), "_law_changed", "_law_changed", defArgs s_Lchanged, defBody s_Lchanged, defScope s_Lchanged, [], []⟩
def dd_Lmove_word : He.DefD := ⟨("_law_move_word", none), "_law_move_word", "_law_move_word", defArgs s_Lmove_word, defBody s_Lmove_word, defScope s_Lmove_word, [], []⟩
def dd_Lroad_row : He.DefD := ⟨("_law_road_row", none), "_law_road_row", "_law_road_row", defArgs s_Lroad_row, defBody s_Lroad_row, defScope s_Lroad_row, [], []⟩
def dd_Lrows : He.DefD := ⟨("_law_rows", none), "_law_rows", "_law_rows", defArgs s_Lrows, defBody s_Lrows, defScope s_Lrows, [], []⟩
def dd_Ltext : He.DefD := ⟨("_law_text", none), "_law_text", "_law_text", defArgs s_Ltext, defBody s_Ltext, defScope s_Ltext, [], []⟩
def dd_Net_place_names : He.DefD := ⟨("Net", some "place_names"), "place_names", "Net.place_names", defArgs s_Net_place_names, defBody s_Net_place_names, defScope s_Net_place_names, [], []⟩
def dd_Net_place_told : He.DefD := ⟨("Net", some "place_told"), "place_told", "Net.place_told", defArgs s_Net_place_told, defBody s_Net_place_told, defScope s_Net_place_told, [], []⟩
def dd_written : He.DefD := ⟨("written", none), "written", "written", defArgs s_written, defBody s_written, defScope s_written, [], []⟩
def dd_room_word : He.DefD := ⟨("room_word", none), "room_word", "room_word", defArgs s_room_word, defBody s_room_word, defScope s_room_word, [], []⟩
def dd_place_rows : He.DefD := ⟨("place_rows", none), "place_rows", "place_rows", defArgs s_place_rows, defBody s_place_rows, defScope s_place_rows, [], []⟩
def dd_Net_road_names : He.DefD := ⟨("Net", some "road_names"), "road_names", "Net.road_names", defArgs s_Net_road_names, defBody s_Net_road_names, defScope s_Net_road_names, [], []⟩
def dd_Net_road_told : He.DefD := ⟨("Net", some "road_told"), "road_told", "Net.road_told", defArgs s_Net_road_told, defBody s_Net_road_told, defScope s_Net_road_told, [], []⟩
def dd_road_row : He.DefD := ⟨("road_row", none), "road_row", "road_row", defArgs s_road_row, defBody s_road_row, defScope s_road_row, [], []⟩
def dd_text_of : He.DefD := ⟨("text_of", none), "text_of", "text_of", defArgs s_text_of, defBody s_text_of, defScope s_text_of, [], []⟩
def dd_Net_UeqU : He.DefD := ⟨("Net", some "__eq__"), "__eq__", "Net.__eq__", defArgs s_Net_UeqU, defBody s_Net_UeqU, defScope s_Net_UeqU, [], []⟩
def dd_Net_twin : He.DefD := ⟨("Net", some "twin"), "twin", "Net.twin", defArgs s_Net_twin, defBody s_Net_twin, defScope s_Net_twin, [], []⟩
def dd_Net_UstrU : He.DefD := ⟨("Net", some "__str__"), "__str__", "Net.__str__", defArgs s_Net_UstrU, defBody s_Net_UstrU, defScope s_Net_UstrU, [], []⟩
def dd_law : He.DefD := ⟨("law", none), "law", "law", defArgs s_law, defBody s_law, defScope s_law, [], []⟩
def ddi_WeirError : He.DefD := ⟨("WeirError", some "__init__"), "__init__", "WeirError.__init__", defArgs si0_WeirError, defBody si0_WeirError, defScope si0_WeirError, [], []⟩
def ddi_NetError : He.DefD := ⟨("NetError", some "__init__"), "__init__", "NetError.__init__", defArgs si0_NetError, defBody si0_NetError, defScope si0_NetError, [], []⟩
def ddi_BadBox : He.DefD := ⟨("BadBox", some "__init__"), "__init__", "BadBox.__init__", defArgs si0_BadBox, defBody si0_BadBox, defScope si0_BadBox, [], []⟩
def ddi_BadHours : He.DefD := ⟨("BadHours", some "__init__"), "__init__", "BadHours.__init__", defArgs si0_BadHours, defBody si0_BadHours, defScope si0_BadHours, [], []⟩
def ddi_FormError : He.DefD := ⟨("FormError", some "__init__"), "__init__", "FormError.__init__", defArgs si0_FormError, defBody si0_FormError, defScope si0_FormError, [], []⟩
def ddi_BadName : He.DefD := ⟨("BadName", some "__init__"), "__init__", "BadName.__init__", defArgs si0_BadName, defBody si0_BadName, defScope si0_BadName, [], []⟩
def ddi_BadRungs : He.DefD := ⟨("BadRungs", some "__init__"), "__init__", "BadRungs.__init__", defArgs si0_BadRungs, defBody si0_BadRungs, defScope si0_BadRungs, [], []⟩
def ddi_BadTakes : He.DefD := ⟨("BadTakes", some "__init__"), "__init__", "BadTakes.__init__", defArgs si0_BadTakes, defBody si0_BadTakes, defScope si0_BadTakes, [], []⟩
def ddi_Below : He.DefD := ⟨("Below", some "__init__"), "__init__", "Below.__init__", defArgs si0_Below, defBody si0_Below, defScope si0_Below, [], []⟩
def ddi_Falls : He.DefD := ⟨("Falls", some "__init__"), "__init__", "Falls.__init__", defArgs si0_Falls, defBody si0_Falls, defScope si0_Falls, [], []⟩
def ddi_NoHour : He.DefD := ⟨("NoHour", some "__init__"), "__init__", "NoHour.__init__", defArgs si0_NoHour, defBody si0_NoHour, defScope si0_NoHour, [], []⟩
def ddi_NoPlace : He.DefD := ⟨("NoPlace", some "__init__"), "__init__", "NoPlace.__init__", defArgs si0_NoPlace, defBody si0_NoPlace, defScope si0_NoPlace, [], []⟩
def ddi_NoRoad : He.DefD := ⟨("NoRoad", some "__init__"), "__init__", "NoRoad.__init__", defArgs si0_NoRoad, defBody si0_NoRoad, defScope si0_NoRoad, [], []⟩
def ddi_Taken : He.DefD := ⟨("Taken", some "__init__"), "__init__", "Taken.__init__", defArgs si0_Taken, defBody si0_Taken, defScope si0_Taken, [], []⟩
def ddi_TooFar : He.DefD := ⟨("TooFar", some "__init__"), "__init__", "TooFar.__init__", defArgs si0_TooFar, defBody si0_TooFar, defScope si0_TooFar, [], []⟩
def ddi_TooMany : He.DefD := ⟨("TooMany", some "__init__"), "__init__", "TooMany.__init__", defArgs si0_TooMany, defBody si0_TooMany, defScope si0_TooMany, [], []⟩
def fnL : List He.DefD := ([dd_Lfeed, dd_Ldraw, dd_Lnames, dd_Lroom, dd_Lsome_place, dd_Lsome_rungs, dd_Lsome_road, dd_Lbare, dd_check_number, dd_check_box, dd_Net_UinitU, dd_check_name, dd_Net_fresh, dd_Net_set_place, dd_Net_place, dd_Net_known, dd_check_move, dd_sinks, dd_check_room, dd_Net_through, dd_Net_store, dd_Net_want, dd_check_rising, dd_check_rungs, dd_Net_set_road] : List He.DefD) ++ ([dd_Net_road, dd_Lmade, dd_Lcopy, dd_Lpick, dd_Lchanged, dd_Lmove_word, dd_Lroad_row, dd_Lrows, dd_Ltext, dd_Net_place_names, dd_Net_place_told, dd_written, dd_room_word, dd_place_rows, dd_Net_road_names, dd_Net_road_told, dd_road_row, dd_text_of, dd_Net_UeqU, dd_Net_twin, dd_Net_UstrU, dd_law, ddi_WeirError, ddi_NetError, ddi_BadBox] : List He.DefD) ++ ([ddi_BadHours, ddi_FormError, ddi_BadName, ddi_BadRungs, ddi_BadTakes, ddi_Below, ddi_Falls, ddi_NoHour, ddi_NoPlace, ddi_NoRoad, ddi_Taken, ddi_TooFar, ddi_TooMany] : List He.DefD)
def faL : List He.Fa := ([.glo "_law_feed", .glo "_law_draw", .glo "_law_names", .glo "_law_room", .glo "_law_some_place", .glo "_law_some_rungs", .glo "_law_some_road", .glo "_law_bare", .glo "check_number", .glo "check_box", .glo "check_name", .glo "check_move", .glo "sinks", .glo "check_room", .glo "check_rising", .glo "check_rungs", .glo "_law_made", .glo "_law_copy", .glo "_law_pick", .glo "_law_changed", .glo "_law_move_word", .glo "_law_road_row", .glo "_law_rows", .glo "_law_text", .glo "written"] : List He.Fa) ++ ([.glo "room_word", .glo "place_rows", .glo "road_row", .glo "text_of", .glo "law", .free "abs", .free "dict", .free "enumerate", .free "int", .free "isinstance", .free "len", .free "list", .free "min", .free "range", .free "str", .free "tuple", .free "ValueError", .str "FIRST" "abcdefghijklmnopqrstuvwxyz", .str "LATER" "abcdefghijklmnopqrstuvwxyz0123456789", .int "MOST" 1000000, .int "MOST_HOURS" 6, .int "MOST_PLACES" 12, .int "MOST_ROADS" 24, .int "MOST_RUNGS" 4, .int "MOST_SIGNS" 8] : List He.Fa) ++ ([.int "MOST_TAKES" 9, .glo "Net", .meth "Net" "__eq__", .meth "Net" "__str__", .meth "Net" "fresh", .meth "Net" "known", .meth "Net" "place", .meth "Net" "place_names", .meth "Net" "place_told", .meth "Net" "road", .meth "Net" "road_names", .meth "Net" "road_told", .meth "Net" "set_place", .meth "Net" "set_road", .meth "Net" "store", .meth "Net" "through", .meth "Net" "twin", .meth "Net" "want", .mkr "Net", .cls "Net", .cls "Net", .noat "Net" "hours", .noat "Net" "s_box", .noat "Net" "t_box", .noat "Net" "places"] : List He.Fa) ++ ([.noat "Net" "roads", .glo "WeirError", .glo "NetError", .glo "BadBox", .glo "BadHours", .glo "FormError", .glo "BadName", .glo "BadRungs", .glo "BadTakes", .glo "Below", .glo "Falls", .glo "NoHour", .glo "NoPlace", .glo "NoRoad", .glo "Taken", .glo "TooFar", .glo "TooMany"] : List He.Fa)
def exL (K : PySem.W.Frag) : List Bool := ([DW.excXB K "WeirError" xfl, DW.excXB K "NetError" xfl, DW.excXB K "BadBox" xfl, DW.excXB K "BadHours" xfl, DW.excXB K "FormError" xfl, DW.excXB K "BadName" xfl, DW.excXB K "BadRungs" xfl, DW.excXB K "BadTakes" xfl, DW.excXB K "Below" xfl, DW.excXB K "Falls" xfl, DW.excXB K "NoHour" xfl, DW.excXB K "NoPlace" xfl, DW.excXB K "NoRoad" xfl, DW.excXB K "Taken" xfl, DW.excXB K "TooFar" xfl, DW.excXB K "TooMany" xfl, DW.veB K, ccs.all (ownNB K), ccs.all (ownB K ccs), datAt K 20 (.tup [(.int 0), (.int 0)]) (.ref ((kwdAt ("Net", some "__init__") "s_box") K)), datAt K 20 (.tup [(.int 0), (.int 0)]) (.ref ((kwdAt ("Net", some "__init__") "t_box") K)), datAt K 20 (.tup [(.int 0), (.int 0)]) (.ref ((He.dflAt ("Net", some "store") 0) K)), datAt K 20 (.tup [(.int 0), (.int 0)]) (.ref ((He.dflAt ("Net", some "store") 1) K)), datAt K 20 (.tup [(.int 0), (.int 0)]) (.ref ((He.dflAt ("Net", some "want") 0) K)), datAt K 20 (.tup [(.int 0), (.int 0)]) (.ref ((kwdAt ("Net", some "road") "floor") K))] : List Bool) ++ ([datAt K 20 (.tup [(.tup [.non, (.tup [(.int 0), (.int 0)])])]) (.ref (He.ga K "OPEN_RUNG"))] : List Bool)
abbrev R : PySem.W.OpenRow := PySem.W.OpenLaw.row PySem.Challenge.rw_dialweir_k83_nets_unlike_in_one_thing
abbrev hk : PySem.W.Hook := DW.hookE 2048 faL fnL (fun K => DW.allT (exL K))
def ob (s : PySem.W.SharedT) : DW.AlE := DW.obsE 2048 faL fnL (fun K => DW.allT (exL K)) (HandSHeadRun.getT s)
theorem ob_eq (s : PySem.W.SharedT) : ob s = hk.obs s.abs := DW.obsE_eq (HandSHeadRun.getT_eq s)
def looseL : List Str := (["_wall", "WeirError", "FormError", "BadName", "BadRow", "BadWord", "NetError", "BadHours", "BadBox", "TooFar", "TooMany", "Taken", "NoPlace", "NoRoad", "NoName", "NoHour", "InUse", "Below", "Falls", "BadRungs", "BadTakes", "FIRST", "LATER", "MOST_SIGNS", "check_name"] : List Str) ++ (["check_number", "check_move", "check_box", "sinks", "check_room", "check_rising", "check_rungs", "fit_road", "FIGURES", "whole", "MOST_FIGURES", "written", "read_whole", "read_move", "read_room", "room_word", "read_rung", "do_place", "do_through", "do_store", "do_want", "do_road", "do_strike", "do_box", "PLAIN"] : List Str) ++ (["DEEDS", "do_row", "place_rows", "road_row", "text_of", "MOST", "MOST_HOURS", "MOST_PLACES", "MOST_ROADS", "MOST_RUNGS", "MOST_TAKES", "OPEN_RUNG", "Net", "_law_feed", "_law_draw", "_law_pick", "_law_names", "_law_room", "_law_some_place", "_law_some_rungs", "_law_some_road", "_law_bare", "_law_made", "_law_move_word", "_law_rows"] : List Str) ++ (["_law_road_row", "_law_text", "_law_copy", "_law_changed"] : List Str)
def kOf (s : PySem.W.SharedT) : PySem.W.Frag := He.frG (HandSHeadRun.getT s) (DW.asE (HandSHeadRun.getT s) 2048)
theorem run_comb {S A B C D : Type} {o : Option S} {f : S → A} {g : S → B} {h : S → C} {k : S → D} {a : A} {b : B} {c : C} {d : D} (h1 : o.map (fun s => (f s, g s)) = some (a, b)) (h2 : o.map h = some c) (h3 : o.map k = some d) : o.map (fun s => (f s, g s, (h s, k s))) = some (a, b, (c, d)) := by
  cases o with
  | none => cases h2
  | some s =>
    simp only [Option.map_some, Option.some.injEq, Prod.mk.injEq] at h1 h2 h3 ⊢
    exact ⟨h1.1, h1.2, h2, h3⟩
theorem run1_false (w : World) (os : OsState) : (HandSHeadRun.endF (HandSHeadRun.stepQ (HandSHeadRun.denQ HandSHeadRun.tabQ) R.prog (w.withFollow "special-get-raises" false)) 12000 R.prog (w.withFollow "special-get-raises" false) os).map (fun s => (HandSHeadRun.looksF R.prog (PySem.W.boot_heap (w.withFollow "special-get-raises" false).params) s.abs, HandSHeadRun.seenQ (PySem.W.view R.prog [86]) looseL (importedModules R.prog.main.body) (fun s => PySem.W.xlAt (PySem.W.view R.prog [86]) [] s && PySem.W.recOk R.toRowW.records s) s.abs)) = some (true, PySem.W.openGood (PySem.W.view R.prog [86]) looseL) := by kernel_rfl
theorem run2_false (w : World) (os : OsState) : (HandSHeadRun.endF (HandSHeadRun.stepQ (HandSHeadRun.denQ HandSHeadRun.tabQ) R.prog (w.withFollow "special-get-raises" false)) 12000 R.prog (w.withFollow "special-get-raises" false) os).map (fun s => He.obsD faL fnL (kOf s)) = some (He.valD fnL) := by kernel_rfl
theorem run3_false (w : World) (os : OsState) : (HandSHeadRun.endF (HandSHeadRun.stepQ (HandSHeadRun.denQ HandSHeadRun.tabQ) R.prog (w.withFollow "special-get-raises" false)) 12000 R.prog (w.withFollow "special-get-raises" false) os).map (fun s => DW.allT (exL (kOf s))) = some true := by kernel_rfl
theorem run_false (w : World) : HandSHeadRun.RunEq R (PySem.W.view R.prog [86]) hk ob 12000 looseL (w.withFollow "special-get-raises" false) := by
  intro os
  have h := run_comb (run1_false w os) (run2_false w os) (run3_false w os)
  exact h
theorem run1_true (w : World) (os : OsState) : (HandSHeadRun.endF (HandSHeadRun.stepQ (HandSHeadRun.denQ HandSHeadRun.tabQ) R.prog (w.withFollow "special-get-raises" true)) 12000 R.prog (w.withFollow "special-get-raises" true) os).map (fun s => (HandSHeadRun.looksF R.prog (PySem.W.boot_heap (w.withFollow "special-get-raises" true).params) s.abs, HandSHeadRun.seenQ (PySem.W.view R.prog [86]) looseL (importedModules R.prog.main.body) (fun s => PySem.W.xlAt (PySem.W.view R.prog [86]) [] s && PySem.W.recOk R.toRowW.records s) s.abs)) = some (true, PySem.W.openGood (PySem.W.view R.prog [86]) looseL) := by kernel_rfl
theorem run2_true (w : World) (os : OsState) : (HandSHeadRun.endF (HandSHeadRun.stepQ (HandSHeadRun.denQ HandSHeadRun.tabQ) R.prog (w.withFollow "special-get-raises" true)) 12000 R.prog (w.withFollow "special-get-raises" true) os).map (fun s => He.obsD faL fnL (kOf s)) = some (He.valD fnL) := by kernel_rfl
theorem run3_true (w : World) (os : OsState) : (HandSHeadRun.endF (HandSHeadRun.stepQ (HandSHeadRun.denQ HandSHeadRun.tabQ) R.prog (w.withFollow "special-get-raises" true)) 12000 R.prog (w.withFollow "special-get-raises" true) os).map (fun s => DW.allT (exL (kOf s))) = some true := by kernel_rfl
theorem run_true (w : World) : HandSHeadRun.RunEq R (PySem.W.view R.prog [86]) hk ob 12000 looseL (w.withFollow "special-get-raises" true) := by
  intro os
  have h := run_comb (run1_true w os) (run2_true w os) (run3_true w os)
  exact h
theorem run (w : World) : HandSHeadRun.RunEq R (PySem.W.view R.prog [86]) hk ob 12000 looseL w := PySem.W.byRow2 "special-get-raises" (P := fun w => HandSHeadRun.RunEq R (PySem.W.view R.prog [86]) hk ob 12000 looseL w) run_false run_true w
end Prf
namespace Prf
open PySem L2 MV
structure Tx (K : PySem.W.Frag) (mg : Str → Option Value) : Prop where
  g_Lfeed : mg "_law_feed" = some (.ref (He.ga K "_law_feed"))
  d_Lfeed : ∃ fd, FunD K "_law_feed" "_law_feed" (defArgs s_Lfeed) (defBody s_Lfeed) (defScope s_Lfeed) [] [] (He.ga K "_law_feed") fd
  g_Ldraw : mg "_law_draw" = some (.ref (He.ga K "_law_draw"))
  d_Ldraw : ∃ fd, FunD K "_law_draw" "_law_draw" (defArgs s_Ldraw) (defBody s_Ldraw) (defScope s_Ldraw) [] [] (He.ga K "_law_draw") fd
  g_Lnames : mg "_law_names" = some (.ref (He.ga K "_law_names"))
  d_Lnames : ∃ fd, FunD K "_law_names" "_law_names" (defArgs s_Lnames) (defBody s_Lnames) (defScope s_Lnames) [] [] (He.ga K "_law_names") fd
  g_Lroom : mg "_law_room" = some (.ref (He.ga K "_law_room"))
  d_Lroom : ∃ fd, FunD K "_law_room" "_law_room" (defArgs s_Lroom) (defBody s_Lroom) (defScope s_Lroom) [] [] (He.ga K "_law_room") fd
  g_Lsome_place : mg "_law_some_place" = some (.ref (He.ga K "_law_some_place"))
  d_Lsome_place : ∃ fd, FunD K "_law_some_place" "_law_some_place" (defArgs s_Lsome_place) (defBody s_Lsome_place) (defScope s_Lsome_place) [] [] (He.ga K "_law_some_place") fd
  g_Lsome_rungs : mg "_law_some_rungs" = some (.ref (He.ga K "_law_some_rungs"))
  d_Lsome_rungs : ∃ fd, FunD K "_law_some_rungs" "_law_some_rungs" (defArgs s_Lsome_rungs) (defBody s_Lsome_rungs) (defScope s_Lsome_rungs) [] [] (He.ga K "_law_some_rungs") fd
  g_Lsome_road : mg "_law_some_road" = some (.ref (He.ga K "_law_some_road"))
  d_Lsome_road : ∃ fd, FunD K "_law_some_road" "_law_some_road" (defArgs s_Lsome_road) (defBody s_Lsome_road) (defScope s_Lsome_road) [] [] (He.ga K "_law_some_road") fd
  g_Lbare : mg "_law_bare" = some (.ref (He.ga K "_law_bare"))
  d_Lbare : ∃ fd, FunD K "_law_bare" "_law_bare" (defArgs s_Lbare) (defBody s_Lbare) (defScope s_Lbare) [] [] (He.ga K "_law_bare") fd
  g_check_number : mg "check_number" = some (.ref (He.ga K "check_number"))
  d_check_number : ∃ fd, FunD K "check_number" "check_number" (defArgs s_check_number) (defBody s_check_number) (defScope s_check_number) [] [] (He.ga K "check_number") fd
  g_check_box : mg "check_box" = some (.ref (He.ga K "check_box"))
  d_check_box : ∃ fd, FunD K "check_box" "check_box" (defArgs s_check_box) (defBody s_check_box) (defScope s_check_box) [] [] (He.ga K "check_box") fd
  d_Net_UinitU : ∃ fd, FunD K "__init__" "Net.__init__" (defArgs s_Net_UinitU) (defBody s_Net_UinitU) (defScope s_Net_UinitU) [] [("hours", (.int 1)), ("s_box", (.ref ((kwdAt ("Net", some "__init__") "s_box") K))), ("t_box", (.ref ((kwdAt ("Net", some "__init__") "t_box") K)))] (He.ma K (He.ga K "Net") "__init__") fd
  g_check_name : mg "check_name" = some (.ref (He.ga K "check_name"))
  d_check_name : ∃ fd, FunD K "check_name" "check_name" (defArgs s_check_name) (defBody s_check_name) (defScope s_check_name) [] [] (He.ga K "check_name") fd
  d_Net_fresh : ∃ fd, FunD K "fresh" "Net.fresh" (defArgs s_Net_fresh) (defBody s_Net_fresh) (defScope s_Net_fresh) [] [] (He.ma K (He.ga K "Net") "fresh") fd
  d_Net_set_place : ∃ fd, FunD K "set_place" "Net.set_place" (defArgs s_Net_set_place) (defBody s_Net_set_place) (defScope s_Net_set_place) [] [] (He.ma K (He.ga K "Net") "set_place") fd
  d_Net_place : ∃ fd, FunD K "place" "Net.place" (defArgs s_Net_place) (defBody s_Net_place) (defScope s_Net_place) [] [] (He.ma K (He.ga K "Net") "place") fd
  d_Net_known : ∃ fd, FunD K "known" "Net.known" (defArgs s_Net_known) (defBody s_Net_known) (defScope s_Net_known) [] [] (He.ma K (He.ga K "Net") "known") fd
  g_check_move : mg "check_move" = some (.ref (He.ga K "check_move"))
  d_check_move : ∃ fd, FunD K "check_move" "check_move" (defArgs s_check_move) (defBody s_check_move) (defScope s_check_move) [] [] (He.ga K "check_move") fd
  g_sinks : mg "sinks" = some (.ref (He.ga K "sinks"))
  d_sinks : ∃ fd, FunD K "sinks" "sinks" (defArgs s_sinks) (defBody s_sinks) (defScope s_sinks) [] [] (He.ga K "sinks") fd
  g_check_room : mg "check_room" = some (.ref (He.ga K "check_room"))
  d_check_room : ∃ fd, FunD K "check_room" "check_room" (defArgs s_check_room) (defBody s_check_room) (defScope s_check_room) [] [] (He.ga K "check_room") fd
  d_Net_through : ∃ fd, FunD K "through" "Net.through" (defArgs s_Net_through) (defBody s_Net_through) (defScope s_Net_through) [.non] [] (He.ma K (He.ga K "Net") "through") fd
  d_Net_store : ∃ fd, FunD K "store" "Net.store" (defArgs s_Net_store) (defBody s_Net_store) (defScope s_Net_store) [(.ref ((He.dflAt ("Net", some "store") 0) K)), (.ref ((He.dflAt ("Net", some "store") 1) K))] [] (He.ma K (He.ga K "Net") "store") fd
  d_Net_want : ∃ fd, FunD K "want" "Net.want" (defArgs s_Net_want) (defBody s_Net_want) (defScope s_Net_want) [(.ref ((He.dflAt ("Net", some "want") 0) K))] [] (He.ma K (He.ga K "Net") "want") fd
  g_check_rising : mg "check_rising" = some (.ref (He.ga K "check_rising"))
  d_check_rising : ∃ fd, FunD K "check_rising" "check_rising" (defArgs s_check_rising) (defBody s_check_rising) (defScope s_check_rising) [] [] (He.ga K "check_rising") fd
  g_check_rungs : mg "check_rungs" = some (.ref (He.ga K "check_rungs"))
  d_check_rungs : ∃ fd, FunD K "check_rungs" "check_rungs" (defArgs s_check_rungs) (defBody s_check_rungs) (defScope s_check_rungs) [] [] (He.ga K "check_rungs") fd
  d_Net_set_road : ∃ fd, FunD K "set_road" "Net.set_road" (defArgs s_Net_set_road) (defBody s_Net_set_road) (defScope s_Net_set_road) [] [] (He.ma K (He.ga K "Net") "set_road") fd
  d_Net_road : ∃ fd, FunD K "road" "Net.road" (defArgs s_Net_road) (defBody s_Net_road) (defScope s_Net_road) [] [("takes", (.int 0)), ("floor", (.ref ((kwdAt ("Net", some "road") "floor") K))), ("rungs", (.ref (He.ga K "OPEN_RUNG")))] (He.ma K (He.ga K "Net") "road") fd
  g_Lmade : mg "_law_made" = some (.ref (He.ga K "_law_made"))
  d_Lmade : ∃ fd, FunD K "_law_made" "_law_made" (defArgs s_Lmade) (defBody s_Lmade) (defScope s_Lmade) [] [] (He.ga K "_law_made") fd
  g_Lcopy : mg "_law_copy" = some (.ref (He.ga K "_law_copy"))
  d_Lcopy : ∃ fd, FunD K "_law_copy" "_law_copy" (defArgs s_Lcopy) (defBody s_Lcopy) (defScope s_Lcopy) [] [] (He.ga K "_law_copy") fd
  g_Lpick : mg "_law_pick" = some (.ref (He.ga K "_law_pick"))
  d_Lpick : ∃ fd, FunD K "_law_pick" "_law_pick" (defArgs s_Lpick) (defBody s_Lpick) (defScope s_Lpick) [] [] (He.ga K "_law_pick") fd
  g_Lchanged : mg "_law_changed" = some (.ref (He.ga K "_law_changed"))
  d_Lchanged : ∃ fd, FunD K "_law_changed" "_law_changed" (defArgs s_Lchanged) (defBody s_Lchanged) (defScope s_Lchanged) [] [] (He.ga K "_law_changed") fd
  g_Lmove_word : mg "_law_move_word" = some (.ref (He.ga K "_law_move_word"))
  d_Lmove_word : ∃ fd, FunD K "_law_move_word" "_law_move_word" (defArgs s_Lmove_word) (defBody s_Lmove_word) (defScope s_Lmove_word) [] [] (He.ga K "_law_move_word") fd
  g_Lroad_row : mg "_law_road_row" = some (.ref (He.ga K "_law_road_row"))
  d_Lroad_row : ∃ fd, FunD K "_law_road_row" "_law_road_row" (defArgs s_Lroad_row) (defBody s_Lroad_row) (defScope s_Lroad_row) [] [] (He.ga K "_law_road_row") fd
  g_Lrows : mg "_law_rows" = some (.ref (He.ga K "_law_rows"))
  d_Lrows : ∃ fd, FunD K "_law_rows" "_law_rows" (defArgs s_Lrows) (defBody s_Lrows) (defScope s_Lrows) [] [] (He.ga K "_law_rows") fd
  g_Ltext : mg "_law_text" = some (.ref (He.ga K "_law_text"))
  d_Ltext : ∃ fd, FunD K "_law_text" "_law_text" (defArgs s_Ltext) (defBody s_Ltext) (defScope s_Ltext) [] [] (He.ga K "_law_text") fd
  d_Net_place_names : ∃ fd, FunD K "place_names" "Net.place_names" (defArgs s_Net_place_names) (defBody s_Net_place_names) (defScope s_Net_place_names) [] [] (He.ma K (He.ga K "Net") "place_names") fd
  d_Net_place_told : ∃ fd, FunD K "place_told" "Net.place_told" (defArgs s_Net_place_told) (defBody s_Net_place_told) (defScope s_Net_place_told) [] [] (He.ma K (He.ga K "Net") "place_told") fd
  g_written : mg "written" = some (.ref (He.ga K "written"))
  d_written : ∃ fd, FunD K "written" "written" (defArgs s_written) (defBody s_written) (defScope s_written) [] [] (He.ga K "written") fd
  g_room_word : mg "room_word" = some (.ref (He.ga K "room_word"))
  d_room_word : ∃ fd, FunD K "room_word" "room_word" (defArgs s_room_word) (defBody s_room_word) (defScope s_room_word) [] [] (He.ga K "room_word") fd
  g_place_rows : mg "place_rows" = some (.ref (He.ga K "place_rows"))
  d_place_rows : ∃ fd, FunD K "place_rows" "place_rows" (defArgs s_place_rows) (defBody s_place_rows) (defScope s_place_rows) [] [] (He.ga K "place_rows") fd
  d_Net_road_names : ∃ fd, FunD K "road_names" "Net.road_names" (defArgs s_Net_road_names) (defBody s_Net_road_names) (defScope s_Net_road_names) [] [] (He.ma K (He.ga K "Net") "road_names") fd
  d_Net_road_told : ∃ fd, FunD K "road_told" "Net.road_told" (defArgs s_Net_road_told) (defBody s_Net_road_told) (defScope s_Net_road_told) [] [] (He.ma K (He.ga K "Net") "road_told") fd
  g_road_row : mg "road_row" = some (.ref (He.ga K "road_row"))
  d_road_row : ∃ fd, FunD K "road_row" "road_row" (defArgs s_road_row) (defBody s_road_row) (defScope s_road_row) [] [] (He.ga K "road_row") fd
  g_text_of : mg "text_of" = some (.ref (He.ga K "text_of"))
  d_text_of : ∃ fd, FunD K "text_of" "text_of" (defArgs s_text_of) (defBody s_text_of) (defScope s_text_of) [] [] (He.ga K "text_of") fd
  d_Net_UeqU : ∃ fd, FunD K "__eq__" "Net.__eq__" (defArgs s_Net_UeqU) (defBody s_Net_UeqU) (defScope s_Net_UeqU) [] [] (He.ma K (He.ga K "Net") "__eq__") fd
  d_Net_twin : ∃ fd, FunD K "twin" "Net.twin" (defArgs s_Net_twin) (defBody s_Net_twin) (defScope s_Net_twin) [] [] (He.ma K (He.ga K "Net") "twin") fd
  d_Net_UstrU : ∃ fd, FunD K "__str__" "Net.__str__" (defArgs s_Net_UstrU) (defBody s_Net_UstrU) (defScope s_Net_UstrU) [] [] (He.ma K (He.ga K "Net") "__str__") fd
  g_law : mg "law" = some (.ref (He.ga K "law"))
  d_law : ∃ fd, FunD K "law" "law" (defArgs s_law) (defBody s_law) (defScope s_law) [] [] (He.ga K "law") fd
  di_WeirError : ∃ fd, FunD K "__init__" "WeirError.__init__" (defArgs si0_WeirError) (defBody si0_WeirError) (defScope si0_WeirError) [] [] (He.ma K (He.ga K "WeirError") "__init__") fd
  di_NetError : ∃ fd, FunD K "__init__" "NetError.__init__" (defArgs si0_NetError) (defBody si0_NetError) (defScope si0_NetError) [] [] (He.ma K (He.ga K "NetError") "__init__") fd
  di_BadBox : ∃ fd, FunD K "__init__" "BadBox.__init__" (defArgs si0_BadBox) (defBody si0_BadBox) (defScope si0_BadBox) [] [] (He.ma K (He.ga K "BadBox") "__init__") fd
  di_BadHours : ∃ fd, FunD K "__init__" "BadHours.__init__" (defArgs si0_BadHours) (defBody si0_BadHours) (defScope si0_BadHours) [] [] (He.ma K (He.ga K "BadHours") "__init__") fd
  di_FormError : ∃ fd, FunD K "__init__" "FormError.__init__" (defArgs si0_FormError) (defBody si0_FormError) (defScope si0_FormError) [] [] (He.ma K (He.ga K "FormError") "__init__") fd
  di_BadName : ∃ fd, FunD K "__init__" "BadName.__init__" (defArgs si0_BadName) (defBody si0_BadName) (defScope si0_BadName) [] [] (He.ma K (He.ga K "BadName") "__init__") fd
  di_BadRungs : ∃ fd, FunD K "__init__" "BadRungs.__init__" (defArgs si0_BadRungs) (defBody si0_BadRungs) (defScope si0_BadRungs) [] [] (He.ma K (He.ga K "BadRungs") "__init__") fd
  di_BadTakes : ∃ fd, FunD K "__init__" "BadTakes.__init__" (defArgs si0_BadTakes) (defBody si0_BadTakes) (defScope si0_BadTakes) [] [] (He.ma K (He.ga K "BadTakes") "__init__") fd
  di_Below : ∃ fd, FunD K "__init__" "Below.__init__" (defArgs si0_Below) (defBody si0_Below) (defScope si0_Below) [] [] (He.ma K (He.ga K "Below") "__init__") fd
  di_Falls : ∃ fd, FunD K "__init__" "Falls.__init__" (defArgs si0_Falls) (defBody si0_Falls) (defScope si0_Falls) [] [] (He.ma K (He.ga K "Falls") "__init__") fd
  di_NoHour : ∃ fd, FunD K "__init__" "NoHour.__init__" (defArgs si0_NoHour) (defBody si0_NoHour) (defScope si0_NoHour) [] [] (He.ma K (He.ga K "NoHour") "__init__") fd
  di_NoPlace : ∃ fd, FunD K "__init__" "NoPlace.__init__" (defArgs si0_NoPlace) (defBody si0_NoPlace) (defScope si0_NoPlace) [] [] (He.ma K (He.ga K "NoPlace") "__init__") fd
  di_NoRoad : ∃ fd, FunD K "__init__" "NoRoad.__init__" (defArgs si0_NoRoad) (defBody si0_NoRoad) (defScope si0_NoRoad) [] [] (He.ma K (He.ga K "NoRoad") "__init__") fd
  di_Taken : ∃ fd, FunD K "__init__" "Taken.__init__" (defArgs si0_Taken) (defBody si0_Taken) (defScope si0_Taken) [] [] (He.ma K (He.ga K "Taken") "__init__") fd
  di_TooFar : ∃ fd, FunD K "__init__" "TooFar.__init__" (defArgs si0_TooFar) (defBody si0_TooFar) (defScope si0_TooFar) [] [] (He.ma K (He.ga K "TooFar") "__init__") fd
  di_TooMany : ∃ fd, FunD K "__init__" "TooMany.__init__" (defArgs si0_TooMany) (defBody si0_TooMany) (defScope si0_TooMany) [] [] (He.ma K (He.ga K "TooMany") "__init__") fd
  m_abs : mg "abs" = none
  m_dict : mg "dict" = none
  m_enumerate : mg "enumerate" = none
  m_int : mg "int" = none
  m_isinstance : mg "isinstance" = none
  m_len : mg "len" = none
  m_list : mg "list" = none
  m_min : mg "min" = none
  m_range : mg "range" = none
  m_str : mg "str" = none
  m_tuple : mg "tuple" = none
  m_ValueError : mg "ValueError" = none
  c_FIRST : ∃ t, mg "FIRST" = some (.str "abcdefghijklmnopqrstuvwxyz" t)
  c_LATER : ∃ t, mg "LATER" = some (.str "abcdefghijklmnopqrstuvwxyz0123456789" t)
  c_MOST : ∃ t, mg "MOST" = some (.int 1000000 t)
  c_MOST_HOURS : ∃ t, mg "MOST_HOURS" = some (.int 6 t)
  c_MOST_PLACES : ∃ t, mg "MOST_PLACES" = some (.int 12 t)
  c_MOST_ROADS : ∃ t, mg "MOST_ROADS" = some (.int 24 t)
  c_MOST_RUNGS : ∃ t, mg "MOST_RUNGS" = some (.int 4 t)
  c_MOST_SIGNS : ∃ t, mg "MOST_SIGNS" = some (.int 8 t)
  c_MOST_TAKES : ∃ t, mg "MOST_TAKES" = some (.int 9 t)
  g_Net : mg "Net" = some (.ref (He.ga K "Net"))
  me_Net_UeqU : Meth K (He.ga K "Net") "__eq__" (He.ma K (He.ga K "Net") "__eq__")
  me_Net_UstrU : Meth K (He.ga K "Net") "__str__" (He.ma K (He.ga K "Net") "__str__")
  me_Net_fresh : Meth K (He.ga K "Net") "fresh" (He.ma K (He.ga K "Net") "fresh")
  me_Net_known : Meth K (He.ga K "Net") "known" (He.ma K (He.ga K "Net") "known")
  me_Net_place : Meth K (He.ga K "Net") "place" (He.ma K (He.ga K "Net") "place")
  me_Net_place_names : Meth K (He.ga K "Net") "place_names" (He.ma K (He.ga K "Net") "place_names")
  me_Net_place_told : Meth K (He.ga K "Net") "place_told" (He.ma K (He.ga K "Net") "place_told")
  me_Net_road : Meth K (He.ga K "Net") "road" (He.ma K (He.ga K "Net") "road")
  me_Net_road_names : Meth K (He.ga K "Net") "road_names" (He.ma K (He.ga K "Net") "road_names")
  me_Net_road_told : Meth K (He.ga K "Net") "road_told" (He.ma K (He.ga K "Net") "road_told")
  me_Net_set_place : Meth K (He.ga K "Net") "set_place" (He.ma K (He.ga K "Net") "set_place")
  me_Net_set_road : Meth K (He.ga K "Net") "set_road" (He.ma K (He.ga K "Net") "set_road")
  me_Net_store : Meth K (He.ga K "Net") "store" (He.ma K (He.ga K "Net") "store")
  me_Net_through : Meth K (He.ga K "Net") "through" (He.ma K (He.ga K "Net") "through")
  me_Net_twin : Meth K (He.ga K "Net") "twin" (He.ma K (He.ga K "Net") "twin")
  me_Net_want : Meth K (He.ga K "Net") "want" (He.ma K (He.ga K "Net") "want")
  mk_Net : Mk K (He.ga K "Net") (He.ma K (He.ga K "Net") "__init__")
  cl_Net : Cls K (He.ga K "Net")
  cn : ClsN K ccs cfl
  x_WeirError : DW.ExcX K mg "WeirError" xfl
  x_NetError : DW.ExcX K mg "NetError" xfl
  x_BadBox : DW.ExcX K mg "BadBox" xfl
  x_BadHours : DW.ExcX K mg "BadHours" xfl
  x_FormError : DW.ExcX K mg "FormError" xfl
  x_BadName : DW.ExcX K mg "BadName" xfl
  x_BadRungs : DW.ExcX K mg "BadRungs" xfl
  x_BadTakes : DW.ExcX K mg "BadTakes" xfl
  x_Below : DW.ExcX K mg "Below" xfl
  x_Falls : DW.ExcX K mg "Falls" xfl
  x_NoHour : DW.ExcX K mg "NoHour" xfl
  x_NoPlace : DW.ExcX K mg "NoPlace" xfl
  x_NoRoad : DW.ExcX K mg "NoRoad" xfl
  x_Taken : DW.ExcX K mg "Taken" xfl
  x_TooFar : DW.ExcX K mg "TooFar" xfl
  x_TooMany : DW.ExcX K mg "TooMany" xfl
  ve : PySem.W.findCls K (.type "ValueError") (.type "type") "__init__" = some (.val (.builtin "ValueError.__init__"))
  on : ∀ c ∈ ccs, OwnN K c
  oc : ∀ c ∈ ccs, OwnC K ccs c
  dk_Net_UinitU_s_box : ∀ as H, Rel K as H (.tup [(.int 0), (.int 0)]) (.ref ((kwdAt ("Net", some "__init__") "s_box") K))
  dk_Net_UinitU_t_box : ∀ as H, Rel K as H (.tup [(.int 0), (.int 0)]) (.ref ((kwdAt ("Net", some "__init__") "t_box") K))
  df_Net_store_0 : ∀ as H, Rel K as H (.tup [(.int 0), (.int 0)]) (.ref ((He.dflAt ("Net", some "store") 0) K))
  df_Net_store_1 : ∀ as H, Rel K as H (.tup [(.int 0), (.int 0)]) (.ref ((He.dflAt ("Net", some "store") 1) K))
  df_Net_want_0 : ∀ as H, Rel K as H (.tup [(.int 0), (.int 0)]) (.ref ((He.dflAt ("Net", some "want") 0) K))
  dk_Net_road_floor : ∀ as H, Rel K as H (.tup [(.int 0), (.int 0)]) (.ref ((kwdAt ("Net", some "road") "floor") K))
  dk_Net_road_rungs : ∀ as H, Rel K as H (.tup [(.tup [.non, (.tup [(.int 0), (.int 0)])])]) (.ref (He.ga K "OPEN_RUNG"))
abbrev si_WeirError : Stmt := inClass (topS 2) 0
theorem sci_WeirError : FnScope ["self", "word"] ["self", "word"] (defScope si_WeirError) := ⟨rfl, rfl, rfl, by decide +kernel, rfl, by decide +kernel, by decide +kernel⟩
def ti_WeirError (K : PySem.W.Frag) : TS :=
  (tSeq (tDrop (tVeI K (tCons (tVar 0) (tCons (tVar 1) tNil)))) (tOst K "word" (tVar 0) (tVar 1)))
theorem pui_WeirError (K : PySem.W.Frag) (vs : List V) (H : Hp) (Q : VK) (E : XK) (h : spIn K 1 xs_WeirError vs H Q E) : ti_WeirError K ⟨fun _ H' => Q .non H', Q, fun _ _ => False, fun _ _ => False⟩ (start ["self", "word"] vs) H := by
  obtain ⟨a, ws, rfl, hl, C, ha, hC, hn, k⟩ := h
  match ws, hl with
  | [w0], _ =>
    show ti_WeirError K _ [some (.ref a), some w0] H
    refine ⟨_, rfl, _, rfl, a, C, _, rfl, Nat.le_of_ble_eq_true rfl, hC, ha, ?_⟩
    exact ⟨_, rfl, _, rfl, a, C, rfl, hC, hn "word" (by simp [flV, xs_WeirError]), .inl ⟨ha, k⟩⟩
theorem oki_WeirError {P : Program} {w : World} {K : PySem.W.Frag} {mg : Str → Option Value} {base : Heap} (T : Tx K mg) : DW.FnM P w K mg base CX0 1 "WeirError" "__init__" ["self", "word"] (spIn K 1 xs_WeirError) := by
  obtain ⟨fd, F⟩ := T.di_WeirError
  refine ⟨fd, F.ok sci_WeirError (fun vs H Q E h => by obtain ⟨a, ws, rfl, hl, _⟩ := h; simp [hl]) (fun cdv A outer s H vs Q E hr h => ⟨ti_WeirError K, PSs.nox ?_, pui_WeirError K vs H Q E h⟩), FunD.bindsN F (ps := ["self", "word"]) fun _ _ _ _ _ _ us hl => match us, hl with | [_, _], _ => rfl⟩
  exact (pss_cons (ps_expr (pe_veinit (by rfl) T.m_ValueError T.ve (pa_cons (pv 0) (pa_cons (pv 1) pa_nil)))) (pss_one (ps_ost (pv 0) (pv 1))))
abbrev si_NetError : Stmt := inClass (topS 7) 0
theorem sci_NetError : FnScope ["self", "word"] ["self", "word"] (defScope si_NetError) := ⟨rfl, rfl, rfl, by decide +kernel, rfl, by decide +kernel, by decide +kernel⟩
def ti_NetError (K : PySem.W.Frag) : TS :=
  (tDrop (tCall (spIn K 1 xs_WeirError) [] E0 (tCons (tVar 0) (tCons (tVar 1) tNil))))
theorem pui_NetError (K : PySem.W.Frag) (vs : List V) (H : Hp) (Q : VK) (E : XK) (h : spIn K 1 xs_NetError vs H Q E) : ti_NetError K ⟨fun _ H' => Q .non H', Q, fun _ _ => False, fun _ _ => False⟩ (start ["self", "word"] vs) H := by
  obtain ⟨a, ws, rfl, hl, C, ha, hC, hn, k⟩ := h
  match ws, hl with
  | [w0], _ =>
    show ti_NetError K _ [some (.ref a), some w0] H
    refine ⟨_, rfl, _, rfl, a, [w0], rfl, rfl, C, ha, hC, fun f hf => hn f ?_, fun dx hdx hne => ?_⟩
    · simp [flV, xs_NetError, xs_WeirError] at hf ⊢; simp [hf]
    · exact k dx hdx hne
theorem oki_NetError {P : Program} {w : World} {K : PySem.W.Frag} {mg : Str → Option Value} {base : Heap} (T : Tx K mg)
    (G_WeirError_init : DW.FnM P w K mg base CX0 1 "WeirError" "__init__" ["self", "word"] (spIn K 1 xs_WeirError)) : DW.FnM P w K mg base CX0 2 "NetError" "__init__" ["self", "word"] (spIn K 1 xs_NetError) := by
  obtain ⟨fd, F⟩ := T.di_NetError
  refine ⟨fd, F.ok sci_NetError (fun vs H Q E h => by obtain ⟨a, ws, rfl, hl, _⟩ := h; simp [hl]) (fun cdv A outer s H vs Q E hr h => ⟨ti_NetError K, PSs.nox ?_, pui_NetError K vs H Q E h⟩), FunD.bindsN F (ps := ["self", "word"]) fun _ _ _ _ _ _ us hl => match us, hl with | [_, _], _ => rfl⟩
  exact (pss_one (ps_expr (DW.pe_init T.x_WeirError G_WeirError_init (hr.mono (by decide)) (by rfl) pass0 (pa_cons (pv 0) (pa_cons (pv 1) pa_nil)))) )
abbrev si_BadBox : Stmt := inClass (topS 9) 0
theorem sci_BadBox : FnScope ["self", "dial"] ["self", "dial"] (defScope si_BadBox) := ⟨rfl, rfl, rfl, by decide +kernel, rfl, by decide +kernel, by decide +kernel⟩
def ti_BadBox (K : PySem.W.Frag) : TS :=
  (tSeq (tDrop (tCall (spIn K 1 xs_NetError) [] E0 (tCons (tVar 0) (tCons (tC (.str "bad box")) tNil)))) (tOst K "dial" (tVar 0) (tVar 1)))
theorem pui_BadBox (K : PySem.W.Frag) (vs : List V) (H : Hp) (Q : VK) (E : XK) (h : spIn K 1 xs_BadBox vs H Q E) : ti_BadBox K ⟨fun _ H' => Q .non H', Q, fun _ _ => False, fun _ _ => False⟩ (start ["self", "dial"] vs) H := by
  obtain ⟨a, ws, rfl, hl, C, ha, hC, hn, k⟩ := h
  match ws, hl with
  | [w0], _ =>
    show ti_BadBox K _ [some (.ref a), some w0] H
    refine ⟨_, rfl, a, [.str "bad box"], rfl, rfl, C, ha, hC, fun f hf => hn f ?_, fun dx hdx hne => ?_⟩
    · simp [flV, xs_BadBox, xs_NetError] at hf ⊢; simp [hf]
    · have hA0 : (upd (upd H dx (exd dx (flV xs_NetError [.str "bad box"]))) a (exo a C (some dx))) a = some (exo a C (some dx)) := by
        exact upd_same
      have hD0 : (upd (upd H dx (exd dx (flV xs_NetError [.str "bad box"]))) a (exo a C (some dx))) dx = some (exd dx (flV xs_NetError [.str "bad box"])) := by
        rw [upd_ne hne, upd_same]
      refine ⟨_, rfl, _, rfl, a, C, rfl, hC, hn "dial" (by simp [flV, xs_BadBox]), .inr ⟨dx, _, hA0, hD0, by simp [flV, xs_NetError], ?_⟩⟩
      have e : upd (upd (upd H dx (exd dx (flV xs_NetError [.str "bad box"]))) a (exo a C (some dx))) dx (exd dx (("dial", w0) :: flV xs_NetError [.str "bad box"])) = upd (upd H dx (exd dx (flV xs_BadBox [w0]))) a (exo a C (some dx)) := by
        funext y; by_cases h1 : y = dx
        · subst h1; rw [upd_same, upd_ne hne, upd_same]; rfl
        · by_cases h2 : y = a
          · subst h2; simp only [upd, if_neg h1, if_true]
          · simp only [upd, if_neg h1, if_neg h2]
      rw [e]; exact k dx hdx hne
theorem oki_BadBox {P : Program} {w : World} {K : PySem.W.Frag} {mg : Str → Option Value} {base : Heap} (T : Tx K mg)
    (G_NetError_init : DW.FnM P w K mg base CX0 2 "NetError" "__init__" ["self", "word"] (spIn K 1 xs_NetError)) : DW.FnM P w K mg base CX0 3 "BadBox" "__init__" ["self", "dial"] (spIn K 1 xs_BadBox) := by
  obtain ⟨fd, F⟩ := T.di_BadBox
  refine ⟨fd, F.ok sci_BadBox (fun vs H Q E h => by obtain ⟨a, ws, rfl, hl, _⟩ := h; simp [hl]) (fun cdv A outer s H vs Q E hr h => ⟨ti_BadBox K, PSs.nox ?_, pui_BadBox K vs H Q E h⟩), FunD.bindsN F (ps := ["self", "dial"]) fun _ _ _ _ _ _ us hl => match us, hl with | [_, _], _ => rfl⟩
  exact (pss_cons (ps_expr (DW.pe_init T.x_NetError G_NetError_init (hr.mono (by decide)) (by rfl) pass0 (pa_cons (pv 0) (pa_cons pe_str pa_nil)))) (pss_one (ps_ost (pv 0) (pv 1))))
abbrev si_BadHours : Stmt := inClass (topS 8) 0
theorem sci_BadHours : FnScope ["self", "number"] ["self", "number"] (defScope si_BadHours) := ⟨rfl, rfl, rfl, by decide +kernel, rfl, by decide +kernel, by decide +kernel⟩
def ti_BadHours (K : PySem.W.Frag) : TS :=
  (tSeq (tDrop (tCall (spIn K 1 xs_NetError) [] E0 (tCons (tVar 0) (tCons (tC (.str "bad hours")) tNil)))) (tOst K "number" (tVar 0) (tVar 1)))
theorem pui_BadHours (K : PySem.W.Frag) (vs : List V) (H : Hp) (Q : VK) (E : XK) (h : spIn K 1 xs_BadHours vs H Q E) : ti_BadHours K ⟨fun _ H' => Q .non H', Q, fun _ _ => False, fun _ _ => False⟩ (start ["self", "number"] vs) H := by
  obtain ⟨a, ws, rfl, hl, C, ha, hC, hn, k⟩ := h
  match ws, hl with
  | [w0], _ =>
    show ti_BadHours K _ [some (.ref a), some w0] H
    refine ⟨_, rfl, a, [.str "bad hours"], rfl, rfl, C, ha, hC, fun f hf => hn f ?_, fun dx hdx hne => ?_⟩
    · simp [flV, xs_BadHours, xs_NetError] at hf ⊢; simp [hf]
    · have hA0 : (upd (upd H dx (exd dx (flV xs_NetError [.str "bad hours"]))) a (exo a C (some dx))) a = some (exo a C (some dx)) := by
        exact upd_same
      have hD0 : (upd (upd H dx (exd dx (flV xs_NetError [.str "bad hours"]))) a (exo a C (some dx))) dx = some (exd dx (flV xs_NetError [.str "bad hours"])) := by
        rw [upd_ne hne, upd_same]
      refine ⟨_, rfl, _, rfl, a, C, rfl, hC, hn "number" (by simp [flV, xs_BadHours]), .inr ⟨dx, _, hA0, hD0, by simp [flV, xs_NetError], ?_⟩⟩
      have e : upd (upd (upd H dx (exd dx (flV xs_NetError [.str "bad hours"]))) a (exo a C (some dx))) dx (exd dx (("number", w0) :: flV xs_NetError [.str "bad hours"])) = upd (upd H dx (exd dx (flV xs_BadHours [w0]))) a (exo a C (some dx)) := by
        funext y; by_cases h1 : y = dx
        · subst h1; rw [upd_same, upd_ne hne, upd_same]; rfl
        · by_cases h2 : y = a
          · subst h2; simp only [upd, if_neg h1, if_true]
          · simp only [upd, if_neg h1, if_neg h2]
      rw [e]; exact k dx hdx hne
theorem oki_BadHours {P : Program} {w : World} {K : PySem.W.Frag} {mg : Str → Option Value} {base : Heap} (T : Tx K mg)
    (G_NetError_init : DW.FnM P w K mg base CX0 2 "NetError" "__init__" ["self", "word"] (spIn K 1 xs_NetError)) : DW.FnM P w K mg base CX0 3 "BadHours" "__init__" ["self", "number"] (spIn K 1 xs_BadHours) := by
  obtain ⟨fd, F⟩ := T.di_BadHours
  refine ⟨fd, F.ok sci_BadHours (fun vs H Q E h => by obtain ⟨a, ws, rfl, hl, _⟩ := h; simp [hl]) (fun cdv A outer s H vs Q E hr h => ⟨ti_BadHours K, PSs.nox ?_, pui_BadHours K vs H Q E h⟩), FunD.bindsN F (ps := ["self", "number"]) fun _ _ _ _ _ _ us hl => match us, hl with | [_, _], _ => rfl⟩
  exact (pss_cons (ps_expr (DW.pe_init T.x_NetError G_NetError_init (hr.mono (by decide)) (by rfl) pass0 (pa_cons (pv 0) (pa_cons pe_str pa_nil)))) (pss_one (ps_ost (pv 0) (pv 1))))
abbrev si_FormError : Stmt := inClass (topS 3) 0
theorem sci_FormError : FnScope ["self", "word"] ["self", "word"] (defScope si_FormError) := ⟨rfl, rfl, rfl, by decide +kernel, rfl, by decide +kernel, by decide +kernel⟩
def ti_FormError (K : PySem.W.Frag) : TS :=
  (tDrop (tCall (spIn K 1 xs_WeirError) [] E0 (tCons (tVar 0) (tCons (tVar 1) tNil))))
theorem pui_FormError (K : PySem.W.Frag) (vs : List V) (H : Hp) (Q : VK) (E : XK) (h : spIn K 1 xs_FormError vs H Q E) : ti_FormError K ⟨fun _ H' => Q .non H', Q, fun _ _ => False, fun _ _ => False⟩ (start ["self", "word"] vs) H := by
  obtain ⟨a, ws, rfl, hl, C, ha, hC, hn, k⟩ := h
  match ws, hl with
  | [w0], _ =>
    show ti_FormError K _ [some (.ref a), some w0] H
    refine ⟨_, rfl, _, rfl, a, [w0], rfl, rfl, C, ha, hC, fun f hf => hn f ?_, fun dx hdx hne => ?_⟩
    · simp [flV, xs_FormError, xs_WeirError] at hf ⊢; simp [hf]
    · exact k dx hdx hne
theorem oki_FormError {P : Program} {w : World} {K : PySem.W.Frag} {mg : Str → Option Value} {base : Heap} (T : Tx K mg)
    (G_WeirError_init : DW.FnM P w K mg base CX0 1 "WeirError" "__init__" ["self", "word"] (spIn K 1 xs_WeirError)) : DW.FnM P w K mg base CX0 2 "FormError" "__init__" ["self", "word"] (spIn K 1 xs_FormError) := by
  obtain ⟨fd, F⟩ := T.di_FormError
  refine ⟨fd, F.ok sci_FormError (fun vs H Q E h => by obtain ⟨a, ws, rfl, hl, _⟩ := h; simp [hl]) (fun cdv A outer s H vs Q E hr h => ⟨ti_FormError K, PSs.nox ?_, pui_FormError K vs H Q E h⟩), FunD.bindsN F (ps := ["self", "word"]) fun _ _ _ _ _ _ us hl => match us, hl with | [_, _], _ => rfl⟩
  exact (pss_one (ps_expr (DW.pe_init T.x_WeirError G_WeirError_init (hr.mono (by decide)) (by rfl) pass0 (pa_cons (pv 0) (pa_cons (pv 1) pa_nil)))) )
abbrev si_BadName : Stmt := inClass (topS 4) 0
theorem sci_BadName : FnScope ["self", "name"] ["self", "name"] (defScope si_BadName) := ⟨rfl, rfl, rfl, by decide +kernel, rfl, by decide +kernel, by decide +kernel⟩
def ti_BadName (K : PySem.W.Frag) : TS :=
  (tSeq (tDrop (tCall (spIn K 1 xs_FormError) [] E0 (tCons (tVar 0) (tCons (tC (.str "bad name")) tNil)))) (tOst K "name" (tVar 0) (tVar 1)))
theorem pui_BadName (K : PySem.W.Frag) (vs : List V) (H : Hp) (Q : VK) (E : XK) (h : spIn K 1 xs_BadName vs H Q E) : ti_BadName K ⟨fun _ H' => Q .non H', Q, fun _ _ => False, fun _ _ => False⟩ (start ["self", "name"] vs) H := by
  obtain ⟨a, ws, rfl, hl, C, ha, hC, hn, k⟩ := h
  match ws, hl with
  | [w0], _ =>
    show ti_BadName K _ [some (.ref a), some w0] H
    refine ⟨_, rfl, a, [.str "bad name"], rfl, rfl, C, ha, hC, fun f hf => hn f ?_, fun dx hdx hne => ?_⟩
    · simp [flV, xs_BadName, xs_FormError] at hf ⊢; simp [hf]
    · have hA0 : (upd (upd H dx (exd dx (flV xs_FormError [.str "bad name"]))) a (exo a C (some dx))) a = some (exo a C (some dx)) := by
        exact upd_same
      have hD0 : (upd (upd H dx (exd dx (flV xs_FormError [.str "bad name"]))) a (exo a C (some dx))) dx = some (exd dx (flV xs_FormError [.str "bad name"])) := by
        rw [upd_ne hne, upd_same]
      refine ⟨_, rfl, _, rfl, a, C, rfl, hC, hn "name" (by simp [flV, xs_BadName]), .inr ⟨dx, _, hA0, hD0, by simp [flV, xs_FormError], ?_⟩⟩
      have e : upd (upd (upd H dx (exd dx (flV xs_FormError [.str "bad name"]))) a (exo a C (some dx))) dx (exd dx (("name", w0) :: flV xs_FormError [.str "bad name"])) = upd (upd H dx (exd dx (flV xs_BadName [w0]))) a (exo a C (some dx)) := by
        funext y; by_cases h1 : y = dx
        · subst h1; rw [upd_same, upd_ne hne, upd_same]; rfl
        · by_cases h2 : y = a
          · subst h2; simp only [upd, if_neg h1, if_true]
          · simp only [upd, if_neg h1, if_neg h2]
      rw [e]; exact k dx hdx hne
theorem oki_BadName {P : Program} {w : World} {K : PySem.W.Frag} {mg : Str → Option Value} {base : Heap} (T : Tx K mg)
    (G_FormError_init : DW.FnM P w K mg base CX0 2 "FormError" "__init__" ["self", "word"] (spIn K 1 xs_FormError)) : DW.FnM P w K mg base CX0 3 "BadName" "__init__" ["self", "name"] (spIn K 1 xs_BadName) := by
  obtain ⟨fd, F⟩ := T.di_BadName
  refine ⟨fd, F.ok sci_BadName (fun vs H Q E h => by obtain ⟨a, ws, rfl, hl, _⟩ := h; simp [hl]) (fun cdv A outer s H vs Q E hr h => ⟨ti_BadName K, PSs.nox ?_, pui_BadName K vs H Q E h⟩), FunD.bindsN F (ps := ["self", "name"]) fun _ _ _ _ _ _ us hl => match us, hl with | [_, _], _ => rfl⟩
  exact (pss_cons (ps_expr (DW.pe_init T.x_FormError G_FormError_init (hr.mono (by decide)) (by rfl) pass0 (pa_cons (pv 0) (pa_cons pe_str pa_nil)))) (pss_one (ps_ost (pv 0) (pv 1))))
abbrev si_BadRungs : Stmt := inClass (topS 20) 0
theorem sci_BadRungs : FnScope ["self", "name"] ["self", "name"] (defScope si_BadRungs) := ⟨rfl, rfl, rfl, by decide +kernel, rfl, by decide +kernel, by decide +kernel⟩
def ti_BadRungs (K : PySem.W.Frag) : TS :=
  (tSeq (tDrop (tCall (spIn K 1 xs_NetError) [] E0 (tCons (tVar 0) (tCons (tC (.str "bad rungs")) tNil)))) (tOst K "name" (tVar 0) (tVar 1)))
theorem pui_BadRungs (K : PySem.W.Frag) (vs : List V) (H : Hp) (Q : VK) (E : XK) (h : spIn K 1 xs_BadRungs vs H Q E) : ti_BadRungs K ⟨fun _ H' => Q .non H', Q, fun _ _ => False, fun _ _ => False⟩ (start ["self", "name"] vs) H := by
  obtain ⟨a, ws, rfl, hl, C, ha, hC, hn, k⟩ := h
  match ws, hl with
  | [w0], _ =>
    show ti_BadRungs K _ [some (.ref a), some w0] H
    refine ⟨_, rfl, a, [.str "bad rungs"], rfl, rfl, C, ha, hC, fun f hf => hn f ?_, fun dx hdx hne => ?_⟩
    · simp [flV, xs_BadRungs, xs_NetError] at hf ⊢; simp [hf]
    · have hA0 : (upd (upd H dx (exd dx (flV xs_NetError [.str "bad rungs"]))) a (exo a C (some dx))) a = some (exo a C (some dx)) := by
        exact upd_same
      have hD0 : (upd (upd H dx (exd dx (flV xs_NetError [.str "bad rungs"]))) a (exo a C (some dx))) dx = some (exd dx (flV xs_NetError [.str "bad rungs"])) := by
        rw [upd_ne hne, upd_same]
      refine ⟨_, rfl, _, rfl, a, C, rfl, hC, hn "name" (by simp [flV, xs_BadRungs]), .inr ⟨dx, _, hA0, hD0, by simp [flV, xs_NetError], ?_⟩⟩
      have e : upd (upd (upd H dx (exd dx (flV xs_NetError [.str "bad rungs"]))) a (exo a C (some dx))) dx (exd dx (("name", w0) :: flV xs_NetError [.str "bad rungs"])) = upd (upd H dx (exd dx (flV xs_BadRungs [w0]))) a (exo a C (some dx)) := by
        funext y; by_cases h1 : y = dx
        · subst h1; rw [upd_same, upd_ne hne, upd_same]; rfl
        · by_cases h2 : y = a
          · subst h2; simp only [upd, if_neg h1, if_true]
          · simp only [upd, if_neg h1, if_neg h2]
      rw [e]; exact k dx hdx hne
theorem oki_BadRungs {P : Program} {w : World} {K : PySem.W.Frag} {mg : Str → Option Value} {base : Heap} (T : Tx K mg)
    (G_NetError_init : DW.FnM P w K mg base CX0 2 "NetError" "__init__" ["self", "word"] (spIn K 1 xs_NetError)) : DW.FnM P w K mg base CX0 3 "BadRungs" "__init__" ["self", "name"] (spIn K 1 xs_BadRungs) := by
  obtain ⟨fd, F⟩ := T.di_BadRungs
  refine ⟨fd, F.ok sci_BadRungs (fun vs H Q E h => by obtain ⟨a, ws, rfl, hl, _⟩ := h; simp [hl]) (fun cdv A outer s H vs Q E hr h => ⟨ti_BadRungs K, PSs.nox ?_, pui_BadRungs K vs H Q E h⟩), FunD.bindsN F (ps := ["self", "name"]) fun _ _ _ _ _ _ us hl => match us, hl with | [_, _], _ => rfl⟩
  exact (pss_cons (ps_expr (DW.pe_init T.x_NetError G_NetError_init (hr.mono (by decide)) (by rfl) pass0 (pa_cons (pv 0) (pa_cons pe_str pa_nil)))) (pss_one (ps_ost (pv 0) (pv 1))))
abbrev si_BadTakes : Stmt := inClass (topS 21) 0
theorem sci_BadTakes : FnScope ["self", "number"] ["self", "number"] (defScope si_BadTakes) := ⟨rfl, rfl, rfl, by decide +kernel, rfl, by decide +kernel, by decide +kernel⟩
def ti_BadTakes (K : PySem.W.Frag) : TS :=
  (tSeq (tDrop (tCall (spIn K 1 xs_NetError) [] E0 (tCons (tVar 0) (tCons (tC (.str "bad takes")) tNil)))) (tOst K "number" (tVar 0) (tVar 1)))
theorem pui_BadTakes (K : PySem.W.Frag) (vs : List V) (H : Hp) (Q : VK) (E : XK) (h : spIn K 1 xs_BadTakes vs H Q E) : ti_BadTakes K ⟨fun _ H' => Q .non H', Q, fun _ _ => False, fun _ _ => False⟩ (start ["self", "number"] vs) H := by
  obtain ⟨a, ws, rfl, hl, C, ha, hC, hn, k⟩ := h
  match ws, hl with
  | [w0], _ =>
    show ti_BadTakes K _ [some (.ref a), some w0] H
    refine ⟨_, rfl, a, [.str "bad takes"], rfl, rfl, C, ha, hC, fun f hf => hn f ?_, fun dx hdx hne => ?_⟩
    · simp [flV, xs_BadTakes, xs_NetError] at hf ⊢; simp [hf]
    · have hA0 : (upd (upd H dx (exd dx (flV xs_NetError [.str "bad takes"]))) a (exo a C (some dx))) a = some (exo a C (some dx)) := by
        exact upd_same
      have hD0 : (upd (upd H dx (exd dx (flV xs_NetError [.str "bad takes"]))) a (exo a C (some dx))) dx = some (exd dx (flV xs_NetError [.str "bad takes"])) := by
        rw [upd_ne hne, upd_same]
      refine ⟨_, rfl, _, rfl, a, C, rfl, hC, hn "number" (by simp [flV, xs_BadTakes]), .inr ⟨dx, _, hA0, hD0, by simp [flV, xs_NetError], ?_⟩⟩
      have e : upd (upd (upd H dx (exd dx (flV xs_NetError [.str "bad takes"]))) a (exo a C (some dx))) dx (exd dx (("number", w0) :: flV xs_NetError [.str "bad takes"])) = upd (upd H dx (exd dx (flV xs_BadTakes [w0]))) a (exo a C (some dx)) := by
        funext y; by_cases h1 : y = dx
        · subst h1; rw [upd_same, upd_ne hne, upd_same]; rfl
        · by_cases h2 : y = a
          · subst h2; simp only [upd, if_neg h1, if_true]
          · simp only [upd, if_neg h1, if_neg h2]
      rw [e]; exact k dx hdx hne
theorem oki_BadTakes {P : Program} {w : World} {K : PySem.W.Frag} {mg : Str → Option Value} {base : Heap} (T : Tx K mg)
    (G_NetError_init : DW.FnM P w K mg base CX0 2 "NetError" "__init__" ["self", "word"] (spIn K 1 xs_NetError)) : DW.FnM P w K mg base CX0 3 "BadTakes" "__init__" ["self", "number"] (spIn K 1 xs_BadTakes) := by
  obtain ⟨fd, F⟩ := T.di_BadTakes
  refine ⟨fd, F.ok sci_BadTakes (fun vs H Q E h => by obtain ⟨a, ws, rfl, hl, _⟩ := h; simp [hl]) (fun cdv A outer s H vs Q E hr h => ⟨ti_BadTakes K, PSs.nox ?_, pui_BadTakes K vs H Q E h⟩), FunD.bindsN F (ps := ["self", "number"]) fun _ _ _ _ _ _ us hl => match us, hl with | [_, _], _ => rfl⟩
  exact (pss_cons (ps_expr (DW.pe_init T.x_NetError G_NetError_init (hr.mono (by decide)) (by rfl) pass0 (pa_cons (pv 0) (pa_cons pe_str pa_nil)))) (pss_one (ps_ost (pv 0) (pv 1))))
abbrev si_Below : Stmt := inClass (topS 18) 0
theorem sci_Below : FnScope ["self", "name"] ["self", "name"] (defScope si_Below) := ⟨rfl, rfl, rfl, by decide +kernel, rfl, by decide +kernel, by decide +kernel⟩
def ti_Below (K : PySem.W.Frag) : TS :=
  (tSeq (tDrop (tCall (spIn K 1 xs_NetError) [] E0 (tCons (tVar 0) (tCons (tC (.str "below")) tNil)))) (tOst K "name" (tVar 0) (tVar 1)))
theorem pui_Below (K : PySem.W.Frag) (vs : List V) (H : Hp) (Q : VK) (E : XK) (h : spIn K 1 xs_Below vs H Q E) : ti_Below K ⟨fun _ H' => Q .non H', Q, fun _ _ => False, fun _ _ => False⟩ (start ["self", "name"] vs) H := by
  obtain ⟨a, ws, rfl, hl, C, ha, hC, hn, k⟩ := h
  match ws, hl with
  | [w0], _ =>
    show ti_Below K _ [some (.ref a), some w0] H
    refine ⟨_, rfl, a, [.str "below"], rfl, rfl, C, ha, hC, fun f hf => hn f ?_, fun dx hdx hne => ?_⟩
    · simp [flV, xs_Below, xs_NetError] at hf ⊢; simp [hf]
    · have hA0 : (upd (upd H dx (exd dx (flV xs_NetError [.str "below"]))) a (exo a C (some dx))) a = some (exo a C (some dx)) := by
        exact upd_same
      have hD0 : (upd (upd H dx (exd dx (flV xs_NetError [.str "below"]))) a (exo a C (some dx))) dx = some (exd dx (flV xs_NetError [.str "below"])) := by
        rw [upd_ne hne, upd_same]
      refine ⟨_, rfl, _, rfl, a, C, rfl, hC, hn "name" (by simp [flV, xs_Below]), .inr ⟨dx, _, hA0, hD0, by simp [flV, xs_NetError], ?_⟩⟩
      have e : upd (upd (upd H dx (exd dx (flV xs_NetError [.str "below"]))) a (exo a C (some dx))) dx (exd dx (("name", w0) :: flV xs_NetError [.str "below"])) = upd (upd H dx (exd dx (flV xs_Below [w0]))) a (exo a C (some dx)) := by
        funext y; by_cases h1 : y = dx
        · subst h1; rw [upd_same, upd_ne hne, upd_same]; rfl
        · by_cases h2 : y = a
          · subst h2; simp only [upd, if_neg h1, if_true]
          · simp only [upd, if_neg h1, if_neg h2]
      rw [e]; exact k dx hdx hne
theorem oki_Below {P : Program} {w : World} {K : PySem.W.Frag} {mg : Str → Option Value} {base : Heap} (T : Tx K mg)
    (G_NetError_init : DW.FnM P w K mg base CX0 2 "NetError" "__init__" ["self", "word"] (spIn K 1 xs_NetError)) : DW.FnM P w K mg base CX0 3 "Below" "__init__" ["self", "name"] (spIn K 1 xs_Below) := by
  obtain ⟨fd, F⟩ := T.di_Below
  refine ⟨fd, F.ok sci_Below (fun vs H Q E h => by obtain ⟨a, ws, rfl, hl, _⟩ := h; simp [hl]) (fun cdv A outer s H vs Q E hr h => ⟨ti_Below K, PSs.nox ?_, pui_Below K vs H Q E h⟩), FunD.bindsN F (ps := ["self", "name"]) fun _ _ _ _ _ _ us hl => match us, hl with | [_, _], _ => rfl⟩
  exact (pss_cons (ps_expr (DW.pe_init T.x_NetError G_NetError_init (hr.mono (by decide)) (by rfl) pass0 (pa_cons (pv 0) (pa_cons pe_str pa_nil)))) (pss_one (ps_ost (pv 0) (pv 1))))
abbrev si_Falls : Stmt := inClass (topS 19) 0
theorem sci_Falls : FnScope ["self", "name"] ["self", "name"] (defScope si_Falls) := ⟨rfl, rfl, rfl, by decide +kernel, rfl, by decide +kernel, by decide +kernel⟩
def ti_Falls (K : PySem.W.Frag) : TS :=
  (tSeq (tDrop (tCall (spIn K 1 xs_NetError) [] E0 (tCons (tVar 0) (tCons (tC (.str "falls")) tNil)))) (tOst K "name" (tVar 0) (tVar 1)))
theorem pui_Falls (K : PySem.W.Frag) (vs : List V) (H : Hp) (Q : VK) (E : XK) (h : spIn K 1 xs_Falls vs H Q E) : ti_Falls K ⟨fun _ H' => Q .non H', Q, fun _ _ => False, fun _ _ => False⟩ (start ["self", "name"] vs) H := by
  obtain ⟨a, ws, rfl, hl, C, ha, hC, hn, k⟩ := h
  match ws, hl with
  | [w0], _ =>
    show ti_Falls K _ [some (.ref a), some w0] H
    refine ⟨_, rfl, a, [.str "falls"], rfl, rfl, C, ha, hC, fun f hf => hn f ?_, fun dx hdx hne => ?_⟩
    · simp [flV, xs_Falls, xs_NetError] at hf ⊢; simp [hf]
    · have hA0 : (upd (upd H dx (exd dx (flV xs_NetError [.str "falls"]))) a (exo a C (some dx))) a = some (exo a C (some dx)) := by
        exact upd_same
      have hD0 : (upd (upd H dx (exd dx (flV xs_NetError [.str "falls"]))) a (exo a C (some dx))) dx = some (exd dx (flV xs_NetError [.str "falls"])) := by
        rw [upd_ne hne, upd_same]
      refine ⟨_, rfl, _, rfl, a, C, rfl, hC, hn "name" (by simp [flV, xs_Falls]), .inr ⟨dx, _, hA0, hD0, by simp [flV, xs_NetError], ?_⟩⟩
      have e : upd (upd (upd H dx (exd dx (flV xs_NetError [.str "falls"]))) a (exo a C (some dx))) dx (exd dx (("name", w0) :: flV xs_NetError [.str "falls"])) = upd (upd H dx (exd dx (flV xs_Falls [w0]))) a (exo a C (some dx)) := by
        funext y; by_cases h1 : y = dx
        · subst h1; rw [upd_same, upd_ne hne, upd_same]; rfl
        · by_cases h2 : y = a
          · subst h2; simp only [upd, if_neg h1, if_true]
          · simp only [upd, if_neg h1, if_neg h2]
      rw [e]; exact k dx hdx hne
theorem oki_Falls {P : Program} {w : World} {K : PySem.W.Frag} {mg : Str → Option Value} {base : Heap} (T : Tx K mg)
    (G_NetError_init : DW.FnM P w K mg base CX0 2 "NetError" "__init__" ["self", "word"] (spIn K 1 xs_NetError)) : DW.FnM P w K mg base CX0 3 "Falls" "__init__" ["self", "name"] (spIn K 1 xs_Falls) := by
  obtain ⟨fd, F⟩ := T.di_Falls
  refine ⟨fd, F.ok sci_Falls (fun vs H Q E h => by obtain ⟨a, ws, rfl, hl, _⟩ := h; simp [hl]) (fun cdv A outer s H vs Q E hr h => ⟨ti_Falls K, PSs.nox ?_, pui_Falls K vs H Q E h⟩), FunD.bindsN F (ps := ["self", "name"]) fun _ _ _ _ _ _ us hl => match us, hl with | [_, _], _ => rfl⟩
  exact (pss_cons (ps_expr (DW.pe_init T.x_NetError G_NetError_init (hr.mono (by decide)) (by rfl) pass0 (pa_cons (pv 0) (pa_cons pe_str pa_nil)))) (pss_one (ps_ost (pv 0) (pv 1))))
abbrev si_NoHour : Stmt := inClass (topS 16) 0
theorem sci_NoHour : FnScope ["self", "number"] ["self", "number"] (defScope si_NoHour) := ⟨rfl, rfl, rfl, by decide +kernel, rfl, by decide +kernel, by decide +kernel⟩
def ti_NoHour (K : PySem.W.Frag) : TS :=
  (tSeq (tDrop (tCall (spIn K 1 xs_NetError) [] E0 (tCons (tVar 0) (tCons (tC (.str "no hour")) tNil)))) (tOst K "number" (tVar 0) (tVar 1)))
theorem pui_NoHour (K : PySem.W.Frag) (vs : List V) (H : Hp) (Q : VK) (E : XK) (h : spIn K 1 xs_NoHour vs H Q E) : ti_NoHour K ⟨fun _ H' => Q .non H', Q, fun _ _ => False, fun _ _ => False⟩ (start ["self", "number"] vs) H := by
  obtain ⟨a, ws, rfl, hl, C, ha, hC, hn, k⟩ := h
  match ws, hl with
  | [w0], _ =>
    show ti_NoHour K _ [some (.ref a), some w0] H
    refine ⟨_, rfl, a, [.str "no hour"], rfl, rfl, C, ha, hC, fun f hf => hn f ?_, fun dx hdx hne => ?_⟩
    · simp [flV, xs_NoHour, xs_NetError] at hf ⊢; simp [hf]
    · have hA0 : (upd (upd H dx (exd dx (flV xs_NetError [.str "no hour"]))) a (exo a C (some dx))) a = some (exo a C (some dx)) := by
        exact upd_same
      have hD0 : (upd (upd H dx (exd dx (flV xs_NetError [.str "no hour"]))) a (exo a C (some dx))) dx = some (exd dx (flV xs_NetError [.str "no hour"])) := by
        rw [upd_ne hne, upd_same]
      refine ⟨_, rfl, _, rfl, a, C, rfl, hC, hn "number" (by simp [flV, xs_NoHour]), .inr ⟨dx, _, hA0, hD0, by simp [flV, xs_NetError], ?_⟩⟩
      have e : upd (upd (upd H dx (exd dx (flV xs_NetError [.str "no hour"]))) a (exo a C (some dx))) dx (exd dx (("number", w0) :: flV xs_NetError [.str "no hour"])) = upd (upd H dx (exd dx (flV xs_NoHour [w0]))) a (exo a C (some dx)) := by
        funext y; by_cases h1 : y = dx
        · subst h1; rw [upd_same, upd_ne hne, upd_same]; rfl
        · by_cases h2 : y = a
          · subst h2; simp only [upd, if_neg h1, if_true]
          · simp only [upd, if_neg h1, if_neg h2]
      rw [e]; exact k dx hdx hne
theorem oki_NoHour {P : Program} {w : World} {K : PySem.W.Frag} {mg : Str → Option Value} {base : Heap} (T : Tx K mg)
    (G_NetError_init : DW.FnM P w K mg base CX0 2 "NetError" "__init__" ["self", "word"] (spIn K 1 xs_NetError)) : DW.FnM P w K mg base CX0 3 "NoHour" "__init__" ["self", "number"] (spIn K 1 xs_NoHour) := by
  obtain ⟨fd, F⟩ := T.di_NoHour
  refine ⟨fd, F.ok sci_NoHour (fun vs H Q E h => by obtain ⟨a, ws, rfl, hl, _⟩ := h; simp [hl]) (fun cdv A outer s H vs Q E hr h => ⟨ti_NoHour K, PSs.nox ?_, pui_NoHour K vs H Q E h⟩), FunD.bindsN F (ps := ["self", "number"]) fun _ _ _ _ _ _ us hl => match us, hl with | [_, _], _ => rfl⟩
  exact (pss_cons (ps_expr (DW.pe_init T.x_NetError G_NetError_init (hr.mono (by decide)) (by rfl) pass0 (pa_cons (pv 0) (pa_cons pe_str pa_nil)))) (pss_one (ps_ost (pv 0) (pv 1))))
abbrev si_NoPlace : Stmt := inClass (topS 13) 0
theorem sci_NoPlace : FnScope ["self", "name"] ["self", "name"] (defScope si_NoPlace) := ⟨rfl, rfl, rfl, by decide +kernel, rfl, by decide +kernel, by decide +kernel⟩
def ti_NoPlace (K : PySem.W.Frag) : TS :=
  (tSeq (tDrop (tCall (spIn K 1 xs_NetError) [] E0 (tCons (tVar 0) (tCons (tC (.str "no place")) tNil)))) (tOst K "name" (tVar 0) (tVar 1)))
theorem pui_NoPlace (K : PySem.W.Frag) (vs : List V) (H : Hp) (Q : VK) (E : XK) (h : spIn K 1 xs_NoPlace vs H Q E) : ti_NoPlace K ⟨fun _ H' => Q .non H', Q, fun _ _ => False, fun _ _ => False⟩ (start ["self", "name"] vs) H := by
  obtain ⟨a, ws, rfl, hl, C, ha, hC, hn, k⟩ := h
  match ws, hl with
  | [w0], _ =>
    show ti_NoPlace K _ [some (.ref a), some w0] H
    refine ⟨_, rfl, a, [.str "no place"], rfl, rfl, C, ha, hC, fun f hf => hn f ?_, fun dx hdx hne => ?_⟩
    · simp [flV, xs_NoPlace, xs_NetError] at hf ⊢; simp [hf]
    · have hA0 : (upd (upd H dx (exd dx (flV xs_NetError [.str "no place"]))) a (exo a C (some dx))) a = some (exo a C (some dx)) := by
        exact upd_same
      have hD0 : (upd (upd H dx (exd dx (flV xs_NetError [.str "no place"]))) a (exo a C (some dx))) dx = some (exd dx (flV xs_NetError [.str "no place"])) := by
        rw [upd_ne hne, upd_same]
      refine ⟨_, rfl, _, rfl, a, C, rfl, hC, hn "name" (by simp [flV, xs_NoPlace]), .inr ⟨dx, _, hA0, hD0, by simp [flV, xs_NetError], ?_⟩⟩
      have e : upd (upd (upd H dx (exd dx (flV xs_NetError [.str "no place"]))) a (exo a C (some dx))) dx (exd dx (("name", w0) :: flV xs_NetError [.str "no place"])) = upd (upd H dx (exd dx (flV xs_NoPlace [w0]))) a (exo a C (some dx)) := by
        funext y; by_cases h1 : y = dx
        · subst h1; rw [upd_same, upd_ne hne, upd_same]; rfl
        · by_cases h2 : y = a
          · subst h2; simp only [upd, if_neg h1, if_true]
          · simp only [upd, if_neg h1, if_neg h2]
      rw [e]; exact k dx hdx hne
theorem oki_NoPlace {P : Program} {w : World} {K : PySem.W.Frag} {mg : Str → Option Value} {base : Heap} (T : Tx K mg)
    (G_NetError_init : DW.FnM P w K mg base CX0 2 "NetError" "__init__" ["self", "word"] (spIn K 1 xs_NetError)) : DW.FnM P w K mg base CX0 3 "NoPlace" "__init__" ["self", "name"] (spIn K 1 xs_NoPlace) := by
  obtain ⟨fd, F⟩ := T.di_NoPlace
  refine ⟨fd, F.ok sci_NoPlace (fun vs H Q E h => by obtain ⟨a, ws, rfl, hl, _⟩ := h; simp [hl]) (fun cdv A outer s H vs Q E hr h => ⟨ti_NoPlace K, PSs.nox ?_, pui_NoPlace K vs H Q E h⟩), FunD.bindsN F (ps := ["self", "name"]) fun _ _ _ _ _ _ us hl => match us, hl with | [_, _], _ => rfl⟩
  exact (pss_cons (ps_expr (DW.pe_init T.x_NetError G_NetError_init (hr.mono (by decide)) (by rfl) pass0 (pa_cons (pv 0) (pa_cons pe_str pa_nil)))) (pss_one (ps_ost (pv 0) (pv 1))))
abbrev si_NoRoad : Stmt := inClass (topS 14) 0
theorem sci_NoRoad : FnScope ["self", "name"] ["self", "name"] (defScope si_NoRoad) := ⟨rfl, rfl, rfl, by decide +kernel, rfl, by decide +kernel, by decide +kernel⟩
def ti_NoRoad (K : PySem.W.Frag) : TS :=
  (tSeq (tDrop (tCall (spIn K 1 xs_NetError) [] E0 (tCons (tVar 0) (tCons (tC (.str "no road")) tNil)))) (tOst K "name" (tVar 0) (tVar 1)))
theorem pui_NoRoad (K : PySem.W.Frag) (vs : List V) (H : Hp) (Q : VK) (E : XK) (h : spIn K 1 xs_NoRoad vs H Q E) : ti_NoRoad K ⟨fun _ H' => Q .non H', Q, fun _ _ => False, fun _ _ => False⟩ (start ["self", "name"] vs) H := by
  obtain ⟨a, ws, rfl, hl, C, ha, hC, hn, k⟩ := h
  match ws, hl with
  | [w0], _ =>
    show ti_NoRoad K _ [some (.ref a), some w0] H
    refine ⟨_, rfl, a, [.str "no road"], rfl, rfl, C, ha, hC, fun f hf => hn f ?_, fun dx hdx hne => ?_⟩
    · simp [flV, xs_NoRoad, xs_NetError] at hf ⊢; simp [hf]
    · have hA0 : (upd (upd H dx (exd dx (flV xs_NetError [.str "no road"]))) a (exo a C (some dx))) a = some (exo a C (some dx)) := by
        exact upd_same
      have hD0 : (upd (upd H dx (exd dx (flV xs_NetError [.str "no road"]))) a (exo a C (some dx))) dx = some (exd dx (flV xs_NetError [.str "no road"])) := by
        rw [upd_ne hne, upd_same]
      refine ⟨_, rfl, _, rfl, a, C, rfl, hC, hn "name" (by simp [flV, xs_NoRoad]), .inr ⟨dx, _, hA0, hD0, by simp [flV, xs_NetError], ?_⟩⟩
      have e : upd (upd (upd H dx (exd dx (flV xs_NetError [.str "no road"]))) a (exo a C (some dx))) dx (exd dx (("name", w0) :: flV xs_NetError [.str "no road"])) = upd (upd H dx (exd dx (flV xs_NoRoad [w0]))) a (exo a C (some dx)) := by
        funext y; by_cases h1 : y = dx
        · subst h1; rw [upd_same, upd_ne hne, upd_same]; rfl
        · by_cases h2 : y = a
          · subst h2; simp only [upd, if_neg h1, if_true]
          · simp only [upd, if_neg h1, if_neg h2]
      rw [e]; exact k dx hdx hne
theorem oki_NoRoad {P : Program} {w : World} {K : PySem.W.Frag} {mg : Str → Option Value} {base : Heap} (T : Tx K mg)
    (G_NetError_init : DW.FnM P w K mg base CX0 2 "NetError" "__init__" ["self", "word"] (spIn K 1 xs_NetError)) : DW.FnM P w K mg base CX0 3 "NoRoad" "__init__" ["self", "name"] (spIn K 1 xs_NoRoad) := by
  obtain ⟨fd, F⟩ := T.di_NoRoad
  refine ⟨fd, F.ok sci_NoRoad (fun vs H Q E h => by obtain ⟨a, ws, rfl, hl, _⟩ := h; simp [hl]) (fun cdv A outer s H vs Q E hr h => ⟨ti_NoRoad K, PSs.nox ?_, pui_NoRoad K vs H Q E h⟩), FunD.bindsN F (ps := ["self", "name"]) fun _ _ _ _ _ _ us hl => match us, hl with | [_, _], _ => rfl⟩
  exact (pss_cons (ps_expr (DW.pe_init T.x_NetError G_NetError_init (hr.mono (by decide)) (by rfl) pass0 (pa_cons (pv 0) (pa_cons pe_str pa_nil)))) (pss_one (ps_ost (pv 0) (pv 1))))
abbrev si_Taken : Stmt := inClass (topS 12) 0
theorem sci_Taken : FnScope ["self", "name"] ["self", "name"] (defScope si_Taken) := ⟨rfl, rfl, rfl, by decide +kernel, rfl, by decide +kernel, by decide +kernel⟩
def ti_Taken (K : PySem.W.Frag) : TS :=
  (tSeq (tDrop (tCall (spIn K 1 xs_NetError) [] E0 (tCons (tVar 0) (tCons (tC (.str "taken")) tNil)))) (tOst K "name" (tVar 0) (tVar 1)))
theorem pui_Taken (K : PySem.W.Frag) (vs : List V) (H : Hp) (Q : VK) (E : XK) (h : spIn K 1 xs_Taken vs H Q E) : ti_Taken K ⟨fun _ H' => Q .non H', Q, fun _ _ => False, fun _ _ => False⟩ (start ["self", "name"] vs) H := by
  obtain ⟨a, ws, rfl, hl, C, ha, hC, hn, k⟩ := h
  match ws, hl with
  | [w0], _ =>
    show ti_Taken K _ [some (.ref a), some w0] H
    refine ⟨_, rfl, a, [.str "taken"], rfl, rfl, C, ha, hC, fun f hf => hn f ?_, fun dx hdx hne => ?_⟩
    · simp [flV, xs_Taken, xs_NetError] at hf ⊢; simp [hf]
    · have hA0 : (upd (upd H dx (exd dx (flV xs_NetError [.str "taken"]))) a (exo a C (some dx))) a = some (exo a C (some dx)) := by
        exact upd_same
      have hD0 : (upd (upd H dx (exd dx (flV xs_NetError [.str "taken"]))) a (exo a C (some dx))) dx = some (exd dx (flV xs_NetError [.str "taken"])) := by
        rw [upd_ne hne, upd_same]
      refine ⟨_, rfl, _, rfl, a, C, rfl, hC, hn "name" (by simp [flV, xs_Taken]), .inr ⟨dx, _, hA0, hD0, by simp [flV, xs_NetError], ?_⟩⟩
      have e : upd (upd (upd H dx (exd dx (flV xs_NetError [.str "taken"]))) a (exo a C (some dx))) dx (exd dx (("name", w0) :: flV xs_NetError [.str "taken"])) = upd (upd H dx (exd dx (flV xs_Taken [w0]))) a (exo a C (some dx)) := by
        funext y; by_cases h1 : y = dx
        · subst h1; rw [upd_same, upd_ne hne, upd_same]; rfl
        · by_cases h2 : y = a
          · subst h2; simp only [upd, if_neg h1, if_true]
          · simp only [upd, if_neg h1, if_neg h2]
      rw [e]; exact k dx hdx hne
theorem oki_Taken {P : Program} {w : World} {K : PySem.W.Frag} {mg : Str → Option Value} {base : Heap} (T : Tx K mg)
    (G_NetError_init : DW.FnM P w K mg base CX0 2 "NetError" "__init__" ["self", "word"] (spIn K 1 xs_NetError)) : DW.FnM P w K mg base CX0 3 "Taken" "__init__" ["self", "name"] (spIn K 1 xs_Taken) := by
  obtain ⟨fd, F⟩ := T.di_Taken
  refine ⟨fd, F.ok sci_Taken (fun vs H Q E h => by obtain ⟨a, ws, rfl, hl, _⟩ := h; simp [hl]) (fun cdv A outer s H vs Q E hr h => ⟨ti_Taken K, PSs.nox ?_, pui_Taken K vs H Q E h⟩), FunD.bindsN F (ps := ["self", "name"]) fun _ _ _ _ _ _ us hl => match us, hl with | [_, _], _ => rfl⟩
  exact (pss_cons (ps_expr (DW.pe_init T.x_NetError G_NetError_init (hr.mono (by decide)) (by rfl) pass0 (pa_cons (pv 0) (pa_cons pe_str pa_nil)))) (pss_one (ps_ost (pv 0) (pv 1))))
abbrev si_TooFar : Stmt := inClass (topS 10) 0
theorem sci_TooFar : FnScope ["self", "number"] ["self", "number"] (defScope si_TooFar) := ⟨rfl, rfl, rfl, by decide +kernel, rfl, by decide +kernel, by decide +kernel⟩
def ti_TooFar (K : PySem.W.Frag) : TS :=
  (tSeq (tDrop (tCall (spIn K 1 xs_NetError) [] E0 (tCons (tVar 0) (tCons (tC (.str "too far")) tNil)))) (tOst K "number" (tVar 0) (tVar 1)))
theorem pui_TooFar (K : PySem.W.Frag) (vs : List V) (H : Hp) (Q : VK) (E : XK) (h : spIn K 1 xs_TooFar vs H Q E) : ti_TooFar K ⟨fun _ H' => Q .non H', Q, fun _ _ => False, fun _ _ => False⟩ (start ["self", "number"] vs) H := by
  obtain ⟨a, ws, rfl, hl, C, ha, hC, hn, k⟩ := h
  match ws, hl with
  | [w0], _ =>
    show ti_TooFar K _ [some (.ref a), some w0] H
    refine ⟨_, rfl, a, [.str "too far"], rfl, rfl, C, ha, hC, fun f hf => hn f ?_, fun dx hdx hne => ?_⟩
    · simp [flV, xs_TooFar, xs_NetError] at hf ⊢; simp [hf]
    · have hA0 : (upd (upd H dx (exd dx (flV xs_NetError [.str "too far"]))) a (exo a C (some dx))) a = some (exo a C (some dx)) := by
        exact upd_same
      have hD0 : (upd (upd H dx (exd dx (flV xs_NetError [.str "too far"]))) a (exo a C (some dx))) dx = some (exd dx (flV xs_NetError [.str "too far"])) := by
        rw [upd_ne hne, upd_same]
      refine ⟨_, rfl, _, rfl, a, C, rfl, hC, hn "number" (by simp [flV, xs_TooFar]), .inr ⟨dx, _, hA0, hD0, by simp [flV, xs_NetError], ?_⟩⟩
      have e : upd (upd (upd H dx (exd dx (flV xs_NetError [.str "too far"]))) a (exo a C (some dx))) dx (exd dx (("number", w0) :: flV xs_NetError [.str "too far"])) = upd (upd H dx (exd dx (flV xs_TooFar [w0]))) a (exo a C (some dx)) := by
        funext y; by_cases h1 : y = dx
        · subst h1; rw [upd_same, upd_ne hne, upd_same]; rfl
        · by_cases h2 : y = a
          · subst h2; simp only [upd, if_neg h1, if_true]
          · simp only [upd, if_neg h1, if_neg h2]
      rw [e]; exact k dx hdx hne
theorem oki_TooFar {P : Program} {w : World} {K : PySem.W.Frag} {mg : Str → Option Value} {base : Heap} (T : Tx K mg)
    (G_NetError_init : DW.FnM P w K mg base CX0 2 "NetError" "__init__" ["self", "word"] (spIn K 1 xs_NetError)) : DW.FnM P w K mg base CX0 3 "TooFar" "__init__" ["self", "number"] (spIn K 1 xs_TooFar) := by
  obtain ⟨fd, F⟩ := T.di_TooFar
  refine ⟨fd, F.ok sci_TooFar (fun vs H Q E h => by obtain ⟨a, ws, rfl, hl, _⟩ := h; simp [hl]) (fun cdv A outer s H vs Q E hr h => ⟨ti_TooFar K, PSs.nox ?_, pui_TooFar K vs H Q E h⟩), FunD.bindsN F (ps := ["self", "number"]) fun _ _ _ _ _ _ us hl => match us, hl with | [_, _], _ => rfl⟩
  exact (pss_cons (ps_expr (DW.pe_init T.x_NetError G_NetError_init (hr.mono (by decide)) (by rfl) pass0 (pa_cons (pv 0) (pa_cons pe_str pa_nil)))) (pss_one (ps_ost (pv 0) (pv 1))))
abbrev si_TooMany : Stmt := inClass (topS 11) 0
theorem sci_TooMany : FnScope ["self", "most"] ["self", "most"] (defScope si_TooMany) := ⟨rfl, rfl, rfl, by decide +kernel, rfl, by decide +kernel, by decide +kernel⟩
def ti_TooMany (K : PySem.W.Frag) : TS :=
  (tSeq (tDrop (tCall (spIn K 1 xs_NetError) [] E0 (tCons (tVar 0) (tCons (tC (.str "too many")) tNil)))) (tOst K "most" (tVar 0) (tVar 1)))
theorem pui_TooMany (K : PySem.W.Frag) (vs : List V) (H : Hp) (Q : VK) (E : XK) (h : spIn K 1 xs_TooMany vs H Q E) : ti_TooMany K ⟨fun _ H' => Q .non H', Q, fun _ _ => False, fun _ _ => False⟩ (start ["self", "most"] vs) H := by
  obtain ⟨a, ws, rfl, hl, C, ha, hC, hn, k⟩ := h
  match ws, hl with
  | [w0], _ =>
    show ti_TooMany K _ [some (.ref a), some w0] H
    refine ⟨_, rfl, a, [.str "too many"], rfl, rfl, C, ha, hC, fun f hf => hn f ?_, fun dx hdx hne => ?_⟩
    · simp [flV, xs_TooMany, xs_NetError] at hf ⊢; simp [hf]
    · have hA0 : (upd (upd H dx (exd dx (flV xs_NetError [.str "too many"]))) a (exo a C (some dx))) a = some (exo a C (some dx)) := by
        exact upd_same
      have hD0 : (upd (upd H dx (exd dx (flV xs_NetError [.str "too many"]))) a (exo a C (some dx))) dx = some (exd dx (flV xs_NetError [.str "too many"])) := by
        rw [upd_ne hne, upd_same]
      refine ⟨_, rfl, _, rfl, a, C, rfl, hC, hn "most" (by simp [flV, xs_TooMany]), .inr ⟨dx, _, hA0, hD0, by simp [flV, xs_NetError], ?_⟩⟩
      have e : upd (upd (upd H dx (exd dx (flV xs_NetError [.str "too many"]))) a (exo a C (some dx))) dx (exd dx (("most", w0) :: flV xs_NetError [.str "too many"])) = upd (upd H dx (exd dx (flV xs_TooMany [w0]))) a (exo a C (some dx)) := by
        funext y; by_cases h1 : y = dx
        · subst h1; rw [upd_same, upd_ne hne, upd_same]; rfl
        · by_cases h2 : y = a
          · subst h2; simp only [upd, if_neg h1, if_true]
          · simp only [upd, if_neg h1, if_neg h2]
      rw [e]; exact k dx hdx hne
theorem oki_TooMany {P : Program} {w : World} {K : PySem.W.Frag} {mg : Str → Option Value} {base : Heap} (T : Tx K mg)
    (G_NetError_init : DW.FnM P w K mg base CX0 2 "NetError" "__init__" ["self", "word"] (spIn K 1 xs_NetError)) : DW.FnM P w K mg base CX0 3 "TooMany" "__init__" ["self", "most"] (spIn K 1 xs_TooMany) := by
  obtain ⟨fd, F⟩ := T.di_TooMany
  refine ⟨fd, F.ok sci_TooMany (fun vs H Q E h => by obtain ⟨a, ws, rfl, hl, _⟩ := h; simp [hl]) (fun cdv A outer s H vs Q E hr h => ⟨ti_TooMany K, PSs.nox ?_, pui_TooMany K vs H Q E h⟩), FunD.bindsN F (ps := ["self", "most"]) fun _ _ _ _ _ _ us hl => match us, hl with | [_, _], _ => rfl⟩
  exact (pss_cons (ps_expr (DW.pe_init T.x_NetError G_NetError_init (hr.mono (by decide)) (by rfl) pass0 (pa_cons (pv 0) (pa_cons pe_str pa_nil)))) (pss_one (ps_ost (pv 0) (pv 1))))
theorem sc_Lfeed : FnScope N_Lfeed ["_law_script"] (defScope s_Lfeed) := ⟨rfl, rfl, rfl, by decide +kernel, rfl, by decide +kernel, by decide +kernel⟩
theorem fk_Lfeed {P : Program} {w : World} {K : PySem.W.Frag} {mg : Str → Option Value} {base : Heap} (T : Tx K mg) {fd : FuncData}
    (F : FunD K "_law_feed" "_law_feed" (defArgs s_Lfeed) (defBody s_Lfeed) (defScope s_Lfeed) [] [] (He.ga K "_law_feed") fd) :
    FnOk P w K mg base (L2.CX P w) 1 (He.ga K "_law_feed") fd ["_law_script"] (spM K 1 w_Lfeed) :=
  fn_ok F sc_Lfeed fun cdv A outer s H E hr tk po =>
    (qss_one (qs_ret (qe_lst (qa_cons (qe_callTy (call_listA rfl) sim_list (by rfl) T.m_list (by decide +kernel) (qa_cons (qe_slice (qv 0) qo_none (qo_some qe_int)) qa_nil)) (qa_cons qe_int (qa_cons qe_int (qa_cons qe_int qa_nil)))))))
theorem ok_Lfeed_0 {P : Program} {w : World} {K : PySem.W.Frag} {mg : Str → Option Value} {base : Heap} (T : Tx K mg) :
    Fn P w K mg base 1 (He.ga K "_law_feed") ["_law_script"] w_Lfeed 1 [] (fun ds _ => ds) := by
  obtain ⟨fd, F⟩ := T.d_Lfeed
  refine ⟨⟨fd, fk_Lfeed T F, ?_⟩, F.kp⟩
  exact dbn_all (FunD.bindsN F (ps := ["_law_script"]) fun _ _ _ _ _ _ us hl => match us, hl with | [_], _ => rfl)
theorem sc_Ldraw : FnScope N_Ldraw ["_law_feed_here", "_law_many"] (defScope s_Ldraw) := ⟨rfl, rfl, rfl, by decide +kernel, rfl, by decide +kernel, by decide +kernel⟩
theorem fk_Ldraw {P : Program} {w : World} {K : PySem.W.Frag} {mg : Str → Option Value} {base : Heap} (T : Tx K mg) {fd : FuncData}
    (F : FunD K "_law_draw" "_law_draw" (defArgs s_Ldraw) (defBody s_Ldraw) (defScope s_Ldraw) [] [] (He.ga K "_law_draw") fd) :
    FnOk P w K mg base (L2.CX P w) 1 (He.ga K "_law_draw") fd ["_law_feed_here", "_law_many"] (spM K 2 w_Ldraw) :=
  fn_ok F sc_Ldraw fun cdv A outer s H E hr tk po =>
    (qss_cons (qs_if (qt_cmp op_gt sim_gt (qe_ix (ix_any (units1 hr)) sim_ix (qv 0) qe_int (fun _ _ => rfl)) qe_int (nomark _)) (qss_cons (qs_set (i := 2) sc_Ldraw.nd rfl (Or.inl rfl) (qe_op op_modN sim_mod (qe_ix (ix_any (units1 hr)) sim_ix (qv 0) qe_int (fun _ _ => rfl)) (qv 1)))
      (qss_cons (qs_setIx (units1 hr) (qe_op DW.op_fdivX sim_div (qe_ix (ix_any (units1 hr)) sim_ix (qv 0) qe_int (fun _ _ => rfl)) (qv 1)) (qv 0) qe_int)
      (qss_one (qs_ret (qv 2))))) qss_nil)
      (qss_cons (qs_set (i := 3) sc_Ldraw.nd rfl (Or.inl rfl) qe_int)
      (qss_cons (qs_if (qt_cmp op_lt sim_lt (qe_ix (ix_any (units1 hr)) sim_ix (qv 0) qe_int (fun _ _ => rfl)) (qe_callB call_lenA sim_len (by rfl) T.m_len (by decide +kernel) (qa_cons (qe_ix (ix_any (units1 hr)) sim_ix (qv 0) qe_int (fun _ _ => rfl)) qa_nil)) (nomark _)) (qss_cons (qs_set (i := 3) sc_Ldraw.nd rfl (Or.inl rfl) (qe_ix (ix_any (units1 hr)) sim_ix (qe_ix (ix_any (units1 hr)) sim_ix (qv 0) qe_int (fun _ _ => rfl)) (qe_ix (ix_any (units1 hr)) sim_ix (qv 0) qe_int (fun _ _ => rfl)) (fun _ _ => rfl)))
      (qss_one (qs_setIx (units1 hr) (qe_op DW.op_plus sim_add (qe_ix (ix_any (units1 hr)) sim_ix (qv 0) qe_int (fun _ _ => rfl)) qe_int) (qv 0) qe_int))) qss_nil)
      (qss_cons (qs_if (qt_cmp op_ge sim_ge (qv 3) qe_int (nomark _)) (qss_cons (qs_setIx (units1 hr) (qe_op DW.op_fdivX sim_div (qv 3) (qv 1)) (qv 0) qe_int)
      (qss_one (qs_ret (qe_op op_modN sim_mod (qv 3) (qv 1))))) qss_nil)
      (qss_cons (qs_setIx (units1 hr) (qe_op op_modN sim_mod (qe_op DW.op_plus sim_add (qe_op DW.op_plus sim_add (qe_op op_mulA sim_mul (qe_ix (ix_any (units1 hr)) sim_ix (qv 0) qe_int (fun _ _ => rfl)) qe_int) (qe_op op_modN sim_mod (qv 3) qe_int)) qe_int) qe_int) (qv 0) qe_int)
      (qss_cons (qs_set (i := 4) sc_Ldraw.nd rfl (Or.inl rfl) (qe_ix (ix_any (units1 hr)) sim_ix (qe_lst (qa_cons (qe_ix (ix_any (units1 hr)) sim_ix (qv 0) qe_int (fun _ _ => rfl)) (qa_cons (qe_op op_pow sim_pow (qe_ix (ix_any (units1 hr)) sim_ix (qv 0) qe_int (fun _ _ => rfl)) qe_int) qa_nil))) (qe_callTy call_intA sim_int (by rfl) T.m_int (by decide +kernel) (qa_cons (qe_cmp op_gt sim_gt (qv 1) qe_int (nomark _)) qa_nil)) (fun _ _ => rfl)))
      (qss_one (qs_ret (qe_op op_modN sim_mod (qe_op DW.op_plus sim_add (qe_op DW.op_fdivX sim_div (qv 4) qe_int) (qv 3)) (qv 1))))))))))
theorem ok_Ldraw_0 {P : Program} {w : World} {K : PySem.W.Frag} {mg : Str → Option Value} {base : Heap} (T : Tx K mg) :
    Fn P w K mg base 1 (He.ga K "_law_draw") ["_law_feed_here", "_law_many"] w_Ldraw 2 [] (fun ds _ => ds) := by
  obtain ⟨fd, F⟩ := T.d_Ldraw
  refine ⟨⟨fd, fk_Ldraw T F, ?_⟩, F.kp⟩
  exact dbn_all (FunD.bindsN F (ps := ["_law_feed_here", "_law_many"]) fun _ _ _ _ _ _ us hl => match us, hl with | [_, _], _ => rfl)
theorem sc_Lnames : FnScope N_Lnames ["_law_feed_here", "_law_many"] (defScope s_Lnames) := ⟨rfl, rfl, rfl, by decide +kernel, rfl, by decide +kernel, by decide +kernel⟩
theorem fk_Lnames {P : Program} {w : World} {K : PySem.W.Frag} {mg : Str → Option Value} {base : Heap} (T : Tx K mg)
    (G_Ldraw_0 : Fn P w K mg base 1 (He.ga K "_law_draw") ["_law_feed_here", "_law_many"] w_Ldraw 2 [] (fun ds _ => ds)) {fd : FuncData}
    (F : FunD K "_law_names" "_law_names" (defArgs s_Lnames) (defBody s_Lnames) (defScope s_Lnames) [] [] (He.ga K "_law_names") fd) :
    FnOk P w K mg base (L2.CX P w) 2 (He.ga K "_law_names") fd ["_law_feed_here", "_law_many"] (spM K 2 w_Lnames) :=
  fn_ok F sc_Lnames fun cdv A outer s H E hr tk po =>
    (qss_cons (qs_set (i := 2) sc_Lnames.nd rfl (Or.inl rfl) qe_str)
      (qss_cons (qs_set (i := 3) sc_Lnames.nd rfl (Or.inl rfl) (qe_lst qa_nil))
      (qss_cons (qs_for po rfl (qi_range1 (by rfl) T.m_range (qa_cons (qv 1) qa_nil)) (qg_name (i := 4) sc_Lnames.nd rfl (by first | exact Or.inl rfl | exact Or.inr rfl)) (qss_cons (qs_set (i := 5) sc_Lnames.nd rfl (Or.inl rfl) (qe_ix (ix_any (units1 hr)) sim_ix (qv 2) (qe_call G_Ldraw_0 (hr.mono (by decide)) (by rfl) T.g_Ldraw tk (qcwP (qa_cons (qv 0) (qa_cons qe_int qa_nil))) (by exact fun _ _ h _ => h)) (fun _ _ => rfl)))
      (qss_cons (qs_for po rfl (qi_range1 (by rfl) T.m_range (qa_cons (qe_call G_Ldraw_0 (hr.mono (by decide)) (by rfl) T.g_Ldraw tk (qcwP (qa_cons (qv 0) (qa_cons qe_int qa_nil))) (by exact fun _ _ h _ => h)) qa_nil)) (qg_name (i := 6) sc_Lnames.nd rfl (by first | exact Or.inl rfl | exact Or.inr rfl)) (qss_one (qs_set (i := 5) sc_Lnames.nd rfl (Or.inl rfl) (qe_op DW.op_plus sim_add (qv 5) (qe_ix (ix_any (units1 hr)) sim_ix (qv 2) (qe_call G_Ldraw_0 (hr.mono (by decide)) (by rfl) T.g_Ldraw tk (qcwP (qa_cons (qv 0) (qa_cons qe_int qa_nil))) (by exact fun _ _ h _ => h)) (fun _ _ => rfl))))))
      (qss_cons (qs_if (qt_cmp (op_inA (units65 hr)) sim_in (qv 5) (qv 3) rfl) (qss_one (qs_set (i := 5) sc_Lnames.nd rfl (Or.inl rfl) (qe_op DW.op_plus sim_add qe_str (qe_ix (ix_any (units1 hr)) sim_ix (qv 2) (qe_op op_modN sim_mod (qv 4) qe_int) (fun _ _ => rfl))))) qss_nil)
      (qss_one (qs_expr (qe_bm PySem.F.plainAttrs_list PySem.F.slot_list_append PySem.F.type_list_append mt_append sim_append (qv 3) (qa_cons (qv 5) qa_nil))))))))
      (qss_one (qs_ret (qv 3))))))
theorem ok_Lnames_0 {P : Program} {w : World} {K : PySem.W.Frag} {mg : Str → Option Value} {base : Heap} (T : Tx K mg)
    (G_Ldraw_0 : Fn P w K mg base 1 (He.ga K "_law_draw") ["_law_feed_here", "_law_many"] w_Ldraw 2 [] (fun ds _ => ds)) :
    Fn P w K mg base 2 (He.ga K "_law_names") ["_law_feed_here", "_law_many"] w_Lnames 2 [] (fun ds _ => ds) := by
  obtain ⟨fd, F⟩ := T.d_Lnames
  refine ⟨⟨fd, fk_Lnames T G_Ldraw_0 F, ?_⟩, F.kp⟩
  exact dbn_all (FunD.bindsN F (ps := ["_law_feed_here", "_law_many"]) fun _ _ _ _ _ _ us hl => match us, hl with | [_, _], _ => rfl)
theorem sc_Lroom : FnScope N_Lroom ["_law_feed_here", "_law_top", "_law_pair"] (defScope s_Lroom) := ⟨rfl, rfl, rfl, by decide +kernel, rfl, by decide +kernel, by decide +kernel⟩
theorem fk_Lroom {P : Program} {w : World} {K : PySem.W.Frag} {mg : Str → Option Value} {base : Heap} (T : Tx K mg)
    (G_Ldraw_0 : Fn P w K mg base 1 (He.ga K "_law_draw") ["_law_feed_here", "_law_many"] w_Ldraw 2 [] (fun ds _ => ds)) {fd : FuncData}
    (F : FunD K "_law_room" "_law_room" (defArgs s_Lroom) (defBody s_Lroom) (defScope s_Lroom) [] [] (He.ga K "_law_room") fd) :
    FnOk P w K mg base (L2.CX P w) 2 (He.ga K "_law_room") fd ["_law_feed_here", "_law_top", "_law_pair"] (spM K 3 w_Lroom) :=
  fn_ok F sc_Lroom fun cdv A outer s H E hr tk po =>
    (qss_cons (qs_set (i := 3) sc_Lroom.nd rfl (Or.inl rfl) (qe_call G_Ldraw_0 (hr.mono (by decide)) (by rfl) T.g_Ldraw tk (qcwP (qa_cons (qv 0) (qa_cons (qe_op DW.op_plus sim_add (qv 1) qe_int) qa_nil))) (by exact fun _ _ h _ => h)))
      (qss_cons (qs_set (i := 4) sc_Lroom.nd rfl (Or.inl rfl) (qe_op op_sub sim_sub (qe_call G_Ldraw_0 (hr.mono (by decide)) (by rfl) T.g_Ldraw tk (qcwP (qa_cons (qv 0) (qa_cons qe_int qa_nil))) (by exact fun _ _ h _ => h)) qe_int))
      (qss_cons (qs_set (i := 5) sc_Lroom.nd rfl (Or.inl rfl) (qe_callB (call_min2 rfl) sim_min2 (by rfl) T.m_min (by decide +kernel) (qa_cons (qe_op DW.op_plus sim_add (qv 3) (qe_op op_mulA sim_mul (qv 4) (qe_ix (ix_any (units1 hr)) sim_ix (qv 2) qe_int (fun _ _ => rfl)))) (qa_cons (qe_op DW.op_plus sim_add (qv 3) (qe_op op_mulA sim_mul (qv 4) (qe_ix (ix_any (units1 hr)) sim_ix (qv 2) qe_int (fun _ _ => rfl)))) qa_nil))))
      (qss_cons (qs_if (qt_cmp op_lt sim_lt (qv 5) qe_int (nomark _)) (qss_one (qs_set (i := 3) sc_Lroom.nd rfl (Or.inl rfl) (qe_op op_sub sim_sub (qv 3) (qv 5)))) qss_nil)
      (qss_one (qs_ret (qe_tup (qa_cons (qv 3) (qa_cons (qv 4) qa_nil)))))))))
theorem ok_Lroom_0 {P : Program} {w : World} {K : PySem.W.Frag} {mg : Str → Option Value} {base : Heap} (T : Tx K mg)
    (G_Ldraw_0 : Fn P w K mg base 1 (He.ga K "_law_draw") ["_law_feed_here", "_law_many"] w_Ldraw 2 [] (fun ds _ => ds)) :
    Fn P w K mg base 2 (He.ga K "_law_room") ["_law_feed_here", "_law_top", "_law_pair"] w_Lroom 3 [] (fun ds _ => ds) := by
  obtain ⟨fd, F⟩ := T.d_Lroom
  refine ⟨⟨fd, fk_Lroom T G_Ldraw_0 F, ?_⟩, F.kp⟩
  exact dbn_all (FunD.bindsN F (ps := ["_law_feed_here", "_law_top", "_law_pair"]) fun _ _ _ _ _ _ us hl => match us, hl with | [_, _, _], _ => rfl)
theorem sc_Lsome_place : FnScope N_Lsome_place ["_law_feed_here", "_law_name", "_law_clock", "_law_pair"] (defScope s_Lsome_place) := ⟨rfl, rfl, rfl, by decide +kernel, rfl, by decide +kernel, by decide +kernel⟩
theorem fk_Lsome_place {P : Program} {w : World} {K : PySem.W.Frag} {mg : Str → Option Value} {base : Heap} (T : Tx K mg)
    (G_Ldraw_0 : Fn P w K mg base 1 (He.ga K "_law_draw") ["_law_feed_here", "_law_many"] w_Ldraw 2 [] (fun ds _ => ds))
    (G_Lroom_0 : Fn P w K mg base 2 (He.ga K "_law_room") ["_law_feed_here", "_law_top", "_law_pair"] w_Lroom 3 [] (fun ds _ => ds)) {fd : FuncData}
    (F : FunD K "_law_some_place" "_law_some_place" (defArgs s_Lsome_place) (defBody s_Lsome_place) (defScope s_Lsome_place) [] [] (He.ga K "_law_some_place") fd) :
    FnOk P w K mg base (L2.CX P w) 3 (He.ga K "_law_some_place") fd ["_law_feed_here", "_law_name", "_law_clock", "_law_pair"] (spM K 4 w_Lsome_place) :=
  fn_ok F sc_Lsome_place fun cdv A outer s H E hr tk po =>
    (qss_cons (qs_set (i := 4) sc_Lsome_place.nd rfl (Or.inl rfl) qe_non)
      (qss_cons (qs_if (qt_cmp (DW.op_eqq hr.units) sim_eq (qe_call G_Ldraw_0 (hr.mono (by decide)) (by rfl) T.g_Ldraw tk (qcwP (qa_cons (qv 0) (qa_cons qe_int qa_nil))) (by exact fun _ _ h _ => h)) qe_int (nomark _)) (qss_one (qs_set (i := 4) sc_Lsome_place.nd rfl (Or.inl rfl) (qe_call G_Lroom_0 (hr.mono (by decide)) (by rfl) T.g_Lroom tk (qcwP (qa_cons (qv 0) (qa_cons qe_int (qa_cons (qv 3) qa_nil)))) (by exact fun _ _ h _ => h)))) qss_nil)
      (qss_cons (qs_set (i := 5) sc_Lsome_place.nd rfl (Or.inl rfl) (qe_tup (qa_cons qe_int (qa_cons qe_int qa_nil))))
      (qss_cons (qs_set (i := 6) sc_Lsome_place.nd rfl (Or.inl rfl) (qe_tup (qa_cons qe_int (qa_cons qe_int qa_nil))))
      (qss_cons (qs_if (qt_cmp (DW.op_eqq hr.units) sim_eq (qe_call G_Ldraw_0 (hr.mono (by decide)) (by rfl) T.g_Ldraw tk (qcwP (qa_cons (qv 0) (qa_cons qe_int qa_nil))) (by exact fun _ _ h _ => h)) qe_int (nomark _)) (qss_cons (qs_set (i := 5) sc_Lsome_place.nd rfl (Or.inl rfl) (qe_call G_Lroom_0 (hr.mono (by decide)) (by rfl) T.g_Lroom tk (qcwP (qa_cons (qv 0) (qa_cons qe_int (qa_cons (qv 3) qa_nil)))) (by exact fun _ _ h _ => h)))
      (qss_cons (qs_if (qt_cmp (DW.op_eqq hr.units) sim_eq (qe_call G_Ldraw_0 (hr.mono (by decide)) (by rfl) T.g_Ldraw tk (qcwP (qa_cons (qv 0) (qa_cons qe_int qa_nil))) (by exact fun _ _ h _ => h)) qe_int (nomark _)) (qss_one (qs_set (i := 5) sc_Lsome_place.nd rfl (Or.inl rfl) qe_non)) qss_nil)
      (qss_one (qs_if (qt_cmp (DW.op_nee hr.units) sim_ne (qv 5) (qe_tup (qa_cons qe_int (qa_cons qe_int qa_nil))) (nomark _)) (qss_one (qs_set (i := 6) sc_Lsome_place.nd rfl (Or.inl rfl) (qe_tup (qa_cons (qe_op op_sub sim_sub (qe_call G_Ldraw_0 (hr.mono (by decide)) (by rfl) T.g_Ldraw tk (qcwP (qa_cons (qv 0) (qa_cons qe_int qa_nil))) (by exact fun _ _ h _ => h)) qe_int) (qa_cons (qe_op op_sub sim_sub (qe_call G_Ldraw_0 (hr.mono (by decide)) (by rfl) T.g_Ldraw tk (qcwP (qa_cons (qv 0) (qa_cons qe_int qa_nil))) (by exact fun _ _ h _ => h)) qe_int) qa_nil))))) qss_nil)))) qss_nil)
      (qss_one (qs_ret (qe_lst (qa_cons (qv 1) (qa_cons (qv 4) (qa_cons (qv 5) (qa_cons (qv 6) (qa_cons (qe_lc (own := [("_law_hour", 7)]) (T := (.nm 7)) (tt := mYes) (me := (mCB oTup (mCons (mC (.int 0)) (mCons (mC (.int 0)) mNil)))) rfl sc_Lsome_place.nd (qi_range1 (by rfl) T.m_range (qa_cons (qv 2) qa_nil)) (blkOk_by (N := N_Lsome_place) (sc := defScope s_Lsome_place) (by decide +kernel)) (fun _ _ _ _ _ => (qg_name (i := 7) sc_Lsome_place.nd rfl (by first | exact Or.inl rfl | exact Or.inr rfl))) (fun _ _ _ _ _ => qts_nil) (fun _ _ _ _ _ => (qe_tup (qa_cons qe_int (qa_cons qe_int qa_nil)))) (by decide)) qa_nil)))))))))))))
theorem ok_Lsome_place_0 {P : Program} {w : World} {K : PySem.W.Frag} {mg : Str → Option Value} {base : Heap} (T : Tx K mg)
    (G_Ldraw_0 : Fn P w K mg base 1 (He.ga K "_law_draw") ["_law_feed_here", "_law_many"] w_Ldraw 2 [] (fun ds _ => ds))
    (G_Lroom_0 : Fn P w K mg base 2 (He.ga K "_law_room") ["_law_feed_here", "_law_top", "_law_pair"] w_Lroom 3 [] (fun ds _ => ds)) :
    Fn P w K mg base 3 (He.ga K "_law_some_place") ["_law_feed_here", "_law_name", "_law_clock", "_law_pair"] w_Lsome_place 4 [] (fun ds _ => ds) := by
  obtain ⟨fd, F⟩ := T.d_Lsome_place
  refine ⟨⟨fd, fk_Lsome_place T G_Ldraw_0 G_Lroom_0 F, ?_⟩, F.kp⟩
  exact dbn_all (FunD.bindsN F (ps := ["_law_feed_here", "_law_name", "_law_clock", "_law_pair"]) fun _ _ _ _ _ _ us hl => match us, hl with | [_, _, _, _], _ => rfl)
theorem sc_Lsome_rungs : FnScope N_Lsome_rungs ["_law_feed_here", "_law_s_pair", "_law_t_pair"] (defScope s_Lsome_rungs) := ⟨rfl, rfl, rfl, by decide +kernel, rfl, by decide +kernel, by decide +kernel⟩
theorem fk_Lsome_rungs {P : Program} {w : World} {K : PySem.W.Frag} {mg : Str → Option Value} {base : Heap} (T : Tx K mg)
    (G_Ldraw_0 : Fn P w K mg base 1 (He.ga K "_law_draw") ["_law_feed_here", "_law_many"] w_Ldraw 2 [] (fun ds _ => ds))
    (G_Lroom_0 : Fn P w K mg base 2 (He.ga K "_law_room") ["_law_feed_here", "_law_top", "_law_pair"] w_Lroom 3 [] (fun ds _ => ds)) {fd : FuncData}
    (F : FunD K "_law_some_rungs" "_law_some_rungs" (defArgs s_Lsome_rungs) (defBody s_Lsome_rungs) (defScope s_Lsome_rungs) [] [] (He.ga K "_law_some_rungs") fd) :
    FnOk P w K mg base (L2.CX P w) 3 (He.ga K "_law_some_rungs") fd ["_law_feed_here", "_law_s_pair", "_law_t_pair"] (spM K 3 w_Lsome_rungs) :=
  fn_ok F sc_Lsome_rungs fun cdv A outer s H E hr tk po =>
    (qss_cons (qs_set (i := 3) sc_Lsome_rungs.nd rfl (Or.inl rfl) (qe_lst qa_nil))
      (qss_cons (qs_set (i := 4) sc_Lsome_rungs.nd rfl (Or.inl rfl) (qe_tup (qa_cons (qe_op op_sub sim_sub (qe_call G_Ldraw_0 (hr.mono (by decide)) (by rfl) T.g_Ldraw tk (qcwP (qa_cons (qv 0) (qa_cons qe_int qa_nil))) (by exact fun _ _ h _ => h)) qe_int) (qa_cons (qe_op op_sub sim_sub (qe_call G_Ldraw_0 (hr.mono (by decide)) (by rfl) T.g_Ldraw tk (qcwP (qa_cons (qv 0) (qa_cons qe_int qa_nil))) (by exact fun _ _ h _ => h)) qe_int) qa_nil))))
      (qss_cons (qs_for po rfl (qi_range1 (by rfl) T.m_range (qa_cons (qe_op DW.op_plus sim_add qe_int (qe_op DW.op_fdivX sim_div (qe_call G_Ldraw_0 (hr.mono (by decide)) (by rfl) T.g_Ldraw tk (qcwP (qa_cons (qv 0) (qa_cons qe_int qa_nil))) (by exact fun _ _ h _ => h)) qe_int)) qa_nil)) (qg_name (i := 5) sc_Lsome_rungs.nd rfl (by first | exact Or.inl rfl | exact Or.inr rfl)) (qss_cons (qs_set (i := 6) sc_Lsome_rungs.nd rfl (Or.inl rfl) (qe_call G_Lroom_0 (hr.mono (by decide)) (by rfl) T.g_Lroom tk (qcwP (qa_cons (qv 0) (qa_cons qe_int (qa_cons (qv 2) qa_nil)))) (by exact fun _ _ h _ => h)))
      (qss_cons (qs_if (qt_cmp op_gt sim_gt (qv 5) qe_int (nomark _)) (qss_one (qs_set (i := 4) sc_Lsome_rungs.nd rfl (Or.inl rfl) (qe_tup (qa_cons (qe_op DW.op_plus sim_add (qe_ix (ix_any (units1 hr)) sim_ix (qv 4) qe_int (fun _ _ => rfl)) (qe_ix (ix_any (units1 hr)) sim_ix (qv 6) qe_int (fun _ _ => rfl))) (qa_cons (qe_op DW.op_plus sim_add (qe_ix (ix_any (units1 hr)) sim_ix (qv 4) qe_int (fun _ _ => rfl)) (qe_ix (ix_any (units1 hr)) sim_ix (qv 6) qe_int (fun _ _ => rfl))) qa_nil))))) qss_nil)
      (qss_one (qs_expr (qe_bm PySem.F.plainAttrs_list PySem.F.slot_list_append PySem.F.type_list_append mt_append sim_append (qv 3) (qa_cons (qe_tup (qa_cons (qe_call G_Lroom_0 (hr.mono (by decide)) (by rfl) T.g_Lroom tk (qcwP (qa_cons (qv 0) (qa_cons qe_int (qa_cons (qv 1) qa_nil)))) (by exact fun _ _ h _ => h)) (qa_cons (qv 4) qa_nil))) qa_nil)))))))
      (qss_cons (qs_if (qt_cmp (DW.op_eqq hr.units) sim_eq (qe_call G_Ldraw_0 (hr.mono (by decide)) (by rfl) T.g_Ldraw tk (qcwP (qa_cons (qv 0) (qa_cons qe_int qa_nil))) (by exact fun _ _ h _ => h)) qe_int (nomark _)) (qss_one (qs_setIx (units1 hr) (qe_tup (qa_cons qe_non (qa_cons (qe_ix (ix_any (units1 hr)) sim_ix (qe_ix (ix_any (units1 hr)) sim_ix (qv 3) (qe_un un_neg sim_neg qe_int) (fun _ _ => rfl)) qe_int (fun _ _ => rfl)) qa_nil))) (qv 3) (qe_un un_neg sim_neg qe_int))) qss_nil)
      (qss_one (qs_ret (qe_callTy call_tuple_of sim_tuple (by rfl) T.m_tuple (by decide +kernel) (qa_cons (qv 3) qa_nil))))))))
theorem ok_Lsome_rungs_0 {P : Program} {w : World} {K : PySem.W.Frag} {mg : Str → Option Value} {base : Heap} (T : Tx K mg)
    (G_Ldraw_0 : Fn P w K mg base 1 (He.ga K "_law_draw") ["_law_feed_here", "_law_many"] w_Ldraw 2 [] (fun ds _ => ds))
    (G_Lroom_0 : Fn P w K mg base 2 (He.ga K "_law_room") ["_law_feed_here", "_law_top", "_law_pair"] w_Lroom 3 [] (fun ds _ => ds)) :
    Fn P w K mg base 3 (He.ga K "_law_some_rungs") ["_law_feed_here", "_law_s_pair", "_law_t_pair"] w_Lsome_rungs 3 [] (fun ds _ => ds) := by
  obtain ⟨fd, F⟩ := T.d_Lsome_rungs
  refine ⟨⟨fd, fk_Lsome_rungs T G_Ldraw_0 G_Lroom_0 F, ?_⟩, F.kp⟩
  exact dbn_all (FunD.bindsN F (ps := ["_law_feed_here", "_law_s_pair", "_law_t_pair"]) fun _ _ _ _ _ _ us hl => match us, hl with | [_, _, _], _ => rfl)
theorem sc_Lsome_road : FnScope N_Lsome_road ["_law_feed_here", "_law_name", "_law_ends", "_law_clock", "_law_s_pair", "_law_t_pair"] (defScope s_Lsome_road) := ⟨rfl, rfl, rfl, by decide +kernel, rfl, by decide +kernel, by decide +kernel⟩
theorem fk_Lsome_road {P : Program} {w : World} {K : PySem.W.Frag} {mg : Str → Option Value} {base : Heap} (T : Tx K mg)
    (G_Ldraw_0 : Fn P w K mg base 1 (He.ga K "_law_draw") ["_law_feed_here", "_law_many"] w_Ldraw 2 [] (fun ds _ => ds))
    (G_Lroom_0 : Fn P w K mg base 2 (He.ga K "_law_room") ["_law_feed_here", "_law_top", "_law_pair"] w_Lroom 3 [] (fun ds _ => ds))
    (G_Lsome_rungs_0 : Fn P w K mg base 3 (He.ga K "_law_some_rungs") ["_law_feed_here", "_law_s_pair", "_law_t_pair"] w_Lsome_rungs 3 [] (fun ds _ => ds)) {fd : FuncData}
    (F : FunD K "_law_some_road" "_law_some_road" (defArgs s_Lsome_road) (defBody s_Lsome_road) (defScope s_Lsome_road) [] [] (He.ga K "_law_some_road") fd) :
    FnOk P w K mg base (L2.CX P w) 4 (He.ga K "_law_some_road") fd ["_law_feed_here", "_law_name", "_law_ends", "_law_clock", "_law_s_pair", "_law_t_pair"] (spM K 6 w_Lsome_road) :=
  fn_ok F sc_Lsome_road fun cdv A outer s H E hr tk po =>
    (qss_cons (qs_set (i := 6) sc_Lsome_road.nd rfl (Or.inl rfl) (qe_ix (ix_any (units1 hr)) sim_ix (qv 2) (qe_call G_Ldraw_0 (hr.mono (by decide)) (by rfl) T.g_Ldraw tk (qcwP (qa_cons (qv 0) (qa_cons (qe_callB call_lenA sim_len (by rfl) T.m_len (by decide +kernel) (qa_cons (qv 2) qa_nil)) qa_nil))) (by exact fun _ _ h _ => h)) (fun _ _ => rfl)))
      (qss_cons (qs_set (i := 7) sc_Lsome_road.nd rfl (Or.inl rfl) (qe_ix (ix_any (units1 hr)) sim_ix (qv 2) (qe_call G_Ldraw_0 (hr.mono (by decide)) (by rfl) T.g_Ldraw tk (qcwP (qa_cons (qv 0) (qa_cons (qe_callB call_lenA sim_len (by rfl) T.m_len (by decide +kernel) (qa_cons (qv 2) qa_nil)) qa_nil))) (by exact fun _ _ h _ => h)) (fun _ _ => rfl)))
      (qss_cons (qs_set (i := 8) sc_Lsome_road.nd rfl (Or.inl rfl) qe_int)
      (qss_cons (qs_if (qt_cmp op_gt sim_gt (qv 3) qe_int (nomark _)) (qss_one (qs_set (i := 8) sc_Lsome_road.nd rfl (Or.inl rfl) (qe_call G_Ldraw_0 (hr.mono (by decide)) (by rfl) T.g_Ldraw tk (qcwP (qa_cons (qv 0) (qa_cons qe_int qa_nil))) (by exact fun _ _ h _ => h)))) qss_nil)
      (qss_cons (qs_set (i := 9) sc_Lsome_road.nd rfl (Or.inl rfl) (qe_tup (qa_cons qe_int (qa_cons qe_int qa_nil))))
      (qss_cons (qs_if (qt_cmp (DW.op_eqq hr.units) sim_eq (qe_call G_Ldraw_0 (hr.mono (by decide)) (by rfl) T.g_Ldraw tk (qcwP (qa_cons (qv 0) (qa_cons qe_int qa_nil))) (by exact fun _ _ h _ => h)) qe_int (nomark _)) (qss_one (qs_set (i := 9) sc_Lsome_road.nd rfl (Or.inl rfl) (qe_call G_Lroom_0 (hr.mono (by decide)) (by rfl) T.g_Lroom tk (qcwP (qa_cons (qv 0) (qa_cons qe_int (qa_cons (qv 4) qa_nil)))) (by exact fun _ _ h _ => h)))) qss_nil)
      (qss_one (qs_ret (qe_lst (qa_cons (qv 1) (qa_cons (qv 6) (qa_cons (qv 7) (qa_cons (qv 8) (qa_cons (qv 9) (qa_cons (qe_call G_Lsome_rungs_0 (hr.mono (by decide)) (by rfl) T.g_Lsome_rungs tk (qcwP (qa_cons (qv 0) (qa_cons (qv 4) (qa_cons (qv 5) qa_nil)))) (by exact fun _ _ h _ => h)) qa_nil)))))))))))))))
theorem ok_Lsome_road_0 {P : Program} {w : World} {K : PySem.W.Frag} {mg : Str → Option Value} {base : Heap} (T : Tx K mg)
    (G_Ldraw_0 : Fn P w K mg base 1 (He.ga K "_law_draw") ["_law_feed_here", "_law_many"] w_Ldraw 2 [] (fun ds _ => ds))
    (G_Lroom_0 : Fn P w K mg base 2 (He.ga K "_law_room") ["_law_feed_here", "_law_top", "_law_pair"] w_Lroom 3 [] (fun ds _ => ds))
    (G_Lsome_rungs_0 : Fn P w K mg base 3 (He.ga K "_law_some_rungs") ["_law_feed_here", "_law_s_pair", "_law_t_pair"] w_Lsome_rungs 3 [] (fun ds _ => ds)) :
    Fn P w K mg base 4 (He.ga K "_law_some_road") ["_law_feed_here", "_law_name", "_law_ends", "_law_clock", "_law_s_pair", "_law_t_pair"] w_Lsome_road 6 [] (fun ds _ => ds) := by
  obtain ⟨fd, F⟩ := T.d_Lsome_road
  refine ⟨⟨fd, fk_Lsome_road T G_Ldraw_0 G_Lroom_0 G_Lsome_rungs_0 F, ?_⟩, F.kp⟩
  exact dbn_all (FunD.bindsN F (ps := ["_law_feed_here", "_law_name", "_law_ends", "_law_clock", "_law_s_pair", "_law_t_pair"]) fun _ _ _ _ _ _ us hl => match us, hl with | [_, _, _, _, _, _], _ => rfl)
theorem sc_Lbare : FnScope N_Lbare ["_law_feed_here", "_law_places", "_law_roads", "_law_clock"] (defScope s_Lbare) := ⟨rfl, rfl, rfl, by decide +kernel, rfl, by decide +kernel, by decide +kernel⟩
theorem fk_Lbare {P : Program} {w : World} {K : PySem.W.Frag} {mg : Str → Option Value} {base : Heap} (T : Tx K mg)
    (G_Ldraw_0 : Fn P w K mg base 1 (He.ga K "_law_draw") ["_law_feed_here", "_law_many"] w_Ldraw 2 [] (fun ds _ => ds))
    (G_Lnames_0 : Fn P w K mg base 2 (He.ga K "_law_names") ["_law_feed_here", "_law_many"] w_Lnames 2 [] (fun ds _ => ds))
    (G_Lsome_place_0 : Fn P w K mg base 3 (He.ga K "_law_some_place") ["_law_feed_here", "_law_name", "_law_clock", "_law_pair"] w_Lsome_place 4 [] (fun ds _ => ds))
    (G_Lsome_road_0 : Fn P w K mg base 4 (He.ga K "_law_some_road") ["_law_feed_here", "_law_name", "_law_ends", "_law_clock", "_law_s_pair", "_law_t_pair"] w_Lsome_road 6 [] (fun ds _ => ds)) {fd : FuncData}
    (F : FunD K "_law_bare" "_law_bare" (defArgs s_Lbare) (defBody s_Lbare) (defScope s_Lbare) [] [] (He.ga K "_law_bare") fd) :
    FnOk P w K mg base (L2.CX P w) 5 (He.ga K "_law_bare") fd ["_law_feed_here", "_law_places", "_law_roads", "_law_clock"] (spM K 4 w_Lbare) :=
  fn_ok F sc_Lbare fun cdv A outer s H E hr tk po =>
    (qss_cons (qs_set (i := 4) sc_Lbare.nd rfl (Or.inl rfl) (qe_op DW.op_plus sim_add qe_int (qe_call G_Ldraw_0 (hr.mono (by decide)) (by rfl) T.g_Ldraw tk (qcwP (qa_cons (qv 0) (qa_cons (qv 1) qa_nil))) (by exact fun _ _ h _ => h))))
      (qss_cons (qs_set (i := 5) sc_Lbare.nd rfl (Or.inl rfl) (qe_call G_Ldraw_0 (hr.mono (by decide)) (by rfl) T.g_Ldraw tk (qcwP (qa_cons (qv 0) (qa_cons (qe_op DW.op_plus sim_add (qv 2) qe_int) qa_nil))) (by exact fun _ _ h _ => h)))
      (qss_cons (qs_set (i := 6) sc_Lbare.nd rfl (Or.inl rfl) (qe_call G_Lnames_0 (hr.mono (by decide)) (by rfl) T.g_Lnames tk (qcwP (qa_cons (qv 0) (qa_cons (qe_op DW.op_plus sim_add (qv 4) (qv 5)) qa_nil))) (by exact fun _ _ h _ => h)))
      (qss_cons (qs_set (i := 7) sc_Lbare.nd rfl (Or.inl rfl) (qe_op op_sub sim_sub (qe_call G_Ldraw_0 (hr.mono (by decide)) (by rfl) T.g_Ldraw tk (qcwP (qa_cons (qv 0) (qa_cons qe_int qa_nil))) (by exact fun _ _ h _ => h)) qe_int))
      (qss_cons (qs_set (i := 8) sc_Lbare.nd rfl (Or.inl rfl) (qe_tup (qa_cons (qv 7) (qa_cons (qe_op DW.op_plus sim_add (qv 7) (qe_call G_Ldraw_0 (hr.mono (by decide)) (by rfl) T.g_Ldraw tk (qcwP (qa_cons (qv 0) (qa_cons qe_int qa_nil))) (by exact fun _ _ h _ => h))) qa_nil))))
      (qss_cons (qs_set (i := 7) sc_Lbare.nd rfl (Or.inl rfl) (qe_op op_sub sim_sub (qe_call G_Ldraw_0 (hr.mono (by decide)) (by rfl) T.g_Ldraw tk (qcwP (qa_cons (qv 0) (qa_cons qe_int qa_nil))) (by exact fun _ _ h _ => h)) qe_int))
      (qss_cons (qs_set (i := 9) sc_Lbare.nd rfl (Or.inl rfl) (qe_tup (qa_cons (qv 7) (qa_cons (qe_op DW.op_plus sim_add (qv 7) (qe_call G_Ldraw_0 (hr.mono (by decide)) (by rfl) T.g_Ldraw tk (qcwP (qa_cons (qv 0) (qa_cons qe_int qa_nil))) (by exact fun _ _ h _ => h))) qa_nil))))
      (qss_cons (qs_set (i := 3) sc_Lbare.nd rfl (Or.inl rfl) (qe_op DW.op_plus sim_add qe_int (qe_call G_Ldraw_0 (hr.mono (by decide)) (by rfl) T.g_Ldraw tk (qcwP (qa_cons (qv 0) (qa_cons (qv 3) qa_nil))) (by exact fun _ _ h _ => h))))
      (qss_cons (qs_set (i := 10) sc_Lbare.nd rfl (Or.inl rfl) (qe_disp (qps_cons qe_str (qv 3) (qps_cons qe_str (qv 8) (qps_cons qe_str (qv 9) (qps_cons qe_str (qe_lst qa_nil) (qps_cons qe_str (qe_lst qa_nil) (qps_cons qe_str (qe_lst qa_nil) qps_nil)))))) (by rfl) (by rfl) (by simp) (by decide)))
      (qss_cons (qs_for po rfl (qi_seq (qe_slice (qv 6) qo_none (qo_some (qv 4)))) (qg_name (i := 11) sc_Lbare.nd rfl (by first | exact Or.inl rfl | exact Or.inr rfl)) (qss_one (qs_expr (qe_bm PySem.F.plainAttrs_list PySem.F.slot_list_append PySem.F.type_list_append mt_append sim_append (qe_ix (ix_any (units1 hr)) sim_ix (qv 10) qe_str (fun _ _ => rfl)) (qa_cons (qe_call G_Lsome_place_0 (hr.mono (by decide)) (by rfl) T.g_Lsome_place tk (qcwP (qa_cons (qv 0) (qa_cons (qv 11) (qa_cons (qv 3) (qa_cons (qv 8) qa_nil))))) (by exact fun _ _ h _ => h)) qa_nil)))))
      (qss_cons (qs_for po rfl (qi_seq (qe_slice (qv 6) (qo_some (qv 4)) qo_none)) (qg_name (i := 11) sc_Lbare.nd rfl (by first | exact Or.inl rfl | exact Or.inr rfl)) (qss_one (qs_expr (qe_bm PySem.F.plainAttrs_list PySem.F.slot_list_append PySem.F.type_list_append mt_append sim_append (qe_ix (ix_any (units1 hr)) sim_ix (qv 10) qe_str (fun _ _ => rfl)) (qa_cons (qe_call G_Lsome_road_0 (hr.mono (by decide)) (by rfl) T.g_Lsome_road tk (qcwP (qa_cons (qv 0) (qa_cons (qv 11) (qa_cons (qe_slice (qv 6) qo_none (qo_some (qv 4))) (qa_cons (qv 3) (qa_cons (qv 8) (qa_cons (qv 9) qa_nil))))))) (by exact fun _ _ h _ => h)) qa_nil)))))
      (qss_one (qs_ret (qv 10))))))))))))))
theorem ok_Lbare_0 {P : Program} {w : World} {K : PySem.W.Frag} {mg : Str → Option Value} {base : Heap} (T : Tx K mg)
    (G_Ldraw_0 : Fn P w K mg base 1 (He.ga K "_law_draw") ["_law_feed_here", "_law_many"] w_Ldraw 2 [] (fun ds _ => ds))
    (G_Lnames_0 : Fn P w K mg base 2 (He.ga K "_law_names") ["_law_feed_here", "_law_many"] w_Lnames 2 [] (fun ds _ => ds))
    (G_Lsome_place_0 : Fn P w K mg base 3 (He.ga K "_law_some_place") ["_law_feed_here", "_law_name", "_law_clock", "_law_pair"] w_Lsome_place 4 [] (fun ds _ => ds))
    (G_Lsome_road_0 : Fn P w K mg base 4 (He.ga K "_law_some_road") ["_law_feed_here", "_law_name", "_law_ends", "_law_clock", "_law_s_pair", "_law_t_pair"] w_Lsome_road 6 [] (fun ds _ => ds)) :
    Fn P w K mg base 5 (He.ga K "_law_bare") ["_law_feed_here", "_law_places", "_law_roads", "_law_clock"] w_Lbare 4 [] (fun ds _ => ds) := by
  obtain ⟨fd, F⟩ := T.d_Lbare
  refine ⟨⟨fd, fk_Lbare T G_Ldraw_0 G_Lnames_0 G_Lsome_place_0 G_Lsome_road_0 F, ?_⟩, F.kp⟩
  exact dbn_all (FunD.bindsN F (ps := ["_law_feed_here", "_law_places", "_law_roads", "_law_clock"]) fun _ _ _ _ _ _ us hl => match us, hl with | [_, _, _, _], _ => rfl)
theorem sc_check_number : FnScope N_check_number ["number", "far"] (defScope s_check_number) := ⟨rfl, rfl, rfl, by decide +kernel, rfl, by decide +kernel, by decide +kernel⟩
theorem fk_check_number {P : Program} {w : World} {K : PySem.W.Frag} {mg : Str → Option Value} {base : Heap} (T : Tx K mg)
    (G_TooFar_init : DW.FnM P w K mg base CX0 3 "TooFar" "__init__" ["self", "number"] (spIn K 1 xs_TooFar)) {fd : FuncData}
    (F : FunD K "check_number" "check_number" (defArgs s_check_number) (defBody s_check_number) (defScope s_check_number) [] [] (He.ga K "check_number") fd) :
    FnOk P w K mg base (L2.CX P w) 5 (He.ga K "check_number") fd ["number", "far"] (spM K 2 w_check_number) :=
  fn_ok F sc_check_number fun cdv A outer s H E hr tk po =>
    (qss_one (qs_if (qt_not (qt_chain op_le sim_le op_le sim_le (qe_un un_neg sim_neg (qv 1)) (qv 0) (qv 1))) (qss_one (qs_raise rfl tk T.x_TooFar G_TooFar_init (hr.mono (by decide)) (by rfl) (qa_cons (qv 0) qa_nil) (by decide) (by simp [xfl, xs_TooFar]))) qss_nil))
theorem ok_check_number_0 {P : Program} {w : World} {K : PySem.W.Frag} {mg : Str → Option Value} {base : Heap} (T : Tx K mg)
    (G_TooFar_init : DW.FnM P w K mg base CX0 3 "TooFar" "__init__" ["self", "number"] (spIn K 1 xs_TooFar)) :
    Fn P w K mg base 5 (He.ga K "check_number") ["number", "far"] w_check_number 2 [] (fun ds _ => ds) := by
  obtain ⟨fd, F⟩ := T.d_check_number
  refine ⟨⟨fd, fk_check_number T G_TooFar_init F, ?_⟩, F.kp⟩
  exact dbn_all (FunD.bindsN F (ps := ["number", "far"]) fun _ _ _ _ _ _ us hl => match us, hl with | [_, _], _ => rfl)
theorem sc_check_box : FnScope N_check_box ["dial", "pair", "far"] (defScope s_check_box) := ⟨rfl, rfl, rfl, by decide +kernel, rfl, by decide +kernel, by decide +kernel⟩
theorem fk_check_box {P : Program} {w : World} {K : PySem.W.Frag} {mg : Str → Option Value} {base : Heap} (T : Tx K mg)
    (G_BadBox_init : DW.FnM P w K mg base CX0 3 "BadBox" "__init__" ["self", "dial"] (spIn K 1 xs_BadBox))
    (G_check_number_0 : Fn P w K mg base 5 (He.ga K "check_number") ["number", "far"] w_check_number 2 [] (fun ds _ => ds)) {fd : FuncData}
    (F : FunD K "check_box" "check_box" (defArgs s_check_box) (defBody s_check_box) (defScope s_check_box) [] [] (He.ga K "check_box") fd) :
    FnOk P w K mg base (L2.CX P w) 6 (He.ga K "check_box") fd ["dial", "pair", "far"] (spM K 3 w_check_box) :=
  fn_ok F sc_check_box fun cdv A outer s H E hr tk po =>
    (qss_cons (qs_expr (qe_call G_check_number_0 (hr.mono (by decide)) (by rfl) T.g_check_number tk (qcwP (qa_cons (qe_ix (ix_any (units1 hr)) sim_ix (qv 1) qe_int (fun _ _ => rfl)) (qa_cons (qv 2) qa_nil))) (by exact fun _ _ h _ => h)))
      (qss_cons (qs_expr (qe_call G_check_number_0 (hr.mono (by decide)) (by rfl) T.g_check_number tk (qcwP (qa_cons (qe_ix (ix_any (units1 hr)) sim_ix (qv 1) qe_int (fun _ _ => rfl)) (qa_cons (qv 2) qa_nil))) (by exact fun _ _ h _ => h)))
      (qss_one (qs_if (qt_cmp op_gt sim_gt (qe_ix (ix_any (units1 hr)) sim_ix (qv 1) qe_int (fun _ _ => rfl)) (qe_ix (ix_any (units1 hr)) sim_ix (qv 1) qe_int (fun _ _ => rfl)) (nomark _)) (qss_one (qs_raise rfl tk T.x_BadBox G_BadBox_init (hr.mono (by decide)) (by rfl) (qa_cons (qv 0) qa_nil) (by decide) (by simp [xfl, xs_BadBox]))) qss_nil))))
theorem ok_check_box_0 {P : Program} {w : World} {K : PySem.W.Frag} {mg : Str → Option Value} {base : Heap} (T : Tx K mg)
    (G_BadBox_init : DW.FnM P w K mg base CX0 3 "BadBox" "__init__" ["self", "dial"] (spIn K 1 xs_BadBox))
    (G_check_number_0 : Fn P w K mg base 5 (He.ga K "check_number") ["number", "far"] w_check_number 2 [] (fun ds _ => ds)) :
    Fn P w K mg base 6 (He.ga K "check_box") ["dial", "pair", "far"] w_check_box 3 [] (fun ds _ => ds) := by
  obtain ⟨fd, F⟩ := T.d_check_box
  refine ⟨⟨fd, fk_check_box T G_BadBox_init G_check_number_0 F, ?_⟩, F.kp⟩
  exact dbn_all (FunD.bindsN F (ps := ["dial", "pair", "far"]) fun _ _ _ _ _ _ us hl => match us, hl with | [_, _, _], _ => rfl)
theorem sc_Net_UinitU : FnScope N_Net_UinitU ["self", "hours", "s_box", "t_box"] (defScope s_Net_UinitU) := ⟨rfl, rfl, rfl, by decide +kernel, rfl, by decide +kernel, by decide +kernel⟩
theorem fk_Net_UinitU {P : Program} {w : World} {K : PySem.W.Frag} {mg : Str → Option Value} {base : Heap} (T : Tx K mg)
    (G_BadHours_init : DW.FnM P w K mg base CX0 3 "BadHours" "__init__" ["self", "number"] (spIn K 1 xs_BadHours))
    (G_check_box_0 : Fn P w K mg base 6 (He.ga K "check_box") ["dial", "pair", "far"] w_check_box 3 [] (fun ds _ => ds)) {fd : FuncData}
    (F : FunD K "__init__" "Net.__init__" (defArgs s_Net_UinitU) (defBody s_Net_UinitU) (defScope s_Net_UinitU) [] [("hours", (.int 1)), ("s_box", (.ref ((kwdAt ("Net", some "__init__") "s_box") K))), ("t_box", (.ref ((kwdAt ("Net", some "__init__") "t_box") K)))] (He.ma K (He.ga K "Net") "__init__") fd) :
    FnOk P w K mg base (L2.CX P w) 7 (He.ma K (He.ga K "Net") "__init__") fd ["self", "hours", "s_box", "t_box"] (spM K 4 w_Net_UinitU) :=
  fn_ok F sc_Net_UinitU fun cdv A outer s H E hr tk po =>
    (qss_cons (qs_if (qt_not (qt_chain op_le sim_le op_le sim_le qe_int (qv 1) (qe_gint (by rfl) T.c_MOST_HOURS))) (qss_one (qs_raise rfl tk T.x_BadHours G_BadHours_init (hr.mono (by decide)) (by rfl) (qa_cons (qv 1) qa_nil) (by decide) (by simp [xfl, xs_BadHours]))) qss_nil)
      (qss_cons (qs_expr (qe_call G_check_box_0 (hr.mono (by decide)) (by rfl) T.g_check_box tk (qcwP (qa_cons qe_str (qa_cons (qv 2) (qa_cons (qe_gint (by rfl) T.c_MOST) qa_nil)))) (by exact fun _ _ h _ => h)))
      (qss_cons (qs_expr (qe_call G_check_box_0 (hr.mono (by decide)) (by rfl) T.g_check_box tk (qcwP (qa_cons qe_str (qa_cons (qv 3) (qa_cons (qe_gint (by rfl) T.c_MOST) qa_nil)))) (by exact fun _ _ h _ => h)))
      (qss_cons (qs_fld T.cn (by simp [cfl]) (qv 0) (qv 1))
      (qss_cons (qs_fld T.cn (by simp [cfl]) (qv 0) (qv 2))
      (qss_cons (qs_fld T.cn (by simp [cfl]) (qv 0) (qv 3))
      (qss_cons (qs_fld T.cn (by simp [cfl]) (qv 0) qe_dict0)
      (qss_one (qs_fld T.cn (by simp [cfl]) (qv 0) qe_dict0)))))))))
theorem ok_Net_UinitU_0 {P : Program} {w : World} {K : PySem.W.Frag} {mg : Str → Option Value} {base : Heap} (T : Tx K mg)
    (G_BadHours_init : DW.FnM P w K mg base CX0 3 "BadHours" "__init__" ["self", "number"] (spIn K 1 xs_BadHours))
    (G_check_box_0 : Fn P w K mg base 6 (He.ga K "check_box") ["dial", "pair", "far"] w_check_box 3 [] (fun ds _ => ds)) :
    Fn P w K mg base 7 (He.ma K (He.ga K "Net") "__init__") ["self", "hours", "s_box", "t_box"] w_Net_UinitU 1 ["hours", "s_box", "t_box"] (fun ds es => [ds.getD 0 .non, es.getD 0 .non, es.getD 1 .non, es.getD 2 .non]) := by
  obtain ⟨fd, F⟩ := T.d_Net_UinitU
  refine ⟨⟨fd, fk_Net_UinitU T G_BadHours_init G_check_box_0 F, ?_⟩, F.kp⟩
  obtain ⟨mv, hb⟩ := FunD.kbinds0 F (ps := ["self", "hours", "s_box", "t_box"]) 1 ["hours", "s_box", "t_box"] [] (fun us mv ws => pick (us ++ mv ++ ws) [0, 1, 2, 3]) (by simp) (by simp) vals_pick3 (fun D doc pm an cdv ct us mv ws h1 h2 h3 => match us, mv, ws, h1, h2, h3 with | [_], [], [_, _, _], _, _, _ => rfl)
  exact dbn_kw (md := []) hb (fun as H => .nil) (fun ds es h1 h2 => match ds, es, h1, h2 with | [_], [_, _, _], _, _ => rfl)
theorem sc_check_name : FnScope N_check_name ["name"] (defScope s_check_name) := ⟨rfl, rfl, rfl, by decide +kernel, rfl, by decide +kernel, by decide +kernel⟩
theorem fk_check_name {P : Program} {w : World} {K : PySem.W.Frag} {mg : Str → Option Value} {base : Heap} (T : Tx K mg)
    (G_BadName_init : DW.FnM P w K mg base CX0 3 "BadName" "__init__" ["self", "name"] (spIn K 1 xs_BadName)) {fd : FuncData}
    (F : FunD K "check_name" "check_name" (defArgs s_check_name) (defBody s_check_name) (defScope s_check_name) [] [] (He.ga K "check_name") fd) :
    FnOk P w K mg base (L2.CX P w) 5 (He.ga K "check_name") fd ["name"] (spM K 1 w_check_name) :=
  fn_ok F sc_check_name fun cdv A outer s H E hr tk po =>
    (qss_cons (qs_if (PW.pt (qw_or (qt_not (qt_chain op_le sim_le op_le sim_le qe_int (qe_callB call_lenA sim_len (by rfl) T.m_len (by decide +kernel) (qa_cons (qv 0) qa_nil)) (qe_gint (by rfl) T.c_MOST_SIGNS))) (qw_or1 (qt_cmp (op_notInA (units65 hr)) sim_notin (qe_ix (ix_any (units1 hr)) sim_ix (qv 0) qe_int (fun _ _ => rfl)) (qe_gstr (by rfl) T.c_FIRST) rfl)))) (qss_one (qs_raise rfl tk T.x_BadName G_BadName_init (hr.mono (by decide)) (by rfl) (qa_cons (qv 0) qa_nil) (by decide) (by simp [xfl, xs_BadName]))) qss_nil)
      (qss_one (qs_for po rfl (qi_seq (qv 0)) (qg_name (i := 1) sc_check_name.nd rfl (by first | exact Or.inl rfl | exact Or.inr rfl)) (qss_one (qs_if (qt_cmp (op_notInA (units65 hr)) sim_notin (qv 1) (qe_gstr (by rfl) T.c_LATER) rfl) (qss_one (qs_raise rfl tk T.x_BadName G_BadName_init (hr.mono (by decide)) (by rfl) (qa_cons (qv 0) qa_nil) (by decide) (by simp [xfl, xs_BadName]))) qss_nil)))))
theorem ok_check_name_0 {P : Program} {w : World} {K : PySem.W.Frag} {mg : Str → Option Value} {base : Heap} (T : Tx K mg)
    (G_BadName_init : DW.FnM P w K mg base CX0 3 "BadName" "__init__" ["self", "name"] (spIn K 1 xs_BadName)) :
    Fn P w K mg base 5 (He.ga K "check_name") ["name"] w_check_name 1 [] (fun ds _ => ds) := by
  obtain ⟨fd, F⟩ := T.d_check_name
  refine ⟨⟨fd, fk_check_name T G_BadName_init F, ?_⟩, F.kp⟩
  exact dbn_all (FunD.bindsN F (ps := ["name"]) fun _ _ _ _ _ _ us hl => match us, hl with | [_], _ => rfl)
theorem sc_Net_fresh : FnScope N_Net_fresh ["self", "name"] (defScope s_Net_fresh) := ⟨rfl, rfl, rfl, by decide +kernel, rfl, by decide +kernel, by decide +kernel⟩
theorem fk_Net_fresh {P : Program} {w : World} {K : PySem.W.Frag} {mg : Str → Option Value} {base : Heap} (T : Tx K mg)
    (G_Taken_init : DW.FnM P w K mg base CX0 3 "Taken" "__init__" ["self", "name"] (spIn K 1 xs_Taken))
    (G_check_name_0 : Fn P w K mg base 5 (He.ga K "check_name") ["name"] w_check_name 1 [] (fun ds _ => ds)) {fd : FuncData}
    (F : FunD K "fresh" "Net.fresh" (defArgs s_Net_fresh) (defBody s_Net_fresh) (defScope s_Net_fresh) [] [] (He.ma K (He.ga K "Net") "fresh") fd) :
    FnOk P w K mg base (L2.CX P w) 6 (He.ma K (He.ga K "Net") "fresh") fd ["self", "name"] (spM K 2 w_Net_fresh) :=
  fn_ok F sc_Net_fresh fun cdv A outer s H E hr tk po =>
    (qss_cons (qs_expr (qe_call G_check_name_0 (hr.mono (by decide)) (by rfl) T.g_check_name tk (qcwP (qa_cons (qv 1) qa_nil)) (by exact fun _ _ h _ => h)))
      (qss_one (qs_if (PW.pt (qw_or (qt_cmp (op_inA (units65 hr)) sim_in (qv 1) (qe_fld T.cn (by simp [cfl]) (qv 0)) rfl) (qw_or1 (qt_cmp (op_inA (units65 hr)) sim_in (qv 1) (qe_fld T.cn (by simp [cfl]) (qv 0)) rfl)))) (qss_one (qs_raise rfl tk T.x_Taken G_Taken_init (hr.mono (by decide)) (by rfl) (qa_cons (qv 1) qa_nil) (by decide) (by simp [xfl, xs_Taken]))) qss_nil)))
theorem ok_Net_fresh_0 {P : Program} {w : World} {K : PySem.W.Frag} {mg : Str → Option Value} {base : Heap} (T : Tx K mg)
    (G_Taken_init : DW.FnM P w K mg base CX0 3 "Taken" "__init__" ["self", "name"] (spIn K 1 xs_Taken))
    (G_check_name_0 : Fn P w K mg base 5 (He.ga K "check_name") ["name"] w_check_name 1 [] (fun ds _ => ds)) :
    Fn P w K mg base 6 (He.ma K (He.ga K "Net") "fresh") ["self", "name"] w_Net_fresh 2 [] (fun ds _ => ds) := by
  obtain ⟨fd, F⟩ := T.d_Net_fresh
  refine ⟨⟨fd, fk_Net_fresh T G_Taken_init G_check_name_0 F, ?_⟩, F.kp⟩
  exact dbn_all (FunD.bindsN F (ps := ["self", "name"]) fun _ _ _ _ _ _ us hl => match us, hl with | [_, _], _ => rfl)
theorem sc_Net_set_place : FnScope N_Net_set_place ["self", "name", "told"] (defScope s_Net_set_place) := ⟨rfl, rfl, rfl, by decide +kernel, rfl, by decide +kernel, by decide +kernel⟩
theorem fk_Net_set_place {P : Program} {w : World} {K : PySem.W.Frag} {mg : Str → Option Value} {base : Heap} (T : Tx K mg) {fd : FuncData}
    (F : FunD K "set_place" "Net.set_place" (defArgs s_Net_set_place) (defBody s_Net_set_place) (defScope s_Net_set_place) [] [] (He.ma K (He.ga K "Net") "set_place") fd) :
    FnOk P w K mg base (L2.CX P w) 1 (He.ma K (He.ga K "Net") "set_place") fd ["self", "name", "told"] (spM K 3 w_Net_set_place) :=
  fn_ok F sc_Net_set_place fun cdv A outer s H E hr tk po =>
    (qss_cons (qs_set (i := 3) sc_Net_set_place.nd rfl (Or.inl rfl) (qe_callTy call_dictD sim_dict (by rfl) T.m_dict (by decide +kernel) (qa_cons (qe_fld T.cn (by simp [cfl]) (qv 0)) qa_nil)))
      (qss_cons (qs_setIx (units1 hr) (qv 2) (qv 3) (qv 1))
      (qss_one (qs_fld T.cn (by simp [cfl]) (qv 0) (qv 3)))))
theorem ok_Net_set_place_0 {P : Program} {w : World} {K : PySem.W.Frag} {mg : Str → Option Value} {base : Heap} (T : Tx K mg) :
    Fn P w K mg base 1 (He.ma K (He.ga K "Net") "set_place") ["self", "name", "told"] w_Net_set_place 3 [] (fun ds _ => ds) := by
  obtain ⟨fd, F⟩ := T.d_Net_set_place
  refine ⟨⟨fd, fk_Net_set_place T F, ?_⟩, F.kp⟩
  exact dbn_all (FunD.bindsN F (ps := ["self", "name", "told"]) fun _ _ _ _ _ _ us hl => match us, hl with | [_, _, _], _ => rfl)
theorem sc_Net_place : FnScope N_Net_place ["self", "name"] (defScope s_Net_place) := ⟨rfl, rfl, rfl, by decide +kernel, rfl, by decide +kernel, by decide +kernel⟩
theorem fk_Net_place {P : Program} {w : World} {K : PySem.W.Frag} {mg : Str → Option Value} {base : Heap} (T : Tx K mg)
    (G_TooMany_init : DW.FnM P w K mg base CX0 3 "TooMany" "__init__" ["self", "most"] (spIn K 1 xs_TooMany))
    (G_Net_fresh_0 : Fn P w K mg base 6 (He.ma K (He.ga K "Net") "fresh") ["self", "name"] w_Net_fresh 2 [] (fun ds _ => ds))
    (G_Net_set_place_0 : Fn P w K mg base 1 (He.ma K (He.ga K "Net") "set_place") ["self", "name", "told"] w_Net_set_place 3 [] (fun ds _ => ds)) {fd : FuncData}
    (F : FunD K "place" "Net.place" (defArgs s_Net_place) (defBody s_Net_place) (defScope s_Net_place) [] [] (He.ma K (He.ga K "Net") "place") fd) :
    FnOk P w K mg base (L2.CX P w) 7 (He.ma K (He.ga K "Net") "place") fd ["self", "name"] (spM K 2 w_Net_place) :=
  fn_ok F sc_Net_place fun cdv A outer s H E hr tk po =>
    (qss_cons (qs_expr (qe_meth (qv 0) T.cl_Net T.me_Net_fresh G_Net_fresh_0 (hr.mono (by decide)) tk (qcwP (qa_cons (qv 1) qa_nil)) (by exact fun _ _ h _ => h)))
      (qss_cons (qs_if (qt_cmp op_ge sim_ge (qe_callB call_lenA sim_len (by rfl) T.m_len (by decide +kernel) (qa_cons (qe_fld T.cn (by simp [cfl]) (qv 0)) qa_nil)) (qe_gint (by rfl) T.c_MOST_PLACES) (nomark _)) (qss_one (qs_raise rfl tk T.x_TooMany G_TooMany_init (hr.mono (by decide)) (by rfl) (qa_cons (qe_gint (by rfl) T.c_MOST_PLACES) qa_nil) (by decide) (by simp [xfl, xs_TooMany]))) qss_nil)
      (qss_one (qs_expr (qe_meth (qv 0) T.cl_Net T.me_Net_set_place G_Net_set_place_0 (hr.mono (by decide)) tk (qcwP (qa_cons (qv 1) (qa_cons (qe_tup (qa_cons qe_non (qa_cons (qe_tup (qa_cons qe_int (qa_cons qe_int qa_nil))) (qa_cons (qe_tup (qa_cons qe_int (qa_cons qe_int qa_nil))) (qa_cons (qe_callTy call_tuple_of sim_tuple (by rfl) T.m_tuple (by decide +kernel) (qa_cons (qe_lc (own := [("hour", 2)]) (T := (.nm 2)) (tt := mYes) (me := (mCB oTup (mCons (mC (.int 0)) (mCons (mC (.int 0)) mNil)))) rfl sc_Net_place.nd (qi_range1 (by rfl) T.m_range (qa_cons (qe_fld T.cn (by simp [cfl]) (qv 0)) qa_nil)) (blkOk_by (N := N_Net_place) (sc := defScope s_Net_place) (by decide +kernel)) (fun _ _ _ _ _ => (qg_name (i := 2) sc_Net_place.nd rfl (by first | exact Or.inl rfl | exact Or.inr rfl))) (fun _ _ _ _ _ => qts_nil) (fun _ _ _ _ _ => (qe_tup (qa_cons qe_int (qa_cons qe_int qa_nil)))) (by decide)) qa_nil)) qa_nil))))) qa_nil))) (by exact fun _ _ h _ => h))))))
theorem ok_Net_place_0 {P : Program} {w : World} {K : PySem.W.Frag} {mg : Str → Option Value} {base : Heap} (T : Tx K mg)
    (G_TooMany_init : DW.FnM P w K mg base CX0 3 "TooMany" "__init__" ["self", "most"] (spIn K 1 xs_TooMany))
    (G_Net_fresh_0 : Fn P w K mg base 6 (He.ma K (He.ga K "Net") "fresh") ["self", "name"] w_Net_fresh 2 [] (fun ds _ => ds))
    (G_Net_set_place_0 : Fn P w K mg base 1 (He.ma K (He.ga K "Net") "set_place") ["self", "name", "told"] w_Net_set_place 3 [] (fun ds _ => ds)) :
    Fn P w K mg base 7 (He.ma K (He.ga K "Net") "place") ["self", "name"] w_Net_place 2 [] (fun ds _ => ds) := by
  obtain ⟨fd, F⟩ := T.d_Net_place
  refine ⟨⟨fd, fk_Net_place T G_TooMany_init G_Net_fresh_0 G_Net_set_place_0 F, ?_⟩, F.kp⟩
  exact dbn_all (FunD.bindsN F (ps := ["self", "name"]) fun _ _ _ _ _ _ us hl => match us, hl with | [_, _], _ => rfl)
theorem sc_Net_known : FnScope N_Net_known ["self", "name"] (defScope s_Net_known) := ⟨rfl, rfl, rfl, by decide +kernel, rfl, by decide +kernel, by decide +kernel⟩
theorem fk_Net_known {P : Program} {w : World} {K : PySem.W.Frag} {mg : Str → Option Value} {base : Heap} (T : Tx K mg)
    (G_NoPlace_init : DW.FnM P w K mg base CX0 3 "NoPlace" "__init__" ["self", "name"] (spIn K 1 xs_NoPlace)) {fd : FuncData}
    (F : FunD K "known" "Net.known" (defArgs s_Net_known) (defBody s_Net_known) (defScope s_Net_known) [] [] (He.ma K (He.ga K "Net") "known") fd) :
    FnOk P w K mg base (L2.CX P w) 5 (He.ma K (He.ga K "Net") "known") fd ["self", "name"] (spM K 2 w_Net_known) :=
  fn_ok F sc_Net_known fun cdv A outer s H E hr tk po =>
    (qss_cons (qs_if (qt_cmp (op_notInA (units65 hr)) sim_notin (qv 1) (qe_fld T.cn (by simp [cfl]) (qv 0)) rfl) (qss_one (qs_raise rfl tk T.x_NoPlace G_NoPlace_init (hr.mono (by decide)) (by rfl) (qa_cons (qv 1) qa_nil) (by decide) (by simp [xfl, xs_NoPlace]))) qss_nil)
      (qss_one (qs_ret (qe_ix (ix_any (units1 hr)) sim_ix (qe_fld T.cn (by simp [cfl]) (qv 0)) (qv 1) (fun _ _ => rfl)))))
theorem ok_Net_known_0 {P : Program} {w : World} {K : PySem.W.Frag} {mg : Str → Option Value} {base : Heap} (T : Tx K mg)
    (G_NoPlace_init : DW.FnM P w K mg base CX0 3 "NoPlace" "__init__" ["self", "name"] (spIn K 1 xs_NoPlace)) :
    Fn P w K mg base 5 (He.ma K (He.ga K "Net") "known") ["self", "name"] w_Net_known 2 [] (fun ds _ => ds) := by
  obtain ⟨fd, F⟩ := T.d_Net_known
  refine ⟨⟨fd, fk_Net_known T G_NoPlace_init F, ?_⟩, F.kp⟩
  exact dbn_all (FunD.bindsN F (ps := ["self", "name"]) fun _ _ _ _ _ _ us hl => match us, hl with | [_, _], _ => rfl)
theorem sc_check_move : FnScope N_check_move ["move", "far"] (defScope s_check_move) := ⟨rfl, rfl, rfl, by decide +kernel, rfl, by decide +kernel, by decide +kernel⟩
theorem fk_check_move {P : Program} {w : World} {K : PySem.W.Frag} {mg : Str → Option Value} {base : Heap} (T : Tx K mg)
    (G_check_number_0 : Fn P w K mg base 5 (He.ga K "check_number") ["number", "far"] w_check_number 2 [] (fun ds _ => ds)) {fd : FuncData}
    (F : FunD K "check_move" "check_move" (defArgs s_check_move) (defBody s_check_move) (defScope s_check_move) [] [] (He.ga K "check_move") fd) :
    FnOk P w K mg base (L2.CX P w) 6 (He.ga K "check_move") fd ["move", "far"] (spM K 2 w_check_move) :=
  fn_ok F sc_check_move fun cdv A outer s H E hr tk po =>
    (qss_cons (qs_expr (qe_call G_check_number_0 (hr.mono (by decide)) (by rfl) T.g_check_number tk (qcwP (qa_cons (qe_ix (ix_any (units1 hr)) sim_ix (qv 0) qe_int (fun _ _ => rfl)) (qa_cons (qv 1) qa_nil))) (by exact fun _ _ h _ => h)))
      (qss_one (qs_expr (qe_call G_check_number_0 (hr.mono (by decide)) (by rfl) T.g_check_number tk (qcwP (qa_cons (qe_ix (ix_any (units1 hr)) sim_ix (qv 0) qe_int (fun _ _ => rfl)) (qa_cons (qv 1) qa_nil))) (by exact fun _ _ h _ => h)))))
theorem ok_check_move_0 {P : Program} {w : World} {K : PySem.W.Frag} {mg : Str → Option Value} {base : Heap} (T : Tx K mg)
    (G_check_number_0 : Fn P w K mg base 5 (He.ga K "check_number") ["number", "far"] w_check_number 2 [] (fun ds _ => ds)) :
    Fn P w K mg base 6 (He.ga K "check_move") ["move", "far"] w_check_move 2 [] (fun ds _ => ds) := by
  obtain ⟨fd, F⟩ := T.d_check_move
  refine ⟨⟨fd, fk_check_move T G_check_number_0 F, ?_⟩, F.kp⟩
  exact dbn_all (FunD.bindsN F (ps := ["move", "far"]) fun _ _ _ _ _ _ us hl => match us, hl with | [_, _], _ => rfl)
theorem sc_sinks : FnScope N_sinks ["move", "pair"] (defScope s_sinks) := ⟨rfl, rfl, rfl, by decide +kernel, rfl, by decide +kernel, by decide +kernel⟩
theorem fk_sinks {P : Program} {w : World} {K : PySem.W.Frag} {mg : Str → Option Value} {base : Heap} (T : Tx K mg) {fd : FuncData}
    (F : FunD K "sinks" "sinks" (defArgs s_sinks) (defBody s_sinks) (defScope s_sinks) [] [] (He.ga K "sinks") fd) :
    FnOk P w K mg base (L2.CX P w) 1 (He.ga K "sinks") fd ["move", "pair"] (spM K 2 w_sinks) :=
  fn_ok F sc_sinks fun cdv A outer s H E hr tk po =>
    (qss_one (qs_ret (qe_or (qe_cmp op_lt sim_lt (qe_op DW.op_plus sim_add (qe_ix (ix_any (units1 hr)) sim_ix (qv 0) qe_int (fun _ _ => rfl)) (qe_op op_mulA sim_mul (qe_ix (ix_any (units1 hr)) sim_ix (qv 0) qe_int (fun _ _ => rfl)) (qe_ix (ix_any (units1 hr)) sim_ix (qv 1) qe_int (fun _ _ => rfl)))) qe_int (nomark _)) (qe_one (qe_cmp op_lt sim_lt (qe_op DW.op_plus sim_add (qe_ix (ix_any (units1 hr)) sim_ix (qv 0) qe_int (fun _ _ => rfl)) (qe_op op_mulA sim_mul (qe_ix (ix_any (units1 hr)) sim_ix (qv 0) qe_int (fun _ _ => rfl)) (qe_ix (ix_any (units1 hr)) sim_ix (qv 1) qe_int (fun _ _ => rfl)))) qe_int (nomark _))))))
theorem ok_sinks_0 {P : Program} {w : World} {K : PySem.W.Frag} {mg : Str → Option Value} {base : Heap} (T : Tx K mg) :
    Fn P w K mg base 1 (He.ga K "sinks") ["move", "pair"] w_sinks 2 [] (fun ds _ => ds) := by
  obtain ⟨fd, F⟩ := T.d_sinks
  refine ⟨⟨fd, fk_sinks T F, ?_⟩, F.kp⟩
  exact dbn_all (FunD.bindsN F (ps := ["move", "pair"]) fun _ _ _ _ _ _ us hl => match us, hl with | [_, _], _ => rfl)
theorem sc_check_room : FnScope N_check_room ["name", "room", "s_box"] (defScope s_check_room) := ⟨rfl, rfl, rfl, by decide +kernel, rfl, by decide +kernel, by decide +kernel⟩
theorem fk_check_room {P : Program} {w : World} {K : PySem.W.Frag} {mg : Str → Option Value} {base : Heap} (T : Tx K mg)
    (G_Below_init : DW.FnM P w K mg base CX0 3 "Below" "__init__" ["self", "name"] (spIn K 1 xs_Below))
    (G_sinks_0 : Fn P w K mg base 1 (He.ga K "sinks") ["move", "pair"] w_sinks 2 [] (fun ds _ => ds)) {fd : FuncData}
    (F : FunD K "check_room" "check_room" (defArgs s_check_room) (defBody s_check_room) (defScope s_check_room) [] [] (He.ga K "check_room") fd) :
    FnOk P w K mg base (L2.CX P w) 5 (He.ga K "check_room") fd ["name", "room", "s_box"] (spM K 3 w_check_room) :=
  fn_ok F sc_check_room fun cdv A outer s H E hr tk po =>
    (qss_one (qs_if (qt_tru (qe_call G_sinks_0 (hr.mono (by decide)) (by rfl) T.g_sinks tk (qcwP (qa_cons (qv 1) (qa_cons (qv 2) qa_nil))) (by exact fun _ _ h _ => h)) (by intro _; rfl)) (qss_one (qs_raise rfl tk T.x_Below G_Below_init (hr.mono (by decide)) (by rfl) (qa_cons (qv 0) qa_nil) (by decide) (by simp [xfl, xs_Below]))) qss_nil))
theorem ok_check_room_0 {P : Program} {w : World} {K : PySem.W.Frag} {mg : Str → Option Value} {base : Heap} (T : Tx K mg)
    (G_Below_init : DW.FnM P w K mg base CX0 3 "Below" "__init__" ["self", "name"] (spIn K 1 xs_Below))
    (G_sinks_0 : Fn P w K mg base 1 (He.ga K "sinks") ["move", "pair"] w_sinks 2 [] (fun ds _ => ds)) :
    Fn P w K mg base 5 (He.ga K "check_room") ["name", "room", "s_box"] w_check_room 3 [] (fun ds _ => ds) := by
  obtain ⟨fd, F⟩ := T.d_check_room
  refine ⟨⟨fd, fk_check_room T G_Below_init G_sinks_0 F, ?_⟩, F.kp⟩
  exact dbn_all (FunD.bindsN F (ps := ["name", "room", "s_box"]) fun _ _ _ _ _ _ us hl => match us, hl with | [_, _, _], _ => rfl)
theorem sc_Net_through : FnScope N_Net_through ["self", "place", "room"] (defScope s_Net_through) := ⟨rfl, rfl, rfl, by decide +kernel, rfl, by decide +kernel, by decide +kernel⟩
theorem fk_Net_through {P : Program} {w : World} {K : PySem.W.Frag} {mg : Str → Option Value} {base : Heap} (T : Tx K mg)
    (G_Net_known_0 : Fn P w K mg base 5 (He.ma K (He.ga K "Net") "known") ["self", "name"] w_Net_known 2 [] (fun ds _ => ds))
    (G_Net_set_place_0 : Fn P w K mg base 1 (He.ma K (He.ga K "Net") "set_place") ["self", "name", "told"] w_Net_set_place 3 [] (fun ds _ => ds))
    (G_check_move_0 : Fn P w K mg base 6 (He.ga K "check_move") ["move", "far"] w_check_move 2 [] (fun ds _ => ds))
    (G_check_room_0 : Fn P w K mg base 5 (He.ga K "check_room") ["name", "room", "s_box"] w_check_room 3 [] (fun ds _ => ds)) {fd : FuncData}
    (F : FunD K "through" "Net.through" (defArgs s_Net_through) (defBody s_Net_through) (defScope s_Net_through) [.non] [] (He.ma K (He.ga K "Net") "through") fd) :
    FnOk P w K mg base (L2.CX P w) 7 (He.ma K (He.ga K "Net") "through") fd ["self", "place", "room"] (spM K 3 w_Net_through) :=
  fn_ok F sc_Net_through fun cdv A outer s H E hr tk po =>
    (qss_cons (qs_set (i := 3) sc_Net_through.nd rfl (Or.inl rfl) (qe_meth (qv 0) T.cl_Net T.me_Net_known G_Net_known_0 (hr.mono (by decide)) tk (qcwP (qa_cons (qv 1) qa_nil)) (by exact fun _ _ h _ => h)))
      (qss_cons (qs_if (qt_cmp op_notN1 sim_isnot (qv 2) qe_non (nomark _)) (qss_cons (qs_expr (qe_call G_check_move_0 (hr.mono (by decide)) (by rfl) T.g_check_move tk (qcwP (qa_cons (qv 2) (qa_cons (qe_gint (by rfl) T.c_MOST) qa_nil))) (by exact fun _ _ h _ => h)))
      (qss_one (qs_expr (qe_call G_check_room_0 (hr.mono (by decide)) (by rfl) T.g_check_room tk (qcwP (qa_cons (qv 1) (qa_cons (qv 2) (qa_cons (qe_fld T.cn (by simp [cfl]) (qv 0)) qa_nil)))) (by exact fun _ _ h _ => h))))) qss_nil)
      (qss_one (qs_expr (qe_meth (qv 0) T.cl_Net T.me_Net_set_place G_Net_set_place_0 (hr.mono (by decide)) tk (qcwP (qa_cons (qv 1) (qa_cons (qe_op DW.op_plus sim_add (qe_tup (qa_cons (qv 2) qa_nil)) (qe_slice (qv 3) (qo_some qe_int) qo_none)) qa_nil))) (by exact fun _ _ h _ => h))))))
theorem ok_Net_through_0 {P : Program} {w : World} {K : PySem.W.Frag} {mg : Str → Option Value} {base : Heap} (T : Tx K mg)
    (G_Net_known_0 : Fn P w K mg base 5 (He.ma K (He.ga K "Net") "known") ["self", "name"] w_Net_known 2 [] (fun ds _ => ds))
    (G_Net_set_place_0 : Fn P w K mg base 1 (He.ma K (He.ga K "Net") "set_place") ["self", "name", "told"] w_Net_set_place 3 [] (fun ds _ => ds))
    (G_check_move_0 : Fn P w K mg base 6 (He.ga K "check_move") ["move", "far"] w_check_move 2 [] (fun ds _ => ds))
    (G_check_room_0 : Fn P w K mg base 5 (He.ga K "check_room") ["name", "room", "s_box"] w_check_room 3 [] (fun ds _ => ds)) :
    Fn P w K mg base 7 (He.ma K (He.ga K "Net") "through") ["self", "place", "room"] w_Net_through 3 [] (fun ds _ => ds) := by
  obtain ⟨fd, F⟩ := T.d_Net_through
  refine ⟨⟨fd, fk_Net_through T G_Net_known_0 G_Net_set_place_0 G_check_move_0 G_check_room_0 F, ?_⟩, F.kp⟩
  obtain ⟨ds, hd, hb⟩ := FunD.binds1 F (ps := ["self", "place", "room"]) 3 1 (by simp) rfl (fun T kV doc pm an cdv ct us its h1 h2 => match us, its, h1, h2 with | [_, _, _], [_], _, _ => ⟨_, rfl, rfl⟩)
  exact dbn_dfl hb hd rfl (fun as H ds vs hl rv => match ds, hl with | [_, _, _], _ => relL_app rv .nil)
theorem sc_Net_store : FnScope N_Net_store ["self", "place", "room", "price"] (defScope s_Net_store) := ⟨rfl, rfl, rfl, by decide +kernel, rfl, by decide +kernel, by decide +kernel⟩
theorem fk_Net_store {P : Program} {w : World} {K : PySem.W.Frag} {mg : Str → Option Value} {base : Heap} (T : Tx K mg)
    (G_Net_known_0 : Fn P w K mg base 5 (He.ma K (He.ga K "Net") "known") ["self", "name"] w_Net_known 2 [] (fun ds _ => ds))
    (G_Net_set_place_0 : Fn P w K mg base 1 (He.ma K (He.ga K "Net") "set_place") ["self", "name", "told"] w_Net_set_place 3 [] (fun ds _ => ds))
    (G_check_move_0 : Fn P w K mg base 6 (He.ga K "check_move") ["move", "far"] w_check_move 2 [] (fun ds _ => ds))
    (G_check_room_0 : Fn P w K mg base 5 (He.ga K "check_room") ["name", "room", "s_box"] w_check_room 3 [] (fun ds _ => ds)) {fd : FuncData}
    (F : FunD K "store" "Net.store" (defArgs s_Net_store) (defBody s_Net_store) (defScope s_Net_store) [(.ref ((He.dflAt ("Net", some "store") 0) K)), (.ref ((He.dflAt ("Net", some "store") 1) K))] [] (He.ma K (He.ga K "Net") "store") fd) :
    FnOk P w K mg base (L2.CX P w) 7 (He.ma K (He.ga K "Net") "store") fd ["self", "place", "room", "price"] (spM K 4 w_Net_store) :=
  fn_ok F sc_Net_store fun cdv A outer s H E hr tk po =>
    (qss_cons (qs_set (i := 4) sc_Net_store.nd rfl (Or.inl rfl) (qe_meth (qv 0) T.cl_Net T.me_Net_known G_Net_known_0 (hr.mono (by decide)) tk (qcwP (qa_cons (qv 1) qa_nil)) (by exact fun _ _ h _ => h)))
      (qss_cons (qs_if (qt_cmp op_notN1 sim_isnot (qv 2) qe_non (nomark _)) (qss_one (qs_expr (qe_call G_check_move_0 (hr.mono (by decide)) (by rfl) T.g_check_move tk (qcwP (qa_cons (qv 2) (qa_cons (qe_gint (by rfl) T.c_MOST) qa_nil))) (by exact fun _ _ h _ => h)))) qss_nil)
      (qss_cons (qs_expr (qe_call G_check_move_0 (hr.mono (by decide)) (by rfl) T.g_check_move tk (qcwP (qa_cons (qv 3) (qa_cons (qe_gint (by rfl) T.c_MOST) qa_nil))) (by exact fun _ _ h _ => h)))
      (qss_cons (qs_if (qt_cmp op_notN1 sim_isnot (qv 2) qe_non (nomark _)) (qss_one (qs_expr (qe_call G_check_room_0 (hr.mono (by decide)) (by rfl) T.g_check_room tk (qcwP (qa_cons (qv 1) (qa_cons (qv 2) (qa_cons (qe_fld T.cn (by simp [cfl]) (qv 0)) qa_nil)))) (by exact fun _ _ h _ => h)))) qss_nil)
      (qss_cons (qs_if (qt_cmp (DW.op_eqq hr.units) sim_eq (qv 2) (qe_tup (qa_cons qe_int (qa_cons qe_int qa_nil))) (nomark _)) (qss_one (qs_set (i := 3) sc_Net_store.nd rfl (Or.inl rfl) (qe_tup (qa_cons qe_int (qa_cons qe_int qa_nil))))) qss_nil)
      (qss_one (qs_expr (qe_meth (qv 0) T.cl_Net T.me_Net_set_place G_Net_set_place_0 (hr.mono (by decide)) tk (qcwP (qa_cons (qv 1) (qa_cons (qe_tup (qa_cons (qe_ix (ix_any (units1 hr)) sim_ix (qv 4) qe_int (fun _ _ => rfl)) (qa_cons (qv 2) (qa_cons (qv 3) (qa_cons (qe_ix (ix_any (units1 hr)) sim_ix (qv 4) qe_int (fun _ _ => rfl)) qa_nil))))) qa_nil))) (by exact fun _ _ h _ => h)))))))))
theorem ok_Net_store_0 {P : Program} {w : World} {K : PySem.W.Frag} {mg : Str → Option Value} {base : Heap} (T : Tx K mg)
    (G_Net_known_0 : Fn P w K mg base 5 (He.ma K (He.ga K "Net") "known") ["self", "name"] w_Net_known 2 [] (fun ds _ => ds))
    (G_Net_set_place_0 : Fn P w K mg base 1 (He.ma K (He.ga K "Net") "set_place") ["self", "name", "told"] w_Net_set_place 3 [] (fun ds _ => ds))
    (G_check_move_0 : Fn P w K mg base 6 (He.ga K "check_move") ["move", "far"] w_check_move 2 [] (fun ds _ => ds))
    (G_check_room_0 : Fn P w K mg base 5 (He.ga K "check_room") ["name", "room", "s_box"] w_check_room 3 [] (fun ds _ => ds)) :
    Fn P w K mg base 7 (He.ma K (He.ga K "Net") "store") ["self", "place", "room", "price"] w_Net_store 4 [] (fun ds _ => ds) := by
  obtain ⟨fd, F⟩ := T.d_Net_store
  refine ⟨⟨fd, fk_Net_store T G_Net_known_0 G_Net_set_place_0 G_check_move_0 G_check_room_0 F, ?_⟩, F.kp⟩
  obtain ⟨ds, hd, hb⟩ := FunD.binds1 F (ps := ["self", "place", "room", "price"]) 4 2 (by simp) rfl (fun T kV doc pm an cdv ct us its h1 h2 => match us, its, h1, h2 with | [_, _, _, _], [_, _], _, _ => ⟨_, rfl, rfl⟩)
  exact dbn_dfl hb hd rfl (fun as H ds vs hl rv => match ds, hl with | [_, _, _, _], _ => relL_app rv .nil)
theorem sc_Net_want : FnScope N_Net_want ["self", "place", "hour", "move"] (defScope s_Net_want) := ⟨rfl, rfl, rfl, by decide +kernel, rfl, by decide +kernel, by decide +kernel⟩
theorem fk_Net_want {P : Program} {w : World} {K : PySem.W.Frag} {mg : Str → Option Value} {base : Heap} (T : Tx K mg)
    (G_NoHour_init : DW.FnM P w K mg base CX0 3 "NoHour" "__init__" ["self", "number"] (spIn K 1 xs_NoHour))
    (G_Net_known_0 : Fn P w K mg base 5 (He.ma K (He.ga K "Net") "known") ["self", "name"] w_Net_known 2 [] (fun ds _ => ds))
    (G_Net_set_place_0 : Fn P w K mg base 1 (He.ma K (He.ga K "Net") "set_place") ["self", "name", "told"] w_Net_set_place 3 [] (fun ds _ => ds))
    (G_check_move_0 : Fn P w K mg base 6 (He.ga K "check_move") ["move", "far"] w_check_move 2 [] (fun ds _ => ds)) {fd : FuncData}
    (F : FunD K "want" "Net.want" (defArgs s_Net_want) (defBody s_Net_want) (defScope s_Net_want) [(.ref ((He.dflAt ("Net", some "want") 0) K))] [] (He.ma K (He.ga K "Net") "want") fd) :
    FnOk P w K mg base (L2.CX P w) 7 (He.ma K (He.ga K "Net") "want") fd ["self", "place", "hour", "move"] (spM K 4 w_Net_want) :=
  fn_ok F sc_Net_want fun cdv A outer s H E hr tk po =>
    (qss_cons (qs_asg (qe_meth (qv 0) T.cl_Net T.me_Net_known G_Net_known_0 (hr.mono (by decide)) tk (qcwP (qa_cons (qv 1) qa_nil)) (by exact fun _ _ h _ => h)) (qg_tup rfl (qgs_cons (qg_name (i := 4) sc_Net_want.nd rfl (by first | exact Or.inl rfl | exact Or.inr rfl)) (qgs_cons (qg_name (i := 5) sc_Net_want.nd rfl (by first | exact Or.inl rfl | exact Or.inr rfl)) (qgs_cons (qg_name (i := 6) sc_Net_want.nd rfl (by first | exact Or.inl rfl | exact Or.inr rfl)) (qgs_cons (qg_name (i := 7) sc_Net_want.nd rfl (by first | exact Or.inl rfl | exact Or.inr rfl)) qgs_nil))))))
      (qss_cons (qs_if (qt_not (qt_chain op_le sim_le op_le sim_le qe_int (qv 2) (qe_fld T.cn (by simp [cfl]) (qv 0)))) (qss_one (qs_raise rfl tk T.x_NoHour G_NoHour_init (hr.mono (by decide)) (by rfl) (qa_cons (qv 2) qa_nil) (by decide) (by simp [xfl, xs_NoHour]))) qss_nil)
      (qss_cons (qs_expr (qe_call G_check_move_0 (hr.mono (by decide)) (by rfl) T.g_check_move tk (qcwP (qa_cons (qv 3) (qa_cons (qe_gint (by rfl) T.c_MOST) qa_nil))) (by exact fun _ _ h _ => h)))
      (qss_one (qs_expr (qe_meth (qv 0) T.cl_Net T.me_Net_set_place G_Net_set_place_0 (hr.mono (by decide)) tk (qcwP (qa_cons (qv 1) (qa_cons (qe_tup (qa_cons (qv 4) (qa_cons (qv 5) (qa_cons (qv 6) (qa_cons (qe_op DW.op_plus sim_add (qe_op DW.op_plus sim_add (qe_slice (qv 7) qo_none (qo_some (qe_op op_sub sim_sub (qv 2) qe_int))) (qe_tup (qa_cons (qv 3) qa_nil))) (qe_slice (qv 7) (qo_some (qv 2)) qo_none)) qa_nil))))) qa_nil))) (by exact fun _ _ h _ => h)))))))
theorem ok_Net_want_0 {P : Program} {w : World} {K : PySem.W.Frag} {mg : Str → Option Value} {base : Heap} (T : Tx K mg)
    (G_NoHour_init : DW.FnM P w K mg base CX0 3 "NoHour" "__init__" ["self", "number"] (spIn K 1 xs_NoHour))
    (G_Net_known_0 : Fn P w K mg base 5 (He.ma K (He.ga K "Net") "known") ["self", "name"] w_Net_known 2 [] (fun ds _ => ds))
    (G_Net_set_place_0 : Fn P w K mg base 1 (He.ma K (He.ga K "Net") "set_place") ["self", "name", "told"] w_Net_set_place 3 [] (fun ds _ => ds))
    (G_check_move_0 : Fn P w K mg base 6 (He.ga K "check_move") ["move", "far"] w_check_move 2 [] (fun ds _ => ds)) :
    Fn P w K mg base 7 (He.ma K (He.ga K "Net") "want") ["self", "place", "hour", "move"] w_Net_want 4 [] (fun ds _ => ds) := by
  obtain ⟨fd, F⟩ := T.d_Net_want
  refine ⟨⟨fd, fk_Net_want T G_NoHour_init G_Net_known_0 G_Net_set_place_0 G_check_move_0 F, ?_⟩, F.kp⟩
  obtain ⟨ds, hd, hb⟩ := FunD.binds1 F (ps := ["self", "place", "hour", "move"]) 4 1 (by simp) rfl (fun T kV doc pm an cdv ct us its h1 h2 => match us, its, h1, h2 with | [_, _, _, _], [_], _, _ => ⟨_, rfl, rfl⟩)
  exact dbn_dfl hb hd rfl (fun as H ds vs hl rv => match ds, hl with | [_, _, _, _], _ => relL_app rv .nil)
theorem sc_check_rising : FnScope N_check_rising ["name", "rungs", "t_box"] (defScope s_check_rising) := ⟨rfl, rfl, rfl, by decide +kernel, rfl, by decide +kernel, by decide +kernel⟩
theorem fk_check_rising {P : Program} {w : World} {K : PySem.W.Frag} {mg : Str → Option Value} {base : Heap} (T : Tx K mg)
    (G_Falls_init : DW.FnM P w K mg base CX0 3 "Falls" "__init__" ["self", "name"] (spIn K 1 xs_Falls))
    (G_sinks_0 : Fn P w K mg base 1 (He.ga K "sinks") ["move", "pair"] w_sinks 2 [] (fun ds _ => ds)) {fd : FuncData}
    (F : FunD K "check_rising" "check_rising" (defArgs s_check_rising) (defBody s_check_rising) (defScope s_check_rising) [] [] (He.ga K "check_rising") fd) :
    FnOk P w K mg base (L2.CX P w) 5 (He.ga K "check_rising") fd ["name", "rungs", "t_box"] (spM K 3 w_check_rising) :=
  fn_ok F sc_check_rising fun cdv A outer s H E hr tk po =>
    (qss_one (qs_for po rfl (qi_range2 (by rfl) T.m_range (qa_cons qe_int (qa_cons (qe_callB call_lenA sim_len (by rfl) T.m_len (by decide +kernel) (qa_cons (qv 1) qa_nil)) qa_nil))) (qg_name (i := 3) sc_check_rising.nd rfl (by first | exact Or.inl rfl | exact Or.inr rfl)) (qss_cons (qs_par (i := 4) (j := 5) (by rfl) sc_check_rising.nd rfl rfl (by decide) rfl rfl (qa_cons (qe_ix (ix_any (units1 hr)) sim_ix (qe_ix (ix_any (units1 hr)) sim_ix (qv 1) (qv 3) (fun _ _ => rfl)) qe_int (fun _ _ => rfl)) (qa_cons (qe_ix (ix_any (units1 hr)) sim_ix (qe_ix (ix_any (units1 hr)) sim_ix (qv 1) (qe_op op_sub sim_sub (qv 3) qe_int) (fun _ _ => rfl)) qe_int (fun _ _ => rfl)) qa_nil)) (by rfl))
      (qss_one (qs_if (qt_tru (qe_call G_sinks_0 (hr.mono (by decide)) (by rfl) T.g_sinks tk (qcwP (qa_cons (qe_tup (qa_cons (qe_op op_sub sim_sub (qe_ix (ix_any (units1 hr)) sim_ix (qv 4) qe_int (fun _ _ => rfl)) (qe_ix (ix_any (units1 hr)) sim_ix (qv 5) qe_int (fun _ _ => rfl))) (qa_cons (qe_op op_sub sim_sub (qe_ix (ix_any (units1 hr)) sim_ix (qv 4) qe_int (fun _ _ => rfl)) (qe_ix (ix_any (units1 hr)) sim_ix (qv 5) qe_int (fun _ _ => rfl))) qa_nil))) (qa_cons (qv 2) qa_nil))) (by exact fun _ _ h _ => h)) (by intro _; rfl)) (qss_one (qs_raise rfl tk T.x_Falls G_Falls_init (hr.mono (by decide)) (by rfl) (qa_cons (qv 0) qa_nil) (by decide) (by simp [xfl, xs_Falls]))) qss_nil)))))
theorem ok_check_rising_0 {P : Program} {w : World} {K : PySem.W.Frag} {mg : Str → Option Value} {base : Heap} (T : Tx K mg)
    (G_Falls_init : DW.FnM P w K mg base CX0 3 "Falls" "__init__" ["self", "name"] (spIn K 1 xs_Falls))
    (G_sinks_0 : Fn P w K mg base 1 (He.ga K "sinks") ["move", "pair"] w_sinks 2 [] (fun ds _ => ds)) :
    Fn P w K mg base 5 (He.ga K "check_rising") ["name", "rungs", "t_box"] w_check_rising 3 [] (fun ds _ => ds) := by
  obtain ⟨fd, F⟩ := T.d_check_rising
  refine ⟨⟨fd, fk_check_rising T G_Falls_init G_sinks_0 F, ?_⟩, F.kp⟩
  exact dbn_all (FunD.bindsN F (ps := ["name", "rungs", "t_box"]) fun _ _ _ _ _ _ us hl => match us, hl with | [_, _, _], _ => rfl)
theorem sc_check_rungs : FnScope N_check_rungs ["name", "rungs", "s_box", "t_box", "most", "far"] (defScope s_check_rungs) := ⟨rfl, rfl, rfl, by decide +kernel, rfl, by decide +kernel, by decide +kernel⟩
theorem fk_check_rungs {P : Program} {w : World} {K : PySem.W.Frag} {mg : Str → Option Value} {base : Heap} (T : Tx K mg)
    (G_BadRungs_init : DW.FnM P w K mg base CX0 3 "BadRungs" "__init__" ["self", "name"] (spIn K 1 xs_BadRungs))
    (G_check_move_0 : Fn P w K mg base 6 (He.ga K "check_move") ["move", "far"] w_check_move 2 [] (fun ds _ => ds))
    (G_check_rising_0 : Fn P w K mg base 5 (He.ga K "check_rising") ["name", "rungs", "t_box"] w_check_rising 3 [] (fun ds _ => ds))
    (G_check_room_0 : Fn P w K mg base 5 (He.ga K "check_room") ["name", "room", "s_box"] w_check_room 3 [] (fun ds _ => ds)) {fd : FuncData}
    (F : FunD K "check_rungs" "check_rungs" (defArgs s_check_rungs) (defBody s_check_rungs) (defScope s_check_rungs) [] [] (He.ga K "check_rungs") fd) :
    FnOk P w K mg base (L2.CX P w) 7 (He.ga K "check_rungs") fd ["name", "rungs", "s_box", "t_box", "most", "far"] (spM K 6 w_check_rungs) :=
  fn_ok F sc_check_rungs fun cdv A outer s H E hr tk po =>
    (qss_cons (qs_if (qt_not (qt_chain op_le sim_le op_le sim_le qe_int (qe_callB call_lenA sim_len (by rfl) T.m_len (by decide +kernel) (qa_cons (qv 1) qa_nil)) (qv 4))) (qss_one (qs_raise rfl tk T.x_BadRungs G_BadRungs_init (hr.mono (by decide)) (by rfl) (qa_cons (qv 0) qa_nil) (by decide) (by simp [xfl, xs_BadRungs]))) qss_nil)
      (qss_cons (qs_for po rfl (qi_seq (qe_slice (qv 1) qo_none (qo_some (qe_un un_neg sim_neg qe_int)))) (qg_tup rfl (qgs_cons (qg_name (i := 6) sc_check_rungs.nd rfl (by first | exact Or.inl rfl | exact Or.inr rfl)) (qgs_cons (qg_name (i := 7) sc_check_rungs.nd rfl (by first | exact Or.inl rfl | exact Or.inr rfl)) qgs_nil))) (qss_one (qs_if (qt_cmp op_isN1 sim_is (qv 6) qe_non (nomark _)) (qss_one (qs_raise rfl tk T.x_BadRungs G_BadRungs_init (hr.mono (by decide)) (by rfl) (qa_cons (qv 0) qa_nil) (by decide) (by simp [xfl, xs_BadRungs]))) qss_nil)))
      (qss_cons (qs_for po rfl (qi_seq (qv 1)) (qg_tup rfl (qgs_cons (qg_name (i := 6) sc_check_rungs.nd rfl (by first | exact Or.inl rfl | exact Or.inr rfl)) (qgs_cons (qg_name (i := 7) sc_check_rungs.nd rfl (by first | exact Or.inl rfl | exact Or.inr rfl)) qgs_nil))) (qss_cons (qs_if (qt_cmp op_notN1 sim_isnot (qv 6) qe_non (nomark _)) (qss_one (qs_expr (qe_call G_check_move_0 (hr.mono (by decide)) (by rfl) T.g_check_move tk (qcwP (qa_cons (qv 6) (qa_cons (qv 5) qa_nil))) (by exact fun _ _ h _ => h)))) qss_nil)
      (qss_cons (qs_expr (qe_call G_check_move_0 (hr.mono (by decide)) (by rfl) T.g_check_move tk (qcwP (qa_cons (qv 7) (qa_cons (qv 5) qa_nil))) (by exact fun _ _ h _ => h)))
      (qss_one (qs_if (qt_cmp op_notN1 sim_isnot (qv 6) qe_non (nomark _)) (qss_one (qs_expr (qe_call G_check_room_0 (hr.mono (by decide)) (by rfl) T.g_check_room tk (qcwP (qa_cons (qv 0) (qa_cons (qv 6) (qa_cons (qv 2) qa_nil)))) (by exact fun _ _ h _ => h)))) qss_nil)))))
      (qss_one (qs_expr (qe_call G_check_rising_0 (hr.mono (by decide)) (by rfl) T.g_check_rising tk (qcwP (qa_cons (qv 0) (qa_cons (qv 1) (qa_cons (qv 3) qa_nil)))) (by exact fun _ _ h _ => h)))))))
theorem ok_check_rungs_0 {P : Program} {w : World} {K : PySem.W.Frag} {mg : Str → Option Value} {base : Heap} (T : Tx K mg)
    (G_BadRungs_init : DW.FnM P w K mg base CX0 3 "BadRungs" "__init__" ["self", "name"] (spIn K 1 xs_BadRungs))
    (G_check_move_0 : Fn P w K mg base 6 (He.ga K "check_move") ["move", "far"] w_check_move 2 [] (fun ds _ => ds))
    (G_check_rising_0 : Fn P w K mg base 5 (He.ga K "check_rising") ["name", "rungs", "t_box"] w_check_rising 3 [] (fun ds _ => ds))
    (G_check_room_0 : Fn P w K mg base 5 (He.ga K "check_room") ["name", "room", "s_box"] w_check_room 3 [] (fun ds _ => ds)) :
    Fn P w K mg base 7 (He.ga K "check_rungs") ["name", "rungs", "s_box", "t_box", "most", "far"] w_check_rungs 4 ["most", "far"] (fun ds es => [ds.getD 0 .non, ds.getD 1 .non, ds.getD 2 .non, ds.getD 3 .non, es.getD 0 .non, es.getD 1 .non]) := by
  obtain ⟨fd, F⟩ := T.d_check_rungs
  refine ⟨⟨fd, fk_check_rungs T G_BadRungs_init G_check_move_0 G_check_rising_0 G_check_room_0 F, ?_⟩, F.kp⟩
  exact dbn_kw (md := []) (mz := []) (mv := []) (kbindsE F (ps := ["name", "rungs", "s_box", "t_box", "most", "far"]) 4 ["most", "far"] [0, 1, 2, 3, 4, 5] (fun kV doc pm an cdv ct us ws h1 h2 => match us, ws, h1, h2 with | [_, _, _, _], [_, _], _, _ => rfl)) (fun as H => .nil) (fun ds es h1 h2 => match ds, es, h1, h2 with | [_, _, _, _], [_, _], _, _ => rfl)
theorem sc_Net_set_road : FnScope N_Net_set_road ["self", "name", "told"] (defScope s_Net_set_road) := ⟨rfl, rfl, rfl, by decide +kernel, rfl, by decide +kernel, by decide +kernel⟩
theorem fk_Net_set_road {P : Program} {w : World} {K : PySem.W.Frag} {mg : Str → Option Value} {base : Heap} (T : Tx K mg)
    (G_BadTakes_init : DW.FnM P w K mg base CX0 3 "BadTakes" "__init__" ["self", "number"] (spIn K 1 xs_BadTakes))
    (G_check_move_0 : Fn P w K mg base 6 (He.ga K "check_move") ["move", "far"] w_check_move 2 [] (fun ds _ => ds))
    (G_check_room_0 : Fn P w K mg base 5 (He.ga K "check_room") ["name", "room", "s_box"] w_check_room 3 [] (fun ds _ => ds))
    (G_check_rungs_0 : Fn P w K mg base 7 (He.ga K "check_rungs") ["name", "rungs", "s_box", "t_box", "most", "far"] w_check_rungs 4 ["most", "far"] (fun ds es => [ds.getD 0 .non, ds.getD 1 .non, ds.getD 2 .non, ds.getD 3 .non, es.getD 0 .non, es.getD 1 .non])) {fd : FuncData}
    (F : FunD K "set_road" "Net.set_road" (defArgs s_Net_set_road) (defBody s_Net_set_road) (defScope s_Net_set_road) [] [] (He.ma K (He.ga K "Net") "set_road") fd) :
    FnOk P w K mg base (L2.CX P w) 8 (He.ma K (He.ga K "Net") "set_road") fd ["self", "name", "told"] (spM K 3 w_Net_set_road) :=
  fn_ok F sc_Net_set_road fun cdv A outer s H E hr tk po =>
    (qss_cons (qs_if (qt_not (qt_chain op_le sim_le op_le sim_le qe_int (qe_ix (ix_any (units1 hr)) sim_ix (qv 2) qe_int (fun _ _ => rfl)) (qe_gint (by rfl) T.c_MOST_TAKES))) (qss_one (qs_raise rfl tk T.x_BadTakes G_BadTakes_init (hr.mono (by decide)) (by rfl) (qa_cons (qe_ix (ix_any (units1 hr)) sim_ix (qv 2) qe_int (fun _ _ => rfl)) qa_nil) (by decide) (by simp [xfl, xs_BadTakes]))) qss_nil)
      (qss_cons (qs_expr (qe_call G_check_move_0 (hr.mono (by decide)) (by rfl) T.g_check_move tk (qcwP (qa_cons (qe_ix (ix_any (units1 hr)) sim_ix (qv 2) qe_int (fun _ _ => rfl)) (qa_cons (qe_gint (by rfl) T.c_MOST) qa_nil))) (by exact fun _ _ h _ => h)))
      (qss_cons (qs_expr (qe_call G_check_room_0 (hr.mono (by decide)) (by rfl) T.g_check_room tk (qcwP (qa_cons (qv 1) (qa_cons (qe_ix (ix_any (units1 hr)) sim_ix (qv 2) qe_int (fun _ _ => rfl)) (qa_cons (qe_fld T.cn (by simp [cfl]) (qv 0)) qa_nil)))) (by exact fun _ _ h _ => h)))
      (qss_cons (qs_expr (qe_call G_check_rungs_0 (hr.mono (by decide)) (by rfl) T.g_check_rungs tk (qcwPK (by exact (qa_cons (qv 1) (qa_cons (qe_ix (ix_any (units1 hr)) sim_ix (qv 2) qe_int (fun _ _ => rfl)) (qa_cons (qe_fld T.cn (by simp [cfl]) (qv 0)) (qa_cons (qe_fld T.cn (by simp [cfl]) (qv 0)) qa_nil))))) (by exact (qk_cons (qe_gint (by rfl) T.c_MOST_RUNGS) (qk_cons (qe_gint (by rfl) T.c_MOST) qk_nil)))) (by exact fun _ _ _ _ => rfl)))
      (qss_cons (qs_set (i := 3) sc_Net_set_road.nd rfl (Or.inl rfl) (qe_callTy call_dictD sim_dict (by rfl) T.m_dict (by decide +kernel) (qa_cons (qe_fld T.cn (by simp [cfl]) (qv 0)) qa_nil)))
      (qss_cons (qs_setIx (units1 hr) (qv 2) (qv 3) (qv 1))
      (qss_one (qs_fld T.cn (by simp [cfl]) (qv 0) (qv 3)))))))))
theorem ok_Net_set_road_0 {P : Program} {w : World} {K : PySem.W.Frag} {mg : Str → Option Value} {base : Heap} (T : Tx K mg)
    (G_BadTakes_init : DW.FnM P w K mg base CX0 3 "BadTakes" "__init__" ["self", "number"] (spIn K 1 xs_BadTakes))
    (G_check_move_0 : Fn P w K mg base 6 (He.ga K "check_move") ["move", "far"] w_check_move 2 [] (fun ds _ => ds))
    (G_check_room_0 : Fn P w K mg base 5 (He.ga K "check_room") ["name", "room", "s_box"] w_check_room 3 [] (fun ds _ => ds))
    (G_check_rungs_0 : Fn P w K mg base 7 (He.ga K "check_rungs") ["name", "rungs", "s_box", "t_box", "most", "far"] w_check_rungs 4 ["most", "far"] (fun ds es => [ds.getD 0 .non, ds.getD 1 .non, ds.getD 2 .non, ds.getD 3 .non, es.getD 0 .non, es.getD 1 .non])) :
    Fn P w K mg base 8 (He.ma K (He.ga K "Net") "set_road") ["self", "name", "told"] w_Net_set_road 3 [] (fun ds _ => ds) := by
  obtain ⟨fd, F⟩ := T.d_Net_set_road
  refine ⟨⟨fd, fk_Net_set_road T G_BadTakes_init G_check_move_0 G_check_room_0 G_check_rungs_0 F, ?_⟩, F.kp⟩
  exact dbn_all (FunD.bindsN F (ps := ["self", "name", "told"]) fun _ _ _ _ _ _ us hl => match us, hl with | [_, _, _], _ => rfl)
theorem sc_Net_road : FnScope N_Net_road ["self", "name", "start", "end", "takes", "floor", "rungs"] (defScope s_Net_road) := ⟨rfl, rfl, rfl, by decide +kernel, rfl, by decide +kernel, by decide +kernel⟩
theorem fk_Net_road {P : Program} {w : World} {K : PySem.W.Frag} {mg : Str → Option Value} {base : Heap} (T : Tx K mg)
    (G_TooMany_init : DW.FnM P w K mg base CX0 3 "TooMany" "__init__" ["self", "most"] (spIn K 1 xs_TooMany))
    (G_Net_fresh_0 : Fn P w K mg base 6 (He.ma K (He.ga K "Net") "fresh") ["self", "name"] w_Net_fresh 2 [] (fun ds _ => ds))
    (G_Net_known_0 : Fn P w K mg base 5 (He.ma K (He.ga K "Net") "known") ["self", "name"] w_Net_known 2 [] (fun ds _ => ds))
    (G_Net_set_road_0 : Fn P w K mg base 8 (He.ma K (He.ga K "Net") "set_road") ["self", "name", "told"] w_Net_set_road 3 [] (fun ds _ => ds)) {fd : FuncData}
    (F : FunD K "road" "Net.road" (defArgs s_Net_road) (defBody s_Net_road) (defScope s_Net_road) [] [("takes", (.int 0)), ("floor", (.ref ((kwdAt ("Net", some "road") "floor") K))), ("rungs", (.ref (He.ga K "OPEN_RUNG")))] (He.ma K (He.ga K "Net") "road") fd) :
    FnOk P w K mg base (L2.CX P w) 9 (He.ma K (He.ga K "Net") "road") fd ["self", "name", "start", "end", "takes", "floor", "rungs"] (spM K 7 w_Net_road) :=
  fn_ok F sc_Net_road fun cdv A outer s H E hr tk po =>
    (qss_cons (qs_expr (qe_meth (qv 0) T.cl_Net T.me_Net_fresh G_Net_fresh_0 (hr.mono (by decide)) tk (qcwP (qa_cons (qv 1) qa_nil)) (by exact fun _ _ h _ => h)))
      (qss_cons (qs_expr (qe_meth (qv 0) T.cl_Net T.me_Net_known G_Net_known_0 (hr.mono (by decide)) tk (qcwP (qa_cons (qv 2) qa_nil)) (by exact fun _ _ h _ => h)))
      (qss_cons (qs_expr (qe_meth (qv 0) T.cl_Net T.me_Net_known G_Net_known_0 (hr.mono (by decide)) tk (qcwP (qa_cons (qv 3) qa_nil)) (by exact fun _ _ h _ => h)))
      (qss_cons (qs_if (qt_cmp op_ge sim_ge (qe_callB call_lenA sim_len (by rfl) T.m_len (by decide +kernel) (qa_cons (qe_fld T.cn (by simp [cfl]) (qv 0)) qa_nil)) (qe_gint (by rfl) T.c_MOST_ROADS) (nomark _)) (qss_one (qs_raise rfl tk T.x_TooMany G_TooMany_init (hr.mono (by decide)) (by rfl) (qa_cons (qe_gint (by rfl) T.c_MOST_ROADS) qa_nil) (by decide) (by simp [xfl, xs_TooMany]))) qss_nil)
      (qss_one (qs_expr (qe_meth (qv 0) T.cl_Net T.me_Net_set_road G_Net_set_road_0 (hr.mono (by decide)) tk (qcwP (qa_cons (qv 1) (qa_cons (qe_tup (qa_cons (qv 2) (qa_cons (qv 3) (qa_cons (qv 4) (qa_cons (qv 5) (qa_cons (qv 6) qa_nil)))))) qa_nil))) (by exact fun _ _ h _ => h))))))))
theorem ok_Net_road_0 {P : Program} {w : World} {K : PySem.W.Frag} {mg : Str → Option Value} {base : Heap} (T : Tx K mg)
    (G_TooMany_init : DW.FnM P w K mg base CX0 3 "TooMany" "__init__" ["self", "most"] (spIn K 1 xs_TooMany))
    (G_Net_fresh_0 : Fn P w K mg base 6 (He.ma K (He.ga K "Net") "fresh") ["self", "name"] w_Net_fresh 2 [] (fun ds _ => ds))
    (G_Net_known_0 : Fn P w K mg base 5 (He.ma K (He.ga K "Net") "known") ["self", "name"] w_Net_known 2 [] (fun ds _ => ds))
    (G_Net_set_road_0 : Fn P w K mg base 8 (He.ma K (He.ga K "Net") "set_road") ["self", "name", "told"] w_Net_set_road 3 [] (fun ds _ => ds)) :
    Fn P w K mg base 9 (He.ma K (He.ga K "Net") "road") ["self", "name", "start", "end", "takes", "floor", "rungs"] w_Net_road 4 ["takes", "floor", "rungs"] (fun ds es => [ds.getD 0 .non, ds.getD 1 .non, ds.getD 2 .non, ds.getD 3 .non, es.getD 0 .non, es.getD 1 .non, es.getD 2 .non]) := by
  obtain ⟨fd, F⟩ := T.d_Net_road
  refine ⟨⟨fd, fk_Net_road T G_TooMany_init G_Net_fresh_0 G_Net_known_0 G_Net_set_road_0 F, ?_⟩, F.kp⟩
  obtain ⟨mv, hb⟩ := FunD.kbinds0 F (ps := ["self", "name", "start", "end", "takes", "floor", "rungs"]) 4 ["takes", "floor", "rungs"] [] (fun us mv ws => pick (us ++ mv ++ ws) [0, 1, 2, 3, 4, 5, 6]) (by simp) (by simp) vals_pick3 (fun D doc pm an cdv ct us mv ws h1 h2 h3 => match us, mv, ws, h1, h2, h3 with | [_, _, _, _], [], [_, _, _], _, _, _ => rfl)
  exact dbn_kw (md := []) hb (fun as H => .nil) (fun ds es h1 h2 => match ds, es, h1, h2 with | [_, _, _, _], [_, _, _], _, _ => rfl)
theorem sc_Lmade : FnScope N_Lmade ["_law_told"] (defScope s_Lmade) := ⟨rfl, rfl, rfl, by decide +kernel, rfl, by decide +kernel, by decide +kernel⟩
theorem fk_Lmade {P : Program} {w : World} {K : PySem.W.Frag} {mg : Str → Option Value} {base : Heap} (T : Tx K mg)
    (G_Net_UinitU_0 : Fn P w K mg base 7 (He.ma K (He.ga K "Net") "__init__") ["self", "hours", "s_box", "t_box"] w_Net_UinitU 1 ["hours", "s_box", "t_box"] (fun ds es => [ds.getD 0 .non, es.getD 0 .non, es.getD 1 .non, es.getD 2 .non]))
    (G_Net_place_0 : Fn P w K mg base 7 (He.ma K (He.ga K "Net") "place") ["self", "name"] w_Net_place 2 [] (fun ds _ => ds))
    (G_Net_road_0 : Fn P w K mg base 9 (He.ma K (He.ga K "Net") "road") ["self", "name", "start", "end", "takes", "floor", "rungs"] w_Net_road 4 ["takes", "floor", "rungs"] (fun ds es => [ds.getD 0 .non, ds.getD 1 .non, ds.getD 2 .non, ds.getD 3 .non, es.getD 0 .non, es.getD 1 .non, es.getD 2 .non]))
    (G_Net_store_0 : Fn P w K mg base 7 (He.ma K (He.ga K "Net") "store") ["self", "place", "room", "price"] w_Net_store 4 [] (fun ds _ => ds))
    (G_Net_through_0 : Fn P w K mg base 7 (He.ma K (He.ga K "Net") "through") ["self", "place", "room"] w_Net_through 3 [] (fun ds _ => ds))
    (G_Net_want_0 : Fn P w K mg base 7 (He.ma K (He.ga K "Net") "want") ["self", "place", "hour", "move"] w_Net_want 4 [] (fun ds _ => ds)) {fd : FuncData}
    (F : FunD K "_law_made" "_law_made" (defArgs s_Lmade) (defBody s_Lmade) (defScope s_Lmade) [] [] (He.ga K "_law_made") fd) :
    FnOk P w K mg base (L2.CX P w) 10 (He.ga K "_law_made") fd ["_law_told"] (spM K 1 w_Lmade) :=
  fn_ok F sc_Lmade fun cdv A outer s H E hr tk po =>
    (qss_cons (qs_set (i := 1) sc_Lmade.nd rfl (Or.inl rfl) (qe_make T.mk_Net G_Net_UinitU_0 (hr.mono (by decide)) (by rfl) T.g_Net tk (qcwK (by exact (qk_cons (qe_ix (ix_any (units1 hr)) sim_ix (qv 0) qe_str (fun _ _ => rfl)) (qk_cons (qe_ix (ix_any (units1 hr)) sim_ix (qv 0) qe_str (fun _ _ => rfl)) (qk_cons (qe_ix (ix_any (units1 hr)) sim_ix (qv 0) qe_str (fun _ _ => rfl)) qk_nil))))) (by exact fun _ _ _ _ => rfl)))
      (qss_cons (qs_for po rfl (qi_seq (qe_ix (ix_any (units1 hr)) sim_ix (qv 0) qe_str (fun _ _ => rfl))) (qg_tup rfl (qgs_cons (qg_name (i := 2) sc_Lmade.nd rfl (by first | exact Or.inl rfl | exact Or.inr rfl)) (qgs_cons (qg_name (i := 3) sc_Lmade.nd rfl (by first | exact Or.inl rfl | exact Or.inr rfl)) (qgs_cons (qg_name (i := 4) sc_Lmade.nd rfl (by first | exact Or.inl rfl | exact Or.inr rfl)) (qgs_cons (qg_name (i := 5) sc_Lmade.nd rfl (by first | exact Or.inl rfl | exact Or.inr rfl)) (qgs_cons (qg_name (i := 6) sc_Lmade.nd rfl (by first | exact Or.inl rfl | exact Or.inr rfl)) qgs_nil)))))) (qss_cons (qs_expr (qe_meth (qv 1) T.cl_Net T.me_Net_place G_Net_place_0 (hr.mono (by decide)) tk (qcwP (qa_cons (qv 2) qa_nil)) (by exact fun _ _ h _ => h)))
      (qss_cons (qs_expr (qe_meth (qv 1) T.cl_Net T.me_Net_through G_Net_through_0 (hr.mono (by decide)) tk (qcwP (qa_cons (qv 2) (qa_cons (qv 3) qa_nil))) (by exact fun _ _ h _ => h)))
      (qss_cons (qs_expr (qe_meth (qv 1) T.cl_Net T.me_Net_store G_Net_store_0 (hr.mono (by decide)) tk (qcwP (qa_cons (qv 2) (qa_cons (qv 4) (qa_cons (qv 5) qa_nil)))) (by exact fun _ _ h _ => h)))
      (qss_one (qs_for po rfl (qi_range1 (by rfl) T.m_range (qa_cons (qe_callB call_lenA sim_len (by rfl) T.m_len (by decide +kernel) (qa_cons (qv 6) qa_nil)) qa_nil)) (qg_name (i := 7) sc_Lmade.nd rfl (by first | exact Or.inl rfl | exact Or.inr rfl)) (qss_one (qs_expr (qe_meth (qv 1) T.cl_Net T.me_Net_want G_Net_want_0 (hr.mono (by decide)) tk (qcwP (qa_cons (qv 2) (qa_cons (qe_op DW.op_plus sim_add (qv 7) qe_int) (qa_cons (qe_ix (ix_any (units1 hr)) sim_ix (qv 6) (qv 7) (fun _ _ => rfl)) qa_nil)))) (by exact fun _ _ h _ => h))))))))))
      (qss_cons (qs_for po rfl (qi_seq (qe_ix (ix_any (units1 hr)) sim_ix (qv 0) qe_str (fun _ _ => rfl))) (qg_tup rfl (qgs_cons (qg_name (i := 2) sc_Lmade.nd rfl (by first | exact Or.inl rfl | exact Or.inr rfl)) (qgs_cons (qg_name (i := 8) sc_Lmade.nd rfl (by first | exact Or.inl rfl | exact Or.inr rfl)) (qgs_cons (qg_name (i := 9) sc_Lmade.nd rfl (by first | exact Or.inl rfl | exact Or.inr rfl)) (qgs_cons (qg_name (i := 10) sc_Lmade.nd rfl (by first | exact Or.inl rfl | exact Or.inr rfl)) (qgs_cons (qg_name (i := 11) sc_Lmade.nd rfl (by first | exact Or.inl rfl | exact Or.inr rfl)) (qgs_cons (qg_name (i := 12) sc_Lmade.nd rfl (by first | exact Or.inl rfl | exact Or.inr rfl)) qgs_nil))))))) (qss_one (qs_expr (qe_meth (qv 1) T.cl_Net T.me_Net_road G_Net_road_0 (hr.mono (by decide)) tk (qcwPK (by exact (qa_cons (qv 2) (qa_cons (qv 8) (qa_cons (qv 9) qa_nil)))) (by exact (qk_cons (qv 10) (qk_cons (qv 11) (qk_cons (qv 12) qk_nil))))) (by exact fun _ _ _ _ => rfl)))))
      (qss_one (qs_ret (qv 1))))))
theorem ok_Lmade_0 {P : Program} {w : World} {K : PySem.W.Frag} {mg : Str → Option Value} {base : Heap} (T : Tx K mg)
    (G_Net_UinitU_0 : Fn P w K mg base 7 (He.ma K (He.ga K "Net") "__init__") ["self", "hours", "s_box", "t_box"] w_Net_UinitU 1 ["hours", "s_box", "t_box"] (fun ds es => [ds.getD 0 .non, es.getD 0 .non, es.getD 1 .non, es.getD 2 .non]))
    (G_Net_place_0 : Fn P w K mg base 7 (He.ma K (He.ga K "Net") "place") ["self", "name"] w_Net_place 2 [] (fun ds _ => ds))
    (G_Net_road_0 : Fn P w K mg base 9 (He.ma K (He.ga K "Net") "road") ["self", "name", "start", "end", "takes", "floor", "rungs"] w_Net_road 4 ["takes", "floor", "rungs"] (fun ds es => [ds.getD 0 .non, ds.getD 1 .non, ds.getD 2 .non, ds.getD 3 .non, es.getD 0 .non, es.getD 1 .non, es.getD 2 .non]))
    (G_Net_store_0 : Fn P w K mg base 7 (He.ma K (He.ga K "Net") "store") ["self", "place", "room", "price"] w_Net_store 4 [] (fun ds _ => ds))
    (G_Net_through_0 : Fn P w K mg base 7 (He.ma K (He.ga K "Net") "through") ["self", "place", "room"] w_Net_through 3 [] (fun ds _ => ds))
    (G_Net_want_0 : Fn P w K mg base 7 (He.ma K (He.ga K "Net") "want") ["self", "place", "hour", "move"] w_Net_want 4 [] (fun ds _ => ds)) :
    Fn P w K mg base 10 (He.ga K "_law_made") ["_law_told"] w_Lmade 1 [] (fun ds _ => ds) := by
  obtain ⟨fd, F⟩ := T.d_Lmade
  refine ⟨⟨fd, fk_Lmade T G_Net_UinitU_0 G_Net_place_0 G_Net_road_0 G_Net_store_0 G_Net_through_0 G_Net_want_0 F, ?_⟩, F.kp⟩
  exact dbn_all (FunD.bindsN F (ps := ["_law_told"]) fun _ _ _ _ _ _ us hl => match us, hl with | [_], _ => rfl)
theorem sc_Lcopy : FnScope N_Lcopy ["_law_told"] (defScope s_Lcopy) := ⟨rfl, rfl, rfl, by decide +kernel, rfl, by decide +kernel, by decide +kernel⟩
theorem fk_Lcopy {P : Program} {w : World} {K : PySem.W.Frag} {mg : Str → Option Value} {base : Heap} (T : Tx K mg) {fd : FuncData}
    (F : FunD K "_law_copy" "_law_copy" (defArgs s_Lcopy) (defBody s_Lcopy) (defScope s_Lcopy) [] [] (He.ga K "_law_copy") fd) :
    FnOk P w K mg base (L2.CX P w) 1 (He.ga K "_law_copy") fd ["_law_told"] (spM K 1 w_Lcopy) :=
  fn_ok F sc_Lcopy fun cdv A outer s H E hr tk po =>
    (qss_cons (qs_set (i := 1) sc_Lcopy.nd rfl (Or.inl rfl) (qe_callTy call_dictD sim_dict (by rfl) T.m_dict (by decide +kernel) (qa_cons (qv 0) qa_nil)))
      (qss_cons (qs_setIx (units1 hr) (qe_lc (own := [("_law_place", 2)]) (T := (.nm 2)) (tt := mYes) (me := (mOp oAdd (mSl (mVar 2) mNoPart (mPart (mC (.int 4)))) (mCB oLst (mCons (mCB oList1 (mCons (mOp oIx (mVar 2) (mC (.int 4))) mNil)) mNil)))) rfl sc_Lcopy.nd (qi_seq (qe_ix (ix_any (units1 hr)) sim_ix (qv 0) qe_str (fun _ _ => rfl))) (blkOk_by (N := N_Lcopy) (sc := defScope s_Lcopy) (by decide +kernel)) (fun _ _ _ _ _ => (qg_name (i := 2) sc_Lcopy.nd rfl (by first | exact Or.inl rfl | exact Or.inr rfl))) (fun _ _ _ _ _ => qts_nil) (fun _ _ _ _ _ => (qe_op DW.op_plus sim_add (qe_slice (qv 2) qo_none (qo_some qe_int)) (qe_lst (qa_cons (qe_callTy (call_listA rfl) sim_list (by rfl) T.m_list (by decide +kernel) (qa_cons (qe_ix (ix_any (units1 hr)) sim_ix (qv 2) qe_int (fun _ _ => rfl)) qa_nil)) qa_nil)))) (by decide)) (qv 1) qe_str)
      (qss_cons (qs_setIx (units1 hr) (qe_lc (own := [("_law_road", 3)]) (T := (.nm 3)) (tt := mYes) (me := (mCB oList1 (mCons (mVar 3) mNil))) rfl sc_Lcopy.nd (qi_seq (qe_ix (ix_any (units1 hr)) sim_ix (qv 0) qe_str (fun _ _ => rfl))) (blkOk_by (N := N_Lcopy) (sc := defScope s_Lcopy) (by decide +kernel)) (fun _ _ _ _ _ => (qg_name (i := 3) sc_Lcopy.nd rfl (by first | exact Or.inl rfl | exact Or.inr rfl))) (fun _ _ _ _ _ => qts_nil) (fun _ _ _ _ _ => (qe_callTy (call_listA rfl) sim_list (by rfl) T.m_list (by decide +kernel) (qa_cons (qv 3) qa_nil))) (by decide)) (qv 1) qe_str)
      (qss_one (qs_ret (qv 1))))))
theorem ok_Lcopy_0 {P : Program} {w : World} {K : PySem.W.Frag} {mg : Str → Option Value} {base : Heap} (T : Tx K mg) :
    Fn P w K mg base 1 (He.ga K "_law_copy") ["_law_told"] w_Lcopy 1 [] (fun ds _ => ds) := by
  obtain ⟨fd, F⟩ := T.d_Lcopy
  refine ⟨⟨fd, fk_Lcopy T F, ?_⟩, F.kp⟩
  exact dbn_all (FunD.bindsN F (ps := ["_law_told"]) fun _ _ _ _ _ _ us hl => match us, hl with | [_], _ => rfl)
theorem sc_Lpick : FnScope N_Lpick ["_law_feed_here", "_law_row"] (defScope s_Lpick) := ⟨rfl, rfl, rfl, by decide +kernel, rfl, by decide +kernel, by decide +kernel⟩
theorem fk_Lpick {P : Program} {w : World} {K : PySem.W.Frag} {mg : Str → Option Value} {base : Heap} (T : Tx K mg)
    (G_Ldraw_0 : Fn P w K mg base 1 (He.ga K "_law_draw") ["_law_feed_here", "_law_many"] w_Ldraw 2 [] (fun ds _ => ds)) {fd : FuncData}
    (F : FunD K "_law_pick" "_law_pick" (defArgs s_Lpick) (defBody s_Lpick) (defScope s_Lpick) [] [] (He.ga K "_law_pick") fd) :
    FnOk P w K mg base (L2.CX P w) 2 (He.ga K "_law_pick") fd ["_law_feed_here", "_law_row"] (spM K 2 w_Lpick) :=
  fn_ok F sc_Lpick fun cdv A outer s H E hr tk po =>
    (qss_one (qs_ret (qe_ix (ix_any (units1 hr)) sim_ix (qv 1) (qe_call G_Ldraw_0 (hr.mono (by decide)) (by rfl) T.g_Ldraw tk (qcwP (qa_cons (qv 0) (qa_cons (qe_callB call_lenA sim_len (by rfl) T.m_len (by decide +kernel) (qa_cons (qv 1) qa_nil)) qa_nil))) (by exact fun _ _ h _ => h)) (fun _ _ => rfl))))
theorem ok_Lpick_0 {P : Program} {w : World} {K : PySem.W.Frag} {mg : Str → Option Value} {base : Heap} (T : Tx K mg)
    (G_Ldraw_0 : Fn P w K mg base 1 (He.ga K "_law_draw") ["_law_feed_here", "_law_many"] w_Ldraw 2 [] (fun ds _ => ds)) :
    Fn P w K mg base 2 (He.ga K "_law_pick") ["_law_feed_here", "_law_row"] w_Lpick 2 [] (fun ds _ => ds) := by
  obtain ⟨fd, F⟩ := T.d_Lpick
  refine ⟨⟨fd, fk_Lpick T G_Ldraw_0 F, ?_⟩, F.kp⟩
  exact dbn_all (FunD.bindsN F (ps := ["_law_feed_here", "_law_row"]) fun _ _ _ _ _ _ us hl => match us, hl with | [_, _], _ => rfl)
theorem sc_Lchanged : FnScope N_Lchanged ["_law_feed_here", "_law_told", "_law_way"] (defScope s_Lchanged) := ⟨rfl, rfl, rfl, by decide +kernel, rfl, by decide +kernel, by decide +kernel⟩
theorem fk_Lchanged {P : Program} {w : World} {K : PySem.W.Frag} {mg : Str → Option Value} {base : Heap} (T : Tx K mg)
    (G_Lcopy_0 : Fn P w K mg base 1 (He.ga K "_law_copy") ["_law_told"] w_Lcopy 1 [] (fun ds _ => ds))
    (G_Ldraw_0 : Fn P w K mg base 1 (He.ga K "_law_draw") ["_law_feed_here", "_law_many"] w_Ldraw 2 [] (fun ds _ => ds))
    (G_Lpick_0 : Fn P w K mg base 2 (He.ga K "_law_pick") ["_law_feed_here", "_law_row"] w_Lpick 2 [] (fun ds _ => ds)) {fd : FuncData}
    (F : FunD K "_law_changed" "_law_changed" (defArgs s_Lchanged) (defBody s_Lchanged) (defScope s_Lchanged) [] [] (He.ga K "_law_changed") fd) :
    FnOk P w K mg base (L2.CX P w) 3 (He.ga K "_law_changed") fd ["_law_feed_here", "_law_told", "_law_way"] (spM K 3 w_Lchanged) :=
  fn_ok F sc_Lchanged fun cdv A outer s H E hr tk po =>
    (qss_cons (qs_set (i := 3) sc_Lchanged.nd rfl (Or.inl rfl) (qe_call G_Lcopy_0 (hr.mono (by decide)) (by rfl) T.g_Lcopy tk (qcwP (qa_cons (qv 1) qa_nil)) (by exact fun _ _ h _ => h)))
      (qss_cons (qs_set (i := 4) sc_Lchanged.nd rfl (Or.inl rfl) (qe_ix (ix_any (units1 hr)) sim_ix (qv 3) qe_str (fun _ _ => rfl)))
      (qss_cons (qs_set (i := 5) sc_Lchanged.nd rfl (Or.inl rfl) (qe_ix (ix_any (units1 hr)) sim_ix (qv 3) qe_str (fun _ _ => rfl)))
      (qss_cons (qs_set (i := 6) sc_Lchanged.nd rfl (Or.inl rfl) (qe_call G_Lpick_0 (hr.mono (by decide)) (by rfl) T.g_Lpick tk (qcwP (qa_cons (qv 0) (qa_cons (qv 4) qa_nil))) (by exact fun _ _ h _ => h)))
      (qss_cons (qs_if (qt_cmp (DW.op_eqq hr.units) sim_eq (qv 2) qe_int (nomark _)) (qss_one (qs_setIx (units1 hr) (qe_tup (qa_cons (qe_ix (ix_any (units1 hr)) sim_ix (qe_ix (ix_any (units1 hr)) sim_ix (qv 3) qe_str (fun _ _ => rfl)) qe_int (fun _ _ => rfl)) (qa_cons (qe_ix (ix_any (units1 hr)) sim_ix (qe_ix (ix_any (units1 hr)) sim_ix (qv 3) qe_str (fun _ _ => rfl)) qe_int (fun _ _ => rfl)) qa_nil))) (qv 3) qe_str)) qss_nil)
      (qss_cons (qs_if (qt_cmp (DW.op_eqq hr.units) sim_eq (qv 2) qe_int (nomark _)) (qss_one (qs_setIx (units1 hr) (qe_tup (qa_cons (qe_ix (ix_any (units1 hr)) sim_ix (qe_ix (ix_any (units1 hr)) sim_ix (qv 3) qe_str (fun _ _ => rfl)) qe_int (fun _ _ => rfl)) (qa_cons (qe_ix (ix_any (units1 hr)) sim_ix (qe_ix (ix_any (units1 hr)) sim_ix (qv 3) qe_str (fun _ _ => rfl)) qe_int (fun _ _ => rfl)) qa_nil))) (qv 3) qe_str)) qss_nil)
      (qss_cons (qs_if (qt_cmp (DW.op_eqq hr.units) sim_eq (qv 2) qe_int (nomark _)) (qss_one (qs_setIx (units1 hr) (qe_tup (qa_cons (qe_call G_Ldraw_0 (hr.mono (by decide)) (by rfl) T.g_Ldraw tk (qcwP (qa_cons (qv 0) (qa_cons qe_int qa_nil))) (by exact fun _ _ h _ => h)) (qa_cons (qe_call G_Ldraw_0 (hr.mono (by decide)) (by rfl) T.g_Ldraw tk (qcwP (qa_cons (qv 0) (qa_cons qe_int qa_nil))) (by exact fun _ _ h _ => h)) qa_nil))) (qe_ix (ix_any (units1 hr)) sim_ix (qv 6) qe_int (fun _ _ => rfl)) (qe_call G_Ldraw_0 (hr.mono (by decide)) (by rfl) T.g_Ldraw tk (qcwP (qa_cons (qv 0) (qa_cons (qe_callB call_lenA sim_len (by rfl) T.m_len (by decide +kernel) (qa_cons (qe_ix (ix_any (units1 hr)) sim_ix (qv 6) qe_int (fun _ _ => rfl)) qa_nil)) qa_nil))) (by exact fun _ _ h _ => h)))) qss_nil)
      (qss_cons (qs_if (qt_cmp (DW.op_eqq hr.units) sim_eq (qv 2) qe_int (nomark _)) (qss_one (qs_setIx (units1 hr) (qe_call G_Lpick_0 (hr.mono (by decide)) (by rfl) T.g_Lpick tk (qcwP (qa_cons (qv 0) (qa_cons (qe_lst (qa_cons qe_non (qa_cons (qe_tup (qa_cons qe_int (qa_cons qe_int qa_nil))) qa_nil))) qa_nil))) (by exact fun _ _ h _ => h)) (qv 6) qe_int)) qss_nil)
      (qss_cons (qs_if (qt_cmp (DW.op_eqq hr.units) sim_eq (qv 2) qe_int (nomark _)) (qss_cons (qs_setIx (units1 hr) (qe_call G_Lpick_0 (hr.mono (by decide)) (by rfl) T.g_Lpick tk (qcwP (qa_cons (qv 0) (qa_cons (qe_lst (qa_cons (qe_tup (qa_cons qe_int (qa_cons qe_int qa_nil))) (qa_cons (qe_tup (qa_cons qe_int (qa_cons qe_int qa_nil))) qa_nil))) qa_nil))) (by exact fun _ _ h _ => h)) (qv 6) qe_int)
      (qss_one (qs_setIx (units1 hr) (qe_tup (qa_cons qe_int (qa_cons qe_int qa_nil))) (qv 6) qe_int))) qss_nil)
      (qss_cons (qs_if (PW.pt (qw_and (qt_cmp (DW.op_eqq hr.units) sim_eq (qv 2) qe_int (nomark _)) (qw_and1 (qt_cmp (DW.op_nee hr.units) sim_ne (qe_ix (ix_any (units1 hr)) sim_ix (qv 6) qe_int (fun _ _ => rfl)) (qe_tup (qa_cons qe_int (qa_cons qe_int qa_nil))) (nomark _))))) (qss_one (qs_setIx (units1 hr) (qe_tup (qa_cons qe_int (qa_cons qe_int qa_nil))) (qv 6) qe_int)) qss_nil)
      (qss_cons (qs_if (qt_cmp (DW.op_eqq hr.units) sim_eq (qv 2) qe_int (nomark _)) (qss_one (qs_setIx (units1 hr) (qe_op DW.op_plus sim_add (qe_slice (qv 4) (qo_some qe_int) qo_none) (qe_slice (qv 4) qo_none (qo_some qe_int))) (qv 3) qe_str)) qss_nil)
      (qss_cons (qs_if (qt_cmp (DW.op_eqq hr.units) sim_eq (qv 2) qe_int (nomark _)) (qss_one (qs_setIx (units1 hr) (qe_op DW.op_plus sim_add (qe_slice (qv 5) (qo_some qe_int) qo_none) (qe_slice (qv 5) qo_none (qo_some qe_int))) (qv 3) qe_str)) qss_nil)
      (qss_cons (qs_if (PW.pt (qw_and (qt_cmp op_gt sim_gt (qv 2) qe_int (nomark _)) (qw_and1 (qt_tru (qv 5) (by intro _; rfl))))) (qss_cons (qs_set (i := 7) sc_Lchanged.nd rfl (Or.inl rfl) (qe_call G_Lpick_0 (hr.mono (by decide)) (by rfl) T.g_Lpick tk (qcwP (qa_cons (qv 0) (qa_cons (qv 5) qa_nil))) (by exact fun _ _ h _ => h)))
      (qss_cons (qs_if (qt_cmp (DW.op_eqq hr.units) sim_eq (qv 2) qe_int (nomark _)) (qss_one (qs_setIx (units1 hr) (qe_op DW.op_plus sim_add (qe_ix (ix_any (units1 hr)) sim_ix (qv 7) qe_int (fun _ _ => rfl)) qe_int) (qv 7) qe_int)) qss_nil)
      (qss_cons (qs_if (qt_cmp (DW.op_eqq hr.units) sim_eq (qv 2) qe_int (nomark _)) (qss_one (qs_setIx (units1 hr) (qe_tup (qa_cons qe_int (qa_cons qe_int qa_nil))) (qv 7) qe_int)) qss_nil)
      (qss_cons (qs_if (qt_cmp (DW.op_eqq hr.units) sim_eq (qv 2) qe_int (nomark _)) (qss_one (qs_setIx (units1 hr) (qe_slice (qe_ix (ix_any (units1 hr)) sim_ix (qv 7) qe_int (fun _ _ => rfl)) qo_none (qo_some qe_int)) (qv 7) qe_int)) qss_nil)
      (qss_cons (qs_if (qt_cmp (DW.op_eqq hr.units) sim_eq (qv 2) qe_int (nomark _)) (qss_one (qs_setIx (units1 hr) (qe_ix (ix_any (units1 hr)) sim_ix (qe_ix (ix_any (units1 hr)) sim_ix (qv 4) qe_int (fun _ _ => rfl)) qe_int (fun _ _ => rfl)) (qv 7) qe_int)) qss_nil)
      (qss_one (qs_if (qt_cmp (DW.op_eqq hr.units) sim_eq (qv 2) qe_int (nomark _)) (qss_one (qs_setIx (units1 hr) qe_str (qv 7) qe_int)) qss_nil))))))) qss_nil)
      (qss_one (qs_ret (qv 3))))))))))))))))
theorem ok_Lchanged_0 {P : Program} {w : World} {K : PySem.W.Frag} {mg : Str → Option Value} {base : Heap} (T : Tx K mg)
    (G_Lcopy_0 : Fn P w K mg base 1 (He.ga K "_law_copy") ["_law_told"] w_Lcopy 1 [] (fun ds _ => ds))
    (G_Ldraw_0 : Fn P w K mg base 1 (He.ga K "_law_draw") ["_law_feed_here", "_law_many"] w_Ldraw 2 [] (fun ds _ => ds))
    (G_Lpick_0 : Fn P w K mg base 2 (He.ga K "_law_pick") ["_law_feed_here", "_law_row"] w_Lpick 2 [] (fun ds _ => ds)) :
    Fn P w K mg base 3 (He.ga K "_law_changed") ["_law_feed_here", "_law_told", "_law_way"] w_Lchanged 3 [] (fun ds _ => ds) := by
  obtain ⟨fd, F⟩ := T.d_Lchanged
  refine ⟨⟨fd, fk_Lchanged T G_Lcopy_0 G_Ldraw_0 G_Lpick_0 F, ?_⟩, F.kp⟩
  exact dbn_all (FunD.bindsN F (ps := ["_law_feed_here", "_law_told", "_law_way"]) fun _ _ _ _ _ _ us hl => match us, hl with | [_, _, _], _ => rfl)
theorem sc_Lmove_word : FnScope N_Lmove_word ["_law_move", "_law_letter"] (defScope s_Lmove_word) := ⟨rfl, rfl, rfl, by decide +kernel, rfl, by decide +kernel, by decide +kernel⟩
theorem fk_Lmove_word {P : Program} {w : World} {K : PySem.W.Frag} {mg : Str → Option Value} {base : Heap} (T : Tx K mg) {fd : FuncData}
    (F : FunD K "_law_move_word" "_law_move_word" (defArgs s_Lmove_word) (defBody s_Lmove_word) (defScope s_Lmove_word) [] [] (He.ga K "_law_move_word") fd) :
    FnOk P w K mg base (L2.CX P w) 1 (He.ga K "_law_move_word") fd ["_law_move", "_law_letter"] (spM K 2 w_Lmove_word) :=
  fn_ok F sc_Lmove_word fun cdv A outer s H E hr tk po =>
    (qss_cons (qs_if (qt_cmp op_isN1 sim_is (qv 0) qe_non (nomark _)) (qss_one (qs_ret qe_str)) qss_nil)
      (qss_cons (qs_if (qt_cmp (DW.op_eqq hr.units) sim_eq (qe_ix (ix_any (units1 hr)) sim_ix (qv 0) qe_int (fun _ _ => rfl)) qe_int (nomark _)) (qss_one (qs_ret (qe_callTy call_strA sim_str (by rfl) T.m_str (by decide +kernel) (qa_cons (qe_ix (ix_any (units1 hr)) sim_ix (qv 0) qe_int (fun _ _ => rfl)) qa_nil)))) qss_nil)
      (qss_cons (qs_if (qt_cmp op_gt sim_gt (qe_ix (ix_any (units1 hr)) sim_ix (qv 0) qe_int (fun _ _ => rfl)) qe_int (nomark _)) (qss_one (qs_ret (qe_op DW.op_plus sim_add (qe_op DW.op_plus sim_add (qe_op DW.op_plus sim_add (qe_callTy call_strA sim_str (by rfl) T.m_str (by decide +kernel) (qa_cons (qe_ix (ix_any (units1 hr)) sim_ix (qv 0) qe_int (fun _ _ => rfl)) qa_nil)) qe_str) (qe_callTy call_strA sim_str (by rfl) T.m_str (by decide +kernel) (qa_cons (qe_ix (ix_any (units1 hr)) sim_ix (qv 0) qe_int (fun _ _ => rfl)) qa_nil))) (qv 1)))) qss_nil)
      (qss_one (qs_ret (qe_op DW.op_plus sim_add (qe_op DW.op_plus sim_add (qe_op DW.op_plus sim_add (qe_callTy call_strA sim_str (by rfl) T.m_str (by decide +kernel) (qa_cons (qe_ix (ix_any (units1 hr)) sim_ix (qv 0) qe_int (fun _ _ => rfl)) qa_nil)) qe_str) (qe_callTy call_strA sim_str (by rfl) T.m_str (by decide +kernel) (qa_cons (qe_un un_neg sim_neg (qe_ix (ix_any (units1 hr)) sim_ix (qv 0) qe_int (fun _ _ => rfl))) qa_nil))) (qv 1)))))))
theorem ok_Lmove_word_0 {P : Program} {w : World} {K : PySem.W.Frag} {mg : Str → Option Value} {base : Heap} (T : Tx K mg) :
    Fn P w K mg base 1 (He.ga K "_law_move_word") ["_law_move", "_law_letter"] w_Lmove_word 2 [] (fun ds _ => ds) := by
  obtain ⟨fd, F⟩ := T.d_Lmove_word
  refine ⟨⟨fd, fk_Lmove_word T F, ?_⟩, F.kp⟩
  exact dbn_all (FunD.bindsN F (ps := ["_law_move", "_law_letter"]) fun _ _ _ _ _ _ us hl => match us, hl with | [_, _], _ => rfl)
theorem sc_Lroad_row : FnScope N_Lroad_row ["_law_road"] (defScope s_Lroad_row) := ⟨rfl, rfl, rfl, by decide +kernel, rfl, by decide +kernel, by decide +kernel⟩
theorem fk_Lroad_row {P : Program} {w : World} {K : PySem.W.Frag} {mg : Str → Option Value} {base : Heap} (T : Tx K mg)
    (G_Lmove_word_0 : Fn P w K mg base 1 (He.ga K "_law_move_word") ["_law_move", "_law_letter"] w_Lmove_word 2 [] (fun ds _ => ds)) {fd : FuncData}
    (F : FunD K "_law_road_row" "_law_road_row" (defArgs s_Lroad_row) (defBody s_Lroad_row) (defScope s_Lroad_row) [] [] (He.ga K "_law_road_row") fd) :
    FnOk P w K mg base (L2.CX P w) 2 (He.ga K "_law_road_row") fd ["_law_road"] (spM K 1 w_Lroad_row) :=
  fn_ok F sc_Lroad_row fun cdv A outer s H E hr tk po =>
    (qss_cons (qs_set (i := 1) sc_Lroad_row.nd rfl (Or.inl rfl) (qe_lst (qa_cons qe_str (qa_cons (qe_ix (ix_any (units1 hr)) sim_ix (qv 0) qe_int (fun _ _ => rfl)) (qa_cons (qe_ix (ix_any (units1 hr)) sim_ix (qv 0) qe_int (fun _ _ => rfl)) (qa_cons (qe_ix (ix_any (units1 hr)) sim_ix (qv 0) qe_int (fun _ _ => rfl)) (qa_cons (qe_callTy call_strA sim_str (by rfl) T.m_str (by decide +kernel) (qa_cons (qe_ix (ix_any (units1 hr)) sim_ix (qv 0) qe_int (fun _ _ => rfl)) qa_nil)) (qa_cons (qe_call G_Lmove_word_0 (hr.mono (by decide)) (by rfl) T.g_Lmove_word tk (qcwP (qa_cons (qe_ix (ix_any (units1 hr)) sim_ix (qv 0) qe_int (fun _ _ => rfl)) (qa_cons qe_str qa_nil))) (by exact fun _ _ h _ => h)) qa_nil))))))))
      (qss_cons (qs_for po rfl (qi_seq (qe_ix (ix_any (units1 hr)) sim_ix (qv 0) qe_int (fun _ _ => rfl))) (qg_tup rfl (qgs_cons (qg_name (i := 2) sc_Lroad_row.nd rfl (by first | exact Or.inl rfl | exact Or.inr rfl)) (qgs_cons (qg_name (i := 3) sc_Lroad_row.nd rfl (by first | exact Or.inl rfl | exact Or.inr rfl)) qgs_nil))) (qss_one (qs_expr (qe_bm PySem.F.plainAttrs_list PySem.F.slot_list_append PySem.F.type_list_append mt_append sim_append (qv 1) (qa_cons (qe_op DW.op_plus sim_add (qe_op DW.op_plus sim_add (qe_call G_Lmove_word_0 (hr.mono (by decide)) (by rfl) T.g_Lmove_word tk (qcwP (qa_cons (qv 2) (qa_cons qe_str qa_nil))) (by exact fun _ _ h _ => h)) qe_str) (qe_call G_Lmove_word_0 (hr.mono (by decide)) (by rfl) T.g_Lmove_word tk (qcwP (qa_cons (qv 3) (qa_cons qe_str qa_nil))) (by exact fun _ _ h _ => h))) qa_nil)))))
      (qss_one (qs_ret (qe_bm PySem.F.plainAttrs_str PySem.F.slot_str_join PySem.F.type_str_join mt_join sim_join qe_str (qa_cons (qv 1) qa_nil))))))
theorem ok_Lroad_row_0 {P : Program} {w : World} {K : PySem.W.Frag} {mg : Str → Option Value} {base : Heap} (T : Tx K mg)
    (G_Lmove_word_0 : Fn P w K mg base 1 (He.ga K "_law_move_word") ["_law_move", "_law_letter"] w_Lmove_word 2 [] (fun ds _ => ds)) :
    Fn P w K mg base 2 (He.ga K "_law_road_row") ["_law_road"] w_Lroad_row 1 [] (fun ds _ => ds) := by
  obtain ⟨fd, F⟩ := T.d_Lroad_row
  refine ⟨⟨fd, fk_Lroad_row T G_Lmove_word_0 F, ?_⟩, F.kp⟩
  exact dbn_all (FunD.bindsN F (ps := ["_law_road"]) fun _ _ _ _ _ _ us hl => match us, hl with | [_], _ => rfl)
theorem sc_Lrows : FnScope N_Lrows ["_law_told"] (defScope s_Lrows) := ⟨rfl, rfl, rfl, by decide +kernel, rfl, by decide +kernel, by decide +kernel⟩
theorem fk_Lrows {P : Program} {w : World} {K : PySem.W.Frag} {mg : Str → Option Value} {base : Heap} (T : Tx K mg)
    (G_Lmove_word_0 : Fn P w K mg base 1 (He.ga K "_law_move_word") ["_law_move", "_law_letter"] w_Lmove_word 2 [] (fun ds _ => ds))
    (G_Lroad_row_0 : Fn P w K mg base 2 (He.ga K "_law_road_row") ["_law_road"] w_Lroad_row 1 [] (fun ds _ => ds)) {fd : FuncData}
    (F : FunD K "_law_rows" "_law_rows" (defArgs s_Lrows) (defBody s_Lrows) (defScope s_Lrows) [] [] (He.ga K "_law_rows") fd) :
    FnOk P w K mg base (L2.CX P w) 3 (He.ga K "_law_rows") fd ["_law_told"] (spM K 1 w_Lrows) :=
  fn_ok F sc_Lrows fun cdv A outer s H E hr tk po =>
    (qss_cons (qs_set (i := 1) sc_Lrows.nd rfl (Or.inl rfl) (qe_lst (qa_cons (qe_op DW.op_plus sim_add qe_str (qe_callTy call_strA sim_str (by rfl) T.m_str (by decide +kernel) (qa_cons (qe_ix (ix_any (units1 hr)) sim_ix (qv 0) qe_str (fun _ _ => rfl)) qa_nil))) qa_nil)))
      (qss_cons (qs_expr (qe_bm PySem.F.plainAttrs_list PySem.F.slot_list_append PySem.F.type_list_append mt_append sim_append (qv 1) (qa_cons (qe_op DW.op_plus sim_add (qe_op DW.op_plus sim_add (qe_op DW.op_plus sim_add qe_str (qe_callTy call_strA sim_str (by rfl) T.m_str (by decide +kernel) (qa_cons (qe_ix (ix_any (units1 hr)) sim_ix (qe_ix (ix_any (units1 hr)) sim_ix (qv 0) qe_str (fun _ _ => rfl)) qe_int (fun _ _ => rfl)) qa_nil))) qe_str) (qe_callTy call_strA sim_str (by rfl) T.m_str (by decide +kernel) (qa_cons (qe_ix (ix_any (units1 hr)) sim_ix (qe_ix (ix_any (units1 hr)) sim_ix (qv 0) qe_str (fun _ _ => rfl)) qe_int (fun _ _ => rfl)) qa_nil))) qa_nil)))
      (qss_cons (qs_expr (qe_bm PySem.F.plainAttrs_list PySem.F.slot_list_append PySem.F.type_list_append mt_append sim_append (qv 1) (qa_cons (qe_op DW.op_plus sim_add (qe_op DW.op_plus sim_add (qe_op DW.op_plus sim_add qe_str (qe_callTy call_strA sim_str (by rfl) T.m_str (by decide +kernel) (qa_cons (qe_ix (ix_any (units1 hr)) sim_ix (qe_ix (ix_any (units1 hr)) sim_ix (qv 0) qe_str (fun _ _ => rfl)) qe_int (fun _ _ => rfl)) qa_nil))) qe_str) (qe_callTy call_strA sim_str (by rfl) T.m_str (by decide +kernel) (qa_cons (qe_ix (ix_any (units1 hr)) sim_ix (qe_ix (ix_any (units1 hr)) sim_ix (qv 0) qe_str (fun _ _ => rfl)) qe_int (fun _ _ => rfl)) qa_nil))) qa_nil)))
      (qss_cons (qs_for po rfl (qi_seq (qe_ix (ix_any (units1 hr)) sim_ix (qv 0) qe_str (fun _ _ => rfl))) (qg_tup rfl (qgs_cons (qg_name (i := 2) sc_Lrows.nd rfl (by first | exact Or.inl rfl | exact Or.inr rfl)) (qgs_cons (qg_name (i := 3) sc_Lrows.nd rfl (by first | exact Or.inl rfl | exact Or.inr rfl)) (qgs_cons (qg_name (i := 4) sc_Lrows.nd rfl (by first | exact Or.inl rfl | exact Or.inr rfl)) (qgs_cons (qg_name (i := 5) sc_Lrows.nd rfl (by first | exact Or.inl rfl | exact Or.inr rfl)) (qgs_cons (qg_name (i := 6) sc_Lrows.nd rfl (by first | exact Or.inl rfl | exact Or.inr rfl)) qgs_nil)))))) (qss_cons (qs_expr (qe_bm PySem.F.plainAttrs_list PySem.F.slot_list_append PySem.F.type_list_append mt_append sim_append (qv 1) (qa_cons (qe_op DW.op_plus sim_add qe_str (qv 2)) qa_nil)))
      (qss_cons (qs_if (qt_cmp op_notN1 sim_isnot (qv 3) qe_non (nomark _)) (qss_one (qs_expr (qe_bm PySem.F.plainAttrs_list PySem.F.slot_list_append PySem.F.type_list_append mt_append sim_append (qv 1) (qa_cons (qe_op DW.op_plus sim_add (qe_op DW.op_plus sim_add (qe_op DW.op_plus sim_add qe_str (qv 2)) qe_str) (qe_call G_Lmove_word_0 (hr.mono (by decide)) (by rfl) T.g_Lmove_word tk (qcwP (qa_cons (qv 3) (qa_cons qe_str qa_nil))) (by exact fun _ _ h _ => h))) qa_nil)))) qss_nil)
      (qss_cons (qs_if (qt_cmp (DW.op_nee hr.units) sim_ne (qv 4) (qe_tup (qa_cons qe_int (qa_cons qe_int qa_nil))) (nomark _)) (qss_cons (qs_set (i := 8) sc_Lrows.nd rfl (Or.inl rfl) (qe_lst (qa_cons qe_str (qa_cons (qv 2) (qa_cons (qe_call G_Lmove_word_0 (hr.mono (by decide)) (by rfl) T.g_Lmove_word tk (qcwP (qa_cons (qv 4) (qa_cons qe_str qa_nil))) (by exact fun _ _ h _ => h)) (qa_cons (qe_call G_Lmove_word_0 (hr.mono (by decide)) (by rfl) T.g_Lmove_word tk (qcwP (qa_cons (qv 5) (qa_cons qe_str qa_nil))) (by exact fun _ _ h _ => h)) qa_nil))))))
      (qss_one (qs_expr (qe_bm PySem.F.plainAttrs_list PySem.F.slot_list_append PySem.F.type_list_append mt_append sim_append (qv 1) (qa_cons (qe_bm PySem.F.plainAttrs_str PySem.F.slot_str_join PySem.F.type_str_join mt_join sim_join qe_str (qa_cons (qv 8) qa_nil)) qa_nil))))) qss_nil)
      (qss_one (qs_for po rfl (qi_range1 (by rfl) T.m_range (qa_cons (qe_callB call_lenA sim_len (by rfl) T.m_len (by decide +kernel) (qa_cons (qv 6) qa_nil)) qa_nil)) (qg_name (i := 7) sc_Lrows.nd rfl (by first | exact Or.inl rfl | exact Or.inr rfl)) (qss_one (qs_if (qt_cmp (DW.op_nee hr.units) sim_ne (qe_ix (ix_any (units1 hr)) sim_ix (qv 6) (qv 7) (fun _ _ => rfl)) (qe_tup (qa_cons qe_int (qa_cons qe_int qa_nil))) (nomark _)) (qss_cons (qs_set (i := 8) sc_Lrows.nd rfl (Or.inl rfl) (qe_lst (qa_cons qe_str (qa_cons (qv 2) (qa_cons (qe_callTy call_strA sim_str (by rfl) T.m_str (by decide +kernel) (qa_cons (qe_op DW.op_plus sim_add (qv 7) qe_int) qa_nil)) (qa_cons (qe_call G_Lmove_word_0 (hr.mono (by decide)) (by rfl) T.g_Lmove_word tk (qcwP (qa_cons (qe_ix (ix_any (units1 hr)) sim_ix (qv 6) (qv 7) (fun _ _ => rfl)) (qa_cons qe_str qa_nil))) (by exact fun _ _ h _ => h)) qa_nil))))))
      (qss_one (qs_expr (qe_bm PySem.F.plainAttrs_list PySem.F.slot_list_append PySem.F.type_list_append mt_append sim_append (qv 1) (qa_cons (qe_bm PySem.F.plainAttrs_str PySem.F.slot_str_join PySem.F.type_str_join mt_join sim_join qe_str (qa_cons (qv 8) qa_nil)) qa_nil))))) qss_nil))))))))
      (qss_cons (qs_for po rfl (qi_seq (qe_ix (ix_any (units1 hr)) sim_ix (qv 0) qe_str (fun _ _ => rfl))) (qg_name (i := 9) sc_Lrows.nd rfl (by first | exact Or.inl rfl | exact Or.inr rfl)) (qss_one (qs_expr (qe_bm PySem.F.plainAttrs_list PySem.F.slot_list_append PySem.F.type_list_append mt_append sim_append (qv 1) (qa_cons (qe_call G_Lroad_row_0 (hr.mono (by decide)) (by rfl) T.g_Lroad_row tk (qcwP (qa_cons (qv 9) qa_nil)) (by exact fun _ _ h _ => h)) qa_nil)))))
      (qss_one (qs_ret (qv 1))))))))
theorem ok_Lrows_0 {P : Program} {w : World} {K : PySem.W.Frag} {mg : Str → Option Value} {base : Heap} (T : Tx K mg)
    (G_Lmove_word_0 : Fn P w K mg base 1 (He.ga K "_law_move_word") ["_law_move", "_law_letter"] w_Lmove_word 2 [] (fun ds _ => ds))
    (G_Lroad_row_0 : Fn P w K mg base 2 (He.ga K "_law_road_row") ["_law_road"] w_Lroad_row 1 [] (fun ds _ => ds)) :
    Fn P w K mg base 3 (He.ga K "_law_rows") ["_law_told"] w_Lrows 1 [] (fun ds _ => ds) := by
  obtain ⟨fd, F⟩ := T.d_Lrows
  refine ⟨⟨fd, fk_Lrows T G_Lmove_word_0 G_Lroad_row_0 F, ?_⟩, F.kp⟩
  exact dbn_all (FunD.bindsN F (ps := ["_law_told"]) fun _ _ _ _ _ _ us hl => match us, hl with | [_], _ => rfl)
theorem sc_Ltext : FnScope N_Ltext ["_law_told"] (defScope s_Ltext) := ⟨rfl, rfl, rfl, by decide +kernel, rfl, by decide +kernel, by decide +kernel⟩
theorem fk_Ltext {P : Program} {w : World} {K : PySem.W.Frag} {mg : Str → Option Value} {base : Heap} (T : Tx K mg)
    (G_Lrows_0 : Fn P w K mg base 3 (He.ga K "_law_rows") ["_law_told"] w_Lrows 1 [] (fun ds _ => ds)) {fd : FuncData}
    (F : FunD K "_law_text" "_law_text" (defArgs s_Ltext) (defBody s_Ltext) (defScope s_Ltext) [] [] (He.ga K "_law_text") fd) :
    FnOk P w K mg base (L2.CX P w) 4 (He.ga K "_law_text") fd ["_law_told"] (spM K 1 w_Ltext) :=
  fn_ok F sc_Ltext fun cdv A outer s H E hr tk po =>
    (qss_one (qs_ret (qe_bm PySem.F.plainAttrs_str PySem.F.slot_str_join PySem.F.type_str_join mt_join sim_join qe_str (qa_cons (qe_call G_Lrows_0 (hr.mono (by decide)) (by rfl) T.g_Lrows tk (qcwP (qa_cons (qv 0) qa_nil)) (by exact fun _ _ h _ => h)) qa_nil))))
theorem ok_Ltext_0 {P : Program} {w : World} {K : PySem.W.Frag} {mg : Str → Option Value} {base : Heap} (T : Tx K mg)
    (G_Lrows_0 : Fn P w K mg base 3 (He.ga K "_law_rows") ["_law_told"] w_Lrows 1 [] (fun ds _ => ds)) :
    Fn P w K mg base 4 (He.ga K "_law_text") ["_law_told"] w_Ltext 1 [] (fun ds _ => ds) := by
  obtain ⟨fd, F⟩ := T.d_Ltext
  refine ⟨⟨fd, fk_Ltext T G_Lrows_0 F, ?_⟩, F.kp⟩
  exact dbn_all (FunD.bindsN F (ps := ["_law_told"]) fun _ _ _ _ _ _ us hl => match us, hl with | [_], _ => rfl)
theorem sc_Net_place_names : FnScope N_Net_place_names ["self"] (defScope s_Net_place_names) := ⟨rfl, rfl, rfl, by decide +kernel, rfl, by decide +kernel, by decide +kernel⟩
theorem fk_Net_place_names {P : Program} {w : World} {K : PySem.W.Frag} {mg : Str → Option Value} {base : Heap} (T : Tx K mg) {fd : FuncData}
    (F : FunD K "place_names" "Net.place_names" (defArgs s_Net_place_names) (defBody s_Net_place_names) (defScope s_Net_place_names) [] [] (He.ma K (He.ga K "Net") "place_names") fd) :
    FnOk P w K mg base (L2.CX P w) 1 (He.ma K (He.ga K "Net") "place_names") fd ["self"] (spM K 1 w_Net_place_names) :=
  fn_ok F sc_Net_place_names fun cdv A outer s H E hr tk po =>
    (qss_one (qs_ret (qe_callTy (call_listA rfl) sim_list (by rfl) T.m_list (by decide +kernel) (qa_cons (qe_fld T.cn (by simp [cfl]) (qv 0)) qa_nil))))
theorem ok_Net_place_names_0 {P : Program} {w : World} {K : PySem.W.Frag} {mg : Str → Option Value} {base : Heap} (T : Tx K mg) :
    Fn P w K mg base 1 (He.ma K (He.ga K "Net") "place_names") ["self"] w_Net_place_names 1 [] (fun ds _ => ds) := by
  obtain ⟨fd, F⟩ := T.d_Net_place_names
  refine ⟨⟨fd, fk_Net_place_names T F, ?_⟩, F.kp⟩
  exact dbn_all (FunD.bindsN F (ps := ["self"]) fun _ _ _ _ _ _ us hl => match us, hl with | [_], _ => rfl)
theorem sc_Net_place_told : FnScope N_Net_place_told ["self", "name"] (defScope s_Net_place_told) := ⟨rfl, rfl, rfl, by decide +kernel, rfl, by decide +kernel, by decide +kernel⟩
theorem fk_Net_place_told {P : Program} {w : World} {K : PySem.W.Frag} {mg : Str → Option Value} {base : Heap} (T : Tx K mg)
    (G_Net_known_0 : Fn P w K mg base 5 (He.ma K (He.ga K "Net") "known") ["self", "name"] w_Net_known 2 [] (fun ds _ => ds)) {fd : FuncData}
    (F : FunD K "place_told" "Net.place_told" (defArgs s_Net_place_told) (defBody s_Net_place_told) (defScope s_Net_place_told) [] [] (He.ma K (He.ga K "Net") "place_told") fd) :
    FnOk P w K mg base (L2.CX P w) 6 (He.ma K (He.ga K "Net") "place_told") fd ["self", "name"] (spM K 2 w_Net_place_told) :=
  fn_ok F sc_Net_place_told fun cdv A outer s H E hr tk po =>
    (qss_one (qs_ret (qe_meth (qv 0) T.cl_Net T.me_Net_known G_Net_known_0 (hr.mono (by decide)) tk (qcwP (qa_cons (qv 1) qa_nil)) (by exact fun _ _ h _ => h))))
theorem ok_Net_place_told_0 {P : Program} {w : World} {K : PySem.W.Frag} {mg : Str → Option Value} {base : Heap} (T : Tx K mg)
    (G_Net_known_0 : Fn P w K mg base 5 (He.ma K (He.ga K "Net") "known") ["self", "name"] w_Net_known 2 [] (fun ds _ => ds)) :
    Fn P w K mg base 6 (He.ma K (He.ga K "Net") "place_told") ["self", "name"] w_Net_place_told 2 [] (fun ds _ => ds) := by
  obtain ⟨fd, F⟩ := T.d_Net_place_told
  refine ⟨⟨fd, fk_Net_place_told T G_Net_known_0 F, ?_⟩, F.kp⟩
  exact dbn_all (FunD.bindsN F (ps := ["self", "name"]) fun _ _ _ _ _ _ us hl => match us, hl with | [_, _], _ => rfl)
theorem sc_written : FnScope N_written ["m", "letter"] (defScope s_written) := ⟨rfl, rfl, rfl, by decide +kernel, rfl, by decide +kernel, by decide +kernel⟩
theorem fk_written {P : Program} {w : World} {K : PySem.W.Frag} {mg : Str → Option Value} {base : Heap} (T : Tx K mg) {fd : FuncData}
    (F : FunD K "written" "written" (defArgs s_written) (defBody s_written) (defScope s_written) [] [] (He.ga K "written") fd) :
    FnOk P w K mg base (L2.CX P w) 1 (He.ga K "written") fd ["m", "letter"] (spM K 2 w_written) :=
  fn_ok F sc_written fun cdv A outer s H E hr tk po =>
    (qss_cons (qs_if (qt_cmp (DW.op_eqq hr.units) sim_eq (qe_ix (ix_any (units1 hr)) sim_ix (qv 0) qe_int (fun _ _ => rfl)) qe_int (nomark _)) (qss_one (qs_ret (qe_callTy call_strA sim_str (by rfl) T.m_str (by decide +kernel) (qa_cons (qe_ix (ix_any (units1 hr)) sim_ix (qv 0) qe_int (fun _ _ => rfl)) qa_nil)))) qss_nil)
      (qss_cons (qs_set (i := 2) sc_written.nd rfl (Or.inl rfl) (qe_ifExp (qt_cmp op_gt sim_gt (qe_ix (ix_any (units1 hr)) sim_ix (qv 0) qe_int (fun _ _ => rfl)) qe_int (nomark _)) qe_str qe_str))
      (qss_one (qs_ret (qe_joined (.cons (qe_fmt (qe_ix (ix_any (units1 hr)) sim_ix (qv 0) qe_int (fun _ _ => rfl))) (.cons (qe_fmt (qv 2)) (.cons (qe_fmt (qe_callB call_abs sim_abs (by rfl) T.m_abs (by decide +kernel) (qa_cons (qe_ix (ix_any (units1 hr)) sim_ix (qv 0) qe_int (fun _ _ => rfl)) qa_nil))) (.cons (qe_fmt (qv 1)) .nil)))))))))
theorem ok_written_0 {P : Program} {w : World} {K : PySem.W.Frag} {mg : Str → Option Value} {base : Heap} (T : Tx K mg) :
    Fn P w K mg base 1 (He.ga K "written") ["m", "letter"] w_written 2 [] (fun ds _ => ds) := by
  obtain ⟨fd, F⟩ := T.d_written
  refine ⟨⟨fd, fk_written T F, ?_⟩, F.kp⟩
  exact dbn_all (FunD.bindsN F (ps := ["m", "letter"]) fun _ _ _ _ _ _ us hl => match us, hl with | [_, _], _ => rfl)
theorem sc_room_word : FnScope N_room_word ["room"] (defScope s_room_word) := ⟨rfl, rfl, rfl, by decide +kernel, rfl, by decide +kernel, by decide +kernel⟩
theorem fk_room_word {P : Program} {w : World} {K : PySem.W.Frag} {mg : Str → Option Value} {base : Heap} (T : Tx K mg)
    (G_written_0 : Fn P w K mg base 1 (He.ga K "written") ["m", "letter"] w_written 2 [] (fun ds _ => ds)) {fd : FuncData}
    (F : FunD K "room_word" "room_word" (defArgs s_room_word) (defBody s_room_word) (defScope s_room_word) [] [] (He.ga K "room_word") fd) :
    FnOk P w K mg base (L2.CX P w) 2 (He.ga K "room_word") fd ["room"] (spM K 1 w_room_word) :=
  fn_ok F sc_room_word fun cdv A outer s H E hr tk po =>
    (qss_cons (qs_if (qt_cmp op_isN1 sim_is (qv 0) qe_non (nomark _)) (qss_one (qs_ret qe_str)) qss_nil)
      (qss_one (qs_ret (qe_call G_written_0 (hr.mono (by decide)) (by rfl) T.g_written tk (qcwP (qa_cons (qv 0) (qa_cons qe_str qa_nil))) (by exact fun _ _ h _ => h)))))
theorem ok_room_word_0 {P : Program} {w : World} {K : PySem.W.Frag} {mg : Str → Option Value} {base : Heap} (T : Tx K mg)
    (G_written_0 : Fn P w K mg base 1 (He.ga K "written") ["m", "letter"] w_written 2 [] (fun ds _ => ds)) :
    Fn P w K mg base 2 (He.ga K "room_word") ["room"] w_room_word 1 [] (fun ds _ => ds) := by
  obtain ⟨fd, F⟩ := T.d_room_word
  refine ⟨⟨fd, fk_room_word T G_written_0 F, ?_⟩, F.kp⟩
  exact dbn_all (FunD.bindsN F (ps := ["room"]) fun _ _ _ _ _ _ us hl => match us, hl with | [_], _ => rfl)
theorem sc_place_rows : FnScope N_place_rows ["net", "name"] (defScope s_place_rows) := ⟨rfl, rfl, rfl, by decide +kernel, rfl, by decide +kernel, by decide +kernel⟩
theorem fk_place_rows {P : Program} {w : World} {K : PySem.W.Frag} {mg : Str → Option Value} {base : Heap} (T : Tx K mg)
    (G_Net_place_told_0 : Fn P w K mg base 6 (He.ma K (He.ga K "Net") "place_told") ["self", "name"] w_Net_place_told 2 [] (fun ds _ => ds))
    (G_room_word_0 : Fn P w K mg base 2 (He.ga K "room_word") ["room"] w_room_word 1 [] (fun ds _ => ds))
    (G_written_0 : Fn P w K mg base 1 (He.ga K "written") ["m", "letter"] w_written 2 [] (fun ds _ => ds)) {fd : FuncData}
    (F : FunD K "place_rows" "place_rows" (defArgs s_place_rows) (defBody s_place_rows) (defScope s_place_rows) [] [] (He.ga K "place_rows") fd) :
    FnOk P w K mg base (L2.CX P w) 7 (He.ga K "place_rows") fd ["net", "name"] (spM K 2 w_place_rows) :=
  fn_ok F sc_place_rows fun cdv A outer s H E hr tk po =>
    (qss_cons (qs_asg (qe_meth (qv 0) T.cl_Net T.me_Net_place_told G_Net_place_told_0 (hr.mono (by decide)) tk (qcwP (qa_cons (qv 1) qa_nil)) (by exact fun _ _ h _ => h)) (qg_tup rfl (qgs_cons (qg_name (i := 2) sc_place_rows.nd rfl (by first | exact Or.inl rfl | exact Or.inr rfl)) (qgs_cons (qg_name (i := 3) sc_place_rows.nd rfl (by first | exact Or.inl rfl | exact Or.inr rfl)) (qgs_cons (qg_name (i := 4) sc_place_rows.nd rfl (by first | exact Or.inl rfl | exact Or.inr rfl)) (qgs_cons (qg_name (i := 5) sc_place_rows.nd rfl (by first | exact Or.inl rfl | exact Or.inr rfl)) qgs_nil))))))
      (qss_cons (qs_set (i := 6) sc_place_rows.nd rfl (Or.inl rfl) (qe_lst (qa_cons (qe_joined (.cons qe_str (.cons (qe_fmt (qv 1)) .nil))) qa_nil)))
      (qss_cons (qs_if (qt_cmp op_notN1 sim_isnot (qv 2) qe_non (nomark _)) (qss_one (qs_expr (qe_bm PySem.F.plainAttrs_list PySem.F.slot_list_append PySem.F.type_list_append mt_append sim_append (qv 6) (qa_cons (qe_joined (.cons qe_str (.cons (qe_fmt (qv 1)) (.cons qe_str (.cons (qe_fmt (qe_call G_room_word_0 (hr.mono (by decide)) (by rfl) T.g_room_word tk (qcwP (qa_cons (qv 2) qa_nil)) (by exact fun _ _ h _ => h))) .nil))))) qa_nil)))) qss_nil)
      (qss_cons (qs_if (qt_cmp (DW.op_nee hr.units) sim_ne (qv 3) (qe_tup (qa_cons qe_int (qa_cons qe_int qa_nil))) (nomark _)) (qss_cons (qs_set (i := 7) sc_place_rows.nd rfl (Or.inl rfl) (qe_call G_written_0 (hr.mono (by decide)) (by rfl) T.g_written tk (qcwP (qa_cons (qv 4) (qa_cons qe_str qa_nil))) (by exact fun _ _ h _ => h)))
      (qss_one (qs_expr (qe_bm PySem.F.plainAttrs_list PySem.F.slot_list_append PySem.F.type_list_append mt_append sim_append (qv 6) (qa_cons (qe_joined (.cons qe_str (.cons (qe_fmt (qv 1)) (.cons qe_str (.cons (qe_fmt (qe_call G_room_word_0 (hr.mono (by decide)) (by rfl) T.g_room_word tk (qcwP (qa_cons (qv 3) qa_nil)) (by exact fun _ _ h _ => h))) (.cons qe_str (.cons (qe_fmt (qv 7)) .nil))))))) qa_nil))))) qss_nil)
      (qss_cons (qs_for po rfl (qi_enumT (by rfl) T.m_enumerate (qa_cons (qv 5) qa_nil)) (qg_tup rfl (qgs_cons (qg_name (i := 8) sc_place_rows.nd rfl (by first | exact Or.inl rfl | exact Or.inr rfl)) (qgs_cons (qg_name (i := 9) sc_place_rows.nd rfl (by first | exact Or.inl rfl | exact Or.inr rfl)) qgs_nil))) (qss_one (qs_if (qt_cmp (DW.op_nee hr.units) sim_ne (qv 9) (qe_tup (qa_cons qe_int (qa_cons qe_int qa_nil))) (nomark _)) (qss_cons (qs_set (i := 7) sc_place_rows.nd rfl (Or.inl rfl) (qe_call G_written_0 (hr.mono (by decide)) (by rfl) T.g_written tk (qcwP (qa_cons (qv 9) (qa_cons qe_str qa_nil))) (by exact fun _ _ h _ => h)))
      (qss_one (qs_expr (qe_bm PySem.F.plainAttrs_list PySem.F.slot_list_append PySem.F.type_list_append mt_append sim_append (qv 6) (qa_cons (qe_joined (.cons qe_str (.cons (qe_fmt (qv 1)) (.cons qe_str (.cons (qe_fmt (qe_op DW.op_plus sim_add (qv 8) qe_int)) (.cons qe_str (.cons (qe_fmt (qv 7)) .nil))))))) qa_nil))))) qss_nil)))
      (qss_one (qs_ret (qv 6))))))))
theorem ok_place_rows_0 {P : Program} {w : World} {K : PySem.W.Frag} {mg : Str → Option Value} {base : Heap} (T : Tx K mg)
    (G_Net_place_told_0 : Fn P w K mg base 6 (He.ma K (He.ga K "Net") "place_told") ["self", "name"] w_Net_place_told 2 [] (fun ds _ => ds))
    (G_room_word_0 : Fn P w K mg base 2 (He.ga K "room_word") ["room"] w_room_word 1 [] (fun ds _ => ds))
    (G_written_0 : Fn P w K mg base 1 (He.ga K "written") ["m", "letter"] w_written 2 [] (fun ds _ => ds)) :
    Fn P w K mg base 7 (He.ga K "place_rows") ["net", "name"] w_place_rows 2 [] (fun ds _ => ds) := by
  obtain ⟨fd, F⟩ := T.d_place_rows
  refine ⟨⟨fd, fk_place_rows T G_Net_place_told_0 G_room_word_0 G_written_0 F, ?_⟩, F.kp⟩
  exact dbn_all (FunD.bindsN F (ps := ["net", "name"]) fun _ _ _ _ _ _ us hl => match us, hl with | [_, _], _ => rfl)
theorem sc_Net_road_names : FnScope N_Net_road_names ["self"] (defScope s_Net_road_names) := ⟨rfl, rfl, rfl, by decide +kernel, rfl, by decide +kernel, by decide +kernel⟩
theorem fk_Net_road_names {P : Program} {w : World} {K : PySem.W.Frag} {mg : Str → Option Value} {base : Heap} (T : Tx K mg) {fd : FuncData}
    (F : FunD K "road_names" "Net.road_names" (defArgs s_Net_road_names) (defBody s_Net_road_names) (defScope s_Net_road_names) [] [] (He.ma K (He.ga K "Net") "road_names") fd) :
    FnOk P w K mg base (L2.CX P w) 1 (He.ma K (He.ga K "Net") "road_names") fd ["self"] (spM K 1 w_Net_road_names) :=
  fn_ok F sc_Net_road_names fun cdv A outer s H E hr tk po =>
    (qss_one (qs_ret (qe_callTy (call_listA rfl) sim_list (by rfl) T.m_list (by decide +kernel) (qa_cons (qe_fld T.cn (by simp [cfl]) (qv 0)) qa_nil))))
theorem ok_Net_road_names_0 {P : Program} {w : World} {K : PySem.W.Frag} {mg : Str → Option Value} {base : Heap} (T : Tx K mg) :
    Fn P w K mg base 1 (He.ma K (He.ga K "Net") "road_names") ["self"] w_Net_road_names 1 [] (fun ds _ => ds) := by
  obtain ⟨fd, F⟩ := T.d_Net_road_names
  refine ⟨⟨fd, fk_Net_road_names T F, ?_⟩, F.kp⟩
  exact dbn_all (FunD.bindsN F (ps := ["self"]) fun _ _ _ _ _ _ us hl => match us, hl with | [_], _ => rfl)
theorem sc_Net_road_told : FnScope N_Net_road_told ["self", "name"] (defScope s_Net_road_told) := ⟨rfl, rfl, rfl, by decide +kernel, rfl, by decide +kernel, by decide +kernel⟩
theorem fk_Net_road_told {P : Program} {w : World} {K : PySem.W.Frag} {mg : Str → Option Value} {base : Heap} (T : Tx K mg)
    (G_NoRoad_init : DW.FnM P w K mg base CX0 3 "NoRoad" "__init__" ["self", "name"] (spIn K 1 xs_NoRoad)) {fd : FuncData}
    (F : FunD K "road_told" "Net.road_told" (defArgs s_Net_road_told) (defBody s_Net_road_told) (defScope s_Net_road_told) [] [] (He.ma K (He.ga K "Net") "road_told") fd) :
    FnOk P w K mg base (L2.CX P w) 5 (He.ma K (He.ga K "Net") "road_told") fd ["self", "name"] (spM K 2 w_Net_road_told) :=
  fn_ok F sc_Net_road_told fun cdv A outer s H E hr tk po =>
    (qss_cons (qs_if (qt_cmp (op_notInA (units65 hr)) sim_notin (qv 1) (qe_fld T.cn (by simp [cfl]) (qv 0)) rfl) (qss_one (qs_raise rfl tk T.x_NoRoad G_NoRoad_init (hr.mono (by decide)) (by rfl) (qa_cons (qv 1) qa_nil) (by decide) (by simp [xfl, xs_NoRoad]))) qss_nil)
      (qss_one (qs_ret (qe_ix (ix_any (units1 hr)) sim_ix (qe_fld T.cn (by simp [cfl]) (qv 0)) (qv 1) (fun _ _ => rfl)))))
theorem ok_Net_road_told_0 {P : Program} {w : World} {K : PySem.W.Frag} {mg : Str → Option Value} {base : Heap} (T : Tx K mg)
    (G_NoRoad_init : DW.FnM P w K mg base CX0 3 "NoRoad" "__init__" ["self", "name"] (spIn K 1 xs_NoRoad)) :
    Fn P w K mg base 5 (He.ma K (He.ga K "Net") "road_told") ["self", "name"] w_Net_road_told 2 [] (fun ds _ => ds) := by
  obtain ⟨fd, F⟩ := T.d_Net_road_told
  refine ⟨⟨fd, fk_Net_road_told T G_NoRoad_init F, ?_⟩, F.kp⟩
  exact dbn_all (FunD.bindsN F (ps := ["self", "name"]) fun _ _ _ _ _ _ us hl => match us, hl with | [_, _], _ => rfl)
theorem sc_road_row : FnScope N_road_row ["net", "name"] (defScope s_road_row) := ⟨rfl, rfl, rfl, by decide +kernel, rfl, by decide +kernel, by decide +kernel⟩
theorem fk_road_row {P : Program} {w : World} {K : PySem.W.Frag} {mg : Str → Option Value} {base : Heap} (T : Tx K mg)
    (G_Net_road_told_0 : Fn P w K mg base 5 (He.ma K (He.ga K "Net") "road_told") ["self", "name"] w_Net_road_told 2 [] (fun ds _ => ds))
    (G_room_word_0 : Fn P w K mg base 2 (He.ga K "room_word") ["room"] w_room_word 1 [] (fun ds _ => ds))
    (G_written_0 : Fn P w K mg base 1 (He.ga K "written") ["m", "letter"] w_written 2 [] (fun ds _ => ds)) {fd : FuncData}
    (F : FunD K "road_row" "road_row" (defArgs s_road_row) (defBody s_road_row) (defScope s_road_row) [] [] (He.ga K "road_row") fd) :
    FnOk P w K mg base (L2.CX P w) 6 (He.ga K "road_row") fd ["net", "name"] (spM K 2 w_road_row) :=
  fn_ok F sc_road_row fun cdv A outer s H E hr tk po =>
    (qss_cons (qs_asg (qe_meth (qv 0) T.cl_Net T.me_Net_road_told G_Net_road_told_0 (hr.mono (by decide)) tk (qcwP (qa_cons (qv 1) qa_nil)) (by exact fun _ _ h _ => h)) (qg_tup rfl (qgs_cons (qg_name (i := 2) sc_road_row.nd rfl (by first | exact Or.inl rfl | exact Or.inr rfl)) (qgs_cons (qg_name (i := 3) sc_road_row.nd rfl (by first | exact Or.inl rfl | exact Or.inr rfl)) (qgs_cons (qg_name (i := 4) sc_road_row.nd rfl (by first | exact Or.inl rfl | exact Or.inr rfl)) (qgs_cons (qg_name (i := 5) sc_road_row.nd rfl (by first | exact Or.inl rfl | exact Or.inr rfl)) (qgs_cons (qg_name (i := 6) sc_road_row.nd rfl (by first | exact Or.inl rfl | exact Or.inr rfl)) qgs_nil)))))))
      (qss_cons (qs_set (i := 7) sc_road_row.nd rfl (Or.inl rfl) (qe_lst (qa_cons qe_str (qa_cons (qv 1) (qa_cons (qv 2) (qa_cons (qv 3) (qa_cons (qe_callTy call_strA sim_str (by rfl) T.m_str (by decide +kernel) (qa_cons (qv 4) qa_nil)) (qa_cons (qe_call G_written_0 (hr.mono (by decide)) (by rfl) T.g_written tk (qcwP (qa_cons (qv 5) (qa_cons qe_str qa_nil))) (by exact fun _ _ h _ => h)) qa_nil))))))))
      (qss_cons (qs_expr (qe_bm PySem.F.plainAttrs_list PySem.F.slot_list_extend PySem.F.type_list_extend mt_extend sim_extend (qv 7) (qa_cons (qe_lc (own := [("room", 8), ("price", 9)]) (T := (.tp 2 (.cons (.nm 8) (.cons (.nm 9) .nil)))) (tt := mYes) (me := (mOp oAdd (mOp oAdd (mCall w_room_word 1 0 (fun ds _ => ds) (mArgsP (mCons (mVar 8) mNil))) (mC (.str ":"))) (mCall w_written 2 0 (fun ds _ => ds) (mArgsP (mCons (mVar 9) (mCons (mC (.str "t")) mNil)))))) rfl sc_road_row.nd (qi_seq (qv 6)) (blkOk_by (N := N_road_row) (sc := defScope s_road_row) (by decide +kernel)) (fun _ _ _ _ _ => (qg_tup rfl (qgs_cons (qg_name (i := 8) sc_road_row.nd rfl (by first | exact Or.inl rfl | exact Or.inr rfl)) (qgs_cons (qg_name (i := 9) sc_road_row.nd rfl (by first | exact Or.inl rfl | exact Or.inr rfl)) qgs_nil)))) (fun _ _ _ _ _ => qts_nil) (fun _ _ _ _ _ => (qe_op DW.op_plus sim_add (qe_op DW.op_plus sim_add (qe_call G_room_word_0 (hr.mono (by decide)) (by rfl) T.g_room_word takes0 (qcwP (qa_cons (qv 8) qa_nil)) (by exact fun _ _ h _ => h)) qe_str) (qe_call G_written_0 (hr.mono (by decide)) (by rfl) T.g_written takes0 (qcwP (qa_cons (qv 9) (qa_cons qe_str qa_nil))) (by exact fun _ _ h _ => h)))) (by decide)) qa_nil)))
      (qss_one (qs_ret (qe_bm PySem.F.plainAttrs_str PySem.F.slot_str_join PySem.F.type_str_join mt_join sim_join qe_str (qa_cons (qv 7) qa_nil)))))))
theorem ok_road_row_0 {P : Program} {w : World} {K : PySem.W.Frag} {mg : Str → Option Value} {base : Heap} (T : Tx K mg)
    (G_Net_road_told_0 : Fn P w K mg base 5 (He.ma K (He.ga K "Net") "road_told") ["self", "name"] w_Net_road_told 2 [] (fun ds _ => ds))
    (G_room_word_0 : Fn P w K mg base 2 (He.ga K "room_word") ["room"] w_room_word 1 [] (fun ds _ => ds))
    (G_written_0 : Fn P w K mg base 1 (He.ga K "written") ["m", "letter"] w_written 2 [] (fun ds _ => ds)) :
    Fn P w K mg base 6 (He.ga K "road_row") ["net", "name"] w_road_row 2 [] (fun ds _ => ds) := by
  obtain ⟨fd, F⟩ := T.d_road_row
  refine ⟨⟨fd, fk_road_row T G_Net_road_told_0 G_room_word_0 G_written_0 F, ?_⟩, F.kp⟩
  exact dbn_all (FunD.bindsN F (ps := ["net", "name"]) fun _ _ _ _ _ _ us hl => match us, hl with | [_, _], _ => rfl)
theorem sc_text_of : FnScope N_text_of ["net"] (defScope s_text_of) := ⟨rfl, rfl, rfl, by decide +kernel, rfl, by decide +kernel, by decide +kernel⟩
theorem fk_text_of {P : Program} {w : World} {K : PySem.W.Frag} {mg : Str → Option Value} {base : Heap} (T : Tx K mg)
    (G_Net_place_names_0 : Fn P w K mg base 1 (He.ma K (He.ga K "Net") "place_names") ["self"] w_Net_place_names 1 [] (fun ds _ => ds))
    (G_Net_road_names_0 : Fn P w K mg base 1 (He.ma K (He.ga K "Net") "road_names") ["self"] w_Net_road_names 1 [] (fun ds _ => ds))
    (G_place_rows_0 : Fn P w K mg base 7 (He.ga K "place_rows") ["net", "name"] w_place_rows 2 [] (fun ds _ => ds))
    (G_road_row_0 : Fn P w K mg base 6 (He.ga K "road_row") ["net", "name"] w_road_row 2 [] (fun ds _ => ds)) {fd : FuncData}
    (F : FunD K "text_of" "text_of" (defArgs s_text_of) (defBody s_text_of) (defScope s_text_of) [] [] (He.ga K "text_of") fd) :
    FnOk P w K mg base (L2.CX P w) 8 (He.ga K "text_of") fd ["net"] (spM K 1 w_text_of) :=
  fn_ok F sc_text_of fun cdv A outer s H E hr tk po =>
    (qss_cons (qs_set (i := 1) sc_text_of.nd rfl (Or.inl rfl) (qe_lst (qa_cons (qe_joined (.cons qe_str (.cons (qe_fmt (qe_fld T.cn (by simp [cfl]) (qv 0))) .nil))) (qa_cons (qe_joined (.cons qe_str (.cons (qe_fmt (qe_ix (ix_any (units1 hr)) sim_ix (qe_fld T.cn (by simp [cfl]) (qv 0)) qe_int (fun _ _ => rfl))) (.cons qe_str (.cons (qe_fmt (qe_ix (ix_any (units1 hr)) sim_ix (qe_fld T.cn (by simp [cfl]) (qv 0)) qe_int (fun _ _ => rfl))) .nil))))) (qa_cons (qe_joined (.cons qe_str (.cons (qe_fmt (qe_ix (ix_any (units1 hr)) sim_ix (qe_fld T.cn (by simp [cfl]) (qv 0)) qe_int (fun _ _ => rfl))) (.cons qe_str (.cons (qe_fmt (qe_ix (ix_any (units1 hr)) sim_ix (qe_fld T.cn (by simp [cfl]) (qv 0)) qe_int (fun _ _ => rfl))) .nil))))) qa_nil)))))
      (qss_cons (qs_for po rfl (qi_seq (qe_meth (qv 0) T.cl_Net T.me_Net_place_names G_Net_place_names_0 (hr.mono (by decide)) tk qcw0 (by exact fun _ _ h _ => h))) (qg_name (i := 2) sc_text_of.nd rfl (by first | exact Or.inl rfl | exact Or.inr rfl)) (qss_one (qs_expr (qe_bm PySem.F.plainAttrs_list PySem.F.slot_list_extend PySem.F.type_list_extend mt_extend sim_extend (qv 1) (qa_cons (qe_call G_place_rows_0 (hr.mono (by decide)) (by rfl) T.g_place_rows tk (qcwP (qa_cons (qv 0) (qa_cons (qv 2) qa_nil))) (by exact fun _ _ h _ => h)) qa_nil)))))
      (qss_cons (qs_for po rfl (qi_seq (qe_meth (qv 0) T.cl_Net T.me_Net_road_names G_Net_road_names_0 (hr.mono (by decide)) tk qcw0 (by exact fun _ _ h _ => h))) (qg_name (i := 2) sc_text_of.nd rfl (by first | exact Or.inl rfl | exact Or.inr rfl)) (qss_one (qs_expr (qe_bm PySem.F.plainAttrs_list PySem.F.slot_list_append PySem.F.type_list_append mt_append sim_append (qv 1) (qa_cons (qe_call G_road_row_0 (hr.mono (by decide)) (by rfl) T.g_road_row tk (qcwP (qa_cons (qv 0) (qa_cons (qv 2) qa_nil))) (by exact fun _ _ h _ => h)) qa_nil)))))
      (qss_one (qs_ret (qe_bm PySem.F.plainAttrs_str PySem.F.slot_str_join PySem.F.type_str_join mt_join sim_join qe_str (qa_cons (qv 1) qa_nil)))))))
theorem ok_text_of_0 {P : Program} {w : World} {K : PySem.W.Frag} {mg : Str → Option Value} {base : Heap} (T : Tx K mg)
    (G_Net_place_names_0 : Fn P w K mg base 1 (He.ma K (He.ga K "Net") "place_names") ["self"] w_Net_place_names 1 [] (fun ds _ => ds))
    (G_Net_road_names_0 : Fn P w K mg base 1 (He.ma K (He.ga K "Net") "road_names") ["self"] w_Net_road_names 1 [] (fun ds _ => ds))
    (G_place_rows_0 : Fn P w K mg base 7 (He.ga K "place_rows") ["net", "name"] w_place_rows 2 [] (fun ds _ => ds))
    (G_road_row_0 : Fn P w K mg base 6 (He.ga K "road_row") ["net", "name"] w_road_row 2 [] (fun ds _ => ds)) :
    Fn P w K mg base 8 (He.ga K "text_of") ["net"] w_text_of 1 [] (fun ds _ => ds) := by
  obtain ⟨fd, F⟩ := T.d_text_of
  refine ⟨⟨fd, fk_text_of T G_Net_place_names_0 G_Net_road_names_0 G_place_rows_0 G_road_row_0 F, ?_⟩, F.kp⟩
  exact dbn_all (FunD.bindsN F (ps := ["net"]) fun _ _ _ _ _ _ us hl => match us, hl with | [_], _ => rfl)
theorem sc_Net_UeqU : FnScope N_Net_UeqU ["self", "other"] (defScope s_Net_UeqU) := ⟨rfl, rfl, rfl, by decide +kernel, rfl, by decide +kernel, by decide +kernel⟩
theorem fk_Net_UeqU {P : Program} {w : World} {K : PySem.W.Frag} {mg : Str → Option Value} {base : Heap} (T : Tx K mg)
    (G_text_of_0 : Fn P w K mg base 8 (He.ga K "text_of") ["net"] w_text_of 1 [] (fun ds _ => ds)) {fd : FuncData}
    (F : FunD K "__eq__" "Net.__eq__" (defArgs s_Net_UeqU) (defBody s_Net_UeqU) (defScope s_Net_UeqU) [] [] (He.ma K (He.ga K "Net") "__eq__") fd) :
    FnOk P w K mg base (L2.CX P w) 9 (He.ma K (He.ga K "Net") "__eq__") fd ["self", "other"] (spM K 2 w_Net_UeqU) :=
  fn_ok F sc_Net_UeqU fun cdv A outer s H E hr tk po =>
    (qss_one (qs_ret (qe_and (qe_callB call_isi (sim_isiC T.oc T.cn) (by rfl) T.m_isinstance (by decide +kernel) (qa_cons (qv 1) (qa_cons (qe_g (by rfl) T.g_Net) qa_nil))) (qe_one (qe_cmp (DW.op_eqq hr.units) sim_eq (qe_call G_text_of_0 (hr.mono (by decide)) (by rfl) T.g_text_of tk (qcwP (qa_cons (qv 0) qa_nil)) (by exact fun _ _ h _ => h)) (qe_call G_text_of_0 (hr.mono (by decide)) (by rfl) T.g_text_of tk (qcwP (qa_cons (qv 1) qa_nil)) (by exact fun _ _ h _ => h)) (nomark _))))))
theorem ok_Net_UeqU_0 {P : Program} {w : World} {K : PySem.W.Frag} {mg : Str → Option Value} {base : Heap} (T : Tx K mg)
    (G_text_of_0 : Fn P w K mg base 8 (He.ga K "text_of") ["net"] w_text_of 1 [] (fun ds _ => ds)) :
    Fn P w K mg base 9 (He.ma K (He.ga K "Net") "__eq__") ["self", "other"] w_Net_UeqU 2 [] (fun ds _ => ds) := by
  obtain ⟨fd, F⟩ := T.d_Net_UeqU
  refine ⟨⟨fd, fk_Net_UeqU T G_text_of_0 F, ?_⟩, F.kp⟩
  exact dbn_all (FunD.bindsN F (ps := ["self", "other"]) fun _ _ _ _ _ _ us hl => match us, hl with | [_, _], _ => rfl)
theorem sc_Net_twin : FnScope N_Net_twin ["self"] (defScope s_Net_twin) := ⟨rfl, rfl, rfl, by decide +kernel, rfl, by decide +kernel, by decide +kernel⟩
theorem fk_Net_twin {P : Program} {w : World} {K : PySem.W.Frag} {mg : Str → Option Value} {base : Heap} (T : Tx K mg)
    (G_Net_UinitU_0 : Fn P w K mg base 7 (He.ma K (He.ga K "Net") "__init__") ["self", "hours", "s_box", "t_box"] w_Net_UinitU 1 ["hours", "s_box", "t_box"] (fun ds es => [ds.getD 0 .non, es.getD 0 .non, es.getD 1 .non, es.getD 2 .non])) {fd : FuncData}
    (F : FunD K "twin" "Net.twin" (defArgs s_Net_twin) (defBody s_Net_twin) (defScope s_Net_twin) [] [] (He.ma K (He.ga K "Net") "twin") fd) :
    FnOk P w K mg base (L2.CX P w) 9 (He.ma K (He.ga K "Net") "twin") fd ["self"] (spM K 1 w_Net_twin) :=
  fn_ok F sc_Net_twin fun cdv A outer s H E hr tk po =>
    (qss_cons (qs_set (i := 1) sc_Net_twin.nd rfl (Or.inl rfl) (qe_make T.mk_Net G_Net_UinitU_0 (hr.mono (by decide)) (by rfl) T.g_Net tk (qcwK (by exact (qk_cons (qe_fld T.cn (by simp [cfl]) (qv 0)) (qk_cons (qe_fld T.cn (by simp [cfl]) (qv 0)) (qk_cons (qe_fld T.cn (by simp [cfl]) (qv 0)) qk_nil))))) (by exact fun _ _ _ _ => rfl)))
      (qss_cons (qs_fld T.cn (by simp [cfl]) (qv 1) (qe_callTy call_dictD sim_dict (by rfl) T.m_dict (by decide +kernel) (qa_cons (qe_fld T.cn (by simp [cfl]) (qv 0)) qa_nil)))
      (qss_cons (qs_fld T.cn (by simp [cfl]) (qv 1) (qe_callTy call_dictD sim_dict (by rfl) T.m_dict (by decide +kernel) (qa_cons (qe_fld T.cn (by simp [cfl]) (qv 0)) qa_nil)))
      (qss_one (qs_ret (qv 1))))))
theorem ok_Net_twin_0 {P : Program} {w : World} {K : PySem.W.Frag} {mg : Str → Option Value} {base : Heap} (T : Tx K mg)
    (G_Net_UinitU_0 : Fn P w K mg base 7 (He.ma K (He.ga K "Net") "__init__") ["self", "hours", "s_box", "t_box"] w_Net_UinitU 1 ["hours", "s_box", "t_box"] (fun ds es => [ds.getD 0 .non, es.getD 0 .non, es.getD 1 .non, es.getD 2 .non])) :
    Fn P w K mg base 9 (He.ma K (He.ga K "Net") "twin") ["self"] w_Net_twin 1 [] (fun ds _ => ds) := by
  obtain ⟨fd, F⟩ := T.d_Net_twin
  refine ⟨⟨fd, fk_Net_twin T G_Net_UinitU_0 F, ?_⟩, F.kp⟩
  exact dbn_all (FunD.bindsN F (ps := ["self"]) fun _ _ _ _ _ _ us hl => match us, hl with | [_], _ => rfl)
theorem sc_Net_UstrU : FnScope N_Net_UstrU ["self"] (defScope s_Net_UstrU) := ⟨rfl, rfl, rfl, by decide +kernel, rfl, by decide +kernel, by decide +kernel⟩
theorem fk_Net_UstrU {P : Program} {w : World} {K : PySem.W.Frag} {mg : Str → Option Value} {base : Heap} (T : Tx K mg)
    (G_text_of_0 : Fn P w K mg base 8 (He.ga K "text_of") ["net"] w_text_of 1 [] (fun ds _ => ds)) {fd : FuncData}
    (F : FunD K "__str__" "Net.__str__" (defArgs s_Net_UstrU) (defBody s_Net_UstrU) (defScope s_Net_UstrU) [] [] (He.ma K (He.ga K "Net") "__str__") fd) :
    FnOk P w K mg base (L2.CX P w) 9 (He.ma K (He.ga K "Net") "__str__") fd ["self"] (spM K 1 w_Net_UstrU) :=
  fn_ok F sc_Net_UstrU fun cdv A outer s H E hr tk po =>
    (qss_one (qs_ret (qe_callTy call_strA sim_str (by rfl) T.m_str (by decide +kernel) (qa_cons (qe_call G_text_of_0 (hr.mono (by decide)) (by rfl) T.g_text_of tk (qcwP (qa_cons (qv 0) qa_nil)) (by exact fun _ _ h _ => h)) qa_nil))))
theorem ok_Net_UstrU_0 {P : Program} {w : World} {K : PySem.W.Frag} {mg : Str → Option Value} {base : Heap} (T : Tx K mg)
    (G_text_of_0 : Fn P w K mg base 8 (He.ga K "text_of") ["net"] w_text_of 1 [] (fun ds _ => ds)) :
    Fn P w K mg base 9 (He.ma K (He.ga K "Net") "__str__") ["self"] w_Net_UstrU 1 [] (fun ds _ => ds) := by
  obtain ⟨fd, F⟩ := T.d_Net_UstrU
  refine ⟨⟨fd, fk_Net_UstrU T G_text_of_0 F, ?_⟩, F.kp⟩
  exact dbn_all (FunD.bindsN F (ps := ["self"]) fun _ _ _ _ _ _ us hl => match us, hl with | [_], _ => rfl)
theorem sc_law : FnScope N_law ["_law_script"] (defScope s_law) := ⟨rfl, rfl, rfl, by decide +kernel, rfl, by decide +kernel, by decide +kernel⟩
theorem fk_law {P : Program} {w : World} {K : PySem.W.Frag} {mg : Str → Option Value} {base : Heap} (T : Tx K mg)
    (G_Net_UeqU_0 : Fn P w K mg base 9 (He.ma K (He.ga K "Net") "__eq__") ["self", "other"] w_Net_UeqU 2 [] (fun ds _ => ds))
    (G_Net_UstrU_0 : Fn P w K mg base 9 (He.ma K (He.ga K "Net") "__str__") ["self"] w_Net_UstrU 1 [] (fun ds _ => ds))
    (G_Net_twin_0 : Fn P w K mg base 9 (He.ma K (He.ga K "Net") "twin") ["self"] w_Net_twin 1 [] (fun ds _ => ds))
    (G_Lbare_0 : Fn P w K mg base 5 (He.ga K "_law_bare") ["_law_feed_here", "_law_places", "_law_roads", "_law_clock"] w_Lbare 4 [] (fun ds _ => ds))
    (G_Lchanged_0 : Fn P w K mg base 3 (He.ga K "_law_changed") ["_law_feed_here", "_law_told", "_law_way"] w_Lchanged 3 [] (fun ds _ => ds))
    (G_Lcopy_0 : Fn P w K mg base 1 (He.ga K "_law_copy") ["_law_told"] w_Lcopy 1 [] (fun ds _ => ds))
    (G_Lfeed_0 : Fn P w K mg base 1 (He.ga K "_law_feed") ["_law_script"] w_Lfeed 1 [] (fun ds _ => ds))
    (G_Lmade_0 : Fn P w K mg base 10 (He.ga K "_law_made") ["_law_told"] w_Lmade 1 [] (fun ds _ => ds))
    (G_Ltext_0 : Fn P w K mg base 4 (He.ga K "_law_text") ["_law_told"] w_Ltext 1 [] (fun ds _ => ds)) {fd : FuncData}
    (F : FunD K "law" "law" (defArgs s_law) (defBody s_law) (defScope s_law) [] [] (He.ga K "law") fd) :
    FnOk P w K mg base (L2.CX P w) 12 (He.ga K "law") fd ["_law_script"] (spM K 1 w_law) :=
  fn_ok F sc_law fun cdv A outer s H E hr tk po =>
    (qss_cons (qs_set (i := 1) sc_law.nd rfl (Or.inl rfl) (qe_call G_Lfeed_0 (hr.mono (by decide)) (by rfl) T.g_Lfeed tk (qcwP (qa_cons (qv 0) qa_nil)) (by exact fun _ _ h _ => h)))
      (qss_cons (qs_set (i := 2) sc_law.nd rfl (Or.inl rfl) (qe_call G_Lbare_0 (hr.mono (by decide)) (by rfl) T.g_Lbare tk (qcwP (qa_cons (qv 1) (qa_cons qe_int (qa_cons qe_int (qa_cons qe_int qa_nil))))) (by exact fun _ _ h _ => h)))
      (qss_cons (qs_set (i := 3) sc_law.nd rfl (Or.inl rfl) (qe_call G_Lmade_0 (hr.mono (by decide)) (by rfl) T.g_Lmade tk (qcwP (qa_cons (qv 2) qa_nil)) (by exact fun _ _ h _ => h)))
      (qss_cons (qs_for po rfl (qi_range1 (by rfl) T.m_range (qa_cons qe_int qa_nil)) (qg_name (i := 4) sc_law.nd rfl (by first | exact Or.inl rfl | exact Or.inr rfl)) (qss_cons (qs_set (i := 5) sc_law.nd rfl (Or.inl rfl) (qe_call G_Lchanged_0 (hr.mono (by decide)) (by rfl) T.g_Lchanged tk (qcwP (qa_cons (qv 1) (qa_cons (qv 2) (qa_cons (qv 4) qa_nil)))) (by exact fun _ _ h _ => h)))
      (qss_cons (qs_set (i := 6) sc_law.nd rfl (Or.inl rfl) (qe_call G_Lmade_0 (hr.mono (by decide)) (by rfl) T.g_Lmade tk (qcwP (qa_cons (qv 5) qa_nil)) (by exact fun _ _ h _ => h)))
      (qss_cons (qs_set (i := 7) sc_law.nd rfl (Or.inl rfl) (qe_cmp (DW.op_eqq hr.units) sim_eq (qe_call G_Ltext_0 (hr.mono (by decide)) (by rfl) T.g_Ltext tk (qcwP (qa_cons (qv 2) qa_nil)) (by exact fun _ _ h _ => h)) (qe_call G_Ltext_0 (hr.mono (by decide)) (by rfl) T.g_Ltext tk (qcwP (qa_cons (qv 5) qa_nil)) (by exact fun _ _ h _ => h)) (nomark _)))
      (qss_cons (qs_if (PW.pt (qw_or (qt_cmp (DW.op_nee hr.units) sim_ne (qe_eqO T.cn (T.oc "Net" (by simp [ccs])) T.me_Net_UeqU G_Net_UeqU_0 (hr.mono (by decide)) (by exact fun _ _ h _ => h) (qv 3) (qv 6)) (qv 7) (nomark _)) (qw_or (qt_cmp (DW.op_nee hr.units) sim_ne (qe_eqO T.cn (T.oc "Net" (by simp [ccs])) T.me_Net_UeqU G_Net_UeqU_0 (hr.mono (by decide)) (by exact fun _ _ h _ => h) (qv 6) (qv 3)) (qv 7) (nomark _)) (qw_or (qt_cmp (DW.op_eqq hr.units) sim_eq (qe_neO T.cn (T.oc "Net" (by simp [ccs])) (T.on "Net" (by simp [ccs])) T.me_Net_UeqU G_Net_UeqU_0 (hr.mono (by decide)) (by exact fun _ _ h _ => h) (qv 3) (qv 6)) (qv 7) (nomark _)) (qw_or1 (qt_cmp (DW.op_nee hr.units) sim_ne (qe_eqO T.cn (T.oc "Net" (by simp [ccs])) T.me_Net_UeqU G_Net_UeqU_0 (hr.mono (by decide)) (by exact fun _ _ h _ => h) (qe_meth (qv 6) T.cl_Net T.me_Net_twin G_Net_twin_0 (hr.mono (by decide)) tk qcw0 (by exact fun _ _ h _ => h)) (qv 3)) (qv 7) (nomark _))))))) (qss_one (qs_ret qe_bl)) qss_nil)
      (qss_one (qs_if (qt_cmp (DW.op_nee hr.units) sim_ne (qe_strO T.me_Net_UstrU G_Net_UstrU_0 (hr.mono (by decide)) (by exact fun _ _ h _ => h) (by rfl) T.m_str (by decide +kernel) (qa_cons (qv 6) qa_nil)) (qe_call G_Ltext_0 (hr.mono (by decide)) (by rfl) T.g_Ltext tk (qcwP (qa_cons (qv 5) qa_nil)) (by exact fun _ _ h _ => h)) (nomark _)) (qss_one (qs_ret qe_bl)) qss_nil)))))))
      (qss_cons (qs_set (i := 5) sc_law.nd rfl (Or.inl rfl) (qe_call G_Lcopy_0 (hr.mono (by decide)) (by rfl) T.g_Lcopy tk (qcwP (qa_cons (qv 2) qa_nil)) (by exact fun _ _ h _ => h)))
      (qss_cons (qs_setIx (units1 hr) qe_int (qv 5) qe_str)
      (qss_cons (qs_for po rfl (qi_seq (qe_ix (ix_any (units1 hr)) sim_ix (qv 5) qe_str (fun _ _ => rfl))) (qg_name (i := 8) sc_law.nd rfl (by first | exact Or.inl rfl | exact Or.inr rfl)) (qss_one (qs_setIx (units1 hr) (qe_op DW.op_plus sim_add (qe_ix (ix_any (units1 hr)) sim_ix (qv 8) qe_int (fun _ _ => rfl)) (qe_lc (own := [("_law_hour", 9)]) (T := (.nm 9)) (tt := mYes) (me := (mCB oTup (mCons (mC (.int 0)) (mCons (mC (.int 0)) mNil)))) rfl sc_law.nd (qi_range1 (by rfl) T.m_range (qa_cons (qe_op op_sub sim_sub qe_int (qe_callB call_lenA sim_len (by rfl) T.m_len (by decide +kernel) (qa_cons (qe_ix (ix_any (units1 hr)) sim_ix (qv 8) qe_int (fun _ _ => rfl)) qa_nil))) qa_nil)) (blkOk_by (N := N_law) (sc := defScope s_law) (by decide +kernel)) (fun _ _ _ _ _ => (qg_name (i := 9) sc_law.nd rfl (by first | exact Or.inl rfl | exact Or.inr rfl))) (fun _ _ _ _ _ => qts_nil) (fun _ _ _ _ _ => (qe_tup (qa_cons qe_int (qa_cons qe_int qa_nil)))) (by decide))) (qv 8) qe_int)))
      (qss_one (qs_ret (qe_and (qe_not (qe_eqO T.cn (T.oc "Net" (by simp [ccs])) T.me_Net_UeqU G_Net_UeqU_0 (hr.mono (by decide)) (by exact fun _ _ h _ => h) (qv 3) (qe_call G_Lmade_0 (hr.mono (by decide)) (by rfl) T.g_Lmade tk (qcwP (qa_cons (qv 5) qa_nil)) (by exact fun _ _ h _ => h)))) (qe_one (qe_cmp (DW.op_eqq hr.units) sim_eq (qe_strO T.me_Net_UstrU G_Net_UstrU_0 (hr.mono (by decide)) (by exact fun _ _ h _ => h) (by rfl) T.m_str (by decide +kernel) (qa_cons (qv 3) qa_nil)) (qe_call G_Ltext_0 (hr.mono (by decide)) (by rfl) T.g_Ltext tk (qcwP (qa_cons (qv 2) qa_nil)) (by exact fun _ _ h _ => h)) (nomark _)))))))))))))
theorem tx_mk {K : PySem.W.Frag} {h : Heap} {mg : Str → Option Value} (X : K.In h) (G : h.Ns mainGlobals mg) (c : DW.SaysE faL fnL (fun K => DW.allT (exL K)) K) : Tx K mg where
  g_Lfeed := He.glo_ok X G (c.d.fact 0 (f := .glo "_law_feed") rfl)
  d_Lfeed := c.d.def_ 0 (d := dd_Lfeed) rfl
  g_Ldraw := He.glo_ok X G (c.d.fact 1 (f := .glo "_law_draw") rfl)
  d_Ldraw := c.d.def_ 1 (d := dd_Ldraw) rfl
  g_Lnames := He.glo_ok X G (c.d.fact 2 (f := .glo "_law_names") rfl)
  d_Lnames := c.d.def_ 2 (d := dd_Lnames) rfl
  g_Lroom := He.glo_ok X G (c.d.fact 3 (f := .glo "_law_room") rfl)
  d_Lroom := c.d.def_ 3 (d := dd_Lroom) rfl
  g_Lsome_place := He.glo_ok X G (c.d.fact 4 (f := .glo "_law_some_place") rfl)
  d_Lsome_place := c.d.def_ 4 (d := dd_Lsome_place) rfl
  g_Lsome_rungs := He.glo_ok X G (c.d.fact 5 (f := .glo "_law_some_rungs") rfl)
  d_Lsome_rungs := c.d.def_ 5 (d := dd_Lsome_rungs) rfl
  g_Lsome_road := He.glo_ok X G (c.d.fact 6 (f := .glo "_law_some_road") rfl)
  d_Lsome_road := c.d.def_ 6 (d := dd_Lsome_road) rfl
  g_Lbare := He.glo_ok X G (c.d.fact 7 (f := .glo "_law_bare") rfl)
  d_Lbare := c.d.def_ 7 (d := dd_Lbare) rfl
  g_check_number := He.glo_ok X G (c.d.fact 8 (f := .glo "check_number") rfl)
  d_check_number := c.d.def_ 8 (d := dd_check_number) rfl
  g_check_box := He.glo_ok X G (c.d.fact 9 (f := .glo "check_box") rfl)
  d_check_box := c.d.def_ 9 (d := dd_check_box) rfl
  d_Net_UinitU := c.d.def_ 10 (d := dd_Net_UinitU) rfl
  g_check_name := He.glo_ok X G (c.d.fact 10 (f := .glo "check_name") rfl)
  d_check_name := c.d.def_ 11 (d := dd_check_name) rfl
  d_Net_fresh := c.d.def_ 12 (d := dd_Net_fresh) rfl
  d_Net_set_place := c.d.def_ 13 (d := dd_Net_set_place) rfl
  d_Net_place := c.d.def_ 14 (d := dd_Net_place) rfl
  d_Net_known := c.d.def_ 15 (d := dd_Net_known) rfl
  g_check_move := He.glo_ok X G (c.d.fact 11 (f := .glo "check_move") rfl)
  d_check_move := c.d.def_ 16 (d := dd_check_move) rfl
  g_sinks := He.glo_ok X G (c.d.fact 12 (f := .glo "sinks") rfl)
  d_sinks := c.d.def_ 17 (d := dd_sinks) rfl
  g_check_room := He.glo_ok X G (c.d.fact 13 (f := .glo "check_room") rfl)
  d_check_room := c.d.def_ 18 (d := dd_check_room) rfl
  d_Net_through := c.d.def_ 19 (d := dd_Net_through) rfl
  d_Net_store := c.d.def_ 20 (d := dd_Net_store) rfl
  d_Net_want := c.d.def_ 21 (d := dd_Net_want) rfl
  g_check_rising := He.glo_ok X G (c.d.fact 14 (f := .glo "check_rising") rfl)
  d_check_rising := c.d.def_ 22 (d := dd_check_rising) rfl
  g_check_rungs := He.glo_ok X G (c.d.fact 15 (f := .glo "check_rungs") rfl)
  d_check_rungs := c.d.def_ 23 (d := dd_check_rungs) rfl
  d_Net_set_road := c.d.def_ 24 (d := dd_Net_set_road) rfl
  d_Net_road := c.d.def_ 25 (d := dd_Net_road) rfl
  g_Lmade := He.glo_ok X G (c.d.fact 16 (f := .glo "_law_made") rfl)
  d_Lmade := c.d.def_ 26 (d := dd_Lmade) rfl
  g_Lcopy := He.glo_ok X G (c.d.fact 17 (f := .glo "_law_copy") rfl)
  d_Lcopy := c.d.def_ 27 (d := dd_Lcopy) rfl
  g_Lpick := He.glo_ok X G (c.d.fact 18 (f := .glo "_law_pick") rfl)
  d_Lpick := c.d.def_ 28 (d := dd_Lpick) rfl
  g_Lchanged := He.glo_ok X G (c.d.fact 19 (f := .glo "_law_changed") rfl)
  d_Lchanged := c.d.def_ 29 (d := dd_Lchanged) rfl
  g_Lmove_word := He.glo_ok X G (c.d.fact 20 (f := .glo "_law_move_word") rfl)
  d_Lmove_word := c.d.def_ 30 (d := dd_Lmove_word) rfl
  g_Lroad_row := He.glo_ok X G (c.d.fact 21 (f := .glo "_law_road_row") rfl)
  d_Lroad_row := c.d.def_ 31 (d := dd_Lroad_row) rfl
  g_Lrows := He.glo_ok X G (c.d.fact 22 (f := .glo "_law_rows") rfl)
  d_Lrows := c.d.def_ 32 (d := dd_Lrows) rfl
  g_Ltext := He.glo_ok X G (c.d.fact 23 (f := .glo "_law_text") rfl)
  d_Ltext := c.d.def_ 33 (d := dd_Ltext) rfl
  d_Net_place_names := c.d.def_ 34 (d := dd_Net_place_names) rfl
  d_Net_place_told := c.d.def_ 35 (d := dd_Net_place_told) rfl
  g_written := He.glo_ok X G (c.d.fact 24 (f := .glo "written") rfl)
  d_written := c.d.def_ 36 (d := dd_written) rfl
  g_room_word := He.glo_ok X G (c.d.fact 25 (f := .glo "room_word") rfl)
  d_room_word := c.d.def_ 37 (d := dd_room_word) rfl
  g_place_rows := He.glo_ok X G (c.d.fact 26 (f := .glo "place_rows") rfl)
  d_place_rows := c.d.def_ 38 (d := dd_place_rows) rfl
  d_Net_road_names := c.d.def_ 39 (d := dd_Net_road_names) rfl
  d_Net_road_told := c.d.def_ 40 (d := dd_Net_road_told) rfl
  g_road_row := He.glo_ok X G (c.d.fact 27 (f := .glo "road_row") rfl)
  d_road_row := c.d.def_ 41 (d := dd_road_row) rfl
  g_text_of := He.glo_ok X G (c.d.fact 28 (f := .glo "text_of") rfl)
  d_text_of := c.d.def_ 42 (d := dd_text_of) rfl
  d_Net_UeqU := c.d.def_ 43 (d := dd_Net_UeqU) rfl
  d_Net_twin := c.d.def_ 44 (d := dd_Net_twin) rfl
  d_Net_UstrU := c.d.def_ 45 (d := dd_Net_UstrU) rfl
  g_law := He.glo_ok X G (c.d.fact 29 (f := .glo "law") rfl)
  d_law := c.d.def_ 46 (d := dd_law) rfl
  di_WeirError := c.d.def_ 47 (d := ddi_WeirError) rfl
  di_NetError := c.d.def_ 48 (d := ddi_NetError) rfl
  di_BadBox := c.d.def_ 49 (d := ddi_BadBox) rfl
  di_BadHours := c.d.def_ 50 (d := ddi_BadHours) rfl
  di_FormError := c.d.def_ 51 (d := ddi_FormError) rfl
  di_BadName := c.d.def_ 52 (d := ddi_BadName) rfl
  di_BadRungs := c.d.def_ 53 (d := ddi_BadRungs) rfl
  di_BadTakes := c.d.def_ 54 (d := ddi_BadTakes) rfl
  di_Below := c.d.def_ 55 (d := ddi_Below) rfl
  di_Falls := c.d.def_ 56 (d := ddi_Falls) rfl
  di_NoHour := c.d.def_ 57 (d := ddi_NoHour) rfl
  di_NoPlace := c.d.def_ 58 (d := ddi_NoPlace) rfl
  di_NoRoad := c.d.def_ 59 (d := ddi_NoRoad) rfl
  di_Taken := c.d.def_ 60 (d := ddi_Taken) rfl
  di_TooFar := c.d.def_ 61 (d := ddi_TooFar) rfl
  di_TooMany := c.d.def_ 62 (d := ddi_TooMany) rfl
  m_abs := He.free_ok X G (c.d.fact 30 (f := .free "abs") rfl)
  m_dict := He.free_ok X G (c.d.fact 31 (f := .free "dict") rfl)
  m_enumerate := He.free_ok X G (c.d.fact 32 (f := .free "enumerate") rfl)
  m_int := He.free_ok X G (c.d.fact 33 (f := .free "int") rfl)
  m_isinstance := He.free_ok X G (c.d.fact 34 (f := .free "isinstance") rfl)
  m_len := He.free_ok X G (c.d.fact 35 (f := .free "len") rfl)
  m_list := He.free_ok X G (c.d.fact 36 (f := .free "list") rfl)
  m_min := He.free_ok X G (c.d.fact 37 (f := .free "min") rfl)
  m_range := He.free_ok X G (c.d.fact 38 (f := .free "range") rfl)
  m_str := He.free_ok X G (c.d.fact 39 (f := .free "str") rfl)
  m_tuple := He.free_ok X G (c.d.fact 40 (f := .free "tuple") rfl)
  m_ValueError := He.free_ok X G (c.d.fact 41 (f := .free "ValueError") rfl)
  c_FIRST := He.str_ok X G (c.d.fact 42 (f := .str "FIRST" "abcdefghijklmnopqrstuvwxyz") rfl)
  c_LATER := He.str_ok X G (c.d.fact 43 (f := .str "LATER" "abcdefghijklmnopqrstuvwxyz0123456789") rfl)
  c_MOST := He.int_ok X G (c.d.fact 44 (f := .int "MOST" 1000000) rfl)
  c_MOST_HOURS := He.int_ok X G (c.d.fact 45 (f := .int "MOST_HOURS" 6) rfl)
  c_MOST_PLACES := He.int_ok X G (c.d.fact 46 (f := .int "MOST_PLACES" 12) rfl)
  c_MOST_ROADS := He.int_ok X G (c.d.fact 47 (f := .int "MOST_ROADS" 24) rfl)
  c_MOST_RUNGS := He.int_ok X G (c.d.fact 48 (f := .int "MOST_RUNGS" 4) rfl)
  c_MOST_SIGNS := He.int_ok X G (c.d.fact 49 (f := .int "MOST_SIGNS" 8) rfl)
  c_MOST_TAKES := He.int_ok X G (c.d.fact 50 (f := .int "MOST_TAKES" 9) rfl)
  g_Net := He.glo_ok X G (c.d.fact 51 (f := .glo "Net") rfl)
  me_Net_UeqU := He.meth_ok (c.d.fact 52 (f := .meth "Net" "__eq__") rfl)
  me_Net_UstrU := He.meth_ok (c.d.fact 53 (f := .meth "Net" "__str__") rfl)
  me_Net_fresh := He.meth_ok (c.d.fact 54 (f := .meth "Net" "fresh") rfl)
  me_Net_known := He.meth_ok (c.d.fact 55 (f := .meth "Net" "known") rfl)
  me_Net_place := He.meth_ok (c.d.fact 56 (f := .meth "Net" "place") rfl)
  me_Net_place_names := He.meth_ok (c.d.fact 57 (f := .meth "Net" "place_names") rfl)
  me_Net_place_told := He.meth_ok (c.d.fact 58 (f := .meth "Net" "place_told") rfl)
  me_Net_road := He.meth_ok (c.d.fact 59 (f := .meth "Net" "road") rfl)
  me_Net_road_names := He.meth_ok (c.d.fact 60 (f := .meth "Net" "road_names") rfl)
  me_Net_road_told := He.meth_ok (c.d.fact 61 (f := .meth "Net" "road_told") rfl)
  me_Net_set_place := He.meth_ok (c.d.fact 62 (f := .meth "Net" "set_place") rfl)
  me_Net_set_road := He.meth_ok (c.d.fact 63 (f := .meth "Net" "set_road") rfl)
  me_Net_store := He.meth_ok (c.d.fact 64 (f := .meth "Net" "store") rfl)
  me_Net_through := He.meth_ok (c.d.fact 65 (f := .meth "Net" "through") rfl)
  me_Net_twin := He.meth_ok (c.d.fact 66 (f := .meth "Net" "twin") rfl)
  me_Net_want := He.meth_ok (c.d.fact 67 (f := .meth "Net" "want") rfl)
  mk_Net := He.mkr_ok (c.d.fact 68 (f := .mkr "Net") rfl)
  cl_Net := He.cls_ok (c.d.fact 69 (f := .cls "Net") rfl)
  cn := ⟨by simp only [ccs, List.forall_mem_cons, List.not_mem_nil, false_implies, implies_true, and_true]; exact He.cls_ok (c.d.fact 70 (f := .cls "Net") rfl), by simp only [ccs, cfl, List.forall_mem_cons, List.not_mem_nil, false_implies, implies_true, and_true]; exact ⟨He.noat_ok (c.d.fact 71 (f := .noat "Net" "hours") rfl), He.noat_ok (c.d.fact 72 (f := .noat "Net" "s_box") rfl), He.noat_ok (c.d.fact 73 (f := .noat "Net" "t_box") rfl), He.noat_ok (c.d.fact 74 (f := .noat "Net" "places") rfl), He.noat_ok (c.d.fact 75 (f := .noat "Net" "roads") rfl)⟩⟩
  x_WeirError := DW.excXB_ok (He.glo_ok X G (c.d.fact 76 (f := .glo "WeirError") rfl)) (DW.allT_get c.more 0 rfl)
  x_NetError := DW.excXB_ok (He.glo_ok X G (c.d.fact 77 (f := .glo "NetError") rfl)) (DW.allT_get c.more 1 rfl)
  x_BadBox := DW.excXB_ok (He.glo_ok X G (c.d.fact 78 (f := .glo "BadBox") rfl)) (DW.allT_get c.more 2 rfl)
  x_BadHours := DW.excXB_ok (He.glo_ok X G (c.d.fact 79 (f := .glo "BadHours") rfl)) (DW.allT_get c.more 3 rfl)
  x_FormError := DW.excXB_ok (He.glo_ok X G (c.d.fact 80 (f := .glo "FormError") rfl)) (DW.allT_get c.more 4 rfl)
  x_BadName := DW.excXB_ok (He.glo_ok X G (c.d.fact 81 (f := .glo "BadName") rfl)) (DW.allT_get c.more 5 rfl)
  x_BadRungs := DW.excXB_ok (He.glo_ok X G (c.d.fact 82 (f := .glo "BadRungs") rfl)) (DW.allT_get c.more 6 rfl)
  x_BadTakes := DW.excXB_ok (He.glo_ok X G (c.d.fact 83 (f := .glo "BadTakes") rfl)) (DW.allT_get c.more 7 rfl)
  x_Below := DW.excXB_ok (He.glo_ok X G (c.d.fact 84 (f := .glo "Below") rfl)) (DW.allT_get c.more 8 rfl)
  x_Falls := DW.excXB_ok (He.glo_ok X G (c.d.fact 85 (f := .glo "Falls") rfl)) (DW.allT_get c.more 9 rfl)
  x_NoHour := DW.excXB_ok (He.glo_ok X G (c.d.fact 86 (f := .glo "NoHour") rfl)) (DW.allT_get c.more 10 rfl)
  x_NoPlace := DW.excXB_ok (He.glo_ok X G (c.d.fact 87 (f := .glo "NoPlace") rfl)) (DW.allT_get c.more 11 rfl)
  x_NoRoad := DW.excXB_ok (He.glo_ok X G (c.d.fact 88 (f := .glo "NoRoad") rfl)) (DW.allT_get c.more 12 rfl)
  x_Taken := DW.excXB_ok (He.glo_ok X G (c.d.fact 89 (f := .glo "Taken") rfl)) (DW.allT_get c.more 13 rfl)
  x_TooFar := DW.excXB_ok (He.glo_ok X G (c.d.fact 90 (f := .glo "TooFar") rfl)) (DW.allT_get c.more 14 rfl)
  x_TooMany := DW.excXB_ok (He.glo_ok X G (c.d.fact 91 (f := .glo "TooMany") rfl)) (DW.allT_get c.more 15 rfl)
  ve := DW.veB_ok (DW.allT_get c.more 16 rfl)
  on := ownN_ok (DW.allT_get c.more 17 rfl)
  oc := ownA_ok (DW.allT_get c.more 18 rfl)
  dk_Net_UinitU_s_box := fun as H => datAt_ok (DW.allT_get c.more 19 rfl)
  dk_Net_UinitU_t_box := fun as H => datAt_ok (DW.allT_get c.more 20 rfl)
  df_Net_store_0 := fun as H => datAt_ok (DW.allT_get c.more 21 rfl)
  df_Net_store_1 := fun as H => datAt_ok (DW.allT_get c.more 22 rfl)
  df_Net_want_0 := fun as H => datAt_ok (DW.allT_get c.more 23 rfl)
  dk_Net_road_floor := fun as H => datAt_ok (DW.allT_get c.more 24 rfl)
  dk_Net_road_rungs := fun as H => datAt_ok (DW.allT_get c.more 25 rfl)
theorem all_ok {P : Program} {w : World} {K : PySem.W.Frag} {mg : Str → Option Value} (T : Tx K mg) (base : Heap) {fd : FuncData} (F : FunD K "law" "law" (defArgs s_law) (defBody s_law) (defScope s_law) [] [] (He.ga K "law") fd) : FnOk P w K mg base CX0 12 (He.ga K "law") fd ["_law_script"] (fun vs H Q _ => spM K 1 w_law vs H Q E0) := by
  have G_WeirError_init := oki_WeirError (P := P) (w := w) (base := base) T
  have G_NetError_init := oki_NetError (P := P) (w := w) (base := base) T G_WeirError_init
  have G_BadBox_init := oki_BadBox (P := P) (w := w) (base := base) T G_NetError_init
  have G_BadHours_init := oki_BadHours (P := P) (w := w) (base := base) T G_NetError_init
  have G_FormError_init := oki_FormError (P := P) (w := w) (base := base) T G_WeirError_init
  have G_BadName_init := oki_BadName (P := P) (w := w) (base := base) T G_FormError_init
  have G_BadRungs_init := oki_BadRungs (P := P) (w := w) (base := base) T G_NetError_init
  have G_BadTakes_init := oki_BadTakes (P := P) (w := w) (base := base) T G_NetError_init
  have G_Below_init := oki_Below (P := P) (w := w) (base := base) T G_NetError_init
  have G_Falls_init := oki_Falls (P := P) (w := w) (base := base) T G_NetError_init
  have G_NoHour_init := oki_NoHour (P := P) (w := w) (base := base) T G_NetError_init
  have G_NoPlace_init := oki_NoPlace (P := P) (w := w) (base := base) T G_NetError_init
  have G_NoRoad_init := oki_NoRoad (P := P) (w := w) (base := base) T G_NetError_init
  have G_Taken_init := oki_Taken (P := P) (w := w) (base := base) T G_NetError_init
  have G_TooFar_init := oki_TooFar (P := P) (w := w) (base := base) T G_NetError_init
  have G_TooMany_init := oki_TooMany (P := P) (w := w) (base := base) T G_NetError_init
  have G_Lfeed_0 := ok_Lfeed_0 (P := P) (w := w) (base := base) T
  have G_Ldraw_0 := ok_Ldraw_0 (P := P) (w := w) (base := base) T
  have G_Lnames_0 := ok_Lnames_0 (P := P) (w := w) (base := base) T G_Ldraw_0
  have G_Lroom_0 := ok_Lroom_0 (P := P) (w := w) (base := base) T G_Ldraw_0
  have G_Lsome_place_0 := ok_Lsome_place_0 (P := P) (w := w) (base := base) T G_Ldraw_0 G_Lroom_0
  have G_Lsome_rungs_0 := ok_Lsome_rungs_0 (P := P) (w := w) (base := base) T G_Ldraw_0 G_Lroom_0
  have G_Lsome_road_0 := ok_Lsome_road_0 (P := P) (w := w) (base := base) T G_Ldraw_0 G_Lroom_0 G_Lsome_rungs_0
  have G_Lbare_0 := ok_Lbare_0 (P := P) (w := w) (base := base) T G_Ldraw_0 G_Lnames_0 G_Lsome_place_0 G_Lsome_road_0
  have G_check_number_0 := ok_check_number_0 (P := P) (w := w) (base := base) T G_TooFar_init
  have G_check_box_0 := ok_check_box_0 (P := P) (w := w) (base := base) T G_BadBox_init G_check_number_0
  have G_Net_UinitU_0 := ok_Net_UinitU_0 (P := P) (w := w) (base := base) T G_BadHours_init G_check_box_0
  have G_check_name_0 := ok_check_name_0 (P := P) (w := w) (base := base) T G_BadName_init
  have G_Net_fresh_0 := ok_Net_fresh_0 (P := P) (w := w) (base := base) T G_Taken_init G_check_name_0
  have G_Net_set_place_0 := ok_Net_set_place_0 (P := P) (w := w) (base := base) T
  have G_Net_place_0 := ok_Net_place_0 (P := P) (w := w) (base := base) T G_TooMany_init G_Net_fresh_0 G_Net_set_place_0
  have G_Net_known_0 := ok_Net_known_0 (P := P) (w := w) (base := base) T G_NoPlace_init
  have G_check_move_0 := ok_check_move_0 (P := P) (w := w) (base := base) T G_check_number_0
  have G_sinks_0 := ok_sinks_0 (P := P) (w := w) (base := base) T
  have G_check_room_0 := ok_check_room_0 (P := P) (w := w) (base := base) T G_Below_init G_sinks_0
  have G_Net_through_0 := ok_Net_through_0 (P := P) (w := w) (base := base) T G_Net_known_0 G_Net_set_place_0 G_check_move_0 G_check_room_0
  have G_Net_store_0 := ok_Net_store_0 (P := P) (w := w) (base := base) T G_Net_known_0 G_Net_set_place_0 G_check_move_0 G_check_room_0
  have G_Net_want_0 := ok_Net_want_0 (P := P) (w := w) (base := base) T G_NoHour_init G_Net_known_0 G_Net_set_place_0 G_check_move_0
  have G_check_rising_0 := ok_check_rising_0 (P := P) (w := w) (base := base) T G_Falls_init G_sinks_0
  have G_check_rungs_0 := ok_check_rungs_0 (P := P) (w := w) (base := base) T G_BadRungs_init G_check_move_0 G_check_rising_0 G_check_room_0
  have G_Net_set_road_0 := ok_Net_set_road_0 (P := P) (w := w) (base := base) T G_BadTakes_init G_check_move_0 G_check_room_0 G_check_rungs_0
  have G_Net_road_0 := ok_Net_road_0 (P := P) (w := w) (base := base) T G_TooMany_init G_Net_fresh_0 G_Net_known_0 G_Net_set_road_0
  have G_Lmade_0 := ok_Lmade_0 (P := P) (w := w) (base := base) T G_Net_UinitU_0 G_Net_place_0 G_Net_road_0 G_Net_store_0 G_Net_through_0 G_Net_want_0
  have G_Lcopy_0 := ok_Lcopy_0 (P := P) (w := w) (base := base) T
  have G_Lpick_0 := ok_Lpick_0 (P := P) (w := w) (base := base) T G_Ldraw_0
  have G_Lchanged_0 := ok_Lchanged_0 (P := P) (w := w) (base := base) T G_Lcopy_0 G_Ldraw_0 G_Lpick_0
  have G_Lmove_word_0 := ok_Lmove_word_0 (P := P) (w := w) (base := base) T
  have G_Lroad_row_0 := ok_Lroad_row_0 (P := P) (w := w) (base := base) T G_Lmove_word_0
  have G_Lrows_0 := ok_Lrows_0 (P := P) (w := w) (base := base) T G_Lmove_word_0 G_Lroad_row_0
  have G_Ltext_0 := ok_Ltext_0 (P := P) (w := w) (base := base) T G_Lrows_0
  have G_Net_place_names_0 := ok_Net_place_names_0 (P := P) (w := w) (base := base) T
  have G_Net_place_told_0 := ok_Net_place_told_0 (P := P) (w := w) (base := base) T G_Net_known_0
  have G_written_0 := ok_written_0 (P := P) (w := w) (base := base) T
  have G_room_word_0 := ok_room_word_0 (P := P) (w := w) (base := base) T G_written_0
  have G_place_rows_0 := ok_place_rows_0 (P := P) (w := w) (base := base) T G_Net_place_told_0 G_room_word_0 G_written_0
  have G_Net_road_names_0 := ok_Net_road_names_0 (P := P) (w := w) (base := base) T
  have G_Net_road_told_0 := ok_Net_road_told_0 (P := P) (w := w) (base := base) T G_NoRoad_init
  have G_road_row_0 := ok_road_row_0 (P := P) (w := w) (base := base) T G_Net_road_told_0 G_room_word_0 G_written_0
  have G_text_of_0 := ok_text_of_0 (P := P) (w := w) (base := base) T G_Net_place_names_0 G_Net_road_names_0 G_place_rows_0 G_road_row_0
  have G_Net_UeqU_0 := ok_Net_UeqU_0 (P := P) (w := w) (base := base) T G_text_of_0
  have G_Net_twin_0 := ok_Net_twin_0 (P := P) (w := w) (base := base) T G_Net_UinitU_0
  have G_Net_UstrU_0 := ok_Net_UstrU_0 (P := P) (w := w) (base := base) T G_text_of_0
  exact fn_law (fk_law T G_Net_UeqU_0 G_Net_UstrU_0 G_Net_twin_0 G_Lbare_0 G_Lchanged_0 G_Lcopy_0 G_Lfeed_0 G_Lmade_0 G_Ltext_0 F)
end Prf
section
open PySem PySem.W PySem.Calls PyProof.Rows
theorem Prf.cw_pre (LH : ∀ ns : List Int, ns.length ≤ 63 → Prf.w_law [.kl (ns.map .int)] [] (fun d _ => d = .bl true) (fun _ _ => False)) : PySem.Challenge.rw_dialweir_k83_nets_unlike_in_one_thing.Holds := by
  w_on; o_law
  refine HandSHeadRun.head_any (r := OpenLaw.row PySem.Challenge.rw_dialweir_k83_nets_unlike_in_one_thing) (q := view (OpenLaw.row PySem.Challenge.rw_dialweir_k83_nets_unlike_in_one_thing).prog [86]) (H := Prf.hk) (ob := Prf.ob) (M := 12000) (loose := Prf.looseL) (d := HandSHeadRun.topDef (OpenLaw.row PySem.Challenge.rw_dialweir_k83_nets_unlike_in_one_thing).prog 86) (kwd := []) Prf.ob_eq
    (by kernel_rfl) (fun s => by kernel_rfl) Prf.run (by kernel_rfl) (by kernel_rfl) (by kernel_rfl) (by rfl) (by first | assumption | decide +kernel) (by decide +kernel) ⟨rfl, rfl, rfl, rfl, rfl, by decide +kernel⟩ ?hw ?hc
  case hw => w_witness2
  case hc =>
    refine L2.walk_ofE (l := PySem.Challenge.rw_dialweir_k83_nets_unlike_in_one_thing) (n := 63) (k := 12) (x := "_law_script") (CX := L2.CX0) rfl (by decide) (by kernel_rfl) ⟨rfl, by decide, by decide⟩ ?F (fun _ _ _ _ z => z)
    intro w mg fa h Y G hmg0
    obtain ⟨K, KX, c⟩ := Y
    have hmg : mg ("law" : PySem.Str) = some (.ref fa) := by
      have e : (HandSHeadRun.topDef (OpenLaw.row PySem.Challenge.rw_dialweir_k83_nets_unlike_in_one_thing).prog 86).name = ("law" : PySem.Str) := by kernel_rfl
      rw [← e]
      exact hmg0
    have T := Prf.tx_mk KX G c
    have e := hmg.symm.trans T.g_law
    cases e
    obtain ⟨fd, F⟩ := T.d_law
    refine ⟨K, fd, fun vs H Q _ => MV.spM K 1 Prf.w_law vs H Q L2.E0, KX, fun s v => L2.FunD.bindsA (ps := ["_law_script"]) F (fun _ _ _ _ _ _ us hl => match us, hl with | [_], _ => rfl) s [v] rfl, fun H a ns hl hO hS => MV.law_st LH H a ns hl hO hS, fun base _ _ => ?_⟩
    exact Prf.all_ok T base F

end
namespace MV
open PySem L2
theorem atI_0 {α : Type} {l : List α} : atI l 0 = l[0]? := by cases l <;> simp [atI, ixN]
theorem atI_n {α : Type} {l : List α} {n : Nat} : atI l (n : Int) = l[n]? := by
  unfold atI ixN
  rw [if_pos (by omega)]
  by_cases h : (n : Int) < l.length
  · rw [if_pos h]; simp
  · rw [if_neg h]; simp; omega
theorem atI_1 {α : Type} {l : List α} : atI l 1 = l[1]? := atI_n (n := 1)
theorem atI_i {α : Type} {l : List α} {i : Int} (h0 : 0 ≤ i) : atI l i = l[i.toNat]? := by
  obtain ⟨n, rfl⟩ := Int.eq_ofNat_of_zero_le h0
  rw [atI_n]; simp
theorem ixN_i {n : Nat} {i : Int} (h0 : 0 ≤ i) (h : i < n) : ixN n i = some i.toNat := by
  unfold ixN
  rw [if_pos h0, if_pos h]
theorem mul_ok {i j : Int} (h : j.natAbs < 2 ^ 64) : okMul i j := .inl (.inr (by omega))
theorem mul_ok' {i j : Int} (h : i.natAbs < 2 ^ 64) : okMul i j := .inl (.inl (by omega))
theorem div_ok {j : Int} (h : j ≠ 0) (hb : j.natAbs < 2 ^ 64) : okDiv j := ⟨h, Nat.lt_of_lt_of_le (Nat.log2_lt (by omega) |>.mpr hb) (by decide)⟩
theorem fmod_in (a : Int) {m : Int} (h : 0 < m) : 0 ≤ a.fmod m ∧ a.fmod m < m := ⟨Int.fmod_nonneg_of_pos a h, Int.fmod_lt_of_pos a h⟩
/-- the objects of M, but those of S, stand in M' -/
structure Kp (S : List Nat) (M M' : Mem) : Prop where
  len : M.length ≤ M'.length
  at_ : ∀ i o, i ∉ S → M[i]? = some o → M'[i]? = some o
theorem Kp.refl {S : List Nat} {M : Mem} : Kp S M M := ⟨Nat.le_refl _, fun _ _ _ h => h⟩
theorem Kp.trans {S : List Nat} {M M1 M2 : Mem} (a : Kp S M M1) (b : Kp S M1 M2) : Kp S M M2 := ⟨Nat.le_trans a.len b.len, fun i o n h => b.at_ i o n (a.at_ i o n h)⟩
theorem Kp.app {S : List Nat} {M l : Mem} : Kp S M (M ++ l) := ⟨by simp, fun i o _ h => by
  have hl : i < M.length := (List.getElem?_eq_some_iff.mp h).1
  rw [List.getElem?_append_left hl]; exact h⟩
theorem Kp.set {S : List Nat} {M : Mem} {n : Nat} {o : O} (h : n ∈ S) : Kp S M (M.set n o) := ⟨by simp, fun i o' hi h' => by
  have hne : n ≠ i := fun e => hi (e ▸ h)
  rw [List.getElem?_set_ne hne]; exact h'⟩
theorem Kp.setNew {S : List Nat} {M0 M : Mem} {n : Nat} {o : O} (k : Kp S M0 M) (h : M0.length ≤ n) : Kp S M0 (M.set n o) := ⟨by simpa using k.len, fun i o' hi h' => by
  have hl : i < M0.length := (List.getElem?_eq_some_iff.mp h').1
  rw [List.getElem?_set_ne (by omega)]; exact k.at_ i o' hi h'⟩
theorem Kp.weak {S T : List Nat} {M M' : Mem} (k : Kp S M M') (h : ∀ i ∈ S, i ∈ T) : Kp T M M' := ⟨k.len, fun i o n q => k.at_ i o (fun m => n (h i m)) q⟩
theorem mlt {M : Mem} {i : Nat} {o : O} (h : M[i]? = some o) : i < M.length := (List.getElem?_eq_some_iff.mp h).1
theorem msame {M : Mem} {i : Nat} {o o' : O} (h : M[i]? = some o) : (M.set i o')[i]? = some o' := by
  have := mlt h; simp [this]
theorem mnew {M : Mem} {o : O} : (M ++ [o])[M.length]? = some o := by simp
theorem for_inv {guard : Mem → Prop} {T : Tg} {b : MS} {E : Nd} (I : List D → Ev → Mem → Prop) (hg : ∀ l ρ M, I l ρ M → guard M) (hn : ∀ ρ M, I [] ρ M → E.nx ρ M)
    (hs : ∀ d l ρ M (K : Ev → Mem → Prop), I (d :: l) ρ M → (∀ ρ2 M2, I l ρ2 M2 → K ρ2 M2) → T.mg d ρ M fun ρ1 => b ⟨K, E.rt, E.nx, K, E.ex⟩ ρ1 M) :
    ∀ {items : List D} {ρ : Ev} {M : Mem}, I items ρ M → mForL guard T b E items ρ M
  | [], ρ, M, h => ⟨hg _ _ _ h, hn _ _ h⟩
  | d :: l, ρ, M, h => ⟨hg _ _ _ h, hs d l ρ M _ h fun ρ2 M2 q => for_inv I hg hn hs q⟩
theorem lc_inv {guard : Mem → Prop} {i : Nat} {me : ME} {ρ : Ev} {n : Nat} {Q : Mem → Prop} (J : List D → List D → Mem → Prop) (hg : ∀ l acc M, J l acc M → guard M)
    (hs : ∀ d l acc M (K : DK), M[n]? = some (.lst acc) → J (d :: l) acc M → (∀ y M4, M4[n]? = some (.lst acc) → J l (acc ++ [y]) (M4.set n (.lst (acc ++ [y]))) → K y M4) → me (ρ.set i (some d)) M K noX)
    (hq : ∀ acc M, M[n]? = some (.lst acc) → J [] acc M → Q M) :
    ∀ (items acc : List D) (M : Mem), M[n]? = some (.lst acc) → acc.length + items.length < 16000000 → J items acc M → mLcL guard (.nm i) mYes me ρ n Q items M
  | [], acc, M, hn, _, h => ⟨hg _ _ _ h, hq acc M hn h⟩
  | d :: l, acc, M, hn, hl, h => ⟨hg _ _ _ h, hs d l acc M _ hn h fun y M4 h4 j => by
      show (match M4[n]? with
        | some (.lst acc) => acc.length < 16000000 ∧ mLcL guard (.nm i) mYes me ρ n Q l (M4.set n (.lst (acc ++ [y])))
        | _ => False)
      rw [h4]
      refine ⟨by simp at hl; omega, ?_⟩
      exact lc_inv J hg hs hq l (acc ++ [y]) _ (msame h4) (by simp at hl ⊢; omega) j⟩
mutual
theorem see_fine {M : Mem} : ∀ {k : Nat} {d : D}, fine k d = true → See M k d (toPy d)
  | k, .non, _ => by simpa only [toPy] using See.non k
  | k, .bl b, _ => by simpa only [toPy] using See.bl k b
  | k, .int b, _ => by simpa only [toPy] using See.int k b
  | k, .str b, h => by
    simp only [toPy]
    exact .str k (by cases k <;> simpa [fine] using h)
  | k + 1, .tup ds, h => by
    simp only [toPy]
    exact .tup (see_fineL (by simpa [fine] using h))
  | 0, .tup ds, h => by simp [fine] at h
  | k, .ref n, h => by cases k <;> simp [fine] at h
  | k, .ty n, h => by cases k <;> simp [fine] at h
  | k, .g n, h => by cases k <;> simp [fine] at h
  | k, .exn .., h => by cases k <;> simp [fine] at h
  | k, .kl n, h => by cases k <;> simp [fine] at h
theorem see_fineL {M : Mem} : ∀ {k : Nat} {ds : List D}, (∀ d ∈ ds, fine k d = true) → SeeL M k ds (toPyL ds)
  | _, [], _ => by simpa only [toPyL] using SeeL.nil
  | k, d :: ds, h => by
    simp only [toPyL]
    exact .cons (see_fine (h d (by simp))) (see_fineL fun e he => h e (by simp [he]))
end
mutual
theorem See.lay {M : Mem} : ∀ {k : Nat} {d : D} {p : PyData}, See M k d p → p.canLay0 = true
  | _, _, _, .non _ => by simp [PyData.canLay0]
  | _, _, _, .bl _ _ => by simp [PyData.canLay0]
  | _, _, _, .int _ _ => by simp [PyData.canLay0]
  | _, _, _, .str _ f => by simp only [PyData.canLay0]; exact f
  | _, _, _, .tup l => by simp only [PyData.canLay0]; exact l.lay
  | _, _, _, .lst _ l => by simp only [PyData.canLay0]; exact l.lay
theorem SeeL.lay {M : Mem} : ∀ {k : Nat} {d : List D} {p : List PyData}, SeeL M k d p → PyData.canLayAll0 p = true
  | _, _, _, .nil => by simp [PyData.canLayAll0]
  | _, _, _, .cons a b => by simp [PyData.canLayAll0, a.lay, b.lay]
end
theorem eqB_same {x y : D} {M : Mem} {p : PyData} {k : Bool → Prop} (h1 : See M 20 x p) (h2 : See M 20 y p) (q : k true) : oEqB x y M k := by
  unfold oEqB
  split
  · cases h1; cases h2; simpa using q
  · cases h1; cases h2; simpa using q
  · exact ⟨p, p, h1, h2, by rw [PySem.SeqAt.eqv_refl p h1.lay]; exact q⟩
theorem ne_same {x y : D} {M : Mem} {p : PyData} {Q : DK} (h1 : See M 20 x p) (h2 : See M 20 y p) (q : Q (.bl false) M) : oNe x y M Q := eqB_same h1 h2 q
end MV
namespace MV
open PySem L2
section
variable {a b : MS} {E : Nd} {ρ : Ev} {M : Mem} {Q : DK} {X : XM} {m ma mb mc : ME} {t u : MT} {QB : Bool → Mem → Prop} {mr : MA} {QA' : List D → Mem → Prop} {o : OP} {ou : OU} {oa : OA} {i j : Nat} {d : D}
theorem x_seq (h : a ⟨fun ρ' M' => b E ρ' M', E.rt, E.bk, E.ct, E.ex⟩ ρ M) : mSeq a b E ρ M := h
theorem x_set (h : m ρ M (fun d M1 => E.nx (ρ.set i (some d)) M1) (fun x M1 => E.ex x ρ M1)) : mSet i m E ρ M := h
theorem x_ret (h : m ρ M E.rt (fun x M1 => E.ex x ρ M1)) : mRet m E ρ M := h
theorem x_retN (h : E.rt .non M) : mRetN E ρ M := h
theorem x_next (h : E.nx ρ M) : mNext E ρ M := h
theorem x_drop (h : m ρ M (fun _ M1 => E.nx ρ M1) (fun x M1 => E.ex x ρ M1)) : mDrop m E ρ M := h
theorem x_ifS (h : t ρ M (fun k M1 => if k = true then a E ρ M1 else b E ρ M1) (fun x M1 => E.ex x ρ M1)) : mIfS t a b E ρ M := h
theorem x_asg {T : Tg} (h : m ρ M (fun d M1 => T.mg d ρ M1 fun ρ' => E.nx ρ' M1) (fun x M1 => E.ex x ρ M1)) : mAsg m T E ρ M := h
theorem x_setIx {mv mo mi : ME} (h : mv ρ M (fun v M1 => mo ρ M1 (fun o M2 => mi ρ M2 (fun i M3 => oSetIx o i v M3 fun M4 => E.nx ρ M4) (fun x M3 => E.ex x ρ M3)) (fun x M2 => E.ex x ρ M2)) (fun x M1 => E.ex x ρ M1)) : mSetIx mv mo mi E ρ M := h
theorem x_for {mi : MI} {T : Tg} (h : mi ρ M (fun items guard M1 => mForL guard T a E items ρ M1) (fun x M1 => E.ex x ρ M1)) : mFor mi T a E ρ M := h
theorem x_lc {mi : MI} {T : Tg} {vs : List Nat} (h : mi ρ M (fun items guard M1 => mLcL guard T t m (wipeE ρ vs) M1.length (fun M2 => Q (.ref M1.length) M2) items (M1 ++ [.lst []])) X) : mLc mi T t m vs ρ M Q X := h
theorem x_var (e : ρ[i]? = some (some d)) (h : Q d M) : mVar i ρ M Q X := by unfold mVar; rw [e]; exact h
theorem x_c (h : Q d M) : mC d ρ M Q X := h
theorem x_op (h : ma ρ M (fun x M1 => mb ρ M1 (fun y M2 => o x y M2 Q) X) X) : mOp o ma mb ρ M Q X := h
theorem x_un (h : ma ρ M (fun x M1 => ou x M1 Q) X) : mUn ou ma ρ M Q X := h
theorem x_cb (h : mr ρ M (fun xs M1 => oa xs M1 Q) X) : mCB oa mr ρ M Q X := h
theorem x_nil (h : QA' [] M) : mNil ρ M QA' X := h
theorem x_cons (h : ma ρ M (fun x M1 => mr ρ M1 (fun xs M2 => QA' (x :: xs) M2) X) X) : mCons ma mr ρ M QA' X := h
theorem x_b (h : ma ρ M (fun x M1 => match x with | .bl k => QB k M1 | _ => False) X) : mB ma ρ M QB X := h
theorem x_tru (h : ma ρ M (fun x M1 => tru x M1 QB) X) : mTru ma ρ M QB X := h
theorem x_and (h : t ρ M (fun k M1 => if k = true then u ρ M1 QB X else QB false M1) X) : mAnd t u ρ M QB X := h
theorem x_or (h : t ρ M (fun k M1 => if k = true then QB true M1 else u ρ M1 QB X) X) : mOr t u ρ M QB X := h
theorem x_not (h : t ρ M (fun k M1 => QB (!k) M1) X) : mNot t ρ M QB X := h
theorem x_yes (h : QB true M) : mYes ρ M QB X := h
theorem x_ifE (h : t ρ M (fun k M1 => if k = true then ma ρ M1 Q X else mb ρ M1 Q X) X) : mIf t ma mb ρ M Q X := h
theorem x_call {w : WF} {n k : Nat} {gD : List D → List D → List D} {ms : MA2} (h : ms ρ M (fun ds es M1 => (ds.length = n ∧ es.length = k) ∧ w (gD ds es) M1 Q X) X) : mCall w n k gD ms ρ M Q X := h
theorem x_argsP {k : List D → List D → Mem → Prop} (h : mr ρ M (fun ds M1 => k ds [] M1) X) : mArgsP mr ρ M k X := h
theorem x_args0 {k : List D → List D → Mem → Prop} (h : k [] [] M) : mArgs0 ρ M k X := h
theorem x_len {α β : Type} {ds : List α} {es : List β} {n k : Nat} {P : Prop} (h1 : ds.length = n) (h2 : es.length = k) (h : P) : (ds.length = n ∧ es.length = k) ∧ P := ⟨⟨h1, h2⟩, h⟩
theorem x_bm {T : String} {r : OM} (h : ma ρ M (fun x M1 => isT T x M1 ∧ mr ρ M1 (fun xs M2 => r x xs M2 Q) X) X) : mBM T r ma mr ρ M Q X := h
theorem x_isL {n : Nat} {ds : List D} {P : Prop} (h : M[n]? = some (.lst ds)) (q : P) : isT "list" (.ref n) M ∧ P := ⟨by simp [isT, h], q⟩
def iseqK (k : List D → (Mem → Prop) → Mem → Prop) : DK := fun x M1 => match x with
  | .tup ds => k ds (fun _ => True) M1
  | .str z => k (z.cps.toList.map fun c => .str ⟨#[c]⟩) (fun _ => True) M1
  | .ref n => match M1[n]? with
    | some (.lst ds) => k ds (fun M => M[n]? = some (.lst ds)) M1
    | some (.frz ds) => k ds (fun M => M[n]? = some (.frz ds)) M1
    | some (.dct true kvs) => k (kvs.map fun kv => kD kv.1) (fun M => M[n]? = some (.dct true kvs)) M1
    | _ => False
  | _ => False
theorem x_iseq {me : ME} {k : List D → (Mem → Prop) → Mem → Prop} (h : me ρ M (iseqK k) X) : mISeq me ρ M k X := h
theorem iseqL {k : List D → (Mem → Prop) → Mem → Prop} {n : Nat} {ds : List D} (hd : M[n]? = some (.lst ds)) (h : k ds (fun M => M[n]? = some (.lst ds)) M) : iseqK k (.ref n) M := by
  unfold iseqK; dsimp only; rw [hd]; exact h
theorem x_iseqV {k : List D → (Mem → Prop) → Mem → Prop} {n : Nat} {ds : List D} (e : ρ[i]? = some (some (.ref n))) (hd : M[n]? = some (.lst ds)) (h : k ds (fun M => M[n]? = some (.lst ds)) M) : mISeq (mVar i) ρ M k X := by
  unfold mISeq mVar; rw [e]; dsimp only; rw [hd]; exact h
theorem x_rng {k : List D → (Mem → Prop) → Mem → Prop} (h : mr ρ M (fun ds M1 => match ds with | [.int j] => (-(2 ^ 62) ≤ j ∧ j < 2 ^ 62) ∧ k (rangeD 0 j.toNat) (fun _ => True) M1 | _ => False) X) : mIRng1 mr ρ M k X := h
theorem x_enT {k : List D → (Mem → Prop) → Mem → Prop} {ds : List D} (e : ρ[i]? = some (some (.tup ds))) (h : k (enumD ds) (fun _ => True) M) : mIEnumT (mCons (mVar i) mNil) ρ M k X := by
  simp only [mIEnumT, mCons, mNil, mVar, e]; exact h
theorem x_sl {ml mh : MO} (h : ma ρ M (fun x M1 => ml ρ M1 (fun l M2 => mh ρ M2 (fun h M3 => oSl x l h M3 Q) X) X) X) : mSl ma ml mh ρ M Q X := h
theorem x_noP {k : Option Int → Mem → Prop} (h : k none M) : mNoPart ρ M k X := h
theorem x_part {k : Option Int → Mem → Prop} (h : m ρ M (fun x M1 => match x with | .int i => k (some i) M1 | _ => False) X) : mPart m ρ M k X := h
theorem o_slK {ds : List D} {lo hi : Option Int} (h : Q (.ref M.length) (M ++ [.lst (cutD ds lo hi)])) : oSl (.kl ds) lo hi M Q := h
theorem o_slL {ds : List D} {lo hi : Option Int} {p : Nat} (el : M[p]? = some (.lst ds)) (h : Q (.ref M.length) (M ++ [.lst (cutD ds lo hi)])) : oSl (.ref p) lo hi M Q := by unfold oSl; dsimp only; rw [el]; exact h
theorem o_slT {ds : List D} {lo hi : Option Int} (h : Q (.tup (cutD ds lo hi)) M) : oSl (.tup ds) lo hi M Q := h
variable {x y : Int} {p : Nat} {ds es : List D} {s z : Str} {v : D}
theorem o_tup (hl : ds.length ≤ 1000) (h : Q (.tup ds) M) : oTup ds M Q := ⟨hl, h⟩
theorem o_lst (hl : ds.length ≤ 1000) (h : Q (.ref M.length) (M ++ [.lst ds])) : oLst ds M Q := ⟨hl, h⟩
theorem o_add (h : Q (.int (x + y)) M) : oAdd (.int x) (.int y) M Q := h
theorem o_addS (hl : s.length + z.length ≤ 16000000) (h : Q (.str (s ++ z)) M) : oAdd (.str s) (.str z) M Q := ⟨hl, h⟩
theorem o_addT (hl : ds.length + es.length ≤ 16000000) (h : Q (.tup (ds ++ es)) M) : oAdd (.tup ds) (.tup es) M Q := ⟨hl, h⟩
theorem o_sub (h : Q (.int (x - y)) M) : oSub (.int x) (.int y) M Q := h
theorem o_mul (hk : okMul x y) (h : Q (.int (x * y)) M) : oMul (.int x) (.int y) M Q := ⟨hk, h⟩
theorem o_div (hk : okDiv y) (h : Q (.int (x.fdiv y)) M) : oDiv (.int x) (.int y) M Q := ⟨hk, h⟩
theorem o_mod (hk : y ≠ 0) (h : Q (.int (x.fmod y)) M) : oMod (.int x) (.int y) M Q := ⟨hk, h⟩
theorem o_pow (hk : CPow x y) (h : Q (.int (x ^ y.toNat)) M) : oPow (.int x) (.int y) M Q := ⟨hk, h⟩
theorem o_neg (h : Q (.int (-x)) M) : oNeg (.int x) M Q := h
theorem o_lt (h : Q (.bl (decide (x < y))) M) : oLt (.int x) (.int y) M Q := h
theorem o_le (h : Q (.bl (decide (x ≤ y))) M) : oLe (.int x) (.int y) M Q := h
theorem o_gt (h : Q (.bl (decide (y < x))) M) : oGt (.int x) (.int y) M Q := h
theorem o_ge (h : Q (.bl (decide (y ≤ x))) M) : oGe (.int x) (.int y) M Q := h
theorem o_eqI (h : Q (.bl (decide (x = y))) M) : oEq (.int x) (.int y) M Q := h
theorem o_neI (h : Q (.bl (!decide (x = y))) M) : oNe (.int x) (.int y) M Q := h
theorem o_min (h : Q (.int (if y < x then y else x)) M) : oMin2 [.int x, .int y] M Q := h
theorem o_max (h : Q (.int (if y > x then y else x)) M) : oMax2 [.int x, .int y] M Q := h
theorem o_intB {k : Bool} (h : Q (.int (if k then 1 else 0)) M) : oInt1 [.bl k] M Q := h
theorem o_ixT (e : atI ds x = some v) (h : Q v M) : oIx (.tup ds) (.int x) M Q := by unfold oIx; dsimp only; rw [e]; exact h
theorem o_ixL (el : M[p]? = some (.lst ds)) (e : atI ds x = some v) (h : Q v M) : oIx (.ref p) (.int x) M Q := by unfold oIx; dsimp only; rw [el]; dsimp only; rw [e]; exact h
theorem o_ixS {c : Nat} (hl : z.length ≤ 16000000) (e : atI z.cps.toList x = some c) (h : Q (.str ⟨#[c]⟩) M) : oIx (.str z) (.int x) M Q := ⟨hl, by rw [e]; exact h⟩
theorem o_lenT (h : Q (.int ds.length) M) : oLen [.tup ds] M Q := h
theorem o_lenL (el : M[p]? = some (.lst ds)) (h : Q (.int ds.length) M) : oLen [.ref p] M Q := by unfold oLen; dsimp only; rw [el]; exact h
theorem o_listL (el : M[p]? = some (.lst ds)) (h : Q (.ref M.length) (M ++ [.lst ds])) : oList1 [.ref p] M Q := by unfold oList1; dsimp only; rw [el]; exact h
theorem o_tupL (el : M[p]? = some (.lst ds)) (h : Q (.tup ds) M) : oTuple1 [.ref p] M Q := by unfold oTuple1; dsimp only; rw [el]; exact h
theorem o_setL {N : Mem → Prop} {j : Nat} (el : M[p]? = some (.lst ds)) (e : ixN ds.length x = some j) (h : N (M.set p (.lst (ds.set j v)))) : oSetIx (.ref p) (.int x) v M N := by unfold oSetIx; dsimp only; rw [el]; dsimp only; rw [e]; exact h
theorem o_app (el : M[p]? = some (.lst ds)) (hl : ds.length < 16000000) (h : Q .non (M.set p (.lst (ds ++ [v])))) : omAppend (.ref p) [v] M Q := by unfold omAppend; dsimp only; rw [el]; exact ⟨hl, h⟩
theorem o_isL {T : String} (el : M[p]? = some (.lst ds)) (hT : (["int", "str", "tuple", "list", "bool", "dict"].contains T = true)) (h : Q (.bl (subTy "list" T)) M) : oIsi [.ref p, .ty T] M Q := by simp only [oIsi, tyD, el]; exact ⟨hT, h⟩
theorem o_isT {T : String} (hT : (["int", "str", "tuple", "list", "bool", "dict"].contains T = true)) (h : Q (.bl (subTy "tuple" T)) M) : oIsi [.tup ds, .ty T] M Q := ⟨hT, h⟩
theorem o_isLL (el : M[p]? = some (.lst ds)) (h : Q (.bl true) M) : oIsi [.ref p, .ty "list"] M Q := o_isL el (by decide) h
theorem o_isTT (h : Q (.bl true) M) : oIsi [.tup ds, .ty "tuple"] M Q := o_isT (by decide) h
theorem o_truB {k : Bool} (h : QB k M) : tru (.bl k) M QB := h
theorem if_d {p : Prop} [Decidable p] {A B : Prop} (h1 : p → A) (h2 : ¬ p → B) : if decide p = true then A else B := by
  by_cases h : p
  · rw [if_pos (by simpa using h)]; exact h1 h
  · rw [if_neg (by simpa using h)]; exact h2 h
theorem if_n {p : Prop} [Decidable p] {A B : Prop} (h1 : ¬ p → A) (h2 : p → B) : if (!decide p) = true then A else B := by
  by_cases h : p
  · rw [if_neg (by simpa using h)]; exact h2 h
  · rw [if_pos (by simpa using h)]; exact h1 h
theorem if_nt {A B : Prop} (h : B) : if (!true) = true then A else B := by rw [if_neg (by simp)]; exact h
theorem if_nf {A B : Prop} (h : A) : if (!false) = true then A else B := by rw [if_pos (by simp)]; exact h
theorem if_t {A B : Prop} (h : A) : if true = true then A else B := by rw [if_pos rfl]; exact h
theorem if_f {A B : Prop} (h : B) : if false = true then A else B := by rw [if_neg (by simp)]; exact h
theorem x_nm {N : Ev → Prop} {i : Nat} {d : D} {ρ : Ev} {M : Mem} (h : N (ρ.set i (some d))) : (Tg.nm i).mg d ρ M N := h
theorem x_tp {N : Ev → Prop} {n : Nat} {l : Tgs} {ds : List D} {ρ : Ev} {M : Mem} (hl : ds.length = n) (h : l.mg ds ρ M N) : (Tg.tp n l).mg (.tup ds) ρ M N := ⟨hl, h⟩
theorem x_tc {N : Ev → Prop} {t : Tg} {l : Tgs} {d : D} {r : List D} {ρ : Ev} {M : Mem} (h : t.mg d ρ M fun ρ' => l.mg r ρ' M N) : (Tgs.cons t l).mg (d :: r) ρ M N := h
theorem x_tn {N : Ev → Prop} {ρ : Ev} {M : Mem} (h : N ρ) : Tgs.nil.mg [] ρ M N := h
theorem for_ix {guard : Mem → Prop} {T : Tg} {b : MS} {E : Nd} {items : List D} (I : Nat → Ev → Mem → Prop) (hg : ∀ k ρ M, I k ρ M → guard M) (hn : ∀ ρ M, I items.length ρ M → E.nx ρ M)
    (hs : ∀ k d ρ M (K : Ev → Mem → Prop), items[k]? = some d → I k ρ M → (∀ ρ2 M2, I (k + 1) ρ2 M2 → K ρ2 M2) → T.mg d ρ M fun ρ1 => b ⟨K, E.rt, E.nx, K, E.ex⟩ ρ1 M)
    {ρ : Ev} {M : Mem} (h0 : I 0 ρ M) : mForL guard T b E items ρ M := by
  refine for_inv (fun l ρ M => ∃ k, l = items.drop k ∧ k ≤ items.length ∧ I k ρ M) ?_ ?_ ?_ ⟨0, rfl, Nat.zero_le _, h0⟩
  · rintro l ρ M ⟨k, _, _, h⟩; exact hg k ρ M h
  · rintro ρ M ⟨k, e, hk, h⟩
    have : k = items.length := by
      have := congrArg List.length e
      simp at this; omega
    subst this; exact hn ρ M h
  · rintro d l ρ M K ⟨k, e, hk, h⟩ q
    have hlt : k < items.length := by
      have := congrArg List.length e
      simp at this; omega
    rw [List.drop_eq_getElem_cons hlt] at e
    injection e with e1 e2
    exact hs k d ρ M K (by rw [List.getElem?_eq_getElem hlt, e1]) h fun ρ2 M2 i => q ρ2 M2 ⟨k + 1, e2, hlt, i⟩
theorem lc_ix {guard : Mem → Prop} {i : Nat} {me : ME} {ρ : Ev} {n : Nat} {Q : Mem → Prop} {items : List D} {M : Mem} (J : Nat → List D → Mem → Prop) (hg : ∀ k acc M, J k acc M → guard M)
    (hs : ∀ k d acc M (K : DK), items[k]? = some d → M[n]? = some (.lst acc) → J k acc M → (∀ y M4, M4[n]? = some (.lst acc) → J (k + 1) (acc ++ [y]) (M4.set n (.lst (acc ++ [y]))) → K y M4) → me (ρ.set i (some d)) M K noX)
    (hq : ∀ acc M, M[n]? = some (.lst acc) → J items.length acc M → Q M) (hl : items.length < 16000000) (hn : M[n]? = some (.lst [])) (h0 : J 0 [] M) : mLcL guard (.nm i) mYes me ρ n Q items M := by
  refine lc_inv (fun l acc M => ∃ k, l = items.drop k ∧ k ≤ items.length ∧ J k acc M) ?_ ?_ ?_ items [] M hn (by simpa using hl) ⟨0, rfl, Nat.zero_le _, h0⟩
  · rintro l acc M ⟨k, _, _, h⟩; exact hg k acc M h
  · rintro d l acc M K hM ⟨k, e, hk, h⟩ q
    have hlt : k < items.length := by
      have := congrArg List.length e
      simp at this; omega
    rw [List.drop_eq_getElem_cons hlt] at e
    injection e with e1 e2
    exact hs k d acc M K (by rw [List.getElem?_eq_getElem hlt, e1]) hM h fun y M4 h4 j => q y M4 h4 ⟨k + 1, e2, hlt, j⟩
  · rintro acc M hM ⟨k, e, hk, h⟩
    have : k = items.length := by
      have := congrArg List.length e
      simp at this; omega
    subst this; exact hq acc M hM h
theorem rng_len {n : Nat} : (rangeD 0 n).length = n := by simp [rangeD]
theorem rng_at {n k : Nat} {d : D} (h : (rangeD 0 n)[k]? = some d) : d = .int k ∧ k < n := by
  simp [rangeD, List.getElem?_map, List.getElem?_range] at h
  by_cases hk : k < n
  · simp [hk] at h; exact ⟨h.symm, hk⟩
  · simp [hk] at h
theorem x_join {a b : MS} {E : Nd} {ρ : Ev} {M : Mem} (P : Ev → Mem → Prop) (h : ∀ K, (∀ ρ' M', P ρ' M' → K ρ' M') → a ⟨K, E.rt, E.bk, E.ct, E.ex⟩ ρ M) (h2 : ∀ ρ' M', P ρ' M' → b E ρ' M') : mSeq a b E ρ M := h _ h2
end
end MV
namespace MV
open PySem L2
/-- an exception of the program: its class, its one field, its word -/
def xE (c f w : Str) (a : D) : Exn := ⟨c, [f, "word"], [a, .str w]⟩
/-- the fields of a net -/
def NF (h s t p r : D) : List (Str × D) := [("hours", h), ("s_box", s), ("t_box", t), ("places", p), ("roads", r)]
def noFld (f : Str) : Bool := !(["hours", "s_box", "t_box", "places", "roads"] : List Str).contains f
section
variable {h s t p r y : D}
theorem nf_hours : (NF h s t p r).lookup ("hours" : Str) = some h := by rfl
theorem nf_s : (NF h s t p r).lookup ("s_box" : Str) = some s := by rfl
theorem nf_t : (NF h s t p r).lookup ("t_box" : Str) = some t := by rfl
theorem nf_p : (NF h s t p r).lookup ("places" : Str) = some p := by rfl
theorem nf_r : (NF h s t p r).lookup ("roads" : Str) = some r := by rfl
theorem nf_no {f : Str} (hf : noFld f = true) : (NF h s t p r).lookup f = none := by
  simp only [noFld, List.contains_cons, List.contains_nil, Bool.not_eq_true', Bool.or_eq_false_iff] at hf
  obtain ⟨h1, h2, h3, h4, h5, -⟩ := hf
  simp only [NF, List.lookup, h1, h2, h3, h4, h5]
theorem pf_p : putD "places" y (NF h s t p r) = NF h s t y r := by rfl
theorem pf_r : putD "roads" y (NF h s t p r) = NF h s t p y := by rfl
end
section
variable {a b : MS} {E : Nd} {ρ : Ev} {M : Mem} {Q : DK} {X : XM} {m ma mb mc : ME} {t u : MT} {QB : Bool → Mem → Prop} {mr : MA} {QA' : List D → Mem → Prop} {i j n : Nat} {d : D} {cs : List Str} {f : Str} {fs : List (Str × D)} {c : Str}
theorem x_fldV (e : ρ[i]? = some (some (.ref n))) (h : M[n]? = some (.ins c fs)) (hc : c ∈ cs) (hf : fs.lookup f = some d) (q : Q d M) : mFld cs (mVar i) f ρ M Q X := by
  unfold mFld mVar; rw [e]; dsimp only; rw [h]; dsimp only; rw [hf]; exact ⟨hc, q⟩
theorem x_setFld {mv : ME} (q : mv ρ M (fun y M1 => ma ρ M1 (fun x M2 => match x with
  | .ref n => match M2[n]? with
    | some (.ins c fs) => c ∈ cs ∧ fs.length < 100 ∧ E.nx ρ (M2.set n (.ins c (putD f y fs)))
    | _ => False
  | _ => False) (fun x M2 => E.ex x ρ M2)) (fun x M1 => E.ex x ρ M1)) : mSetFld cs ma mv f E ρ M := q
theorem x_setFldV {mv : ME} {fs' : List (Str × D)} {y : D} (hv : ∀ (Q : DK) X, Q y M → mv ρ M Q X) (e : ρ[i]? = some (some (.ref n))) (h : M[n]? = some (.ins c fs)) (hc : c ∈ cs) (hl : fs.length < 100) (hp : putD f y fs = fs') (q : E.nx ρ (M.set n (.ins c fs'))) : mSetFld cs (mVar i) mv f E ρ M := by
  unfold mSetFld mVar
  refine hv _ _ ?_
  dsimp only
  rw [e]; dsimp only; rw [h]; dsimp only; rw [hp]; exact ⟨hc, hl, q⟩
theorem x_methV {c mn : Str} {w : WF} {n' k : Nat} {gD : List D → List D → List D} {ms : MA2} (e : ρ[i]? = some (some (.ref n))) (h : M[n]? = some (.ins c fs)) (hm : fs.lookup mn = none) (q : ms ρ M (fun ds es M2 => ((D.ref n :: ds).length = n' ∧ es.length = k) ∧ w (gD (.ref n :: ds) es) M2 Q X) X) : mMeth c mn w n' k gD (mVar i) ms ρ M Q X := by
  unfold mMeth mVar; rw [e]; dsimp only; rw [h]; exact ⟨⟨rfl, hm⟩, q⟩
theorem x_make {c : Str} {w : WF} {n' k : Nat} {gD : List D → List D → List D} {ms : MA2} (q : ms ρ M (fun ds es M1 => (ds.length + 1 = n' ∧ es.length = k) ∧ w (gD (.ref M1.length :: ds) es) (M1 ++ [.ins c []]) (fun v M2 => match v with | .non => Q (.ref M1.length) M2 | _ => False) X) X) : mMake c w n' k gD ms ρ M Q X := q
theorem x_argsK {k : List D → List D → Mem → Prop} (h : mr ρ M (fun es M1 => k [] es M1) X) : mArgsK mr ρ M k X := h
theorem x_argsPK {mk : MA} {k : List D → List D → Mem → Prop} (h : mr ρ M (fun ds M1 => mk ρ M1 (fun es M2 => k ds es M2) X) X) : mArgsPK mr mk ρ M k X := h
theorem x_raise {x : Str} {n : Nat} {sp : List (Str × Src)} (h : mr ρ M (fun ds M1 => ds.length = n ∧ E.ex ⟨x, sp.map (·.1), sp.map fun p => p.2.d ds⟩ ρ M1) (fun y M1 => E.ex y ρ M1)) : mRaise x n sp mr E ρ M := h
theorem x_andV (h : ma ρ M (fun x M1 => match x with | .bl k => if k = true then mb ρ M1 Q X else Q (.bl false) M1 | _ => False) X) : mAndV ma mb ρ M Q X := h
theorem x_orV (h : ma ρ M (fun x M1 => match x with | .bl k => if k = true then Q (.bl true) M1 else mb ρ M1 Q X | _ => False) X) : mOrV ma mb ρ M Q X := h
theorem x_chI {x y z : Int} (ha : ∀ Q : DK, Q (.int x) M → ma ρ M Q X) (hb : ∀ Q : DK, Q (.int y) M → mb ρ M Q X) (hc : ∀ Q : DK, Q (.int z) M → mc ρ M Q X) (q : Q (.bl (decide (x ≤ y ∧ y ≤ z))) M) : mChain oLe oLe ma mb mc ρ M Q X := by
  refine ha _ (hb _ ?_)
  show if decide (x ≤ y) = true then mc ρ M (fun w M4 => oLe (.int y) w M4 Q) X else Q (.bl false) M
  by_cases h : x ≤ y
  · rw [if_pos (by simpa using h)]
    refine hc _ ?_
    show Q (.bl (decide (y ≤ z))) M
    simpa [h] using q
  · rw [if_neg (by simpa using h)]
    simpa [h] using q
theorem x_par {k l : Nat} (h : mr ρ M (fun ds M1 => match ds with | [d, e] => E.nx ((ρ.set k (some d)).set l (some e)) M1 | _ => False) (fun x M1 => E.ex x ρ M1)) : mPar k l mr E ρ M := h
theorem x_try {sub : Str → Str → Option Bool} {cl : List MCl} (h : a ⟨E.nx, E.rt, E.bk, E.ct, mCatch sub E cl⟩ ρ M) : mTry sub a cl E ρ M := h
theorem x_rng2 {k : List D → (Mem → Prop) → Mem → Prop} (h : mr ρ M (fun ds M1 => match ds with | [.int i, .int j] => (-(2 ^ 62) ≤ i ∧ i < 2 ^ 62 ∧ -(2 ^ 62) ≤ j ∧ j < 2 ^ 62) ∧ k (rangeD i (j - i).toNat) (fun _ => True) M1 | _ => False) X) : mIRng2 mr ρ M k X := h
theorem x_dict0 (h : Q (.ref M.length) (M ++ [.dct false []])) : mDict0 ρ M Q X := h
variable {x y : D} {p : Nat} {kvs : List (Key × D)} {lk : Bool} {z w : Str} {k : Key}
theorem o_eqS (h : Q (.bl (decide (z = w))) M) : oEq (.str z) (.str w) M Q := h
theorem o_neS (h : Q (.bl (!decide (z = w))) M) : oNe (.str z) (.str w) M Q := h
theorem o_isN (h : Q (.bl (match x with | .non => true | _ => false)) M) : oIs x .non M Q := h
theorem o_isnN (h : Q (.bl (match x with | .non => false | _ => true)) M) : oIsNot x .non M Q := h
theorem o_inS {c : Nat} (h : Q (.bl (decide (c ∈ z.cps.toList))) M) : oIn (.str ⟨#[c]⟩) (.str z) M Q := h
theorem o_ninS {c : Nat} (h : Q (.bl (!decide (c ∈ z.cps.toList))) M) : oNotIn (.str ⟨#[c]⟩) (.str z) M Q := h
theorem o_inD (e : M[p]? = some (.dct lk kvs)) (hk : keyOf x = some k) (h : Q (.bl (dget kvs k).isSome) M) : oIn x (.ref p) M Q := by
  unfold oIn oInB; dsimp only; rw [e]; dsimp only; rw [hk]; exact h
theorem o_ninD (e : M[p]? = some (.dct lk kvs)) (hk : keyOf x = some k) (h : Q (.bl (!(dget kvs k).isSome)) M) : oNotIn x (.ref p) M Q := by
  unfold oNotIn oInB; dsimp only; rw [e]; dsimp only; rw [hk]; exact h
theorem o_ixD (e : M[p]? = some (.dct lk kvs)) (hk : keyOf x = some k) (hd : dget kvs k = some d) (h : Q d M) : oIx (.ref p) x M Q := by
  unfold oIx; dsimp only; rw [e]; dsimp only; rw [hk]; dsimp only; rw [hd]; exact h
theorem o_lenD (e : M[p]? = some (.dct lk kvs)) (h : Q (.int kvs.length) M) : oLen [.ref p] M Q := by
  unfold oLen; dsimp only; rw [e]; exact h
theorem o_lenS (hl : z.length ≤ 16000000) (h : Q (.int z.length) M) : oLen [.str z] M Q := ⟨hl, h⟩
theorem o_dictD (e : M[p]? = some (.dct lk kvs)) (h : Q (.ref M.length) (M ++ [.dct false kvs])) : oDict1 [.ref p] M Q := by
  unfold oDict1; dsimp only; rw [e]; exact h
theorem o_listD (e : M[p]? = some (.dct false kvs)) (h : Q (.ref M.length) (M ++ [.lst (kvs.map fun kv => kD kv.1)])) : oList1 [.ref p] M Q := by
  unfold oList1; dsimp only; rw [e]; exact h
theorem o_setD {N : Mem → Prop} (e : M[p]? = some (.dct false kvs)) (hk : keyOf x = some k) (hl : kvs.length < 16000000) (h : N (M.set p (.dct false (dput kvs k y)))) : oSetIx (.ref p) x y M N := by
  unfold oSetIx; dsimp only; rw [e]; dsimp only; rw [hk]; exact ⟨hl, h⟩
theorem o_strS (h : Q (.str z) M) : oStr1 [.str z] M Q := h
theorem o_abs {n : Int} (h : Q (.int (if n < 0 then -n else n)) M) : oAbs [.int n] M Q := h
theorem x_tpL {N : Ev → Prop} {n p : Nat} {l : Tgs} {ds : List D} (e : M[p]? = some (.lst ds)) (hl : ds.length = n) (h : l.mg ds ρ M N) : (Tg.tp n l).mg (.ref p) ρ M N := by
  unfold Tg.mg; dsimp only; rw [e]; exact ⟨hl, h⟩
theorem iseqT {k : List D → (Mem → Prop) → Mem → Prop} {ds : List D} (h : k ds (fun _ => True) M) : iseqK k (.tup ds) M := h
theorem x_iseqTV {k : List D → (Mem → Prop) → Mem → Prop} {ds : List D} (e : ρ[i]? = some (some (.tup ds))) (h : k ds (fun _ => True) M) : mISeq (mVar i) ρ M k X := by
  unfold mISeq mVar; rw [e]; exact h
theorem x_iseqSV {k : List D → (Mem → Prop) → Mem → Prop} (e : ρ[i]? = some (some (.str z))) (h : k (z.cps.toList.map fun c => .str ⟨#[c]⟩) (fun _ => True) M) : mISeq (mVar i) ρ M k X := by
  unfold mISeq mVar; rw [e]; exact h
theorem x_isS {P : Prop} (q : P) : isT "str" (.str z) M ∧ P := ⟨rfl, q⟩
theorem if_b {k : Bool} {A B : Prop} (h1 : k = true → A) (h2 : k = false → B) : if k = true then A else B := by
  cases k
  · rw [if_neg (by decide)]; exact h2 rfl
  · rw [if_pos rfl]; exact h1 rfl
end
theorem lcT_inv {guard : Mem → Prop} {T : Tg} {me : ME} {ρ : Ev} {n : Nat} {Q : Mem → Prop} (J : List D → List D → Mem → Prop) (hg : ∀ l acc M, J l acc M → guard M)
    (hs : ∀ d l acc M (K : DK), M[n]? = some (.lst acc) → J (d :: l) acc M → (∀ y M4, M4[n]? = some (.lst acc) → J l (acc ++ [y]) (M4.set n (.lst (acc ++ [y]))) → K y M4) → T.mg d ρ M fun ρ2 => me ρ2 M K noX)
    (hq : ∀ acc M, M[n]? = some (.lst acc) → J [] acc M → Q M) :
    ∀ (items acc : List D) (M : Mem), M[n]? = some (.lst acc) → acc.length + items.length < 16000000 → J items acc M → mLcL guard T mYes me ρ n Q items M
  | [], acc, M, hn, _, h => ⟨hg _ _ _ h, hq acc M hn h⟩
  | d :: l, acc, M, hn, hl, h => ⟨hg _ _ _ h, hs d l acc M _ hn h fun y M4 h4 j => by
      show (match M4[n]? with
        | some (.lst acc) => acc.length < 16000000 ∧ mLcL guard T mYes me ρ n Q l (M4.set n (.lst (acc ++ [y])))
        | _ => False)
      rw [h4]
      refine ⟨by simp at hl; omega, ?_⟩
      exact lcT_inv J hg hs hq l (acc ++ [y]) _ (msame h4) (by simp at hl ⊢; omega) j⟩
theorem lcT_ix {guard : Mem → Prop} {T : Tg} {me : ME} {ρ : Ev} {n : Nat} {Q : Mem → Prop} {items : List D} {M : Mem} (J : Nat → List D → Mem → Prop) (hg : ∀ k acc M, J k acc M → guard M)
    (hs : ∀ k d acc M (K : DK), items[k]? = some d → M[n]? = some (.lst acc) → J k acc M → (∀ y M4, M4[n]? = some (.lst acc) → J (k + 1) (acc ++ [y]) (M4.set n (.lst (acc ++ [y]))) → K y M4) → T.mg d ρ M fun ρ2 => me ρ2 M K noX)
    (hq : ∀ acc M, M[n]? = some (.lst acc) → J items.length acc M → Q M) (hl : items.length < 16000000) (hn : M[n]? = some (.lst [])) (h0 : J 0 [] M) : mLcL guard T mYes me ρ n Q items M := by
  refine lcT_inv (fun l acc M => ∃ k, l = items.drop k ∧ k ≤ items.length ∧ J k acc M) ?_ ?_ ?_ items [] M hn (by simpa using hl) ⟨0, rfl, Nat.zero_le _, h0⟩
  · rintro l acc M ⟨k, _, _, h⟩; exact hg k acc M h
  · rintro d l acc M K hM ⟨k, e, hk, h⟩ q
    have hlt : k < items.length := by
      have := congrArg List.length e
      simp at this; omega
    rw [List.drop_eq_getElem_cons hlt] at e
    injection e with e1 e2
    exact hs k d acc M K (by rw [List.getElem?_eq_getElem hlt, e1]) hM h fun y M4 h4 j => q y M4 h4 ⟨k + 1, e2, hlt, j⟩
  · rintro acc M hM ⟨k, e, hk, h⟩
    have : k = items.length := by
      have := congrArg List.length e
      simp at this; omega
    subst this; exact hq acc M hM h
section
variable {κ : Type} [DecidableEq κ] {kvs : List (κ × D)} {k k' : κ} {v : D}
end
end MV
namespace MV
/-- the two ends of a deed that may be refused -/
def En (Q : DK) (X : XM) (M : Mem) (r : Option Exn) : Prop := match r with | none => Q .non M | some e => X e M
theorem En.step {Q Q' : DK} {X : XM} {M : Mem} {r r2 : Option Exn} (h : En Q X M (r.or r2)) (k : r = none → En Q X M r2 → Q' .non M) : En Q' X M r := by
  cases r with
  | none => exact k rfl h
  | some e => exact h
theorem En.last {Q Q' : DK} {X : XM} {M : Mem} {r : Option Exn} (h : En Q X M r) (k : r = none → Q .non M → Q' .non M) : En Q' X M r := by
  cases r with
  | none => exact k rfl h
  | some e => exact h
def pD (x : Int × Int) : D := .tup [.int x.1, .int x.2]
def omD : Option (Int × Int) → D
  | none => .non
  | some m => pD m
abbrev Rung := Option (Int × Int) × (Int × Int)
def rungD (r : Rung) : D := .tup [omD r.1, pD r.2]
/-- numbers that may be multiplied -/
def Tame (x : Int × Int) : Prop := x.1.natAbs < 2 ^ 64 ∧ x.2.natAbs < 2 ^ 64
section
variable {M : Mem} {Q : DK} {m : Int × Int} {r : Rung}
theorem o_pD0 (h : Q (.int m.1) M) : oIx (pD m) (.int 0) M Q := h
theorem o_pD1 (h : Q (.int m.2) M) : oIx (pD m) (.int 1) M Q := h
theorem o_rg0 (h : Q (omD r.1) M) : oIx (rungD r) (.int 0) M Q := h
theorem o_rg1 (h : Q (pD r.2) M) : oIx (rungD r) (.int 1) M Q := h
theorem x_tpR {N : Ev → Prop} {l : Tgs} {ρ : Ev} (h : l.mg [omD r.1, pD r.2] ρ M N) : (Tg.tp 2 l).mg (rungD r) ρ M N := ⟨rfl, h⟩
end
end MV
open PySem L2 MV
/-- the mirrors' steps -/
local macro_rules | `(tactic| walk_at "ex") => `(tactic| first
  | ((with_reducible refine x_var (d := ?vv) ?hh ?qq); (case hh => exact rfl))
  | ((with_reducible refine x_len ?l1 ?l2 ?qq); (case l1 => exact rfl); (case l2 => exact rfl))
  | ((with_reducible refine o_tup ?l1 ?qq); (case l1 => exact Nat.le_of_ble_eq_true rfl))
  | ((with_reducible refine o_lst ?l1 ?qq); (case l1 => exact Nat.le_of_ble_eq_true rfl))
  | ((with_reducible refine o_ixT (v := ?ww) ?l1 ?qq); (case l1 => exact rfl))
  | ((with_reducible refine x_tp ?l1 ?qq); (case l1 => exact rfl))
  | with_reducible first
  | refine x_lc ?_
  | refine x_c ?_ | refine x_op ?_ | refine x_un ?_ | refine x_cb ?_ | refine x_nil ?_ | refine x_cons ?_ | refine x_b ?_ | refine x_tru ?_ | refine x_and ?_ | refine x_or ?_ | refine x_not ?_ | refine x_yes ?_ | refine x_nm ?_ | refine x_tc ?_ | refine x_tn ?_ | refine x_ifE ?_ | refine x_andV ?_ | refine x_orV ?_ | refine x_argsK ?_ | refine x_argsPK ?_ | refine x_rng2 ?_ | refine x_dict0 ?_ | refine x_make ?_ | refine o_eqS ?_ | refine o_neS ?_ | refine o_isN ?_ | refine o_isnN ?_ | refine o_strS ?_ | refine o_abs ?_ | refine o_inS ?_ | refine o_ninS ?_ | refine o_pD0 ?_ | refine o_pD1 ?_ | refine o_rg0 ?_ | refine o_rg1 ?_ | refine x_tpR ?_ | refine x_isS ?_
  | refine x_call ?_ | refine x_argsP ?_ | refine x_args0 ?_ | refine x_bm ?_ | refine x_rng ?_ | refine x_sl ?_ | refine x_noP ?_ | refine x_part ?_
  | refine o_add ?_ | refine o_sub ?_ | refine o_neg ?_ | refine o_lt ?_ | refine o_le ?_ | refine o_gt ?_ | refine o_ge ?_ | refine o_eqI ?_ | refine o_neI ?_ | refine o_min ?_ | refine o_max ?_ | refine o_intB ?_ | refine o_lenT ?_ | refine o_truB ?_ | refine o_slK ?_ | refine o_slT ?_ | refine o_isTT ?_ | refine if_t ?_ | refine if_f ?_ | refine if_nt ?_ | refine if_nf ?_)
local macro_rules | `(tactic| walk_at "sx") => `(tactic| with_reducible first
  | refine x_seq ?_ | refine x_set ?_ | refine x_ret ?_ | refine x_retN ?_ | refine x_next ?_ | refine x_drop ?_ | refine x_ifS ?_ | refine x_asg ?_ | refine x_setIx ?_ | refine x_for ?_ | refine x_par ?_ | refine x_raise ?_ | refine x_try ?_)
local macro_rules | `(tactic| walk_at "mx") => `(tactic| first | walk_at "sx" | walk_at "ex")
local macro_rules | `(tactic| walk_at "fx") => `(tactic| first
  | ((with_reducible refine o_ixL (ds := ?ll) (v := ?ww) ?l0 ?l1 ?qq); (case l0 => assumption); (case l1 => exact rfl))
  | ((with_reducible refine o_lenL (ds := ?ll) ?l0 ?qq); (case l0 => assumption))
  | ((with_reducible refine x_iseqV (n := ?nn) (ds := ?ll) ?l0 ?l1 ?qq); (case l0 => exact rfl); (case l1 => assumption))
  | ((with_reducible refine x_enT (ds := ?ll) ?l0 ?qq); (case l0 => exact rfl))
  | ((with_reducible refine x_isL (ds := ?ll) ?l0 ?qq); (case l0 => assumption))
  | ((with_reducible refine o_isLL (ds := ?ll) ?l0 ?qq); (case l0 => assumption))
  | ((with_reducible refine o_listL (ds := ?ll) ?l0 ?qq); (case l0 => assumption))
  | ((with_reducible refine o_tupL (ds := ?ll) ?l0 ?qq); (case l0 => assumption))
  | ((with_reducible refine x_fldV (n := ?nn) (fs := ?ff) (d := ?dd) (c := ?cc) ?l0 ?l1 ?l2 ?l3 ?qq); (case l0 => exact rfl); (case l1 => assumption); (case l2 => decide +kernel); (case l3 => first | exact nf_hours | exact nf_s | exact nf_t | exact nf_p | exact nf_r))
  | ((with_reducible refine x_methV (n := ?nn) (fs := ?ff) ?l0 ?l1 ?l2 ?qq); (case l0 => exact rfl); (case l1 => assumption); (case l2 => exact nf_no (by decide +kernel)))
  | ((with_reducible refine o_lenD (lk := ?lk) (kvs := ?ll) ?l0 ?qq); (case l0 => assumption))
  | ((with_reducible refine o_dictD (lk := ?lk) (kvs := ?ll) ?l0 ?qq); (case l0 => assumption))
  | ((with_reducible refine o_listD (kvs := ?ll) ?l0 ?qq); (case l0 => assumption))
  | ((with_reducible refine o_inD (lk := ?lk) (kvs := ?ll) (k := ?kk) ?l0 ?l1 ?qq); (case l0 => assumption); (case l1 => exact rfl))
  | ((with_reducible refine o_ninD (lk := ?lk) (kvs := ?ll) (k := ?kk) ?l0 ?l1 ?qq); (case l0 => assumption); (case l1 => exact rfl))
  | ((with_reducible refine x_iseqTV (ds := ?ll) ?l0 ?qq); (case l0 => exact rfl))
  | ((with_reducible refine x_iseqSV (z := ?zz) ?l0 ?qq); (case l0 => exact rfl)))
local macro_rules | `(tactic| walk_at "m1") => `(tactic| first | walk_at "mx" | walk_at "fx")
local macro_rules | `(tactic| walk_at "ml") => `(tactic| repeat walk_at "m1")
local macro_rules | `(tactic| walk_at "q1") => `(tactic| first | walk_at "ex" | walk_at "fx")
local macro_rules | `(tactic| walk_at "mq") => `(tactic| repeat walk_at "q1")
namespace MV
/-- the feed at p, its cells at q -/
def Feed (M : Mem) (p q : Nat) : Prop := ∃ (cs : List Int) (i r s : Int), M[p]? = some (.lst [.ref q, .int i, .int r, .int s]) ∧ M[q]? = some (.lst (cs.map .int)) ∧ p ≠ q ∧ 0 ≤ i ∧ 0 ≤ s ∧ s < 2147483647
theorem Feed.kp {M M' : Mem} {p q : Nat} {S : List Nat} (h : Feed M p q) (k : Kp S M M') (n1 : p ∉ S) (n2 : q ∉ S) : Feed M' p q := by
  obtain ⟨cs, i, r, s, h1, h2, h3⟩ := h
  exact ⟨cs, i, r, s, k.at_ _ _ n1 h1, k.at_ _ _ n2 h2, h3⟩
theorem Feed.lt {M : Mem} {p q : Nat} (h : Feed M p q) : p < M.length ∧ q < M.length := by
  obtain ⟨cs, i, r, s, h1, h2, h3⟩ := h
  exact ⟨mlt h1, mlt h2⟩
theorem Feed.app {M l : Mem} {p q : Nat} (h : Feed M p q) : Feed (M ++ l) p q := h.kp (S := []) Kp.app (by simp) (by simp)
end MV
namespace Prf
theorem ldraw {M : Mem} {p q : Nat} {m : Int} {Q : DK} {X : XM} (F : Feed M p q) (hm : 0 < m) (hb : m < 2 ^ 60) (k : ∀ d M', 0 ≤ d → d < m → Kp [p] M M' → Feed M' p q → Q (.int d) M') : w_Ldraw [.ref p, .int m] M Q X := by
  obtain ⟨cs, i, r, s, h1, h2, hne, hi, hs0, hs1⟩ := F
  have hm0 : m ≠ 0 := by omega
  have hd : okDiv m := div_ok hm0 (by omega)
  show m_Ldraw _ [some (.ref p), some (.int m), none, none, none] M
  unfold m_Ldraw
  walk_at "ml"
  refine if_d (fun hr => ?_) (fun hr => ?_)
  · walk_at "ml"
    refine o_mod hm0 ?_
    walk_at "ml"
    refine o_div hd ?_
    walk_at "ml"
    refine o_setL h1 (j := 2) rfl ?_
    walk_at "ml"
    obtain ⟨a1, a2⟩ := fmod_in r hm
    exact k _ _ a1 a2 (.set (by simp)) ⟨cs, i, _, s, msame h1, by rw [List.getElem?_set_ne hne]; exact h2, hne, hi, hs0, hs1⟩
  · iterate 4 walk_at "mx"
    with_reducible refine x_join (fun ρ' M' => ∃ c i' : Int, ρ' = [some (.ref p), some (.int m), none, some (.int c), none] ∧ 0 ≤ i' ∧ M'[p]? = some (.lst [.ref q, .int i', .int r, .int s]) ∧ M'[q]? = some (.lst (cs.map .int)) ∧ Kp [p] M M') ?_ ?_
    · intro K hK
      walk_at "ml"
      refine if_d (fun hc => ?_) (fun hc => ?_)
      · walk_at "ml"
        have hi2 : i.toNat < cs.length := by simp at hc; omega
        refine o_ixL h2 (v := .int cs[i.toNat]) (by rw [atI_i hi]; simp [hi2]) ?_
        walk_at "ml"
        refine o_setL h1 (j := 1) rfl ?_
        exact hK _ _ ⟨_, i + 1, rfl, by omega, msame h1, by rw [List.getElem?_set_ne hne]; exact h2, .set (by simp)⟩
      · walk_at "ml"
        exact hK _ _ ⟨0, i, rfl, hi, h1, h2, .refl⟩
    · rintro _ M1 ⟨c, i', rfl, hi', g1, g2, kp⟩
      walk_at "ml"
      refine if_d (fun hc => ?_) (fun hc => ?_)
      · walk_at "ml"
        refine o_div hd ?_
        walk_at "ml"
        refine o_setL g1 (j := 2) rfl ?_
        walk_at "ml"
        refine o_mod hm0 ?_
        obtain ⟨a1, a2⟩ := fmod_in c hm
        exact k _ _ a1 a2 (kp.trans (.set (by simp))) ⟨cs, i', _, s, msame g1, by rw [List.getElem?_set_ne hne]; exact g2, hne, hi', hs0, hs1⟩
      · walk_at "ml"
        refine o_mul (mul_ok (by decide)) ?_
        walk_at "ml"
        refine o_mod (by decide) ?_
        walk_at "ml"
        refine o_mod (by decide) ?_
        walk_at "ml"
        refine o_setL g1 (j := 3) rfl ?_
        obtain ⟨b1, b2⟩ := fmod_in (s * 48271 + c.fmod 1000003 + 11) (m := 2147483647) (by decide)
        generalize (s * 48271 + c.fmod 1000003 + 11).fmod 2147483647 = s' at b1 b2 ⊢
        have g3 : (M1.set p (.lst [.ref q, .int i', .int r, .int s']))[p]? = some (.lst [.ref q, .int i', .int r, .int s']) := msame g1
        have g4 : (M1.set p (.lst [.ref q, .int i', .int r, .int s']))[q]? = some (.lst (cs.map .int)) := by rw [List.getElem?_set_ne hne]; exact g2
        have kp2 : Kp [p] M (M1.set p (.lst [.ref q, .int i', .int r, .int s'])) := kp.trans (.set (by simp))
        show mSeq _ _ _ _ (M1.set p (.lst [.ref q, .int i', .int r, .int s']))
        generalize M1.set p (.lst [.ref q, .int i', .int r, .int s']) = M2 at g3 g4 kp2 ⊢
        walk_at "ml"
        refine o_pow ⟨by decide, by decide, by omega⟩ ?_
        walk_at "ml"
        refine o_ixL (ds := [.int s', .int (s' ^ 4)]) (v := .int (if 100000 < m then s' ^ 4 else s')) mnew ?_ ?_
        · by_cases hm5 : 100000 < m <;> simp [hm5, atI_0, atI_1]
        walk_at "ml"
        refine o_div (div_ok (by decide) (by decide)) ?_
        walk_at "ml"
        refine o_mod hm0 ?_
        have fin : ∀ a : Int, Q (.int (a.fmod m)) (M2 ++ [.lst [.int s', .int (s' ^ 4)]]) := fun a => by
          obtain ⟨a1, a2⟩ := fmod_in a hm
          exact k _ _ a1 a2 (kp2.trans .app) (Feed.app ⟨cs, i', r, s', g3, g4, hne, hi', b1, b2⟩)
        exact fin _
theorem lfeed {M : Mem} {ns : List Int} {Q : DK} {X : XM} (k : ∀ M', Kp [] M M' → Feed M' (M.length + 2) (M.length + 1) → Q (.ref (M.length + 2)) M') : w_Lfeed [.kl (ns.map .int)] M Q X := by
  show m_Lfeed _ [some (.kl (ns.map .int))] M
  unfold m_Lfeed
  walk_at "ml"
  show oList1 [.ref M.length] (M ++ [.lst (cutD (ns.map D.int) none (some 63))]) _
  have e : ∃ cs : List Int, cutD (ns.map D.int) none (some 63) = cs.map .int := ⟨_, by unfold cutD; rw [← List.map_drop, ← List.map_take]⟩
  obtain ⟨cs, e⟩ := e
  rw [e]
  refine o_listL mnew ?_
  walk_at "ml"
  have e2 : (M ++ [O.lst (cs.map D.int)]).length = M.length + 1 := by simp
  have e3 : (M ++ [O.lst (cs.map D.int)] ++ [O.lst (cs.map D.int)]).length = M.length + 2 := by simp
  rw [e2, e3]
  refine k _ ((Kp.app.trans .app).trans .app) ⟨cs, 0, 0, 1, ?_, ?_, by omega, by decide, by decide, by decide⟩
  · rw [← e3]; exact mnew
  · exact (Kp.app (S := [])).at_ _ _ (by simp) (by rw [← e2]; exact mnew)
end Prf

namespace MV
/-- a text of at most n plain signs -/
def Asc (n : Nat) (s : Str) : Prop := s.cps.size ≤ n ∧ ∀ c ∈ s.cps.toList, c < 128
theorem Asc.ok {n : Nat} {s : Str} (h : Asc n s) : PyData.strOk s = true := by
  unfold PyData.strOk
  rw [Array.all_eq_true_iff_forall_mem]
  intro c hc
  have := h.2 c (by simpa using hc)
  exact decide_eq_true (by omega)
theorem Asc.app {n m : Nat} {s t : Str} (h : Asc n s) (k : Asc m t) : Asc (n + m) (s ++ t) := by
  have e : (s ++ t).cps = s.cps ++ t.cps := rfl
  refine ⟨?_, fun c hc => ?_⟩
  · rw [e, Array.size_append]
    exact Nat.add_le_add h.1 k.1
  · rw [e, Array.toList_append] at hc
    rcases List.mem_append.mp hc with z | z
    · exact h.2 c z
    · exact k.2 c z
theorem Asc.one {c : Nat} (h : c < 128) : Asc 1 ⟨#[c]⟩ := ⟨Nat.le_refl _, by simp [h]⟩
theorem Asc.mono {n m : Nat} {s : Str} (e : n ≤ m) (h : Asc n s) : Asc m s := ⟨Nat.le_trans h.1 e, h.2⟩
theorem Asc.len {n : Nat} {s : Str} (h : Asc n s) : s.length ≤ n := h.1
theorem inOk_strs {s : Str} {ns : List Str} : inOk (.str s) (ns.map .str) := by
  unfold inOk
  have : (ns.map D.str).all flat = true := by simp [flat]
  rw [this]; simp [flat]
theorem o_inL {x : D} {p : Nat} {ds : List D} {M : Mem} {Q : DK} (el : M[p]? = some (.lst ds)) (hk : inOk x ds) (h : Q (.bl (ds.any fun e => deq e x)) M) : oIn x (.ref p) M Q := by
  unfold oIn oInB; dsimp only; rw [el]; exact ⟨hk, h⟩
theorem o_ixA {z : Str} {k : Int} {M : Mem} {Q : DK} (hz : z.length ≤ 1000000) (h0 : 0 ≤ k) (h1 : k < z.cps.size) (q : ∀ c, z.cps[k.toNat]? = some c → Q (.str ⟨#[c]⟩) M) : oIx (.str z) (.int k) M Q := by
  have hl : k.toNat < z.cps.size := by omega
  refine o_ixS (c := z.cps[k.toNat]) (by omega) ?_ (q _ (by simp [hl]))
  rw [atI_i h0]; simp [hl]
end MV

namespace Prf
def rNum (far x : Int) : Option Exn := if -far ≤ x ∧ x ≤ far then none else some (xE "TooFar" "number" "too far" (.int x))
theorem l_number {M : Mem} {Q : DK} {X : XM} {far x : Int} (h : En Q X M (rNum far x)) : w_check_number [.int x, .int far] M Q X := by
  show m_check_number _ [some (.int x), some (.int far)] M
  unfold m_check_number
  iterate 3 walk_at "mx"
  refine x_chI (x := -far) (y := x) (z := far) (fun _ h => by walk_at "ml"; exact h) (fun _ h => by walk_at "ml"; exact h) (fun _ h => by walk_at "ml"; exact h) ?_
  unfold rNum at h
  refine if_n (fun hc => ?_) (fun hc => ?_)
  · rw [if_neg hc] at h
    walk_at "ml"
    exact ⟨rfl, h⟩
  · rw [if_pos hc] at h
    walk_at "ml"
    exact h
def rMove (far : Int) (m : Int × Int) : Option Exn := (rNum far m.1).or (rNum far m.2)
def rBox (far : Int) (d : Str) (m : Int × Int) : Option Exn := (rNum far m.1).or ((rNum far m.2).or (if m.2 < m.1 then some (xE "BadBox" "dial" "bad box" (.str d)) else none))
theorem l_box {M : Mem} {Q : DK} {X : XM} {far : Int} {d : Str} {m : Int × Int} (h : En Q X M (rBox far d m)) : w_check_box [.str d, pD m, .int far] M Q X := by
  obtain ⟨a, b⟩ := m
  show m_check_box _ [some (.str d), some (.tup [.int a, .int b]), some (.int far)] M
  unfold m_check_box
  walk_at "ml"
  refine l_number (h.step fun _ h => ?_)
  walk_at "ml"
  refine l_number (h.step fun _ h => ?_)
  walk_at "ml"
  refine if_d (fun hc => ?_) (fun hc => ?_)
  · walk_at "ml"
    rw [if_pos hc] at h
    exact ⟨rfl, h⟩
  · walk_at "ml"
    rw [if_neg hc] at h
    exact h
def sinksB (m b : Int × Int) : Bool := decide (m.1 + m.2 * b.1 < 0) || decide (m.1 + m.2 * b.2 < 0)
theorem l_sinks {M : Mem} {Q : DK} {X : XM} {m b : Int × Int} (hb : Tame b) (h : Q (.bl (sinksB m b)) M) : w_sinks [pD m, pD b] M Q X := by
  obtain ⟨m0, m1⟩ := m
  obtain ⟨lo, hi⟩ := b
  show m_sinks _ [some (.tup [.int m0, .int m1]), some (.tup [.int lo, .int hi])] M
  unfold m_sinks
  walk_at "ml"
  refine o_mul (mul_ok hb.1) ?_
  walk_at "ml"
  refine if_d (fun hc => ?_) (fun hc => ?_)
  · simpa [sinksB, hc] using h
  · walk_at "ml"
    refine o_mul (mul_ok hb.2) ?_
    walk_at "ml"
    simpa [sinksB, hc] using h
def rRoom (nm : Str) (m b : Int × Int) : Option Exn := if sinksB m b = true then some (xE "Below" "name" "below" (.str nm)) else none
theorem l_room {M : Mem} {Q : DK} {X : XM} {nm : Str} {m b : Int × Int} (hb : Tame b) (h : En Q X M (rRoom nm m b)) : w_check_room [.str nm, pD m, pD b] M Q X := by
  show m_check_room _ [some (.str nm), some (pD m), some (pD b)] M
  unfold m_check_room
  walk_at "ml"
  refine l_sinks hb ?_
  unfold rRoom at h
  walk_at "ml"
  refine if_b (fun hc => ?_) (fun hc => ?_)
  · rw [if_pos hc] at h
    walk_at "ml"
    exact ⟨rfl, h⟩
  · rw [if_neg (by simp [hc])] at h
    walk_at "ml"
    exact h
theorem l_move {M : Mem} {Q : DK} {X : XM} {far : Int} {m : Int × Int} (h : En Q X M (rMove far m)) : w_check_move [pD m, .int far] M Q X := by
  obtain ⟨a, b⟩ := m
  show m_check_move _ [some (.tup [.int a, .int b]), some (.int far)] M
  unfold m_check_move
  walk_at "ml"
  refine l_number (h.step fun _ h => ?_)
  walk_at "ml"
  refine l_number (h.last fun _ h => ?_)
  exact h
def rRis (nm : Str) (t : Int × Int) : List Rung → Option Exn
  | a :: b :: l => if sinksB (b.2.1 - a.2.1, b.2.2 - a.2.2) t = true then some (xE "Falls" "name" "falls" (.str nm)) else rRis nm t (b :: l)
  | _ => none
theorem rng2_at {a : Int} {n k : Nat} {d : D} (h : (rangeD a n)[k]? = some d) : d = .int (a + k) ∧ k < n := by
  simp [rangeD, List.getElem?_map, List.getElem?_range] at h
  by_cases hk : k < n
  · simp [hk] at h; exact ⟨h.symm, hk⟩
  · simp [hk] at h
theorem l_rising {M : Mem} {Q : DK} {X : XM} {nm : Str} {t : Int × Int} {rs : List Rung} (ht : Tame t) (hl : rs.length < 1000) (h : En Q X M (rRis nm t rs)) : w_check_rising [.str nm, .tup (rs.map rungD), pD t] M Q X := by
  show m_check_rising _ [some (.str nm), some (.tup (rs.map rungD)), some (pD t), none, none, none] M
  unfold m_check_rising
  walk_at "ml"
  refine ⟨⟨by decide, by decide, by simp <;> omega, by simp <;> omega⟩, ?_⟩
  refine for_ix (fun i ρ M' => M' = M ∧ (∃ o3 o4 o5, ρ = [some (.str nm), some (.tup (rs.map rungD)), some (pD t), o3, o4, o5]) ∧ En Q X M (rRis nm t (rs.drop i))) (fun _ _ _ _ => trivial) ?_ ?_ ⟨rfl, ⟨_, _, _, rfl⟩, h⟩
  · rintro ρ M' ⟨rfl, ⟨_, _, _, rfl⟩, h⟩
    have e : rRis nm t (rs.drop (rangeD 1 ((List.map rungD rs).length - 1 : Int).toNat).length) = none := by
      have hz : (rangeD 1 ((List.map rungD rs).length - 1 : Int).toNat).length = rs.length - 1 := by simp [rangeD]
      rw [hz]
      cases hd : rs.drop (rs.length - 1) with
      | nil => rfl
      | cons a l =>
        have := congrArg List.length hd
        simp at this
        cases l with
        | nil => rfl
        | cons b l => simp at this; omega
    rw [e] at h
    exact h
  · rintro i d ρ M' K hd ⟨rfl, ⟨_, _, _, rfl⟩, h⟩ hK
    obtain ⟨rfl, hi⟩ := rng2_at hd
    have hi2 : i + 1 < rs.length := by simp at hi; omega
    have e1 : rs.drop i = rs[i] :: rs[i + 1] :: rs.drop (i + 2) := by
      rw [List.drop_eq_getElem_cons (by omega), List.drop_eq_getElem_cons hi2]
    rw [e1] at h
    have f1 : atI (rs.map rungD) (1 + (i : Int)) = some (rungD rs[i + 1]) := by
      have : (1 + (i : Int)) = ((i + 1 : Nat) : Int) := by omega
      rw [this, atI_n]; simp [hi2]
    have f0 : atI (rs.map rungD) (1 + (i : Int) - 1) = some (rungD rs[i]) := by
      have : (1 + (i : Int) - 1) = ((i : Nat) : Int) := by omega
      rw [this, atI_n, List.getElem?_map, List.getElem?_eq_getElem (by omega)]; rfl
    walk_at "ml"
    refine o_ixT f1 ?_
    walk_at "ml"
    refine o_ixT f0 ?_
    walk_at "ml"
    refine l_sinks (m := (rs[i + 1].2.1 - rs[i].2.1, rs[i + 1].2.2 - rs[i].2.2)) ht ?_
    walk_at "ml"
    unfold rRis at h
    refine if_b (fun hc => ?_) (fun hc => ?_)
    · rw [if_pos hc] at h
      walk_at "ml"
      exact ⟨rfl, h⟩
    · rw [if_neg (by simp [hc])] at h
      walk_at "ml"
      refine hK _ _ ⟨rfl, ⟨_, _, _, rfl⟩, ?_⟩
      rw [List.drop_eq_getElem_cons hi2]
      exact h
end Prf

namespace Prf
def xBadRungs (nm : Str) : Exn := xE "BadRungs" "name" "bad rungs" (.str nm)
def oRef (f : Int × Int → Option Exn) : Option (Int × Int) → Option Exn
  | none => none
  | some m => f m
def rRung (far : Int) (nm : Str) (s : Int × Int) (r : Rung) : Option Exn := (oRef (rMove far) r.1).or ((rMove far r.2).or (oRef (fun m => rRoom nm m s) r.1))
def rRungs (most far : Int) (nm : Str) (s t : Int × Int) (rs : List Rung) : Option Exn :=
  (if 1 ≤ (rs.length : Int) ∧ (rs.length : Int) ≤ most then none else some (xBadRungs nm)).or ((if (rs.dropLast.any fun r => r.1.isNone) = true then some (xBadRungs nm) else none).or ((rs.findSome? (rRung far nm s)).or (rRis nm t rs)))
theorem cut_last {α : Type} {l : List α} : cutD l none (some (-1)) = l.dropLast := by
  cases l with
  | nil => rfl
  | cons a l =>
    have e1 : HT.sIx (a :: l).length 0 none = 0 := rfl
    have e2 : HT.sIx (a :: l).length (a :: l).length (some (-1)) = l.length := by simp [HT.sIx]; omega
    unfold cutD
    rw [e1, e2, List.dropLast_eq_take]
    simp
theorem l_rungs {M : Mem} {Q : DK} {X : XM} {most far : Int} {nm : Str} {s t : Int × Int} {rs : List Rung} (hs : Tame s) (ht : Tame t) (hl : rs.length < 1000) (h : En Q X M (rRungs most far nm s t rs)) : w_check_rungs [.str nm, .tup (rs.map rungD), pD s, pD t, .int most, .int far] M Q X := by
  show m_check_rungs _ [some (.str nm), some (.tup (rs.map rungD)), some (pD s), some (pD t), some (.int most), some (.int far), none, none] M
  unfold m_check_rungs
  unfold rRungs at h
  walk_at "mx"
  with_reducible refine x_ifS ?_
  iterate 2 walk_at "mx"
  refine x_chI (x := 1) (y := rs.length) (z := most) (fun _ h => by walk_at "ml"; exact h) (fun _ h => by walk_at "ml"; simpa using h) (fun _ h => by walk_at "ml"; exact h) ?_
  refine if_n (fun hc => ?_) (fun hc => ?_)
  · rw [if_neg hc] at h
    walk_at "ml"
    exact ⟨rfl, h⟩
  rw [if_pos hc] at h
  replace h : En Q X M ((if (rs.dropLast.any fun r => r.1.isNone) = true then some (xBadRungs nm) else none).or ((rs.findSome? (rRung far nm s)).or (rRis nm t rs))) := h
  iterate 2 walk_at "mx"
  with_reducible refine x_for ?_
  with_reducible refine x_iseq ?_
  walk_at "ml"
  refine iseqT ?_
  rw [show (-1 : Int) = -1 from rfl, cut_last, ← List.map_dropLast]
  refine for_ix (fun i ρ M' => M' = M ∧ (∃ o6 o7, ρ = [some (.str nm), some (.tup (rs.map rungD)), some (pD s), some (pD t), some (.int most), some (.int far), o6, o7]) ∧ En Q X M ((if ((rs.dropLast.drop i).any fun r => r.1.isNone) = true then some (xBadRungs nm) else none).or ((rs.findSome? (rRung far nm s)).or (rRis nm t rs)))) (fun _ _ _ _ => trivial) ?_ ?_ ⟨rfl, ⟨_, _, rfl⟩, h⟩
  · rintro ρ M' ⟨rfl, ⟨_, _, rfl⟩, h⟩
    rw [List.drop_eq_nil_of_le (by simp)] at h
    replace h : En Q X M' ((rs.findSome? (rRung far nm s)).or (rRis nm t rs)) := h
    walk_at "ml"
    refine for_ix (fun i ρ M => M = M' ∧ (∃ o6 o7, ρ = [some (.str nm), some (.tup (rs.map rungD)), some (pD s), some (pD t), some (.int most), some (.int far), o6, o7]) ∧ En Q X M' (((rs.drop i).findSome? (rRung far nm s)).or (rRis nm t rs))) (fun _ _ _ _ => trivial) ?_ ?_ ⟨rfl, ⟨_, _, rfl⟩, h⟩
    · rintro ρ M ⟨rfl, ⟨_, _, rfl⟩, h⟩
      rw [List.drop_eq_nil_of_le (by simp)] at h
      replace h : En Q X M (rRis nm t rs) := h
      walk_at "ml"
      exact l_rising ht hl (h.last fun _ h => h)
    · rintro i d ρ M K hd ⟨rfl, ⟨_, _, rfl⟩, h⟩ hK
      rw [List.getElem?_map] at hd
      cases hr : rs[i]? with
      | none => rw [hr] at hd; cases hd
      | some r =>
        rw [hr] at hd
        cases hd
        obtain ⟨hi, he⟩ := List.getElem?_eq_some_iff.mp hr
        rw [List.drop_eq_getElem_cons hi, he, List.findSome?_cons] at h
        have fin : ∀ o6 o7, En Q X M (((rs.drop (i + 1)).findSome? (rRung far nm s)).or (rRis nm t rs)) → K [some (.str nm), some (.tup (rs.map rungD)), some (pD s), some (pD t), some (.int most), some (.int far), o6, o7] M := fun _ _ h => hK _ _ ⟨rfl, ⟨_, _, rfl⟩, h⟩
        obtain ⟨rm, pr⟩ := r
        cases rm with
        | none =>
          have h2 : En Q X M ((rMove far pr).or (((rs.drop (i + 1)).findSome? (rRung far nm s)).or (rRis nm t rs))) := by
            have e : rRung far nm s (none, pr) = rMove far pr := by simp [rRung, oRef]
            rw [e] at h
            cases hp : rMove far pr with
            | none => rw [hp] at h; exact h
            | some x => rw [hp] at h; exact h
          refine x_tpR ?_
          walk_at "ml"
          refine if_f ?_
          walk_at "ml"
          refine l_move (h2.step fun _ h => ?_)
          walk_at "ml"
          refine if_f ?_
          walk_at "ml"
          exact fin _ _ h
        | some m =>
          have h2 : En Q X M ((rMove far m).or ((rMove far pr).or ((rRoom nm m s).or (((rs.drop (i + 1)).findSome? (rRung far nm s)).or (rRis nm t rs))))) := by
            have e : rRung far nm s (some m, pr) = (rMove far m).or ((rMove far pr).or (rRoom nm m s)) := rfl
            rw [e] at h
            cases h1 : rMove far m with
            | some x => rw [h1] at h; exact h
            | none =>
              cases h2 : rMove far pr with
              | some x => rw [h1, h2] at h; exact h
              | none =>
                cases h3 : rRoom nm m s with
                | some x => rw [h1, h2, h3] at h; exact h
                | none => rw [h1, h2, h3] at h; exact h
          refine x_tpR ?_
          walk_at "ml"
          refine if_t ?_
          walk_at "ml"
          refine l_move (h2.step fun _ h => ?_)
          walk_at "ml"
          refine l_move (h.step fun _ h => ?_)
          walk_at "ml"
          refine if_t ?_
          walk_at "ml"
          refine l_room hs (h.step fun _ h => ?_)
          exact fin _ _ h
  · rintro i d ρ M K hd ⟨rfl, ⟨_, _, rfl⟩, h⟩ hK
    rw [List.getElem?_map] at hd
    cases hr : rs.dropLast[i]? with
    | none => rw [hr] at hd; cases hd
    | some r =>
      rw [hr] at hd
      cases hd
      obtain ⟨hi, he⟩ := List.getElem?_eq_some_iff.mp hr
      rw [List.drop_eq_getElem_cons hi, he, List.any_cons] at h
      obtain ⟨rm, pr⟩ := r
      refine x_tpR ?_
      walk_at "ml"
      cases rm with
      | none =>
        refine if_t ?_
        walk_at "ml"
        exact ⟨rfl, h⟩
      | some m =>
        refine if_f ?_
        walk_at "ml"
        exact hK _ _ ⟨rfl, ⟨_, _, rfl⟩, h⟩
def FIRST : Str := "abcdefghijklmnopqrstuvwxyz"
def LATER : Str := "abcdefghijklmnopqrstuvwxyz0123456789"
def goodB (s : Str) : Bool := decide (1 ≤ (s.length : Int) ∧ (s.length : Int) ≤ 8) && (match s.cps.toList with | c :: _ => decide (c ∈ FIRST.cps.toList) | [] => false) && s.cps.toList.all fun c => decide (c ∈ LATER.cps.toList)
def xBadName (s : Str) : Exn := xE "BadName" "name" "bad name" (.str s)
def rName (s : Str) : Option Exn := if goodB s = true then none else some (xBadName s)
theorem l_name {M : Mem} {Q : DK} {X : XM} {s : Str} (hl : s.length ≤ 1000000) (h : En Q X M (rName s)) : w_check_name [.str s] M Q X := by
  show m_check_name _ [some (.str s), none] M
  unfold m_check_name
  unfold rName at h
  iterate 4 walk_at "mx"
  refine x_chI (x := 1) (y := s.length) (z := 8) (fun _ h => by walk_at "ml"; exact h) (fun _ h => by walk_at "ml"; exact o_lenS (by omega) h) (fun _ h => by walk_at "ml"; exact h) ?_
  refine if_n (fun hc => ?_) (fun hc => ?_)
  · have e : goodB s = false := by unfold goodB; rw [decide_eq_false hc]; rfl
    rw [e] at h
    refine if_t ?_
    walk_at "ml"
    exact ⟨rfl, h⟩
  · cases hs : s.cps.toList with
    | nil =>
      have : s.length = 0 := by simpa [Str.length] using congrArg List.length hs
      omega
    | cons c r =>
      walk_at "ml"
      refine o_ixS (c := c) (by omega) (by rw [atI_0, hs]; rfl) ?_
      walk_at "ml"
      show if (!decide (c ∈ FIRST.cps.toList)) = true then _ else _
      refine if_n (fun hf => ?_) (fun hf => ?_)
      · have e : goodB s = false := by simp [goodB, hs, hf]
        rw [e] at h
        walk_at "ml"
        exact ⟨rfl, h⟩
      · walk_at "ml"
        have e : goodB s = (s.cps.toList.all fun c => decide (c ∈ LATER.cps.toList)) := by
          unfold goodB; rw [decide_eq_true hc, hs]; simp [hf]
        rw [e] at h
        refine for_ix (fun i ρ M' => M' = M ∧ (∃ o1, ρ = [some (.str s), o1]) ∧ En Q X M (if ((s.cps.toList.drop i).all fun c => decide (c ∈ LATER.cps.toList)) = true then none else some (xBadName s))) (fun _ _ _ _ => trivial) ?_ ?_ ⟨rfl, ⟨_, rfl⟩, h⟩
        · rintro ρ M' ⟨rfl, ⟨_, rfl⟩, h⟩
          rw [List.drop_eq_nil_of_le (by simp)] at h
          exact h
        · rintro i d ρ M' K hd ⟨rfl, ⟨_, rfl⟩, h⟩ hK
          rw [List.getElem?_map] at hd
          cases hr : s.cps.toList[i]? with
          | none => rw [hr] at hd; cases hd
          | some c =>
            rw [hr] at hd
            cases hd
            obtain ⟨hi, he⟩ := List.getElem?_eq_some_iff.mp hr
            rw [List.drop_eq_getElem_cons hi, he, List.all_cons] at h
            walk_at "ml"
            show if (!decide (c ∈ LATER.cps.toList)) = true then _ else _
            refine if_n (fun hf => ?_) (fun hf => ?_)
            · rw [decide_eq_false hf] at h
              walk_at "ml"
              exact ⟨rfl, h⟩
            · rw [decide_eq_true hf] at h
              walk_at "ml"
              exact hK _ _ ⟨rfl, ⟨_, rfl⟩, h⟩
end Prf

namespace MV
structure Pl where
  nm : Str
  room : Option (Int × Int)
  kept : Option (Int × Int)
  price : Int × Int
  wants : List (Int × Int)
structure Rd where
  nm : Str
  st : Str
  en : Str
  takes : Int
  floor : Int × Int
  rungs : List Rung
structure Nt where
  h : Int
  s : Int × Int
  t : Int × Int
  ps : List Pl
  rs : List Rd
def plD (p : Pl) : D := .tup [omD p.room, omD p.kept, pD p.price, .tup (p.wants.map pD)]
def rdD (r : Rd) : D := .tup [.str r.st, .str r.en, .int r.takes, pD r.floor, .tup (r.rungs.map rungD)]
def plK (p : Pl) : Key × D := (.inr p.nm, plD p)
def rdK (r : Rd) : Key × D := (.inr r.nm, rdD r)
/-- the net at n: its places at p, its roads at r -/
structure NetM (M : Mem) (n : Nat) (N : Nt) (p r : Nat) : Prop where
  ins : M[n]? = some (.ins "Net" (NF (.int N.h) (pD N.s) (pD N.t) (.ref p) (.ref r)))
  pl : M[p]? = some (.dct false (N.ps.map plK))
  rd : M[r]? = some (.dct false (N.rs.map rdK))
theorem NetM.kp {M M' : Mem} {n p r : Nat} {N : Nt} {S : List Nat} (h : NetM M n N p r) (k : Kp S M M') (h1 : n ∉ S) (h2 : p ∉ S) (h3 : r ∉ S) : NetM M' n N p r := ⟨k.at_ _ _ h1 h.ins, k.at_ _ _ h2 h.pl, k.at_ _ _ h3 h.rd⟩
theorem NetM.app {M l : Mem} {n p r : Nat} {N : Nt} (h : NetM M n N p r) : NetM (M ++ l) n N p r := h.kp (S := []) .app (by simp) (by simp) (by simp)
theorem NetM.np {M : Mem} {n p r : Nat} {N : Nt} (h : NetM M n N p r) : n ≠ p := fun e => by have := h.ins; rw [e, h.pl] at this; cases this
theorem NetM.nr {M : Mem} {n p r : Nat} {N : Nt} (h : NetM M n N p r) : n ≠ r := fun e => by have := h.ins; rw [e, h.rd] at this; cases this
def findP (ps : List Pl) (nm : Str) : Option Pl := ps.find? fun q => decide (q.nm = nm)
def findR (rs : List Rd) (nm : Str) : Option Rd := rs.find? fun q => decide (q.nm = nm)
def putP (ps : List Pl) (p : Pl) : List Pl := if (ps.any fun q => decide (q.nm = p.nm)) = true then ps.map fun q => if q.nm = p.nm then p else q else ps ++ [p]
def putR (ps : List Rd) (p : Rd) : List Rd := if (ps.any fun q => decide (q.nm = p.nm)) = true then ps.map fun q => if q.nm = p.nm then p else q else ps ++ [p]
theorem getP {ps : List Pl} {nm : Str} : dget (ps.map plK) (.inr nm) = (findP ps nm).map plD := by
  unfold dget findP
  rw [List.find?_map]
  have e : ((fun kv : Key × D => decide (kv.1 = .inr nm)) ∘ plK) = fun q : Pl => decide (q.nm = nm) := by
    funext q; simp [plK]
  rw [e, Option.map_map]; rfl
theorem getR {ps : List Rd} {nm : Str} : dget (ps.map rdK) (.inr nm) = (findR ps nm).map rdD := by
  unfold dget findR
  rw [List.find?_map]
  have e : ((fun kv : Key × D => decide (kv.1 = .inr nm)) ∘ rdK) = fun q : Rd => decide (q.nm = nm) := by
    funext q; simp [rdK]
  rw [e, Option.map_map]; rfl
theorem putP_K {ps : List Pl} {p : Pl} : dput (ps.map plK) (.inr p.nm) (plD p) = (putP ps p).map plK := by
  unfold dput putP
  have e : ((ps.map plK).any fun kv => decide (kv.1 = .inr p.nm)) = ps.any fun q => decide (q.nm = p.nm) := by
    rw [List.any_map]; congr 1; funext q; simp [plK]
  rw [e]
  split
  · rw [List.map_map, List.map_map]
    refine List.map_congr_left fun q _ => ?_
    by_cases hq : q.nm = p.nm <;> simp [plK, hq]
  · simp [plK]
theorem putR_K {ps : List Rd} {p : Rd} : dput (ps.map rdK) (.inr p.nm) (rdD p) = (putR ps p).map rdK := by
  unfold dput putR
  have e : ((ps.map rdK).any fun kv => decide (kv.1 = .inr p.nm)) = ps.any fun q => decide (q.nm = p.nm) := by
    rw [List.any_map]; congr 1; funext q; simp [rdK]
  rw [e]
  split
  · rw [List.map_map, List.map_map]
    refine List.map_congr_left fun q _ => ?_
    by_cases hq : q.nm = p.nm <;> simp [rdK, hq]
  · simp [rdK]
/-- one or the other -/
def OnS {α : Type} (o : Option α) (a : α → Prop) (b : Prop) : Prop := match o with
  | some q => a q
  | none => b
theorem OnS.some {α : Type} {q : α} {a : α → Prop} {b : Prop} (h : a q) : OnS (.some q) a b := h
theorem OnS.none {α : Type} {a : α → Prop} {b : Prop} (h : b) : OnS .none a b := h
theorem En.nil {Q : DK} {X : XM} {M : Mem} (h : Q .non M) : En Q X M none := h
/-- what a deed on the net at n comes to -/
def De (Q : DK) (X : XM) (M : Mem) (n : Nat) (o : Option Exn) (N : Nt) : Prop := match o with
  | some e => X e M
  | none => ∀ M' p r, Kp [n] M M' → NetM M' n N p r → Q .non M'
theorem De.step {Q Q' : DK} {X : XM} {M : Mem} {n : Nat} {N : Nt} {r r2 : Option Exn} (h : De Q X M n (r.or r2) N) (k : r = none → De Q X M n r2 N → Q' .non M) : En Q' X M r := by
  cases r with
  | none => exact k rfl h
  | some e => exact h
structure NOk (N : Nt) : Prop where
  s : Tame N.s
  t : Tame N.t
  pl : N.ps.length < 1000
  rl : N.rs.length < 1000
  h0 : 0 ≤ N.h
  h1 : N.h < 1000
end MV
namespace Prf
def xTaken (s : Str) : Exn := xE "Taken" "name" "taken" (.str s)
def xNoPlace (s : Str) : Exn := xE "NoPlace" "name" "no place" (.str s)
def xNoRoad (s : Str) : Exn := xE "NoRoad" "name" "no road" (.str s)
def xTooMany (k : Int) : Exn := xE "TooMany" "most" "too many" (.int k)
def rFresh (N : Nt) (s : Str) : Option Exn := (rName s).or (if ((findP N.ps s).isSome || (findR N.rs s).isSome) = true then some (xTaken s) else none)
theorem l_fresh {M : Mem} {Q : DK} {X : XM} {n p r : Nat} {N : Nt} {s : Str} (hN : NetM M n N p r) (hl : s.length ≤ 1000000) (h : En Q X M (rFresh N s)) : w_Net_fresh [.ref n, .str s] M Q X := by
  obtain ⟨h1, h2, h3⟩ := hN
  show m_Net_fresh _ [some (.ref n), some (.str s)] M
  unfold m_Net_fresh
  walk_at "ml"
  refine l_name hl (h.step fun _ h => ?_)
  walk_at "ml"
  rw [getP, Option.isSome_map]
  cases hp : (findP N.ps s).isSome with
  | true =>
    rw [hp] at h
    walk_at "ml"
    exact ⟨rfl, h⟩
  | false =>
    rw [hp] at h
    walk_at "ml"
    rw [getR, Option.isSome_map]
    cases hr : (findR N.rs s).isSome with
    | true =>
      rw [hr] at h
      walk_at "ml"
      exact ⟨rfl, h⟩
    | false =>
      rw [hr] at h
      walk_at "ml"
      exact h
theorem l_known {M : Mem} {Q : DK} {X : XM} {n p r : Nat} {N : Nt} {s : Str} (hN : NetM M n N p r) (h : OnS (findP N.ps s) (fun q => Q (plD q) M) (X (xNoPlace s) M)) : w_Net_known [.ref n, .str s] M Q X := by
  obtain ⟨h1, h2, h3⟩ := hN
  show m_Net_known _ [some (.ref n), some (.str s)] M
  unfold m_Net_known
  walk_at "ml"
  rw [getP, Option.isSome_map]
  cases hp : findP N.ps s with
  | none =>
    rw [hp] at h
    refine if_t ?_
    walk_at "ml"
    exact ⟨rfl, h⟩
  | some q =>
    rw [hp] at h
    refine if_f ?_
    walk_at "ml"
    refine o_ixD (x := .str s) (k := .inr s) h2 rfl (by rw [getP, hp]; rfl) ?_
    exact h
theorem l_place_told {M : Mem} {Q : DK} {X : XM} {n p r : Nat} {N : Nt} {s : Str} (hN : NetM M n N p r) (h : OnS (findP N.ps s) (fun q => Q (plD q) M) (X (xNoPlace s) M)) : w_Net_place_told [.ref n, .str s] M Q X := by
  have h1 := hN.ins
  show m_Net_place_told _ [some (.ref n), some (.str s)] M
  unfold m_Net_place_told
  walk_at "ml"
  exact l_known hN h
theorem l_road_told {M : Mem} {Q : DK} {X : XM} {n p r : Nat} {N : Nt} {s : Str} (hN : NetM M n N p r) (h : OnS (findR N.rs s) (fun q => Q (rdD q) M) (X (xNoRoad s) M)) : w_Net_road_told [.ref n, .str s] M Q X := by
  obtain ⟨h1, h2, h3⟩ := hN
  show m_Net_road_told _ [some (.ref n), some (.str s)] M
  unfold m_Net_road_told
  walk_at "ml"
  rw [getR, Option.isSome_map]
  cases hp : findR N.rs s with
  | none =>
    rw [hp] at h
    refine if_t ?_
    walk_at "ml"
    exact ⟨rfl, h⟩
  | some q =>
    rw [hp] at h
    refine if_f ?_
    walk_at "ml"
    refine o_ixD (x := .str s) (k := .inr s) h3 rfl (by rw [getR, hp]; rfl) ?_
    exact h
theorem l_set_place {M : Mem} {Q : DK} {X : XM} {n p r : Nat} {N : Nt} {q : Pl} (hN : NetM M n N p r) (hk : N.ps.length < 1000) (h : De Q X M n none { N with ps := putP N.ps q }) : w_Net_set_place [.ref n, .str q.nm, plD q] M Q X := by
  have h1 := hN.ins
  have h2 := hN.pl
  show m_Net_set_place _ [some (.ref n), some (.str q.nm), some (plD q), none] M
  unfold m_Net_set_place
  walk_at "ml"
  refine o_setD (x := .str q.nm) (kvs := N.ps.map plK) (k := .inr q.nm) mnew rfl (by simp; omega) ?_
  rw [putP_K]
  have e : (M ++ [O.dct false (N.ps.map plK)]).set M.length (.dct false ((putP N.ps q).map plK)) = M ++ [.dct false ((putP N.ps q).map plK)] := by simp
  rw [e]
  dsimp only
  refine x_setFldV (y := .ref M.length) ?_ ?_ hN.app.ins ?_ ?_ pf_p ?_
  · intro _ _ h; walk_at "ml"; exact h
  · rfl
  · decide +kernel
  · exact Nat.le_of_ble_eq_true rfl
  have hn := mlt h1
  refine h _ M.length r ((Kp.app (S := [n])).trans (.set (by simp))) ⟨?_, ?_, ?_⟩
  · rw [msame hN.app.ins]
  · rw [List.getElem?_set_ne (by omega)]; exact mnew
  · rw [List.getElem?_set_ne hN.nr]; exact hN.app.rd
end Prf

namespace MV
theorem De.mono {Q : DK} {X : XM} {M M1 : Mem} {n : Nat} {N : Nt} (h : De Q X M n none N) (k : Kp [n] M M1) : De Q X M1 n none N := fun M' p r k' hN => h M' p r (k.trans k') hN
/-- what the making of a net comes to -/
def MkE (Q : DK) (X : XM) (M : Mem) (o : Option Exn) (N : Nt) : Prop := match o with
  | some e => X e (M ++ [.ins "Net" []])
  | none => ∀ M' p r, Kp [] M M' → NetM M' M.length N p r → Q .non M'
end MV
namespace Prf
def xBadHours (h : Int) : Exn := xE "BadHours" "number" "bad hours" (.int h)
def rInit (h : Int) (s t : Int × Int) : Option Exn := (if 1 ≤ h ∧ h ≤ 6 then none else some (xBadHours h)).or ((rBox 1000000 "s" s).or (rBox 1000000 "t" t))
theorem l_init {M : Mem} {Q : DK} {X : XM} {h : Int} {s t : Int × Int} (k : MkE Q X M (rInit h s t) ⟨h, s, t, [], []⟩) : w_Net_UinitU [.ref M.length, .int h, pD s, pD t] (M ++ [.ins "Net" []]) Q X := by
  show m_Net_UinitU _ [some (.ref M.length), some (.int h), some (pD s), some (pD t)] (M ++ [.ins "Net" []])
  unfold m_Net_UinitU
  unfold rInit at k
  iterate 4 walk_at "mx"
  refine x_chI (x := 1) (y := h) (z := 6) (fun _ h => by walk_at "ml"; exact h) (fun _ h => by walk_at "ml"; exact h) (fun _ h => by walk_at "ml"; exact h) ?_
  refine if_n (fun hc => ?_) (fun hc => ?_)
  · rw [if_neg hc] at k
    walk_at "ml"
    exact ⟨rfl, k⟩
  rw [if_pos hc] at k
  replace k : MkE Q X M ((rBox 1000000 "s" s).or (rBox 1000000 "t" t)) ⟨h, s, t, [], []⟩ := k
  walk_at "ml"
  refine l_box ?_
  cases h1 : rBox 1000000 "s" s with
  | some e => rw [h1] at k; exact k
  | none =>
  rw [h1] at k
  refine En.nil ?_
  walk_at "ml"
  refine l_box ?_
  cases h2 : rBox 1000000 "t" t with
  | some e => rw [h2] at k; exact k
  | none =>
  rw [h2] at k
  refine En.nil ?_
  replace k : ∀ M' p r, Kp [] M M' → NetM M' M.length ⟨h, s, t, [], []⟩ p r → Q .non M' := k
  have e0 : (M ++ [O.ins "Net" []])[M.length]? = some (.ins "Net" []) := mnew
  have k0 : Kp [] M (M ++ [O.ins "Net" []]) := .app
  dsimp only
  generalize M ++ [O.ins "Net" []] = M0 at e0 k0 ⊢
  walk_at "mx"
  refine x_setFldV (y := .int h) (fs' := [("hours", .int h)]) ?_ ?_ e0 ?_ ?_ rfl ?_
  · intro _ _ h; walk_at "ml"; exact h
  · rfl
  · decide +kernel
  · exact Nat.le_of_ble_eq_true rfl
  have e1 := msame (o' := .ins "Net" [("hours", .int h)]) e0
  have k1 := k0.setNew (o := .ins "Net" [("hours", .int h)]) (Nat.le_refl _)
  generalize M0.set M.length (.ins "Net" [("hours", .int h)]) = M1 at e1 k1 ⊢
  walk_at "mx"
  refine x_setFldV (y := pD s) (fs' := [("hours", .int h), ("s_box", pD s)]) ?_ ?_ e1 ?_ ?_ rfl ?_
  · intro _ _ h; walk_at "ml"; exact h
  · rfl
  · decide +kernel
  · exact Nat.le_of_ble_eq_true rfl
  have e2 := msame (o' := .ins "Net" [("hours", .int h), ("s_box", pD s)]) e1
  have k2 := k1.setNew (o := .ins "Net" [("hours", .int h), ("s_box", pD s)]) (Nat.le_refl _)
  generalize M1.set M.length (.ins "Net" [("hours", .int h), ("s_box", pD s)]) = M2 at e2 k2 ⊢
  walk_at "mx"
  refine x_setFldV (y := pD t) (fs' := [("hours", .int h), ("s_box", pD s), ("t_box", pD t)]) ?_ ?_ e2 ?_ ?_ rfl ?_
  · intro _ _ h; walk_at "ml"; exact h
  · rfl
  · decide +kernel
  · exact Nat.le_of_ble_eq_true rfl
  have e3 := msame (o' := .ins "Net" [("hours", .int h), ("s_box", pD s), ("t_box", pD t)]) e2
  have k3 := k2.setNew (o := .ins "Net" [("hours", .int h), ("s_box", pD s), ("t_box", pD t)]) (Nat.le_refl _)
  generalize M2.set M.length (.ins "Net" [("hours", .int h), ("s_box", pD s), ("t_box", pD t)]) = M3 at e3 k3 ⊢
  walk_at "mx"
  with_reducible refine x_setFld ?_
  walk_at "ml"
  have e4 := (Kp.app (S := []) (l := [O.dct false []])).at_ _ _ (by simp) e3
  have k4 := k3.trans (Kp.app (l := [O.dct false []]))
  have p4 : (M3 ++ [O.dct false []])[M3.length]? = some (.dct false []) := mnew
  have n4 := mlt e3
  show match (M3 ++ [O.dct false []])[M.length]? with | some (.ins c fs) => _ | _ => False
  generalize M3 ++ [O.dct false []] = M4 at e4 k4 p4 ⊢
  rw [e4]
  refine ⟨by decide +kernel, Nat.le_of_ble_eq_true rfl, ?_⟩
  have e5 := msame (o' := .ins "Net" [("hours", .int h), ("s_box", pD s), ("t_box", pD t), ("places", .ref M3.length)]) e4
  have k5 := k4.setNew (o := .ins "Net" [("hours", .int h), ("s_box", pD s), ("t_box", pD t), ("places", .ref M3.length)]) (Nat.le_refl _)
  have p5 : (M4.set M.length (.ins "Net" [("hours", .int h), ("s_box", pD s), ("t_box", pD t), ("places", .ref M3.length)]))[M3.length]? = some (.dct false []) := by rw [List.getElem?_set_ne (by omega)]; exact p4
  dsimp only
  show mSetFld _ _ _ _ _ _ (M4.set M.length (.ins "Net" [("hours", .int h), ("s_box", pD s), ("t_box", pD t), ("places", .ref M3.length)]))
  generalize M4.set M.length (.ins "Net" [("hours", .int h), ("s_box", pD s), ("t_box", pD t), ("places", .ref M3.length)]) = M5 at e5 k5 p5 ⊢
  with_reducible refine x_setFld ?_
  walk_at "ml"
  have e6 := (Kp.app (S := []) (l := [O.dct false []])).at_ _ _ (by simp) e5
  have k6 := k5.trans (Kp.app (l := [O.dct false []]))
  have q6 : (M5 ++ [O.dct false []])[M5.length]? = some (.dct false []) := mnew
  have p6 := (Kp.app (S := []) (l := [O.dct false []])).at_ _ _ (by simp) p5
  have n6 := mlt e5
  show match (M5 ++ [O.dct false []])[M.length]? with | some (.ins c fs) => _ | _ => False
  generalize M5 ++ [O.dct false []] = M6 at e6 k6 p6 q6 ⊢
  rw [e6]
  refine ⟨by decide +kernel, Nat.le_of_ble_eq_true rfl, ?_⟩
  refine k _ M3.length M5.length (k6.setNew (Nat.le_refl _)) ⟨msame e6, ?_, ?_⟩
  · rw [List.getElem?_set_ne (by omega)]; exact p6
  · rw [List.getElem?_set_ne (by omega)]; exact q6
def newPl (N : Nt) (s : Str) : Pl := ⟨s, none, some (0, 0), (0, 0), List.replicate N.h.toNat (0, 0)⟩
def rPlace (N : Nt) (s : Str) : Option Exn := (rFresh N s).or (if 12 ≤ (N.ps.length : Int) then some (xTooMany 12) else none)
theorem fresh_no {N : Nt} {s : Str} (h : rFresh N s = none) : rName s = none ∧ findP N.ps s = none ∧ findR N.rs s = none := by
  unfold rFresh at h
  rw [Option.or_eq_none_iff] at h
  refine ⟨h.1, ?_⟩
  have := h.2
  split at this
  · cases this
  · rename_i hc
    simp at hc
    exact hc
theorem putP_new {ps : List Pl} {q : Pl} (h : findP ps q.nm = none) : putP ps q = ps ++ [q] := by
  unfold putP
  rw [if_neg]
  intro hc
  obtain ⟨x, hx, he⟩ := List.any_eq_true.mp hc
  unfold findP at h
  rw [List.find?_eq_none] at h
  exact h x hx he
theorem putR_new {ps : List Rd} {q : Rd} (h : findR ps q.nm = none) : putR ps q = ps ++ [q] := by
  unfold putR
  rw [if_neg]
  intro hc
  obtain ⟨x, hx, he⟩ := List.any_eq_true.mp hc
  unfold findR at h
  rw [List.find?_eq_none] at h
  exact h x hx he
theorem l_place {M : Mem} {Q : DK} {X : XM} {n p r : Nat} {N : Nt} {s : Str} (hN : NetM M n N p r) (ok : NOk N) (hl : s.length ≤ 1000000) (h : De Q X M n (rPlace N s) { N with ps := N.ps ++ [newPl N s] }) : w_Net_place [.ref n, .str s] M Q X := by
  have h1 := hN.ins
  have h2 := hN.pl
  show m_Net_place _ [some (.ref n), some (.str s), none] M
  unfold m_Net_place
  walk_at "ml"
  refine l_fresh hN hl (h.step fun hf h => ?_)
  walk_at "ml"
  rw [List.length_map]
  refine if_d (fun hc => ?_) (fun hc => ?_)
  · rw [if_pos hc] at h
    walk_at "ml"
    exact ⟨rfl, h⟩
  rw [if_neg hc] at h
  obtain ⟨-, hfp, -⟩ := fresh_no hf
  have hh0 := ok.h0
  have hh1 := ok.h1
  walk_at "ml"
  refine ⟨⟨by omega, by omega⟩, ?_⟩
  refine lc_ix (fun k acc M' => acc = (List.replicate k ((0 : Int), (0 : Int))).map pD ∧ Kp [] M M') (fun _ _ _ _ => trivial) ?_ ?_ (by rw [rng_len]; omega) mnew ⟨rfl, .app⟩
  · rintro i e acc M3 K he h3 ⟨rfl, k3⟩ hK
    walk_at "ml"
    exact hK _ _ h3 ⟨by rw [List.replicate_succ']; simp [pD], k3.setNew (Nat.le_refl _)⟩
  · rintro _ M3 h3 ⟨rfl, k3⟩
    rw [rng_len] at h3
    walk_at "ml"
    have e : putP N.ps (newPl N s) = N.ps ++ [newPl N s] := putP_new hfp
    refine l_set_place (q := newPl N s) (hN.kp k3 (by simp) (by simp) (by simp)) ok.pl ?_
    rw [e]
    exact h.mono (k3.weak (by simp))
def xBadTakes (k : Int) : Exn := xE "BadTakes" "number" "bad takes" (.int k)
def rSetRoad (N : Nt) (q : Rd) : Option Exn := (if 0 ≤ q.takes ∧ q.takes ≤ 9 then none else some (xBadTakes q.takes)).or ((rMove 1000000 q.floor).or ((rRoom q.nm q.floor N.s).or (rRungs 4 1000000 q.nm N.s N.t q.rungs)))
theorem l_set_road {M : Mem} {Q : DK} {X : XM} {n p r : Nat} {N : Nt} {q : Rd} (hN : NetM M n N p r) (ok : NOk N) (hl : q.rungs.length < 1000) (h : De Q X M n (rSetRoad N q) { N with rs := putR N.rs q }) : w_Net_set_road [.ref n, .str q.nm, rdD q] M Q X := by
  have h1 := hN.ins
  have h3 := hN.rd
  show m_Net_set_road _ [some (.ref n), some (.str q.nm), some (.tup [.str q.st, .str q.en, .int q.takes, pD q.floor, .tup (q.rungs.map rungD)]), none] M
  unfold m_Net_set_road
  unfold rSetRoad at h
  iterate 4 walk_at "mx"
  refine x_chI (x := 0) (y := q.takes) (z := 9) (fun _ h => by walk_at "ml"; exact h) (fun _ h => by walk_at "ml"; exact h) (fun _ h => by walk_at "ml"; exact h) ?_
  refine if_n (fun hc => ?_) (fun hc => ?_)
  · rw [if_neg hc] at h
    walk_at "ml"
    exact ⟨rfl, h⟩
  rw [if_pos hc] at h
  replace h : De Q X M n ((rMove 1000000 q.floor).or ((rRoom q.nm q.floor N.s).or (rRungs 4 1000000 q.nm N.s N.t q.rungs))) { N with rs := putR N.rs q } := h
  walk_at "ml"
  refine l_move (h.step fun _ h => ?_)
  walk_at "ml"
  refine l_room ok.s (h.step fun _ h => ?_)
  walk_at "ml"
  refine l_rungs ok.s ok.t hl ?_
  cases hr : rRungs 4 1000000 q.nm N.s N.t q.rungs with
  | some e => rw [hr] at h; exact h
  | none =>
  rw [hr] at h
  refine En.nil ?_
  walk_at "ml"
  have := ok.rl
  refine o_setD (x := .str q.nm) (kvs := N.rs.map rdK) (k := .inr q.nm) mnew rfl (by simp; omega) ?_
  rw [show (D.tup [.str q.st, .str q.en, .int q.takes, pD q.floor, .tup (q.rungs.map rungD)]) = rdD q from rfl, putR_K]
  have e : (M ++ [O.dct false (N.rs.map rdK)]).set M.length (.dct false ((putR N.rs q).map rdK)) = M ++ [.dct false ((putR N.rs q).map rdK)] := by simp
  rw [e]
  dsimp only
  refine x_setFldV (y := .ref M.length) ?_ ?_ hN.app.ins ?_ ?_ pf_r ?_
  · intro _ _ h; walk_at "ml"; exact h
  · rfl
  · decide +kernel
  · exact Nat.le_of_ble_eq_true rfl
  have hn := mlt h1
  refine h _ p M.length ((Kp.app (S := [n])).trans (.set (by simp))) ⟨?_, ?_, ?_⟩
  · rw [msame hN.app.ins]
  · rw [List.getElem?_set_ne hN.np]; exact hN.app.pl
  · rw [List.getElem?_set_ne (by omega)]; exact mnew
def rKnown (N : Nt) (s : Str) : Option Exn := if (findP N.ps s).isSome = true then none else some (xNoPlace s)
theorem de_known {M : Mem} {Q : DK} {X : XM} {n : Nat} {N N' : Nt} {s : Str} {r2 : Option Exn} {A : Pl → Prop} (h : De Q X M n ((rKnown N s).or r2) N') (k : ∀ q, findP N.ps s = some q → De Q X M n r2 N' → A q) : OnS (findP N.ps s) A (X (xNoPlace s) M) := by
  unfold rKnown at h
  cases hp : findP N.ps s with
  | none => rw [hp] at h; exact h
  | some q => rw [hp] at h; exact k q hp h
def rRoad (N : Nt) (q : Rd) : Option Exn := (rFresh N q.nm).or ((rKnown N q.st).or ((rKnown N q.en).or ((if 24 ≤ (N.rs.length : Int) then some (xTooMany 24) else none).or (rSetRoad N q))))
theorem l_road {M : Mem} {Q : DK} {X : XM} {n p r : Nat} {N : Nt} {q : Rd} (hN : NetM M n N p r) (ok : NOk N) (hl : q.rungs.length < 1000) (hs : q.nm.length ≤ 1000000) (h : De Q X M n (rRoad N q) { N with rs := N.rs ++ [q] }) : w_Net_road [.ref n, .str q.nm, .str q.st, .str q.en, .int q.takes, pD q.floor, .tup (q.rungs.map rungD)] M Q X := by
  have h1 := hN.ins
  have h3 := hN.rd
  show m_Net_road _ [some (.ref n), some (.str q.nm), some (.str q.st), some (.str q.en), some (.int q.takes), some (pD q.floor), some (.tup (q.rungs.map rungD))] M
  unfold m_Net_road
  unfold rRoad at h
  walk_at "ml"
  refine l_fresh hN hs (h.step fun hf h => ?_)
  walk_at "ml"
  refine l_known hN (de_known h fun _ _ h => ?_)
  walk_at "ml"
  refine l_known hN (de_known h fun _ _ h => ?_)
  walk_at "ml"
  rw [List.length_map]
  refine if_d (fun hc => ?_) (fun hc => ?_)
  · rw [if_pos hc] at h
    walk_at "ml"
    exact ⟨rfl, h⟩
  rw [if_neg hc] at h
  obtain ⟨-, -, hfr⟩ := fresh_no hf
  rw [← putR_new (q := q) hfr] at h
  walk_at "ml"
  exact l_set_road hN ok hl h
end Prf

namespace MV
theorem any_str {ns : List Str} {s : Str} : ((ns.map D.str).any fun e => deq e (.str s)) = decide (s ∈ ns) := by
  induction ns with
  | nil => rfl
  | cons a l ih =>
    rw [List.map_cons, List.any_cons, ih]
    by_cases h : a = s
    · subst h; simp [deq]
    · have h2 : ¬ s = a := fun e => h e.symm
      by_cases h3 : s ∈ l <;> simp [deq, h, h2, h3]
theorem NetM.off {M : Mem} {n pp rr p q : Nat} {N : Nt} (h : NetM M n N pp rr) (F : Feed M p q) : (n ≠ p ∧ pp ≠ p ∧ rr ≠ p) ∧ n ≠ q ∧ pp ≠ q ∧ rr ≠ q := by
  obtain ⟨cs, i, r, s, g1, g2, _⟩ := F
  refine ⟨⟨?_, ?_, ?_⟩, ?_, ?_, ?_⟩
  · rintro rfl; have := h.ins; rw [g1] at this; cases this
  · rintro rfl; have := h.pl; rw [g1] at this; cases this
  · rintro rfl; have := h.rd; rw [g1] at this; cases this
  · rintro rfl; have := h.ins; rw [g2] at this; cases this
  · rintro rfl; have := h.pl; rw [g2] at this; cases this
  · rintro rfl; have := h.rd; rw [g2] at this; cases this
theorem NetM.fd {M M' : Mem} {n pp rr p q : Nat} {N : Nt} (h : NetM M n N pp rr) (F : Feed M p q) (k : Kp [p] M M') : NetM M' n N pp rr := by
  obtain ⟨⟨a, b, c⟩, _⟩ := h.off F
  exact h.kp k (by simp [a]) (by simp [b]) (by simp [c])
theorem Feed.nt {M M' : Mem} {n pp rr p q : Nat} {N : Nt} (F : Feed M p q) (h : NetM M n N pp rr) (k : Kp [n] M M') : Feed M' p q := by
  obtain ⟨⟨a, b, c⟩, a', b', c'⟩ := h.off F
  exact F.kp k (by simp [a.symm]) (by simp [a'.symm])
theorem app_cps {s t : Str} : (s ++ t).cps = s.cps ++ t.cps := rfl
end MV
namespace Prf
def Z8 : Str := "zzzzzzzz"
theorem z8_size : Z8.cps.size = 8 := by decide +kernel
/-- a good name of at most k signs, other than eight z -/
structure Nm (k : Nat) (s : Str) : Prop where
  len : s.cps.size ≤ k
  l : ∃ c r, s.cps.toList = c :: r ∧ c ∈ FIRST.cps.toList ∧ ∀ x ∈ r, x ∈ LATER.cps.toList
  nz : s ≠ Z8
theorem fl_asc : ∀ c ∈ LATER.cps.toList, c < 128 := by decide +kernel
theorem ff_asc : ∀ c ∈ FIRST.cps.toList, c < 128 := by decide +kernel
theorem ff_later : ∀ c ∈ FIRST.cps.toList, c ∈ LATER.cps.toList := by decide +kernel
theorem later_take : LATER.cps.toList.take 26 = FIRST.cps.toList := by decide +kernel
theorem later_size : LATER.cps.size = 36 := by decide +kernel
theorem later_inj : ∀ i < 36, ∀ j < 36, LATER.cps[i]? = LATER.cps[j]? → i = j := by decide +kernel
def Q7 : Str := "qqqqqqq"
theorem q7_nm : Nm 7 Q7 := ⟨by decide +kernel, ⟨113, [113, 113, 113, 113, 113, 113], by decide +kernel, by decide +kernel, by decide +kernel⟩, by decide +kernel⟩
theorem q7_size : Q7.cps.size = 7 := by decide +kernel
theorem q7_z {c : Nat} : Q7 ++ ⟨#[c]⟩ ≠ Z8 := fun e => by
  have e1 := congrArg (fun z : Str => z.cps.toList[0]?) e
  have e2 : (Q7 ++ ⟨#[c]⟩).cps.toList[0]? = Q7.cps.toList[0]? := by
    rw [app_cps, Array.toList_append, List.getElem?_append_left (by decide +kernel)]
  have e3 : Q7.cps.toList[0]? ≠ Z8.cps.toList[0]? := by decide +kernel
  exact e3 (e2.symm.trans e1)
theorem Nm.app {k : Nat} {s : Str} {c : Nat} (h : Nm k s) (hc : c ∈ LATER.cps.toList) (hk : k < 7 ∨ s = Q7) : Nm (k + 1) (s ++ ⟨#[c]⟩) := by
  obtain ⟨hl, ⟨a, r, e, h1, h2⟩, -⟩ := h
  refine ⟨by rw [app_cps, Array.size_append]; simpa using hl, ⟨a, r ++ [c], ?_, h1, ?_⟩, ?_⟩
  rotate_left 2
  · rcases hk with hk | rfl
    · intro e
      have := congrArg (fun z : Str => z.cps.size) e
      simp only [z8_size, app_cps, Array.size_append] at this
      simp at this
      omega
    · exact q7_z
  · rw [app_cps, Array.toList_append, e]; rfl
  · intro x hx
    rcases List.mem_append.mp hx with z | z
    · exact h2 x z
    · simp at z; subst z; exact hc
theorem Nm.one {c : Nat} (h : c ∈ FIRST.cps.toList) : Nm 1 ⟨#[c]⟩ := ⟨Nat.le_refl _, ⟨c, [], rfl, h, by simp⟩, fun e => by
  have := congrArg (fun z : Str => z.cps.size) e
  simp only [z8_size] at this
  simp at this⟩
theorem Nm.mono {k m : Nat} {s : Str} (e : k ≤ m) (h : Nm k s) : Nm m s := ⟨Nat.le_trans h.len e, h.l, h.nz⟩
theorem Nm.asc {k : Nat} {s : Str} (h : Nm k s) : Asc k s := ⟨h.len, by
  obtain ⟨a, r, e, h1, h2⟩ := h.l
  intro c hc
  rw [e] at hc
  rcases List.mem_cons.mp hc with rfl | z
  · exact ff_asc _ h1
  · exact fl_asc c (h2 c z)⟩
theorem Nm.pos {k : Nat} {s : Str} (h : Nm k s) : 1 ≤ s.cps.size := by
  obtain ⟨a, r, e, h1, h2⟩ := h.l
  have := congrArg List.length e
  simp at this; omega
theorem Nm.good {s : Str} (h : Nm 8 s) : goodB s = true := by
  have hl : 1 ≤ (s.length : Int) ∧ (s.length : Int) ≤ 8 := by
    have := h.pos; have := h.len
    unfold Str.length; omega
  obtain ⟨a, r, e, h1, h2⟩ := h.l
  unfold goodB
  rw [decide_eq_true hl, e]
  simp only [List.all_cons, decide_eq_true h1, decide_eq_true (ff_later a h1), Bool.and_self, Bool.true_and, List.all_eq_true, decide_eq_true_eq]
  exact h2
theorem Nm.short {s : Str} (h : Nm 8 s) : s.length ≤ 1000000 := by have := h.len; unfold Str.length; omega
theorem Nm.name {s : Str} (h : Nm 8 s) : rName s = none := by unfold rName; rw [if_pos h.good]
theorem sg_first {r : Int} {c : Nat} (r0 : 0 ≤ r) (r1 : r < 26) (h : LATER.cps[r.toNat]? = some c) : c ∈ FIRST.cps.toList := by
  rw [← later_take]
  have : (LATER.cps.toList.take 26)[r.toNat]? = some c := by
    rw [List.getElem?_take, if_pos (by omega)]; simpa using h
  exact List.mem_of_getElem? this
theorem sg_later {r : Nat} {c : Nat} (h : LATER.cps[r]? = some c) : c ∈ LATER.cps.toList := Array.mem_toList_iff.mpr (Array.mem_of_getElem? h)
/-- how names are made -/
def NmBy (i : Nat) (s : Str) : Prop := s.cps.size ≤ 4 ∨ ∃ j c, j < i ∧ LATER.cps[j]? = some c ∧ s = Q7 ++ ⟨#[c]⟩
theorem lnames {M : Mem} {p q : Nat} {m : Int} {Q : DK} {X : XM} (F : Feed M p q) (m0 : 0 ≤ m) (m1 : m ≤ 36)
    (k : ∀ (ns : List Str) (M' : Mem), ns.length = m.toNat → (∀ s ∈ ns, Nm 8 s) → ns.Nodup → Kp [p] M M' → Feed M' p q → M'[M.length]? = some (.lst (ns.map .str)) → Q (.ref M.length) M') : w_Lnames [.ref p, .int m] M Q X := by
  show m_Lnames _ [some (.ref p), some (.int m), none, none, none, none, none] M
  unfold m_Lnames
  have hlen : LATER.length ≤ 1000000 := by decide +kernel
  have sz := later_size
  have hp := F.lt
  have hpl : M.length ∉ [p] := by simp; omega
  walk_at "ml"
  refine ⟨⟨by omega, by omega⟩, ?_⟩
  refine for_ix (fun i ρ M' => ∃ (ns : List Str) (o4 o5 o6 : Option D), ρ = [some (.ref p), some (.int m), some (.str LATER), some (.ref M.length), o4, o5, o6] ∧ ns.length = i ∧ (∀ s ∈ ns, Nm 8 s) ∧ ns.Nodup ∧ (∀ s ∈ ns, NmBy i s) ∧ Kp [p] M M' ∧ Feed M' p q ∧ M'[M.length]? = some (.lst (ns.map .str))) (fun _ _ _ _ => trivial) ?_ ?_
    ⟨[], _, _, _, rfl, rfl, by simp, by simp, by simp, .app, F.app, mnew⟩
  · rintro ρ M1 ⟨ns, o4, o5, o6, rfl, hn, ha, hd, -, k1, F1, h1⟩
    rw [rng_len] at hn
    walk_at "ml"
    exact k ns M1 hn ha hd k1 F1 h1
  · rintro i d ρ M1 K hd ⟨ns, o4, o5, o6, rfl, hn, ha, hnd, hby, k1, F1, h1⟩ hK
    obtain ⟨rfl, hi⟩ := rng_at hd
    have hi36 : i < 36 := by omega
    walk_at "ml"
    refine ldraw F1 (by decide) (by decide) fun r M2 r0 r1 k2 F2 => ?_
    refine o_ixA hlen r0 (by omega) fun c hc => ?_
    have h2 := k2.at_ _ _ hpl h1
    with_reducible refine x_join (fun ρ M' => ∃ (s : Str) (o6 : Option D), ρ = [some (.ref p), some (.int m), some (.str LATER), some (.ref M.length), some (.int i), some (.str s), o6] ∧ Nm 4 s ∧ Kp [p] M M' ∧ Feed M' p q ∧ M'[M.length]? = some (.lst (ns.map .str))) ?_ ?_
    · intro K2 hK2
      walk_at "ml"
      refine ldraw F2 (by decide) (by decide) fun r' M3 r0' r1' k3 F3 => ?_
      have h3 := k3.at_ _ _ hpl h2
      walk_at "ml"
      refine ⟨⟨by omega, by omega⟩, ?_⟩
      refine for_ix (fun j ρ M' => ∃ (s : Str) (o6 : Option D), ρ = [some (.ref p), some (.int m), some (.str LATER), some (.ref M.length), some (.int i), some (.str s), o6] ∧ Nm (1 + j) s ∧ Kp [p] M M' ∧ Feed M' p q ∧ M'[M.length]? = some (.lst (ns.map .str))) (fun _ _ _ _ => trivial) ?_ ?_
        ⟨_, _, rfl, Nm.one (sg_first r0 r1 hc), (k1.trans k2).trans k3, F3, h3⟩
      · rintro ρ M4 ⟨s, o6, rfl, hs, k4, F4, h4⟩
        rw [rng_len] at hs
        exact hK2 _ _ ⟨s, o6, rfl, hs.mono (by omega), k4, F4, h4⟩
      · rintro j d ρ M4 K3 hd ⟨s, o6, rfl, hs, k4, F4, h4⟩ hK3
        obtain ⟨rfl, hj⟩ := rng_at hd
        walk_at "ml"
        refine ldraw F4 (by decide) (by decide) fun u M5 u0 u1 k5 F5 => ?_
        refine o_ixA hlen u0 (by omega) fun c' hc' => ?_
        refine o_addS (by have := hs.asc.len; have : (⟨#[c']⟩ : Str).length = 1 := rfl; omega) ?_
        exact hK3 _ _ ⟨_, _, rfl, hs.app (sg_later hc') (.inl (by omega)), k4.trans k5, F5, k5.at_ _ _ hpl h4⟩
    · rintro _ M4 ⟨s, o6, rfl, hs, k4, F4, h4⟩
      with_reducible refine x_join (fun ρ M' => ∃ (s : Str), ρ = [some (.ref p), some (.int m), some (.str LATER), some (.ref M.length), some (.int i), some (.str s), o6] ∧ Nm 8 s ∧ s ∉ ns ∧ NmBy (i + 1) s ∧ M' = M4) ?_ ?_
      · intro K2 hK2
        walk_at "ml"
        refine o_inL h4 inOk_strs ?_
        rw [any_str]
        refine if_d (fun hin => ?_) (fun hin => ?_)
        · walk_at "ml"
          refine o_mod (by decide) ?_
          have e36 : (i : Int).fmod 36 = i := by rw [Int.fmod_eq_emod_of_nonneg _ (by decide)]; omega
          rw [e36]
          refine o_ixA hlen (by omega) (by omega) fun c' hc' => ?_
          have hc2 : LATER.cps[i]? = some c' := by simpa using hc'
          refine o_addS (z := ⟨#[c']⟩) (s := Q7) (by have : (⟨#[c']⟩ : Str).length = 1 := rfl; have : Q7.length = 7 := q7_size; omega) ?_
          refine hK2 _ _ ⟨Q7 ++ ⟨#[c']⟩, rfl, q7_nm.app (sg_later hc2) (.inr rfl), ?_, .inr ⟨i, c', by omega, hc2, rfl⟩, rfl⟩
          intro hm
          rcases hby _ hm with h | ⟨j, d, hj, hd, e⟩
          · rw [app_cps, Array.size_append, q7_size] at h
            simp at h
          · have e2 := congrArg (fun z : Str => z.cps.toList) e
            simp only [app_cps, Array.toList_append] at e2
            have e3 := List.append_cancel_left e2
            have e4 : c' = d := by simpa using e3
            have := later_inj i hi36 j (by omega) (by rw [hc2, hd, e4])
            omega
        · walk_at "ml"
          exact hK2 _ _ ⟨_, rfl, hs.mono (by decide), hin, .inl hs.len, rfl⟩
      · rintro _ _ ⟨s, rfl, hs, hni, hby', rfl⟩
        walk_at "ml"
        refine o_app h4 (by simp; omega) ?_
        refine hK _ _ ⟨ns ++ [s], _, _, _, rfl, by simp [hn], ?_, ?_, ?_, k4.setNew (Nat.le_refl _), F4.kp (S := [M.length]) (.set (by simp)) (by simp; omega) (by simp; omega), ?_⟩
        · intro z hz
          rcases List.mem_append.mp hz with h | h
          · exact ha z h
          · simp at h; subst h; exact hs
        · rw [List.nodup_append]
          refine ⟨hnd, by simp, ?_⟩
          intro a ha' b hb
          simp at hb; subst hb
          exact fun e => hni (e ▸ ha')
        · intro z hz
          rcases List.mem_append.mp hz with h | h
          · rcases hby z h with h | ⟨j, d, hj, hd⟩
            · exact .inl h
            · exact .inr ⟨j, d, by omega, hd⟩
          · simp at h; subst h; exact hby'
        · rw [msame h4]; simp
theorem lpick {M : Mem} {p q l : Nat} {ds : List D} {Q : DK} {X : XM} (F : Feed M p q) (hne : l ≠ p) (hl : M[l]? = some (.lst ds)) (h0 : 0 < ds.length) (h1 : ds.length < 100000) (k : ∀ d M', d ∈ ds → Kp [p] M M' → Feed M' p q → Q d M') : w_Lpick [.ref p, .ref l] M Q X := by
  show m_Lpick _ [some (.ref p), some (.ref l)] M
  unfold m_Lpick
  walk_at "ml"
  refine ldraw F (by omega) (by omega) fun d M' d0 d1 k1 F1 => ?_
  have hd : d.toNat < ds.length := by omega
  refine o_ixL (k1.at_ _ _ (by simp [hne]) hl) (v := ds[d.toNat]) (by rw [atI_i d0]; simp [hd]) ?_
  exact k _ _ (List.getElem_mem hd) k1 F1
end Prf

namespace MV
theorem eqB_fine {x y : D} {M : Mem} {k : Bool → Prop} (h1 : fine 20 x = true) (h2 : fine 20 y = true) (q : k (deq x y)) : oEqB x y M k := by
  have eb : ∀ a b : Str, (a == b) = decide (a = b) := fun a b => by by_cases h : a = b <;> simp [h]
  have ei : ∀ a b : Int, (a == b) = decide (a = b) := fun a b => by by_cases h : a = b <;> simp [h]
  unfold oEqB
  split
  · rw [show deq (.str _) (.str _) = (_ == _) from by unfold deq; rfl, eb] at q; exact q
  · rw [show deq (.int _) (.int _) = (_ == _) from by unfold deq; rfl, ei] at q; exact q
  · exact ⟨_, _, see_fine h1, see_fine h2, by rw [eqv_deq 20 h1 h2]; exact q⟩
theorem fine_int {k : Nat} {i : Int} : fine k (.int i) = true := by cases k <;> rfl
theorem fine_non {k : Nat} : fine k .non = true := by cases k <;> rfl
theorem fine_tup {k : Nat} {ds : List D} : fine (k + 1) (.tup ds) = ds.all (fine k) := rfl
theorem fine_pD {k : Nat} {m : Int × Int} : fine (k + 1) (pD m) = true := by simp [pD, fine_tup, fine_int]
theorem fine_om {k : Nat} {m : Option (Int × Int)} : fine (k + 1) (omD m) = true := by cases m <;> simp [omD, fine_pD, fine_non]
theorem deq_om {o : Option (Int × Int)} {m : Int × Int} : deq (omD o) (pD m) = decide (o = some m) := by
  cases o with
  | none => simp [omD, pD, deq]
  | some x =>
    obtain ⟨a, b⟩ := x
    obtain ⟨c, d⟩ := m
    by_cases h1 : a = c <;> by_cases h2 : b = d <;> simp [omD, pD, deq, deqL, h1, h2]
theorem deq_pD {x m : Int × Int} : deq (pD x) (pD m) = decide (x = m) := by
  have := @deq_om (some x) m
  simpa [omD] using this
theorem ne_om {o : Option (Int × Int)} {m : Int × Int} {M : Mem} {Q : DK} (q : Q (.bl (!decide (o = some m))) M) : oNe (omD o) (pD m) M Q := eqB_fine fine_om fine_pD (by rw [deq_om]; exact q)
theorem ne_pD {x m : Int × Int} {M : Mem} {Q : DK} (q : Q (.bl (!decide (x = m))) M) : oNe (pD x) (pD m) M Q := eqB_fine fine_pD fine_pD (by rw [deq_pD]; exact q)
theorem eq_om {o : Option (Int × Int)} {m : Int × Int} {M : Mem} {Q : DK} (q : Q (.bl (decide (o = some m))) M) : oEq (omD o) (pD m) M Q := eqB_fine fine_om fine_pD (by rw [deq_om]; exact q)
/-- a whole number's text -/
def iS (i : Int) : Str := (toString i : String)
theorem iS_list (i : Int) : (iS i).cps.toList = (if i < 0 then [45] else []) ++ (Nat.toDigits 10 i.natAbs).map Char.toNat := by
  unfold iS
  rw [PyProof.Rows.signs_ofString]
  cases i with
  | ofNat n =>
    have : ¬ ((Int.ofNat n) < 0) := by simp
    rw [if_neg this]
    show (Nat.repr n).toList.map Char.toNat = _
    rw [Nat.toList_repr]; rfl
  | negSucc n =>
    have : (Int.negSucc n) < 0 := Int.negSucc_lt_zero n
    rw [if_pos this]
    show (("-" : String) ++ Nat.repr (n + 1)).toList.map Char.toNat = _
    rw [String.toList_append, Nat.toList_repr]
    rfl
theorem digit_asc {n : Nat} {c : Nat} (h : c ∈ (Nat.toDigits 10 n).map Char.toNat) : c < 128 := by
  obtain ⟨ch, hch, e⟩ := List.mem_map.mp h
  have r := PyProof.Rows.digit_range (Nat.isDigit_of_mem_toDigits (by decide) (by decide) hch)
  omega
theorem iS_asc {i : Int} {k : Nat} (hk : 1 ≤ k) (h : i.natAbs < 10 ^ k) : Asc (k + 1) (iS i) := by
  have e := iS_list i
  refine ⟨?_, fun c hc => ?_⟩
  · have l := congrArg List.length e
    have d := PyProof.Rows.digits10_le hk h
    simp at l
    rw [l]
    split <;> simp <;> omega
  · rw [e] at hc
    rcases List.mem_append.mp hc with z | z
    · split at z <;> simp at z
      omega
    · exact digit_asc z
def Mv (m : Int × Int) : Prop := m.1.natAbs ≤ 1000000 ∧ m.2.natAbs ≤ 1000000
theorem Mv.s1 {m : Int × Int} (h : Mv m) : Asc 8 (iS m.1) := iS_asc (k := 7) (by decide) (by have := h.1; omega)
theorem Mv.s2 {m : Int × Int} (h : Mv m) : Asc 8 (iS m.2) := iS_asc (k := 7) (by decide) (by have := h.2; omega)
theorem Mv.s3 {m : Int × Int} (h : Mv m) : Asc 8 (iS (-m.2)) := iS_asc (k := 7) (by decide) (by have := h.2; omega)
theorem log_ok {i : Int} (h : i.natAbs ≤ 1000000000) : i.natAbs.log2 < 1920 := by
  by_cases h0 : i.natAbs = 0
  · rw [h0]; decide
  · exact Nat.lt_of_lt_of_le ((Nat.log2_lt h0).mpr (show i.natAbs < 2 ^ 30 by omega)) (by decide)
def moveW (m : Int × Int) (l : Str) : Str := if m.2 = 0 then iS m.1 else if 0 < m.2 then iS m.1 ++ "+" ++ iS m.2 ++ l else iS m.1 ++ "-" ++ iS (-m.2) ++ l
def roomW (o : Option (Int × Int)) (l : Str) : Str := match o with
  | none => "open"
  | some m => moveW m l
theorem asc_plus : Asc 1 (Str.ofString "+") := ⟨by decide +kernel, by decide +kernel⟩
theorem asc_minus : Asc 1 (Str.ofString "-") := ⟨by decide +kernel, by decide +kernel⟩
theorem asc_open : Asc 4 (Str.ofString "open") := ⟨by decide +kernel, by decide +kernel⟩
theorem moveW_asc {m : Int × Int} {l : Str} (h : Mv m) (hl : Asc 1 l) : Asc 18 (moveW m l) := by
  unfold moveW
  split
  · exact h.s1.mono (by decide)
  · split
    · exact ((h.s1.app asc_plus).app h.s2).app hl
    · exact ((h.s1.app asc_minus).app h.s3).app hl
def oMv (o : Option (Int × Int)) : Prop := ∀ m, o = some m → Mv m
theorem roomW_asc {o : Option (Int × Int)} {l : Str} (h : oMv o) (hl : Asc 1 l) : Asc 18 (roomW o l) := by
  cases o with
  | none => exact asc_open.mono (by decide)
  | some m => exact moveW_asc (h m rfl) hl
theorem e_app {s : Str} : Str.empty ++ s = s := by
  have : (Str.empty ++ s).cps = s.cps := by show Str.empty.cps ++ s.cps = s.cps; simp [Str.empty]
  cases s; exact congrArg Str.mk this
theorem len_app {s t : Str} : (s ++ t).length = s.length + t.length := by
  show (s.cps ++ t.cps).size = _
  rw [Array.size_append]; rfl
inductive Parts (ρ : Ev) (M : Mem) (X : XM) : List ME → List Str → Prop
  | nil : Parts ρ M X [] []
  | cons {m : ME} {y : Str} {ms : List ME} {ys : List Str} : (∀ Q : DK, Q (.str y) M → m ρ M Q X) → Parts ρ M X ms ys → Parts ρ M X (m :: ms) (y :: ys)
theorem js_parts {ρ : Ev} {M : Mem} {X : XM} {Q : DK} : ∀ {ms : List ME} {ys : List Str} {acc : Str}, Parts ρ M X ms ys → acc.length + (ys.map (·.length)).sum ≤ 16000000 → Q (.str (ys.foldl (· ++ ·) acc)) M → mJs ms acc ρ M Q X
  | _, _, _, .nil, _, q => q
  | _, _, acc, .cons (y := y) (ys := ys) h t, hl, q => h _ ⟨by rw [len_app]; simp at hl; omega, js_parts t (by rw [len_app]; simp at hl; omega) q⟩
theorem js_all {ρ : Ev} {M : Mem} {X : XM} {Q : DK} {ms : List ME} {ys : List Str} {z : Str} (h : Parts ρ M X ms ys) (hl : (ys.map (·.length)).sum ≤ 16000000) (hz : ys.foldl (· ++ ·) Str.empty = z) (q : Q (.str z) M) : mJs ms Str.empty ρ M Q X := js_parts h (by simpa [Str.length, Str.empty] using hl) (by rw [hz]; exact q)
theorem o_fmtS {z : Str} {M : Mem} {Q : DK} (hl : z.length ≤ 16000000) (q : Q (.str z) M) : oFmt (.str z) M Q := ⟨hl, q⟩
theorem o_fmtI {i : Int} {M : Mem} {Q : DK} (hl : i.natAbs ≤ 1000000000) (q : Q (.str (iS i)) M) : oFmt (.int i) M Q := ⟨log_ok hl, q⟩
theorem o_sI {i : Int} {M : Mem} {Q : DK} (hl : i.natAbs ≤ 1000000000) (q : Q (.str (iS i)) M) : oStr1 [.int i] M Q := ⟨log_ok hl, q⟩
theorem o_addA {s z : Str} {n m : Nat} {M : Mem} {Q : DK} (h1 : Asc n s) (h2 : Asc m z) (hl : n + m ≤ 16000000) (q : Q (.str (s ++ z)) M) : oAdd (.str s) (.str z) M Q := o_addS (by have := h1.len; have := h2.len; omega) q
theorem strsOf_map {ys : List Str} : strsOf (ys.map .str) = some ys := by
  induction ys with
  | nil => rfl
  | cons a l ih => simp [strsOf, ih]
theorem sum_le {ys : List Str} {k : Nat} (h : ∀ y ∈ ys, y.length ≤ k) : (ys.map (·.length)).sum ≤ ys.length * k := by
  induction ys with
  | nil => simp
  | cons a l ih =>
    have h1 := h a (by simp)
    have h2 := ih fun y hy => h y (by simp [hy])
    simp only [List.map_cons, List.sum_cons, List.length_cons, Nat.succ_mul]
    omega
theorem o_join {a : Str} {n k b : Nat} {ys : List Str} {M : Mem} {Q : DK} (e : M[n]? = some (.lst (ys.map .str))) (h : ∀ y ∈ ys, y.length ≤ k) (ha : a.length = 1) (hb : ys.length ≤ b) (hl : b * (k + 1) ≤ 16777216) (q : Q (.str (Txt.join a ys)) M) : omJoin (.str a) [.ref n] M Q := by
  unfold omJoin
  dsimp only
  rw [e]
  dsimp only
  rw [strsOf_map]
  refine ⟨?_, q⟩
  have := sum_le h
  rw [ha]
  have h2 : ys.length * (k + 1) ≤ b * (k + 1) := Nat.mul_le_mul_right _ hb
  rw [Nat.mul_succ] at h2
  omega
theorem o_ext {n m : Nat} {ds es : List D} {M : Mem} {Q : DK} (e1 : M[n]? = some (.lst ds)) (e2 : M[m]? = some (.lst es)) (hl : ds.length + es.length ≤ 16000000) (q : Q .non (M.set n (.lst (ds ++ es)))) : omExtend (.ref n) [.ref m] M Q := by
  unfold omExtend; dsimp only; rw [e1, e2]; exact ⟨hl, q⟩
end MV
namespace Prf
theorem l_written {M : Mem} {Q : DK} {X : XM} {m : Int × Int} {l : Str} (hm : Mv m) (hl : Asc 1 l) (h : Q (.str (moveW m l)) M) : w_written [pD m, .str l] M Q X := by
  show m_written _ [some (pD m), some (.str l), none] M
  unfold m_written
  unfold moveW at h
  have m1 := hm.1
  have m2 := hm.2
  walk_at "ml"
  refine if_d (fun h0 => ?_) (fun h0 => ?_)
  · rw [if_pos h0] at h
    walk_at "ml"
    exact o_sI (by omega) h
  rw [if_neg h0] at h
  walk_at "ml"
  refine if_d (fun h1 => ?_) (fun h1 => ?_)
  · rw [if_pos h1] at h
    walk_at "ml"
    refine js_all (ys := [iS m.1, "+", iS m.2, l]) (.cons (fun _ h => ?_) (.cons (fun _ h => ?_) (.cons (fun _ h => ?_) (.cons (fun _ h => ?_) .nil)))) ?_ rfl ?_
    · walk_at "ml"; exact o_fmtI (by omega) h
    · walk_at "ml"; exact o_fmtS (by decide +kernel) h
    · walk_at "ml"
      rw [if_neg (by omega)]
      exact o_fmtI (by omega) h
    · walk_at "ml"; exact o_fmtS (by have := hl.len; omega) h
    · have a1 := hm.s1.len; have a2 := asc_plus.len; have a3 := hm.s2.len; have a4 := hl.len
      simp; omega
    · simp only [List.foldl]; rw [e_app]; exact h
  · rw [if_neg h1] at h
    walk_at "ml"
    refine js_all (ys := [iS m.1, "-", iS (-m.2), l]) (.cons (fun _ h => ?_) (.cons (fun _ h => ?_) (.cons (fun _ h => ?_) (.cons (fun _ h => ?_) .nil)))) ?_ rfl ?_
    · walk_at "ml"; exact o_fmtI (by omega) h
    · walk_at "ml"; exact o_fmtS (by decide +kernel) h
    · walk_at "ml"
      rw [if_pos (by omega)]
      exact o_fmtI (by omega) h
    · walk_at "ml"; exact o_fmtS (by have := hl.len; omega) h
    · have a1 := hm.s1.len; have a2 := asc_minus.len; have a3 := hm.s3.len; have a4 := hl.len
      simp; omega
    · simp only [List.foldl]; rw [e_app]; exact h
theorem l_room_word {M : Mem} {Q : DK} {X : XM} {o : Option (Int × Int)} (hm : oMv o) (h : Q (.str (roomW o "s")) M) : w_room_word [omD o] M Q X := by
  show m_room_word _ [some (omD o)] M
  unfold m_room_word
  walk_at "ml"
  cases o with
  | none =>
    refine if_t ?_
    walk_at "ml"
    exact h
  | some m =>
    refine if_f ?_
    walk_at "ml"
    exact l_written (hm m rfl) ⟨by decide +kernel, by decide +kernel⟩ h
theorem l_move_word {M : Mem} {Q : DK} {X : XM} {o : Option (Int × Int)} {l : Str} (hm : oMv o) (hl : Asc 1 l) (h : Q (.str (roomW o l)) M) : w_Lmove_word [omD o, .str l] M Q X := by
  show m_Lmove_word _ [some (omD o), some (.str l)] M
  unfold m_Lmove_word
  walk_at "ml"
  cases o with
  | none =>
    refine if_t ?_
    walk_at "ml"
    exact h
  | some m =>
    have hm := hm m rfl
    have m1 := hm.1
    have m2 := hm.2
    replace h : Q (.str (moveW m l)) M := h
    unfold moveW at h
    refine if_f ?_
    show mSeq _ _ _ [some (pD m), some (.str l)] M
    walk_at "ml"
    refine if_d (fun h0 => ?_) (fun h0 => ?_)
    · rw [if_pos h0] at h
      walk_at "ml"
      exact o_sI (by omega) h
    rw [if_neg h0] at h
    walk_at "ml"
    refine if_d (fun h1 => ?_) (fun h1 => ?_)
    · rw [if_pos h1] at h
      walk_at "ml"
      refine o_sI (by omega) ?_
      walk_at "ml"
      refine o_addA hm.s1 asc_plus (by decide) ?_
      walk_at "ml"
      refine o_sI (by omega) ?_
      refine o_addA (hm.s1.app asc_plus) hm.s2 (by decide) ?_
      walk_at "ml"
      exact o_addA ((hm.s1.app asc_plus).app hm.s2) hl (by decide) h
    · rw [if_neg h1] at h
      walk_at "ml"
      refine o_sI (by omega) ?_
      walk_at "ml"
      refine o_addA hm.s1 asc_minus (by decide) ?_
      walk_at "ml"
      refine o_sI (by omega) ?_
      refine o_addA (hm.s1.app asc_minus) hm.s3 (by decide) ?_
      walk_at "ml"
      exact o_addA ((hm.s1.app asc_minus).app hm.s3) hl (by decide) h
end Prf

namespace MV
structure PlOk (p : Pl) : Prop where
  nm : Asc 8 p.nm
  room : oMv p.room
  kept : oMv p.kept
  price : Mv p.price
  wants : ∀ m ∈ p.wants, Mv m
  wl : p.wants.length ≤ 6
structure RdOk (r : Rd) : Prop where
  nm : Asc 8 r.nm
  st : Asc 8 r.st
  en : Asc 8 r.en
  takes : 0 ≤ r.takes ∧ r.takes ≤ 9
  floor : Mv r.floor
  rungs : ∀ g ∈ r.rungs, oMv g.1 ∧ Mv g.2
  rl : r.rungs.length ≤ 4
structure NtOk (N : Nt) : Prop where
  h : 1 ≤ N.h ∧ N.h ≤ 6
  s : Mv N.s
  t : Mv N.t
  ps : ∀ p ∈ N.ps, PlOk p
  rs : ∀ r ∈ N.rs, RdOk r
  pl : N.ps.length ≤ 12
  rl : N.rs.length ≤ 24
  pn : (N.ps.map (·.nm)).Nodup
  rn : (N.rs.map (·.nm)).Nodup
theorem Mv.tame {m : Int × Int} (h : Mv m) : Tame m := ⟨by have := h.1; omega, by have := h.2; omega⟩
def wantRow (nm : Str) (k : Int) (m : Int × Int) : List Str := if m = (0, 0) then [] else ["want " ++ nm ++ " " ++ iS k ++ " " ++ moveW m "s"]
def wantRows (nm : Str) : Int → List (Int × Int) → List Str
  | _, [] => []
  | k, m :: l => wantRow nm k m ++ wantRows nm (k + 1) l
def thrRow (p : Pl) : List Str := if p.room = none then [] else ["through " ++ p.nm ++ " " ++ roomW p.room "s"]
def stoRow (p : Pl) : List Str := if p.kept = some (0, 0) then [] else ["store " ++ p.nm ++ " " ++ roomW p.kept "s" ++ " " ++ moveW p.price "t"]
def plRows (p : Pl) : List Str := ["place " ++ p.nm] ++ thrRow p ++ stoRow p ++ wantRows p.nm 1 p.wants
def rungW (r : Rung) : Str := roomW r.1 "s" ++ ":" ++ moveW r.2 "t"
def rdWords (r : Rd) : List Str := [("road" : Str), r.nm, r.st, r.en, iS r.takes, moveW r.floor "s"] ++ r.rungs.map rungW
def rdRow (r : Rd) : Str := Txt.join " " (rdWords r)
def headRows (N : Nt) : List Str := ["hours " ++ iS N.h, "s " ++ iS N.s.1 ++ " " ++ iS N.s.2, "t " ++ iS N.t.1 ++ " " ++ iS N.t.2]
def textR (N : Nt) : List Str := headRows N ++ N.ps.flatMap plRows ++ N.rs.map rdRow
def textN (N : Nt) : Str := Txt.join "\n" (textR N)
theorem wantRows_app {nm : Str} : ∀ {l : List (Int × Int)} {k : Int} {m : Int × Int}, wantRows nm k (l ++ [m]) = wantRows nm k l ++ wantRow nm (k + l.length) m
  | [], k, m => by simp [wantRows]
  | a :: l, k, m => by
    rw [List.cons_append]
    simp only [wantRows]
    rw [wantRows_app, List.append_assoc, List.length_cons]
    congr 3
    push_cast
    omega
theorem L_place : (Str.ofString "place ").length = 6 := by decide +kernel
theorem L_through : (Str.ofString "through ").length = 8 := by decide +kernel
theorem L_store : (Str.ofString "store ").length = 6 := by decide +kernel
theorem L_want : (Str.ofString "want ").length = 5 := by decide +kernel
theorem L_sp : (Str.ofString " ").length = 1 := by decide +kernel
theorem L_nl : (Str.ofString "\n").length = 1 := by decide +kernel
theorem L_co : (Str.ofString ":").length = 1 := by decide +kernel
theorem L_hours : (Str.ofString "hours ").length = 6 := by decide +kernel
theorem L_s : (Str.ofString "s ").length = 2 := by decide +kernel
theorem L_t : (Str.ofString "t ").length = 2 := by decide +kernel
theorem L_road : (Str.ofString "road").length = 4 := by decide +kernel
theorem as_s : Asc 1 (Str.ofString "s") := ⟨by decide +kernel, by decide +kernel⟩
theorem as_t : Asc 1 (Str.ofString "t") := ⟨by decide +kernel, by decide +kernel⟩
theorem hr_asc {k : Int} (h0 : 0 ≤ k) (h1 : k ≤ 100) : Asc 4 (iS k) := iS_asc (k := 3) (by decide) (by omega)
/-- row lengths -/
def Sh (ys : List Str) : Prop := ∀ y ∈ ys, y.length ≤ 400
theorem Sh.app {a b : List Str} (h1 : Sh a) (h2 : Sh b) : Sh (a ++ b) := fun y hy => (List.mem_append.mp hy).elim (h1 y) (h2 y)
theorem sh_want {nm : Str} {k : Int} {m : Int × Int} (hn : Asc 8 nm) (hm : Mv m) (h0 : 0 ≤ k) (h1 : k ≤ 100) : Sh (wantRow nm k m) ∧ (wantRow nm k m).length ≤ 1 := by
  unfold wantRow
  split
  · exact ⟨by intro y hy; simp at hy, by simp⟩
  · refine ⟨?_, by simp⟩
    intro y hy
    simp at hy
    subst hy
    have a1 := hn.len; have a2 := (hr_asc h0 h1).len; have a3 := (moveW_asc hm as_s).len
    simp only [len_app, L_want, L_sp]; omega
theorem sh_wants {nm : Str} (hn : Asc 8 nm) : ∀ {l : List (Int × Int)} {k : Int}, (∀ m ∈ l, Mv m) → 0 ≤ k → k + l.length ≤ 100 → Sh (wantRows nm k l) ∧ (wantRows nm k l).length ≤ l.length
  | [], _, _, _, _ => ⟨by intro y hy; simp [wantRows] at hy, by simp [wantRows]⟩
  | m :: l, k, h, h0, h1 => by
    simp at h1
    obtain ⟨a1, a2⟩ := sh_want (k := k) hn (h m (by simp)) h0 (by omega)
    obtain ⟨b1, b2⟩ := sh_wants hn (l := l) (k := k + 1) (fun x hx => h x (by simp [hx])) (by omega) (by omega)
    refine ⟨a1.app b1, ?_⟩
    simp only [wantRows, List.length_append, List.length_cons]
    omega
theorem sh_pl {p : Pl} (h : PlOk p) : Sh (plRows p) ∧ (plRows p).length ≤ 9 := by
  have hn := h.nm.len
  have h1 : Sh ["place " ++ p.nm] := by
    intro y hy; simp at hy; subst hy
    simp only [len_app, L_place]; omega
  have h2 : Sh (thrRow p) ∧ (thrRow p).length ≤ 1 := by
    unfold thrRow
    split
    · exact ⟨by intro y hy; simp at hy, by simp⟩
    · refine ⟨?_, by simp⟩
      intro y hy; simp at hy; subst hy
      have a3 := (roomW_asc h.room as_s).len
      simp only [len_app, L_through, L_sp]; omega
  have h3 : Sh (stoRow p) ∧ (stoRow p).length ≤ 1 := by
    unfold stoRow
    split
    · exact ⟨by intro y hy; simp at hy, by simp⟩
    · refine ⟨?_, by simp⟩
      intro y hy; simp at hy; subst hy
      have a3 := (roomW_asc h.kept as_s).len
      have a4 := (moveW_asc h.price as_t).len
      simp only [len_app, L_store, L_sp]; omega
  have h4 := sh_wants h.nm (l := p.wants) (k := 1) h.wants (by decide) (by have := h.wl; omega)
  refine ⟨((h1.app h2.1).app h3.1).app h4.1, ?_⟩
  have := h.wl
  have a1 := h2.2
  have a2 := h3.2
  have a3 := h4.2
  simp only [plRows, List.length_append, List.length_cons, List.length_nil]
  omega
theorem join_le {a : Str} {k : Nat} (ha : a.length = 1) : ∀ {ys : List Str}, (∀ y ∈ ys, y.length ≤ k) → (Txt.join a ys).length ≤ ys.length * (k + 1)
  | [], _ => by rw [TL.join_eq]; show Str.empty.length ≤ _; simp [Str.empty, Str.length]
  | [y], h => by rw [TL.join_eq]; have := h y (by simp); show y.length ≤ _; simp; omega
  | y :: z :: l, h => by
    have ih := join_le (a := a) (k := k) ha (ys := z :: l) fun x hx => h x (by simp [hx])
    have h1 := h y (by simp)
    rw [TL.join_eq] at ih ⊢
    show (y ++ a ++ Str.join a (z :: l)).length ≤ _
    rw [len_app, len_app, ha]
    simp only [List.length_cons, Nat.succ_mul] at ih ⊢
    omega
theorem words_le {r : Rd} (h : RdOk r) : (∀ y ∈ rdWords r, y.length ≤ 38) ∧ (rdWords r).length ≤ 10 := by
  constructor
  · intro y hy
    simp only [rdWords, List.mem_append, List.mem_cons, List.not_mem_nil, or_false, List.mem_map] at hy
    have t0 := h.takes
    rcases hy with (rfl | rfl | rfl | rfl | rfl | rfl) | ⟨g, hg, rfl⟩
    · rw [L_road]; decide
    · have := h.nm.len; omega
    · have := h.st.len; omega
    · have := h.en.len; omega
    · have := (hr_asc (k := r.takes) (by omega) (by omega)).len; omega
    · have := (moveW_asc h.floor as_s).len; omega
    · obtain ⟨g1, g2⟩ := h.rungs g hg
      have a1 := (roomW_asc g1 as_s).len
      have a2 := (moveW_asc g2 as_t).len
      unfold rungW
      simp only [len_app, L_co]; omega
  · have := h.rl
    simp only [rdWords, List.length_append, List.length_cons, List.length_nil, List.length_map]
    omega
theorem sh_rd {r : Rd} (h : RdOk r) : (rdRow r).length ≤ 400 := by
  obtain ⟨h1, h2⟩ := words_le h
  have := join_le (a := " ") L_sp h1
  unfold rdRow
  have h3 : (rdWords r).length * (38 + 1) ≤ 10 * 39 := Nat.mul_le_mul_right _ h2
  omega
end MV
namespace Prf
theorem l_place_rows {M : Mem} {Q : DK} {X : XM} {n p r : Nat} {N : Nt} {q : Pl} (hN : NetM M n N p r) (hq : findP N.ps q.nm = some q) (ok : PlOk q) (k : ∀ M', Kp [] M M' → M'[M.length]? = some (.lst ((plRows q).map .str)) → Q (.ref M.length) M') : w_place_rows [.ref n, .str q.nm] M Q X := by
  have h1 := hN.ins
  have hn := ok.nm.len
  show m_place_rows _ [some (.ref n), some (.str q.nm), none, none, none, none, none, none, none, none] M
  unfold m_place_rows
  walk_at "ml"
  refine l_place_told hN ?_
  rw [hq]
  refine OnS.some ?_
  show (Tg.tp 4 _).mg (.tup [omD q.room, omD q.kept, pD q.price, .tup (q.wants.map pD)]) _ _ _
  walk_at "mq"
  iterate 2 walk_at "sx"
  walk_at "mq"
  refine js_all (ys := ["place ", q.nm]) (.cons (fun _ h => h) (.cons (fun _ h => ?_) .nil)) ?_ rfl ?_
  · walk_at "ml"; exact o_fmtS (by omega) h
  · simp [L_place]; omega
  simp only [List.foldl]
  rw [e_app]
  walk_at "mq"
  have k0 : Kp [] M (M ++ [O.lst [.str ("place " ++ q.nm)]]) := .app
  have e0 : (M ++ [O.lst [.str ("place " ++ q.nm)]])[M.length]? = some (.lst ((["place " ++ q.nm]).map .str)) := mnew
  generalize M ++ [O.lst [.str ("place " ++ q.nm)]] = M0 at k0 e0 ⊢
  with_reducible refine x_join (fun ρ M' => ρ = [some (.ref n), some (.str q.nm), some (omD q.room), some (omD q.kept), some (pD q.price), some (.tup (q.wants.map pD)), some (.ref M.length), none, none, none] ∧ Kp [] M M' ∧ M'[M.length]? = some (.lst ((["place " ++ q.nm] ++ thrRow q).map .str))) ?_ ?_
  · intro K hK
    walk_at "ml"
    unfold thrRow at hK
    cases hr : q.room with
    | none =>
      refine if_f ?_
      walk_at "ml"
      rw [if_pos hr] at hK
      refine hK _ _ ⟨by rw [hr]; rfl, k0, by simpa using e0⟩
    | some m =>
      refine if_t ?_
      walk_at "ml"
      rw [if_neg (by rw [hr]; simp)] at hK
      have om : oMv (some m) := hr ▸ ok.room
      refine js_all (ys := ["through ", q.nm, " ", roomW (some m) "s"]) (.cons (fun _ h => h) (.cons (fun _ h => ?_) (.cons (fun _ h => h) (.cons (fun _ h => ?_) .nil)))) ?_ rfl ?_
      · walk_at "ml"; exact o_fmtS (by omega) h
      · walk_at "ml"
        refine l_room_word om ?_
        exact o_fmtS (by have := (roomW_asc om as_s).len; omega) h
      · have := (roomW_asc om as_s).len
        simp [L_through, L_sp]; omega
      simp only [List.foldl]
      rw [e_app]
      walk_at "ml"
      refine o_app e0 (by simp) ?_
      refine hK _ _ ⟨by rw [hr]; rfl, k0.setNew (Nat.le_refl _), ?_⟩
      rw [msame e0, hr]; simp
  rintro _ M1 ⟨rfl, k1, e1⟩
  have s1 : (["place " ++ q.nm] ++ thrRow q).length ≤ 2 := by unfold thrRow; split <;> simp
  generalize hR1 : ["place " ++ q.nm] ++ thrRow q = R1 at *
  with_reducible refine x_join (fun ρ M' => (∃ o7, ρ = [some (.ref n), some (.str q.nm), some (omD q.room), some (omD q.kept), some (pD q.price), some (.tup (q.wants.map pD)), some (.ref M.length), o7, none, none]) ∧ Kp [] M M' ∧ M'[M.length]? = some (.lst ((R1 ++ stoRow q).map .str))) ?_ ?_
  · intro K hK
    walk_at "ml"
    refine ne_om (m := (0, 0)) ?_
    unfold stoRow at hK
    refine if_n (fun hc => ?_) (fun hc => ?_)
    · rw [if_neg hc] at hK
      walk_at "ml"
      refine l_written ok.price as_t ?_
      walk_at "ml"
      have a1 := (roomW_asc ok.kept as_s).len
      have a2 := (moveW_asc ok.price as_t).len
      refine js_all (ys := ["store ", q.nm, " ", roomW q.kept "s", " ", moveW q.price "t"]) (.cons (fun _ h => h) (.cons (fun _ h => ?_) (.cons (fun _ h => h) (.cons (fun _ h => ?_) (.cons (fun _ h => h) (.cons (fun _ h => ?_) .nil)))))) ?_ rfl ?_
      · walk_at "ml"; exact o_fmtS (by omega) h
      · walk_at "ml"
        refine l_room_word ok.kept ?_
        exact o_fmtS (by omega) h
      · walk_at "ml"; exact o_fmtS (by omega) h
      · simp [L_store, L_sp]; omega
      simp only [List.foldl]
      rw [e_app]
      walk_at "ml"
      refine o_app e1 (by simp; omega) ?_
      refine hK _ _ ⟨⟨_, rfl⟩, k1.setNew (Nat.le_refl _), ?_⟩
      rw [msame e1]; simp
    · rw [if_pos hc] at hK
      walk_at "ml"
      exact hK _ _ ⟨⟨_, rfl⟩, k1, by simpa using e1⟩
  rintro _ M2 ⟨⟨o7, rfl⟩, k2, e2⟩
  have s2 : (R1 ++ stoRow q).length ≤ 3 := by unfold stoRow; split <;> simp <;> omega
  generalize hR2 : R1 ++ stoRow q = R2 at *
  have hwl := ok.wl
  walk_at "ml"
  refine for_ix (fun i ρ M' => (∃ o7 o8 o9, ρ = [some (.ref n), some (.str q.nm), some (omD q.room), some (omD q.kept), some (pD q.price), some (.tup (q.wants.map pD)), some (.ref M.length), o7, o8, o9]) ∧ Kp [] M M' ∧ M'[M.length]? = some (.lst ((R2 ++ wantRows q.nm 1 (q.wants.take i)).map .str))) (fun _ _ _ _ => trivial) ?_ ?_ ⟨⟨_, _, _, rfl⟩, k2, by simpa [wantRows] using e2⟩
  · rintro ρ M3 ⟨⟨_, _, _, rfl⟩, k3, e3⟩
    rw [List.take_of_length_le (by simp [enumD])] at e3
    walk_at "ml"
    exact k M3 k3 (by rw [e3, ← hR2, ← hR1]; rfl)
  · rintro i d ρ M3 K hd ⟨⟨_, _, _, rfl⟩, k3, e3⟩ hK
    obtain ⟨hi, rfl⟩ : ∃ h : i < q.wants.length, d = .tup [.int i, pD q.wants[i]] := by
      simp only [enumD, List.getElem?_mapIdx, List.getElem?_map] at hd
      by_cases h : i < q.wants.length
      · refine ⟨h, ?_⟩
        simp [h] at hd
        exact hd.symm
      · simp [h] at hd
    have hw := ok.wants q.wants[i] (List.getElem_mem hi)
    have ht : q.wants.take (i + 1) = q.wants.take i ++ [q.wants[i]] := by rw [List.take_succ, List.getElem?_eq_getElem hi]; rfl
    have hl : (q.wants.take i).length = i := by simp; omega
    have s3 := (sh_wants ok.nm (l := q.wants.take i) (k := 1) (fun m hm => ok.wants m (List.mem_of_mem_take hm)) (by decide) (by omega)).2
    rw [ht, wantRows_app, hl] at hK
    unfold wantRow at hK
    walk_at "ml"
    refine ne_pD (m := (0, 0)) ?_
    refine if_n (fun hc => ?_) (fun hc => ?_)
    · rw [if_neg hc] at hK
      walk_at "ml"
      refine l_written hw as_s ?_
      walk_at "ml"
      have a1 := (hr_asc (k := 1 + (i : Int)) (by omega) (by omega)).len
      have a2 := (moveW_asc hw as_s).len
      refine js_all (ys := ["want ", q.nm, " ", iS (1 + i), " ", moveW q.wants[i] "s"]) (.cons (fun _ h => h) (.cons (fun _ h => ?_) (.cons (fun _ h => h) (.cons (fun _ h => ?_) (.cons (fun _ h => h) (.cons (fun _ h => ?_) .nil)))))) ?_ rfl ?_
      · walk_at "ml"; exact o_fmtS (by omega) h
      · walk_at "ml"
        rw [Int.add_comm]
        exact o_fmtI (by omega) h
      · walk_at "ml"; exact o_fmtS (by omega) h
      · simp [L_want, L_sp]; omega
      simp only [List.foldl]
      rw [e_app]
      walk_at "ml"
      refine o_app e3 (by simp; omega) ?_
      refine hK _ _ ⟨⟨_, _, _, rfl⟩, k3.setNew (Nat.le_refl _), ?_⟩
      rw [msame e3]; simp
    · rw [if_pos hc] at hK
      walk_at "ml"
      exact hK _ _ ⟨⟨_, _, _, rfl⟩, k3, by simpa using e3⟩
theorem l_road_row {M : Mem} {Q : DK} {X : XM} {n p r : Nat} {N : Nt} {q : Rd} (hN : NetM M n N p r) (hq : findR N.rs q.nm = some q) (ok : RdOk q) (k : ∀ M', Kp [] M M' → Q (.str (rdRow q)) M') : w_road_row [.ref n, .str q.nm] M Q X := by
  have h1 := hN.ins
  have hn := ok.nm.len
  have hrl := ok.rl
  obtain ⟨hw1, hw2⟩ := words_le ok
  show m_road_row _ [some (.ref n), some (.str q.nm), none, none, none, none, none, none, none, none] M
  unfold m_road_row
  walk_at "ml"
  refine l_road_told hN ?_
  rw [hq]
  refine OnS.some ?_
  show (Tg.tp 5 _).mg (.tup [.str q.st, .str q.en, .int q.takes, pD q.floor, .tup (q.rungs.map rungD)]) _ _ _
  have t0 := ok.takes
  walk_at "ml"
  refine o_sI (by omega) ?_
  walk_at "ml"
  refine l_written ok.floor as_s ?_
  walk_at "mq"
  have k0 : Kp [] M (M ++ [O.lst [.str "road", .str q.nm, .str q.st, .str q.en, .str (iS q.takes), .str (moveW q.floor "s")]]) := .app
  have e0 : (M ++ [O.lst [.str "road", .str q.nm, .str q.st, .str q.en, .str (iS q.takes), .str (moveW q.floor "s")]])[M.length]? = some (.lst ([("road" : Str), q.nm, q.st, q.en, iS q.takes, moveW q.floor "s"].map .str)) := mnew
  generalize M ++ [O.lst [.str "road", .str q.nm, .str q.st, .str q.en, .str (iS q.takes), .str (moveW q.floor "s")]] = M0 at k0 e0 ⊢
  have l0 := mlt e0
  walk_at "ml"
  refine lcT_ix (fun i acc M' => acc = ((q.rungs.take i).map rungW).map .str ∧ Kp [] M0 M') (fun _ _ _ _ => trivial) ?_ ?_ (by simp; omega) mnew ⟨rfl, .app⟩
  · rintro i d acc M1 K hd hacc ⟨rfl, k1⟩ hK
    rw [List.getElem?_map] at hd
    cases hg : q.rungs[i]? with
    | none => rw [hg] at hd; cases hd
    | some g =>
    rw [hg] at hd
    cases hd
    obtain ⟨hi, he⟩ := List.getElem?_eq_some_iff.mp hg
    obtain ⟨g1, g2⟩ := ok.rungs g (List.mem_of_getElem? hg)
    walk_at "ml"
    refine l_room_word g1 ?_
    walk_at "ml"
    refine o_addS (by have := (roomW_asc g1 as_s).len; have := L_co; omega) ?_
    walk_at "ml"
    refine l_written g2 as_t ?_
    refine o_addS (by have := (roomW_asc g1 as_s).len; have := (moveW_asc g2 as_t).len; rw [len_app, L_co]; omega) ?_
    refine hK _ _ hacc ⟨?_, k1.setNew (Nat.le_refl _)⟩
    rw [List.take_succ, hg]
    simp [rungW]
  · rintro _ M1 hacc ⟨rfl, k1⟩
    rw [List.take_of_length_le (by simp)] at hacc
    walk_at "ml"
    have e1 := k1.at_ _ _ (by simp) e0
    refine o_ext e1 hacc (by simp; omega) ?_
    rw [← List.map_append]
    have e2 := msame (o' := .lst ((([("road" : Str), q.nm, q.st, q.en, iS q.takes, moveW q.floor "s"] : List Str) ++ q.rungs.map rungW).map .str)) e1
    have k2 := (k0.trans k1).setNew (o := .lst ((([("road" : Str), q.nm, q.st, q.en, iS q.takes, moveW q.floor "s"] : List Str) ++ q.rungs.map rungW).map .str)) (Nat.le_refl _)
    dsimp only
    generalize M1.set M.length (.lst ((([("road" : Str), q.nm, q.st, q.en, iS q.takes, moveW q.floor "s"] : List Str) ++ q.rungs.map rungW).map .str)) = M2 at e2 k2 ⊢
    walk_at "ml"
    refine o_join (ys := rdWords q) e2 hw1 L_sp hw2 (by decide) ?_
    exact k M2 k2
theorem l_place_names {M : Mem} {Q : DK} {X : XM} {n p r : Nat} {N : Nt} (hN : NetM M n N p r) (k : Q (.ref M.length) (M ++ [.lst (N.ps.map fun q => .str q.nm)])) : w_Net_place_names [.ref n] M Q X := by
  obtain ⟨h1, h2, h3⟩ := hN
  show m_Net_place_names _ [some (.ref n)] M
  unfold m_Net_place_names
  walk_at "ml"
  rw [List.map_map]
  exact k
theorem l_road_names {M : Mem} {Q : DK} {X : XM} {n p r : Nat} {N : Nt} (hN : NetM M n N p r) (k : Q (.ref M.length) (M ++ [.lst (N.rs.map fun q => .str q.nm)])) : w_Net_road_names [.ref n] M Q X := by
  obtain ⟨h1, h2, h3⟩ := hN
  show m_Net_road_names _ [some (.ref n)] M
  unfold m_Net_road_names
  walk_at "ml"
  rw [List.map_map]
  exact k
theorem find_at {ps : List Pl} {q : Pl} (hn : (ps.map (·.nm)).Nodup) (h : q ∈ ps) : findP ps q.nm = some q := by
  induction ps with
  | nil => simp at h
  | cons a l ih =>
    simp only [List.map_cons, List.nodup_cons] at hn
    unfold findP
    rw [List.find?_cons]
    by_cases e : a.nm = q.nm
    · rcases List.mem_cons.mp h with rfl | h
      · simp
      · exact absurd (e ▸ List.mem_map_of_mem h) hn.1
    · rcases List.mem_cons.mp h with rfl | h
      · exact absurd rfl e
      · simp only [e, decide_false]
        exact ih hn.2 h
theorem find_atR {ps : List Rd} {q : Rd} (hn : (ps.map (·.nm)).Nodup) (h : q ∈ ps) : findR ps q.nm = some q := by
  induction ps with
  | nil => simp at h
  | cons a l ih =>
    simp only [List.map_cons, List.nodup_cons] at hn
    unfold findR
    rw [List.find?_cons]
    by_cases e : a.nm = q.nm
    · rcases List.mem_cons.mp h with rfl | h
      · simp
      · exact absurd (e ▸ List.mem_map_of_mem h) hn.1
    · rcases List.mem_cons.mp h with rfl | h
      · exact absurd rfl e
      · simp only [e, decide_false]
        exact ih hn.2 h
theorem flat_len {ps : List Pl} (h : ∀ p ∈ ps, PlOk p) : (ps.flatMap plRows).length ≤ ps.length * 9 ∧ Sh (ps.flatMap plRows) := by
  induction ps with
  | nil => exact ⟨by simp, by intro y hy; simp at hy⟩
  | cons a l ih =>
    obtain ⟨a1, a2⟩ := sh_pl (h a (by simp))
    obtain ⟨b1, b2⟩ := ih fun p hp => h p (by simp [hp])
    rw [List.flatMap_cons]
    refine ⟨?_, a1.app b2⟩
    simp only [List.length_append, List.length_cons, Nat.succ_mul]
    omega
theorem text_sh {N : Nt} (ok : NtOk N) : (∀ y ∈ textR N, y.length ≤ 400) ∧ (textR N).length ≤ 200 := by
  obtain ⟨h1, h2⟩ := flat_len ok.ps
  have hh := ok.h
  constructor
  · have hd : Sh (headRows N) := by
      intro y hy
      have a0 := (hr_asc (k := N.h) (by omega) (by omega)).len
      have a1 := ok.s.s1.len; have a2 := ok.s.s2.len; have a3 := ok.t.s1.len; have a4 := ok.t.s2.len
      simp only [headRows, List.mem_cons, List.not_mem_nil, or_false] at hy
      rcases hy with rfl | rfl | rfl
      · simp only [len_app, L_hours]; omega
      · simp only [len_app, L_s, L_sp]; omega
      · simp only [len_app, L_t, L_sp]; omega
    refine (hd.app h2).app ?_
    intro y hy
    obtain ⟨r, hr, rfl⟩ := List.mem_map.mp hy
    exact sh_rd (ok.rs r hr)
  · have := ok.pl
    have := ok.rl
    simp only [textR, headRows, List.length_append, List.length_cons, List.length_nil, List.length_map]
    omega
theorem l_text_of {M : Mem} {Q : DK} {X : XM} {n p r : Nat} {N : Nt} (hN : NetM M n N p r) (ok : NtOk N) (k : ∀ M', Kp [] M M' → Q (.str (textN N)) M') : w_text_of [.ref n] M Q X := by
  have h1 := hN.ins
  have hh := ok.h
  have b1 := ok.s.1; have b2 := ok.s.2; have b3 := ok.t.1; have b4 := ok.t.2
  have hpl := ok.pl
  have hrl := ok.rl
  obtain ⟨hf1, hf2⟩ := flat_len ok.ps
  obtain ⟨ht1, ht2⟩ := text_sh ok
  show m_text_of _ [some (.ref n), none, none] M
  unfold m_text_of
  have a0 := (hr_asc (k := N.h) (by omega) (by omega)).len
  have a1 := ok.s.s1.len; have a2 := ok.s.s2.len; have a3 := ok.t.s1.len; have a4 := ok.t.s2.len
  walk_at "ml"
  refine js_all (ys := ["hours ", iS N.h]) (.cons (fun _ h => h) (.cons (fun _ h => ?_) .nil)) ?_ rfl ?_
  · walk_at "ml"; exact o_fmtI (by omega) h
  · simp [L_hours]; omega
  simp only [List.foldl]
  rw [e_app]
  walk_at "ml"
  refine js_all (ys := ["s ", iS N.s.1, " ", iS N.s.2]) (.cons (fun _ h => h) (.cons (fun _ h => ?_) (.cons (fun _ h => h) (.cons (fun _ h => ?_) .nil)))) ?_ rfl ?_
  · walk_at "ml"; exact o_fmtI (by omega) h
  · walk_at "ml"; exact o_fmtI (by omega) h
  · simp [L_s, L_sp]; omega
  simp only [List.foldl]
  rw [e_app]
  walk_at "ml"
  refine js_all (ys := ["t ", iS N.t.1, " ", iS N.t.2]) (.cons (fun _ h => h) (.cons (fun _ h => ?_) (.cons (fun _ h => h) (.cons (fun _ h => ?_) .nil)))) ?_ rfl ?_
  · walk_at "ml"; exact o_fmtI (by omega) h
  · walk_at "ml"; exact o_fmtI (by omega) h
  · simp [L_t, L_sp]; omega
  simp only [List.foldl]
  rw [e_app]
  walk_at "mq"
  have k0 : Kp [] M (M ++ [O.lst [.str ("hours " ++ iS N.h), .str ("s " ++ iS N.s.1 ++ " " ++ iS N.s.2), .str ("t " ++ iS N.t.1 ++ " " ++ iS N.t.2)]]) := .app
  have e0 : (M ++ [O.lst [.str ("hours " ++ iS N.h), .str ("s " ++ iS N.s.1 ++ " " ++ iS N.s.2), .str ("t " ++ iS N.t.1 ++ " " ++ iS N.t.2)]])[M.length]? = some (.lst ((headRows N).map .str)) := mnew
  generalize M ++ [O.lst [.str ("hours " ++ iS N.h), .str ("s " ++ iS N.s.1 ++ " " ++ iS N.s.2), .str ("t " ++ iS N.t.1 ++ " " ++ iS N.t.2)]] = M0 at k0 e0 ⊢
  have N0 := hN.kp k0 (by simp) (by simp) (by simp)
  have i0 := N0.ins
  have l0 := mlt e0
  have hne : M0.length ∉ [M.length] := by simp; omega
  with_reducible refine x_join (fun ρ M' => (∃ o2, ρ = [some (.ref n), some (.ref M.length), o2]) ∧ Kp [] M M' ∧ M'[M.length]? = some (.lst ((headRows N ++ N.ps.flatMap plRows).map .str))) ?_ ?_
  · intro K hK
    walk_at "sx"
    with_reducible refine x_iseq ?_
    walk_at "ml"
    refine l_place_names N0 ?_
    refine iseqL mnew ?_
    refine for_ix (fun i ρ M' => (∃ o2, ρ = [some (.ref n), some (.ref M.length), o2]) ∧ Kp [] M M' ∧ Kp [M.length] (M0 ++ [O.lst (N.ps.map fun q => .str q.nm)]) M' ∧ M'[M.length]? = some (.lst ((headRows N ++ (N.ps.take i).flatMap plRows).map .str))) ?_ ?_ ?_ ?_
    · rintro i ρ M' ⟨_, _, k2, _⟩
      exact k2.at_ _ _ hne mnew
    · rintro ρ M' ⟨ho, k1, k2, e2⟩
      rw [List.take_of_length_le (by simp)] at e2
      exact hK _ _ ⟨ho, k1, e2⟩
    · rintro i d ρ M' K2 hd ⟨⟨o2, rfl⟩, k1, k2, e2⟩ hK2
      rw [List.getElem?_map] at hd
      cases hq : N.ps[i]? with
      | none => rw [hq] at hd; cases hd
      | some q =>
      rw [hq] at hd
      cases hd
      have hm := List.mem_of_getElem? hq
      have N1 := hN.kp k1 (by simp) (by simp) (by simp)
      walk_at "ml"
      refine l_place_rows N1 (find_at ok.pn hm) (ok.ps q hm) fun M3 k3 e3 => ?_
      have l1 := (flat_len (ps := N.ps.take i) fun p hp => ok.ps p (List.mem_of_mem_take hp)).1
      have l2 := (sh_pl (ok.ps q hm)).2
      have l3 : (N.ps.take i).length ≤ 12 := by simp; omega
      walk_at "ml"
      refine o_ext (k3.at_ _ _ (by simp) e2) e3 (by rw [List.length_map, List.length_map, List.length_append, show (headRows N).length = 3 from rfl]; omega) ?_
      have lt := mlt e2
      refine hK2 _ _ ⟨⟨_, rfl⟩, (k1.trans k3).setNew (Nat.le_refl _), (k2.trans (k3.weak (by simp))).trans (.set (by simp)), ?_⟩
      rw [msame (k3.at_ _ _ (by simp) e2), List.take_succ, hq, ← List.map_append]
      simp
    · exact ⟨⟨_, rfl⟩, k0.trans .app, .refl, by simpa using (Kp.app (S := [])).at_ _ _ (by simp) e0⟩
  rintro _ M1 ⟨⟨o2, rfl⟩, k1, e1⟩
  have N1 := hN.kp k1 (by simp) (by simp) (by simp)
  have i1 := N1.ins
  have l1 := mlt e1
  have hne1 : M1.length ∉ [M.length] := by simp; omega
  have hlen : (headRows N ++ N.ps.flatMap plRows).length ≤ 200 := by
    have : (textR N).length = (headRows N ++ N.ps.flatMap plRows).length + N.rs.length := by simp [textR]; omega
    omega
  generalize hR : headRows N ++ N.ps.flatMap plRows = R at *
  with_reducible refine x_join (fun ρ M' => (∃ o2, ρ = [some (.ref n), some (.ref M.length), o2]) ∧ Kp [] M M' ∧ M'[M.length]? = some (.lst ((R ++ N.rs.map rdRow).map .str))) ?_ ?_
  · intro K hK
    walk_at "sx"
    with_reducible refine x_iseq ?_
    walk_at "ml"
    refine l_road_names N1 ?_
    refine iseqL mnew ?_
    refine for_ix (fun i ρ M' => (∃ o2, ρ = [some (.ref n), some (.ref M.length), o2]) ∧ Kp [] M M' ∧ Kp [M.length] (M1 ++ [O.lst (N.rs.map fun q => .str q.nm)]) M' ∧ M'[M.length]? = some (.lst ((R ++ (N.rs.take i).map rdRow).map .str))) ?_ ?_ ?_ ?_
    · rintro i ρ M' ⟨_, _, k2, _⟩
      exact k2.at_ _ _ hne1 mnew
    · rintro ρ M' ⟨ho, k1, k2, e2⟩
      rw [List.take_of_length_le (by simp)] at e2
      exact hK _ _ ⟨ho, k1, e2⟩
    · rintro i d ρ M' K2 hd ⟨⟨o2, rfl⟩, k1, k2, e2⟩ hK2
      rw [List.getElem?_map] at hd
      cases hq : N.rs[i]? with
      | none => rw [hq] at hd; cases hd
      | some q =>
      rw [hq] at hd
      cases hd
      have hm := List.mem_of_getElem? hq
      have N2 := hN.kp k1 (by simp) (by simp) (by simp)
      walk_at "ml"
      refine l_road_row N2 (find_atR ok.rn hm) (ok.rs q hm) fun M3 k3 => ?_
      walk_at "ml"
      refine o_app (k3.at_ _ _ (by simp) e2) (by simp; omega) ?_
      have lt := mlt e2
      refine hK2 _ _ ⟨⟨_, rfl⟩, (k1.trans k3).setNew (Nat.le_refl _), (k2.trans (k3.weak (by simp))).trans (.set (by simp)), ?_⟩
      rw [msame (k3.at_ _ _ (by simp) e2), List.take_succ, hq]
      simp
    · exact ⟨⟨_, rfl⟩, k1.trans .app, .refl, by simpa using (Kp.app (S := [])).at_ _ _ (by simp) e1⟩
  rintro _ M2 ⟨⟨o2, rfl⟩, k2, e2⟩
  have eR : R ++ N.rs.map rdRow = textR N := by rw [← hR]; rfl
  rw [eR] at e2
  walk_at "ml"
  refine o_join e2 ht1 L_nl ht2 (by decide) ?_
  exact k M2 k2
theorem l_str {M : Mem} {Q : DK} {X : XM} {n p r : Nat} {N : Nt} (hN : NetM M n N p r) (ok : NtOk N) (k : ∀ M', Kp [] M M' → Q (.str (textN N)) M') : w_Net_UstrU [.ref n] M Q X := by
  show m_Net_UstrU _ [some (.ref n)] M
  unfold m_Net_UstrU
  walk_at "ml"
  refine l_text_of hN ok fun M' k' => ?_
  walk_at "ml"
  exact k M' k'
theorem o_strO {M : Mem} {Q : DK} {n p r : Nat} {N : Nt} (hN : NetM M n N p r) (ok : NtOk N) (k : ∀ M', Kp [] M M' → Q (.str (textN N)) M') : oStrO "Net" w_Net_UstrU (fun ds _ => ds) [.ref n] M Q := by
  unfold oStrO
  dsimp only
  rw [hN.ins]
  exact ⟨rfl, l_str hN ok fun M' k' => k M' k'⟩
end Prf

namespace MV
def plL (p : Pl) (y : Nat) : List D := [.str p.nm, omD p.room, omD p.kept, pD p.price, .ref y]
def rdL (r : Rd) : List D := [.str r.nm, .str r.st, .str r.en, .int r.takes, pD r.floor, .tup (r.rungs.map rungD)]
def toldK (N : Nt) (a b : Nat) (ex : List (Key × D)) : List (Key × D) := [(.inr "hours", .int N.h), (.inr "s", pD N.s), (.inr "t", pD N.t), (.inr "places", .ref a), (.inr "roads", .ref b)] ++ ex
structure ToldM (M : Mem) (m : Nat) (N : Nt) (a b : Nat) (pa : List (Nat × Nat)) (rb : List Nat) (ex : List (Key × D)) : Prop where
  dct : M[m]? = some (.dct false (toldK N a b ex))
  pl : M[a]? = some (.lst (pa.map fun x => .ref x.1))
  rd : M[b]? = some (.lst (rb.map .ref))
  pz : pa.length = N.ps.length
  rz : rb.length = N.rs.length
  pp : ∀ (i : Nat) (x : Nat × Nat) (p : Pl), pa[i]? = some x → N.ps[i]? = some p → M[x.1]? = some (.lst (plL p x.2)) ∧ M[x.2]? = some (.lst (p.wants.map pD))
  rr : ∀ (i : Nat) (x : Nat) (r : Rd), rb[i]? = some x → N.rs[i]? = some r → M[x]? = some (.lst (rdL r))
/-- the places where a telling lies -/
def toldAt (m a b : Nat) (pa : List (Nat × Nat)) (rb : List Nat) : List Nat := [m, a, b] ++ pa.map (·.1) ++ pa.map (·.2) ++ rb
theorem ToldM.kp {M M' : Mem} {m : Nat} {N : Nt} {a b : Nat} {pa : List (Nat × Nat)} {rb : List Nat} {ex : List (Key × D)} {S : List Nat} (h : ToldM M m N a b pa rb ex) (k : Kp S M M') (hs : ∀ i ∈ toldAt m a b pa rb, i ∉ S) : ToldM M' m N a b pa rb ex := by
  refine ⟨k.at_ _ _ (hs _ (by simp [toldAt])) h.dct, k.at_ _ _ (hs _ (by simp [toldAt])) h.pl, k.at_ _ _ (hs _ (by simp [toldAt])) h.rd, h.pz, h.rz, ?_, ?_⟩
  · intro i x p hx hp
    obtain ⟨h1, h2⟩ := h.pp i x p hx hp
    have hm := List.mem_of_getElem? hx
    exact ⟨k.at_ _ _ (hs _ (by simp only [toldAt, List.mem_append]; exact .inl (.inl (.inr (List.mem_map_of_mem hm)))) ) h1, k.at_ _ _ (hs _ (by simp only [toldAt, List.mem_append]; exact .inl (.inr (List.mem_map_of_mem hm)))) h2⟩
  · intro i x r hx hr
    have hm := List.mem_of_getElem? hx
    exact k.at_ _ _ (hs _ (by simp only [toldAt, List.mem_append]; exact .inr hm)) (h.rr i x r hx hr)
theorem ToldM.kp0 {M M' : Mem} {m : Nat} {N : Nt} {a b : Nat} {pa : List (Nat × Nat)} {rb : List Nat} {ex : List (Key × D)} (h : ToldM M m N a b pa rb ex) (k : Kp [] M M') : ToldM M' m N a b pa rb ex := h.kp k (by simp)
section
variable {N : Nt} {a b : Nat} {ex : List (Key × D)}
theorem tk_h : dget (toldK N a b ex) (.inr "hours") = some (.int N.h) := by rfl
theorem tk_s : dget (toldK N a b ex) (.inr "s") = some (pD N.s) := by rfl
theorem tk_t : dget (toldK N a b ex) (.inr "t") = some (pD N.t) := by rfl
theorem tk_p : dget (toldK N a b ex) (.inr "places") = some (.ref a) := by rfl
theorem tk_r : dget (toldK N a b ex) (.inr "roads") = some (.ref b) := by rfl
end
theorem app_assoc {a b c : Str} : a ++ b ++ c = a ++ (b ++ c) := by
  have : (a ++ b ++ c).cps = (a ++ (b ++ c)).cps := by
    show a.cps ++ b.cps ++ c.cps = a.cps ++ (b.cps ++ c.cps)
    exact Array.append_assoc
  exact congrArg Str.mk this
theorem join4 {a b c d : Str} : Txt.join " " [a, b, c, d] = a ++ " " ++ b ++ " " ++ c ++ " " ++ d := by
  rw [TL.join_eq]
  show a ++ " " ++ (b ++ " " ++ (c ++ " " ++ d)) = _
  simp only [app_assoc]
theorem store_lit : (Str.ofString "store") ++ (Str.ofString " ") = Str.ofString "store " := by decide +kernel
theorem want_lit : (Str.ofString "want") ++ (Str.ofString " ") = Str.ofString "want " := by decide +kernel
theorem L_store' : (Str.ofString "store").length = 5 := by decide +kernel
theorem L_want' : (Str.ofString "want").length = 4 := by decide +kernel
theorem o_ixK {M : Mem} {Q : DK} {p : Nat} {kvs : List (Key × D)} {lk : Bool} {z : Str} {d : D} (e : M[p]? = some (.dct lk kvs)) (hd : dget kvs (.inr z) = some d) (h : Q d M) : oIx (.ref p) (.str z) M Q := o_ixD (x := .str z) (k := .inr z) e rfl hd h
end MV
namespace Prf
theorem l_Lroad_row {M : Mem} {Q : DK} {X : XM} {x : Nat} {q : Rd} (hx : M[x]? = some (.lst (rdL q))) (ok : RdOk q) (k : ∀ M', Kp [] M M' → Q (.str (rdRow q)) M') : w_Lroad_row [.ref x] M Q X := by
  obtain ⟨hw1, hw2⟩ := words_le ok
  have hrl := ok.rl
  have t0 := ok.takes
  unfold rdL at hx
  show m_Lroad_row _ [some (.ref x), none, none, none] M
  unfold m_Lroad_row
  walk_at "ml"
  refine o_sI (by omega) ?_
  walk_at "ml"
  refine l_move_word (o := some q.floor) (fun m h => by cases h; exact ok.floor) as_s ?_
  walk_at "mq"
  have k0 : Kp [] M (M ++ [O.lst [.str "road", .str q.nm, .str q.st, .str q.en, .str (iS q.takes), .str (roomW (some q.floor) "s")]]) := .app
  have e0 : (M ++ [O.lst [.str "road", .str q.nm, .str q.st, .str q.en, .str (iS q.takes), .str (roomW (some q.floor) "s")]])[M.length]? = some (.lst (([("road" : Str), q.nm, q.st, q.en, iS q.takes, moveW q.floor "s"] ++ ([] : List Rung).map rungW).map .str)) := mnew
  generalize M ++ [O.lst [.str "road", .str q.nm, .str q.st, .str q.en, .str (iS q.takes), .str (roomW (some q.floor) "s")]] = M0 at k0 e0 ⊢
  have hx0 := k0.at_ _ _ (by simp) hx
  walk_at "sx"
  walk_at "sx"
  with_reducible refine x_iseq ?_
  walk_at "ml"
  refine iseqT ?_
  refine for_ix (fun i ρ M' => (∃ o2 o3, ρ = [some (.ref x), some (.ref M.length), o2, o3]) ∧ Kp [] M M' ∧ M'[M.length]? = some (.lst (([("road" : Str), q.nm, q.st, q.en, iS q.takes, moveW q.floor "s"] ++ (q.rungs.take i).map rungW).map .str))) (fun _ _ _ _ => trivial) ?_ ?_ ⟨⟨_, _, rfl⟩, k0, e0⟩
  · rintro ρ M1 ⟨⟨_, _, rfl⟩, k1, e1⟩
    rw [List.take_of_length_le (by simp)] at e1
    walk_at "ml"
    refine o_join (ys := rdWords q) e1 hw1 L_sp hw2 (by decide) ?_
    exact k M1 k1
  · rintro i d ρ M1 K hd ⟨⟨_, _, rfl⟩, k1, e1⟩ hK
    rw [List.getElem?_map] at hd
    cases hg : q.rungs[i]? with
    | none => rw [hg] at hd; cases hd
    | some g =>
    rw [hg] at hd
    cases hd
    obtain ⟨hi, he⟩ := List.getElem?_eq_some_iff.mp hg
    obtain ⟨g1, g2⟩ := ok.rungs g (List.mem_of_getElem? hg)
    walk_at "ml"
    refine l_move_word g1 as_s ?_
    walk_at "ml"
    refine o_addS (by have := (roomW_asc g1 as_s).len; have := L_co; omega) ?_
    walk_at "ml"
    refine l_move_word (o := some g.2) (fun m h => by cases h; exact g2) as_t ?_
    refine o_addS (by have := (roomW_asc g1 as_s).len; have := (moveW_asc g2 as_t).len; rw [len_app, L_co]; show _ + (moveW g.2 "t").length ≤ _; omega) ?_
    walk_at "ml"
    refine o_app e1 (by simp; omega) ?_
    refine hK _ _ ⟨⟨_, _, rfl⟩, k1.setNew (Nat.le_refl _), ?_⟩
    rw [msame e1, List.take_succ, hg]
    simp [rungW, roomW]
end Prf

namespace MV
/-- a small room that is nowhere below nought between two settings -/
structure RmOk (b m : Int × Int) : Prop where
  a1 : m.1.natAbs ≤ 1000
  b1 : m.2.natAbs ≤ 100
  l : 0 ≤ m.1 + m.2 * b.1
  h : 0 ≤ m.1 + m.2 * b.2
theorem RmOk.mv {b m : Int × Int} (h : RmOk b m) : Mv m := ⟨by have := h.a1; omega, by have := h.b1; omega⟩
theorem rm0 {b : Int × Int} : RmOk b (0, 0) := ⟨by decide, by decide, by simp, by simp⟩
/-- a small box -/
def SmB (b : Int × Int) : Prop := b.1.natAbs ≤ 50 ∧ b.2.natAbs ≤ 50 ∧ b.1 ≤ b.2
theorem SmB.tame {b : Int × Int} (h : SmB b) : Tame b := ⟨by have := h.1; omega, by have := h.2.1; omega⟩
theorem SmB.mv {b : Int × Int} (h : SmB b) : Mv b := ⟨by have := h.1; omega, by have := h.2.1; omega⟩
end MV
namespace Prf
theorem rm_sinks {b m : Int × Int} (h : RmOk b m) : sinksB m b = false := by
  have h1 := h.l
  have h2 := h.h
  simp only [sinksB, Bool.or_eq_false_iff, decide_eq_false_iff_not]
  omega
theorem lroomS {M : Mem} {p q : Nat} {t : Int} {b : Int × Int} {Q : DK} {X : XM} (F : Feed M p q) (h0 : 0 ≤ t) (hb : t ≤ 100) (hs : SmB b) (k : ∀ m M', RmOk b m → Kp [p] M M' → Feed M' p q → Q (pD m) M') : w_Lroom [.ref p, .int t, pD b] M Q X := by
  obtain ⟨lo, hi⟩ := b
  obtain ⟨s1, s2, s3⟩ := hs
  simp only at s1 s2 s3
  show m_Lroom _ [some (.ref p), some (.int t), some (pD (lo, hi)), none, none, none] M
  unfold m_Lroom
  walk_at "ml"
  refine ldraw F (by omega) (by omega) fun a M1 a0 a1 k1 F1 => ?_
  walk_at "ml"
  refine ldraw F1 (by omega) (by omega) fun c M2 c0 c1 k2 F2 => ?_
  walk_at "ml"
  refine o_mul (mul_ok' (by omega)) ?_
  walk_at "ml"
  refine o_mul (mul_ok' (by omega)) ?_
  walk_at "ml"
  have hc : c - 1 = -1 ∨ c - 1 = 0 ∨ c - 1 = 1 := by omega
  generalize c - 1 = s at hc ⊢
  refine if_d (fun hc' => ?_) (fun hc' => ?_)
  · walk_at "ml"
    refine k (_, s) _ ?_ (k1.trans k2) F2
    rcases hc with rfl | rfl | rfl <;> (refine ⟨?_, ?_, ?_, ?_⟩ <;> simp only <;> split at hc' <;> (try split) <;> omega)
  · walk_at "ml"
    refine k (a, s) _ ?_ (k1.trans k2) F2
    rcases hc with rfl | rfl | rfl <;> (refine ⟨?_, ?_, ?_, ?_⟩ <;> simp only <;> split at hc' <;> omega)
/-- a place as the law makes it -/
structure PlMk (b : Int × Int) (h : Int) (p : Pl) : Prop where
  room : ∀ m, p.room = some m → RmOk b m
  kept : ∀ m, p.kept = some m → RmOk b m
  price : p.price.1.natAbs ≤ 100 ∧ p.price.2.natAbs ≤ 100
  none : p.kept = some (0, 0) → p.price = (0, 0)
  wants : p.wants = List.replicate h.toNat (0, 0)
theorem lsome_place {M : Mem} {p q : Nat} {nm : Str} {h : Int} {b : Int × Int} {Q : DK} {X : XM} (F : Feed M p q) (h0 : 0 ≤ h) (h1 : h ≤ 100) (hs : SmB b)
    (k : ∀ P x y M', P.nm = nm → PlMk b h P → Kp [p] M M' → Feed M' p q → M.length ≤ y → y < x → M'[y]? = some (.lst (P.wants.map pD)) → M'[x]? = some (.lst (plL P y)) → Q (.ref x) M') : w_Lsome_place [.ref p, .str nm, .int h, pD b] M Q X := by
  unfold w_Lsome_place wOf
  rw [show startE N_Lsome_place [.ref p, .str nm, .int h, pD b] = [some (.ref p), some (.str nm), some (.int h), some (pD b), none, none, none, none] from rfl]
  unfold m_Lsome_place
  iterate 2 walk_at "sx"
  walk_at "mq"
  with_reducible refine x_join (fun ρ M' => ∃ o : Option (Int × Int), ρ = [some (.ref p), some (.str nm), some (.int h), some (pD b), some (omD o), none, none, none] ∧ (∀ m, o = some m → RmOk b m) ∧ Kp [p] M M' ∧ Feed M' p q) ?_ ?_
  · intro K hK
    walk_at "ml"
    refine ldraw F (by decide) (by decide) fun d M1 _ _ k1 F1 => ?_
    walk_at "ml"
    refine if_d (fun _ => ?_) (fun _ => ?_)
    · walk_at "ml"
      refine lroomS F1 (by decide) (by decide) hs fun m M2 hm k2 F2 => ?_
      exact hK _ _ ⟨some m, rfl, fun m' e => by cases e; exact hm, k1.trans k2, F2⟩
    · walk_at "ml"
      exact hK _ _ ⟨none, rfl, (fun m' e => by cases e), k1, F1⟩
  rintro _ M1 ⟨rm, rfl, hrm, k1, F1⟩
  iterate 2 walk_at "sx"
  walk_at "mq"
  iterate 2 walk_at "sx"
  walk_at "mq"
  with_reducible refine x_join (fun ρ M' => ∃ (o : Option (Int × Int)) (pr : Int × Int), ρ = [some (.ref p), some (.str nm), some (.int h), some (pD b), some (omD rm), some (omD o), some (pD pr), none] ∧ (∀ m, o = some m → RmOk b m) ∧ (pr.1.natAbs ≤ 100 ∧ pr.2.natAbs ≤ 100) ∧ (o = some (0, 0) → pr = (0, 0)) ∧ Kp [p] M M' ∧ Feed M' p q) ?_ ?_
  · intro K hK
    walk_at "ml"
    refine ldraw F1 (by decide) (by decide) fun d M2 _ _ k2 F2 => ?_
    walk_at "ml"
    refine if_d (fun _ => ?_) (fun _ => ?_)
    · walk_at "ml"
      refine lroomS F2 (by decide) (by decide) hs fun m M3 hm k3 F3 => ?_
      walk_at "mq"
      with_reducible refine x_join (fun ρ M' => ∃ (o : Option (Int × Int)), ρ = [some (.ref p), some (.str nm), some (.int h), some (pD b), some (omD rm), some (omD o), some (pD (0, 0)), none] ∧ (∀ m, o = some m → RmOk b m) ∧ Kp [p] M M' ∧ Feed M' p q) ?_ ?_
      · intro K2 hK2
        walk_at "ml"
        refine ldraw F3 (by decide) (by decide) fun d M4 _ _ k4 F4 => ?_
        walk_at "ml"
        refine if_d (fun _ => ?_) (fun _ => ?_)
        · walk_at "ml"
          exact hK2 _ _ ⟨none, rfl, (fun m' e => by cases e), ((k1.trans k2).trans k3).trans k4, F4⟩
        · walk_at "ml"
          exact hK2 _ _ ⟨some m, rfl, fun m' e => by cases e; exact hm, ((k1.trans k2).trans k3).trans k4, F4⟩
      rintro _ M4 ⟨o, rfl, ho, k4, F4⟩
      walk_at "ml"
      refine ne_om (m := (0, 0)) ?_
      refine if_n (fun hc => ?_) (fun hc => ?_)
      · walk_at "ml"
        refine ldraw F4 (by decide) (by decide) fun u M5 u0 u1 k5 F5 => ?_
        walk_at "ml"
        refine ldraw F5 (by decide) (by decide) fun v M6 v0 v1 k6 F6 => ?_
        walk_at "ml"
        exact hK _ _ ⟨o, (u - 1, v - 1), rfl, ho, ⟨by simp only; omega, by simp only; omega⟩, fun e => absurd e hc, (k4.trans k5).trans k6, F6⟩
      · walk_at "ml"
        exact hK _ _ ⟨o, (0, 0), rfl, ho, ⟨by decide, by decide⟩, fun _ => rfl, k4, F4⟩
    · walk_at "ml"
      exact hK _ _ ⟨some (0, 0), (0, 0), rfl, fun m e => by cases e; exact rm0, ⟨by decide, by decide⟩, fun _ => rfl, k1.trans k2, F2⟩
  rintro _ M2 ⟨o, pr, rfl, ho, hpr, h00, k2, F2⟩
  have lt2 := F2.lt
  walk_at "ml"
  refine ⟨⟨by omega, by omega⟩, ?_⟩
  refine lc_ix (fun k acc M' => acc = (List.replicate k ((0 : Int), (0 : Int))).map pD ∧ Kp [] M2 M') (fun _ _ _ _ => trivial) ?_ ?_ (by rw [rng_len]; omega) mnew ⟨rfl, .app⟩
  · rintro i e acc M3 K he h3 ⟨rfl, k3⟩ hK
    walk_at "ml"
    exact hK _ _ h3 ⟨by rw [List.replicate_succ']; simp [pD], k3.setNew (Nat.le_refl _)⟩
  · rintro _ M3 h3 ⟨rfl, k3⟩
    rw [rng_len] at h3
    walk_at "ml"
    have l3 := mlt h3
    refine k ⟨nm, rm, o, pr, List.replicate h.toNat (0, 0)⟩ M3.length M2.length _ rfl ⟨hrm, ho, hpr, h00, rfl⟩ ((k2.trans (k3.weak (by simp))).trans .app) ((F2.kp k3 (by simp) (by simp)).app) k2.len l3 ?_ mnew
    exact (Kp.app (S := [])).at_ _ _ (by simp) h3
/-- rungs as the law makes them -/
structure RgMk (s t : Int × Int) (rs : List Rung) : Prop where
  len : rs.length = 1 ∨ rs.length = 2
  room : ∀ g ∈ rs, ∀ m, g.1 = some m → RmOk s m
  price : ∀ g ∈ rs, g.2.1.natAbs ≤ 3000 ∧ g.2.2.natAbs ≤ 300
  first : ∀ g ∈ rs.dropLast, g.1 ≠ none
  rise : ∀ g h, rs = [g, h] → RmOk t (h.2.1 - g.2.1, h.2.2 - g.2.2)
theorem neg1 {α : Type} {l : List α} {x : α} : atI (l ++ [x]) (-1) = some x := by
  unfold atI ixN
  rw [if_neg (by decide)]
  have h1 : (0 : Int) ≤ -1 + ((l ++ [x]).length : Int) := by simp; omega
  have h2 : (-1 + ((l ++ [x]).length : Int)).toNat = l.length := by simp; omega
  simp only [List.length_append, List.length_cons, List.length_nil] at h1 h2 ⊢
  simp
  rw [if_pos (by omega)]
  show (l ++ [x])[(-1 + ((l.length : Int) + 1)).toNat]? = some x
  rw [show (-1 + ((l.length : Int) + 1)).toNat = l.length by omega]
  simp
theorem ixneg {n : Nat} : ixN (n + 1) (-1) = some n := by
  unfold ixN
  rw [if_neg (by decide)]
  simp
  omega
theorem lsome_rungs {M : Mem} {p q : Nat} {s t : Int × Int} {Q : DK} {X : XM} (F : Feed M p q) (hs : SmB s) (ht : SmB t)
    (k : ∀ rs M', RgMk s t rs → Kp [p] M M' → Feed M' p q → Q (.tup (rs.map rungD)) M') : w_Lsome_rungs [.ref p, pD s, pD t] M Q X := by
  unfold w_Lsome_rungs wOf
  rw [show startE N_Lsome_rungs [.ref p, pD s, pD t] = [some (.ref p), some (pD s), some (pD t), none, none, none, none] from rfl]
  unfold m_Lsome_rungs
  walk_at "ml"
  have lt0 := F.lt
  have hne : M.length ∉ [p] := by simp; omega
  refine ldraw F.app (by decide) (by decide) fun u M1 u0 u1 k1 F1 => ?_
  have h1 := k1.at_ _ _ hne mnew
  walk_at "ml"
  refine ldraw F1 (by decide) (by decide) fun v M2 v0 v1 k2 F2 => ?_
  have h2 := k2.at_ _ _ hne h1
  walk_at "ml"
  refine ldraw F2 (by decide) (by decide) fun w M3 w0 w1 k3 F3 => ?_
  have h3 := k3.at_ _ _ hne h2
  have kM3 : Kp [p] M M3 := ((Kp.app.trans k1).trans k2).trans k3
  walk_at "ml"
  refine o_div (div_ok (by decide) (by decide)) ?_
  walk_at "mq"
  have hw : (1 + w.fdiv 2).toNat = 1 ∨ (1 + w.fdiv 2).toNat = 2 := by
    have : w = 0 ∨ w = 1 ∨ w = 2 := by omega
    rcases this with rfl | rfl | rfl <;> decide
  have hw2 : -(2 ^ 62) ≤ 1 + w.fdiv 2 ∧ 1 + w.fdiv 2 < 2 ^ 62 := by
    have : w = 0 ∨ w = 1 ∨ w = 2 := by omega
    rcases this with rfl | rfl | rfl <;> decide
  refine ⟨hw2, ?_⟩
  generalize (1 + w.fdiv 2).toNat = n at hw ⊢
  clear hw2 h1 h2 k1 k2 k3 F1 F2
  refine for_ix (fun i ρ M' => ∃ (rs : List Rung) (pr : Int × Int) (o5 o6 : Option D), ρ = [some (.ref p), some (pD s), some (pD t), some (.ref M.length), some (pD pr), o5, o6] ∧ rs.length = i ∧ (∀ g ∈ rs, ∃ m, g.1 = some m ∧ RmOk s m) ∧ (∀ g ∈ rs, g.2.1.natAbs ≤ 3000 ∧ g.2.2.natAbs ≤ 300) ∧ (pr.1.natAbs ≤ 10 + 1000 * i ∧ pr.2.natAbs ≤ 10 + 100 * i) ∧ (∀ g, rs = [g] → g.2 = pr) ∧ (∀ g h, rs = [g, h] → RmOk t (h.2.1 - g.2.1, h.2.2 - g.2.2)) ∧ Kp [p] M M' ∧ Feed M' p q ∧ M'[M.length]? = some (.lst (rs.map rungD))) (fun _ _ _ _ => trivial) ?_ ?_
    ⟨[], (u - 2, v - 1), _, _, rfl, rfl, by simp, by simp, ⟨by simp only; omega, by simp only; omega⟩, by simp, by simp, kM3, F3, h3⟩
  · rintro ρ M4 ⟨rs, pr, o5, o6, rfl, hl, hr, hp, -, -, hri, k4, F4, h4⟩
    rw [rng_len] at hl
    have hne0 : rs ≠ [] := by intro e; rw [e] at hl; simp at hl; omega
    obtain ⟨rs', g, rfl⟩ : ∃ rs' g, rs = rs' ++ [g] := ⟨rs.dropLast, rs.getLast hne0, (List.dropLast_concat_getLast hne0).symm⟩
    with_reducible refine x_join (fun ρ M' => ∃ rs2, (∃ o4 o5 o6, ρ = [some (.ref p), some (pD s), some (pD t), some (.ref M.length), o4, o5, o6]) ∧ RgMk s t rs2 ∧ Kp [p] M M' ∧ Feed M' p q ∧ M'[M.length]? = some (.lst (rs2.map rungD))) ?_ ?_
    · intro K hK
      walk_at "ml"
      refine ldraw F4 (by decide) (by decide) fun d M5 _ _ k5 F5 => ?_
      have h5 := k5.at_ _ _ hne h4
      walk_at "ml"
      have at5 : atI ((rs' ++ [g]).map rungD) (-1) = some (rungD g) := by rw [List.map_append]; exact neg1
      refine if_d (fun _ => ?_) (fun _ => ?_)
      · walk_at "ml"
        refine o_ixL h5 at5 ?_
        walk_at "ml"
        refine o_setL (j := rs'.length) h5 (by rw [List.length_map, List.length_append]; exact ixneg) ?_
        have e6 : ((rs' ++ [g]).map rungD).set rs'.length (.tup [.non, pD g.2]) = (rs' ++ [(none, g.2)]).map rungD := by
          rw [List.map_append, List.map_append, List.set_append_right _ _ (by simp)]
          simp [rungD, omD]
        rw [e6]
        refine hK _ _ ⟨rs' ++ [(none, g.2)], ⟨_, _, _, rfl⟩, ⟨by simpa using (by omega : (rs' ++ [g]).length = 1 ∨ (rs' ++ [g]).length = 2), ?_, ?_, ?_, ?_⟩, (k4.trans k5).setNew (Nat.le_refl _), F5.kp (S := [M.length]) (.set (by simp)) (by simp; omega) (by simp; omega), msame h5⟩
        · intro x hx m e
          rcases List.mem_append.mp hx with z | z
          · obtain ⟨m', e', hm'⟩ := hr x (by simp [z])
            rw [e] at e'; cases e'; exact hm'
          · simp at z; subst z; cases e
        · intro x hx
          rcases List.mem_append.mp hx with z | z
          · exact hp x (by simp [z])
          · simp at z; subst z; exact hp g (by simp)
        · intro x hx
          rw [List.dropLast_concat] at hx
          obtain ⟨m', e', hm'⟩ := hr x (by simp [hx])
          rw [e']; simp
        · intro x y e
          have e2 : rs' = [x] ∧ y = (none, g.2) := by
            have := congrArg List.length e
            simp at this
            match rs', this with
            | [z], _ => simp at e; exact ⟨by rw [e.1], e.2.symm⟩
          obtain ⟨rfl, rfl⟩ := e2
          exact hri x g rfl
      · walk_at "ml"
        refine hK _ _ ⟨rs' ++ [g], ⟨_, _, _, rfl⟩, ⟨by omega, ?_, hp, ?_, hri⟩, k4.trans k5, F5, h5⟩
        · intro x hx m e
          obtain ⟨m', e', hm'⟩ := hr x hx
          rw [e] at e'; cases e'; exact hm'
        · intro x hx
          obtain ⟨m', e', hm'⟩ := hr x ((List.dropLast_sublist _).subset hx)
          rw [e']; simp
    rintro _ M5 ⟨rs2, ⟨_, _, _, rfl⟩, hg2, k5, F5, h5⟩
    walk_at "ml"
    exact k rs2 M5 hg2 k5 F5
  · rintro i d ρ M4 K hd ⟨rs, pr, o5, o6, rfl, hl, hr, hp, hpr, h1g, hri, k4, F4, h4⟩ hK
    obtain ⟨rfl, hi⟩ := rng_at hd
    have hi2 : i = 0 ∨ i = 1 := by omega
    walk_at "ml"
    refine lroomS F4 (by decide) (by decide) ht fun mo M5 hmo k5 F5 => ?_
    have h5 := k5.at_ _ _ hne h4
    walk_at "mq"
    with_reducible refine x_join (fun ρ M' => ∃ pr' : Int × Int, ρ = [some (.ref p), some (pD s), some (pD t), some (.ref M.length), some (pD pr'), some (.int i), some (pD mo)] ∧ M5 = M' ∧ (pr'.1.natAbs ≤ 10 + 1000 * (i + 1) ∧ pr'.2.natAbs ≤ 10 + 100 * (i + 1)) ∧ ((i : Int) > 0 → pr' = (pr.1 + mo.1, pr.2 + mo.2)) ∧ (i = 0 → pr' = pr)) ?_ ?_
    · intro K2 hK2
      walk_at "ml"
      have ha := hmo.a1
      have hb := hmo.b1
      refine if_d (fun hc => ?_) (fun hc => ?_)
      · walk_at "ml"
        exact hK2 _ _ ⟨(pr.1 + mo.1, pr.2 + mo.2), rfl, rfl, ⟨by simp only; omega, by simp only; omega⟩, fun _ => rfl, fun e => by omega⟩
      · walk_at "ml"
        exact hK2 _ _ ⟨pr, rfl, rfl, ⟨by omega, by omega⟩, fun e => by omega, fun _ => rfl⟩
    rintro _ _ ⟨pr', rfl, rfl, hpr', hp1, hp0⟩
    walk_at "ml"
    refine lroomS F5 (by decide) (by decide) hs fun m M6 hm k6 F6 => ?_
    have h6 := k6.at_ _ _ hne h5
    walk_at "ml"
    refine o_app h6 (by simp; omega) ?_
    refine hK _ _ ⟨rs ++ [(some m, pr')], pr', _, _, rfl, by simp [hl], ?_, ?_, hpr', ?_, ?_, ((k4.trans k5).trans k6).setNew (Nat.le_refl _), F6.kp (S := [M.length]) (.set (by simp)) (by simp; omega) (by simp; omega), ?_⟩
    · intro x hx
      rcases List.mem_append.mp hx with z | z
      · exact hr x z
      · simp at z; subst z; exact ⟨m, rfl, hm⟩
    · intro x hx
      rcases List.mem_append.mp hx with z | z
      · exact hp x z
      · simp at z; subst z
        have := hpr'.1; have := hpr'.2
        exact ⟨by simp only; omega, by simp only; omega⟩
    · intro x e
      have hz : rs = [] := by
        have := congrArg List.length e
        simp at this
        exact this
      subst hz
      simp at e
      rw [← e]
    · intro x y e
      have hz : ∃ z, rs = [z] := by
        have := congrArg List.length e
        simp at this
        match rs, this with
        | [z], _ => exact ⟨z, rfl⟩
      obtain ⟨z, rfl⟩ := hz
      simp at e
      obtain ⟨rfl, rfl⟩ := e
      have e1 := h1g z rfl
      simp at hl
      have e2 := hp1 (by omega)
      rw [e2, ← e1]
      have : (z.2.1 + mo.1 - z.2.1, z.2.2 + mo.2 - z.2.2) = mo := by
        rw [show z.2.1 + mo.1 - z.2.1 = mo.1 by omega, show z.2.2 + mo.2 - z.2.2 = mo.2 by omega]
      simp only
      rw [this]
      exact hmo
    · rw [msame h6]; simp [rungD, omD]
end Prf

namespace Prf
/-- a road as the law makes it -/
structure RdMk (s t : Int × Int) (ns : List Str) (r : Rd) : Prop where
  st : r.st ∈ ns
  en : r.en ∈ ns
  takes : 0 ≤ r.takes ∧ r.takes ≤ 8
  floor : RmOk s r.floor
  rungs : RgMk s t r.rungs
theorem lsome_road {M : Mem} {p q e : Nat} {nm : Str} {ns : List Str} {h : Int} {s t : Int × Int} {Q : DK} {X : XM} (F : Feed M p q) (hep : e ≠ p) (he : M[e]? = some (.lst (ns.map .str))) (n0 : 0 < ns.length) (n1 : ns.length < 1000) (hs : SmB s) (ht : SmB t)
    (k : ∀ R x M', R.nm = nm → RdMk s t ns R → Kp [p] M M' → Feed M' p q → M.length ≤ x → M'[x]? = some (.lst (rdL R)) → Q (.ref x) M') : w_Lsome_road [.ref p, .str nm, .ref e, .int h, pD s, pD t] M Q X := by
  unfold w_Lsome_road wOf
  rw [show startE N_Lsome_road [.ref p, .str nm, .ref e, .int h, pD s, pD t] = [some (.ref p), some (.str nm), some (.ref e), some (.int h), some (pD s), some (pD t), none, none, none, none] from rfl]
  unfold m_Lsome_road
  have hne : e ∉ [p] := by simp [hep]
  walk_at "ml"
  refine ldraw F (by rw [List.length_map]; omega) (by rw [List.length_map]; omega) fun a M1 a0 a1 k1 F1 => ?_
  rw [List.length_map] at a1
  have e1 := k1.at_ _ _ hne he
  have ha : a.toNat < ns.length := by omega
  refine o_ixL e1 (v := .str ns[a.toNat]) (by rw [atI_i a0]; simp [ha]) ?_
  walk_at "ml"
  refine ldraw F1 (by rw [List.length_map]; omega) (by rw [List.length_map]; omega) fun b M2 b0 b1 k2 F2 => ?_
  rw [List.length_map] at b1
  have e2 := k2.at_ _ _ hne e1
  have hb : b.toNat < ns.length := by omega
  refine o_ixL e2 (v := .str ns[b.toNat]) (by rw [atI_i b0]; simp [hb]) ?_
  iterate 3 walk_at "m1"
  walk_at "mq"
  have ma := List.getElem_mem ha
  have mb := List.getElem_mem hb
  generalize ns[a.toNat] = st at ma ⊢
  generalize ns[b.toNat] = en at mb ⊢
  with_reducible refine x_join (fun ρ M' => ∃ z : Int, ρ = [some (.ref p), some (.str nm), some (.ref e), some (.int h), some (pD s), some (pD t), some (.str st), some (.str en), some (.int z), none] ∧ (0 ≤ z ∧ z ≤ 1) ∧ Kp [p] M M' ∧ Feed M' p q) ?_ ?_
  · intro K hK
    walk_at "ml"
    refine if_d (fun _ => ?_) (fun _ => ?_)
    · walk_at "ml"
      refine ldraw F2 (by decide) (by decide) fun z M3 z0 z1 k3 F3 => ?_
      exact hK _ _ ⟨z, rfl, ⟨z0, by omega⟩, (k1.trans k2).trans k3, F3⟩
    · walk_at "ml"
      exact hK _ _ ⟨0, rfl, ⟨by decide, by decide⟩, k1.trans k2, F2⟩
  rintro _ M3 ⟨z, rfl, hz, k3, F3⟩
  iterate 2 walk_at "sx"
  walk_at "mq"
  with_reducible refine x_join (fun ρ M' => ∃ fl : Int × Int, ρ = [some (.ref p), some (.str nm), some (.ref e), some (.int h), some (pD s), some (pD t), some (.str st), some (.str en), some (.int z), some (pD fl)] ∧ RmOk s fl ∧ Kp [p] M M' ∧ Feed M' p q) ?_ ?_
  · intro K hK
    walk_at "ml"
    refine ldraw F3 (by decide) (by decide) fun d M4 _ _ k4 F4 => ?_
    walk_at "ml"
    refine if_d (fun _ => ?_) (fun _ => ?_)
    · walk_at "ml"
      refine lroomS F4 (by decide) (by decide) hs fun m M5 hm k5 F5 => ?_
      exact hK _ _ ⟨m, rfl, hm, (k3.trans k4).trans k5, F5⟩
    · walk_at "ml"
      exact hK _ _ ⟨(0, 0), rfl, rm0, k3.trans k4, F4⟩
  rintro _ M4 ⟨fl, rfl, hfl, k4, F4⟩
  walk_at "ml"
  refine lsome_rungs F4 hs ht fun rs M5 hrs k5 F5 => ?_
  walk_at "ml"
  exact k ⟨nm, st, en, z, fl, rs⟩ M5.length _ rfl ⟨ma, mb, ⟨hz.1, by simp only; omega⟩, hfl, hrs⟩ ((k4.trans k5).trans .app) F5.app (k4.trans k5).len mnew
end Prf

namespace MV
/-- a telling, its parts laid one behind the other -/
structure TM (M : Mem) (m : Nat) (N : Nt) (a b : Nat) (pa : List (Nat × Nat)) (rb : List Nat) (ex : List (Key × D)) : Prop where
  t : ToldM M m N a b pa rb ex
  ma : m < a
  ab : a ≠ b ∧ m < b
  ord : ∀ z ∈ pa.map (·.1) ++ pa.map (·.2) ++ rb, m < z ∧ z ≠ a ∧ z ≠ b
  nd : (pa.map (·.1) ++ pa.map (·.2) ++ rb).Nodup
section
variable {M M' : Mem} {m : Nat} {N : Nt} {a b : Nat} {pa : List (Nat × Nat)} {rb : List Nat} {ex : List (Key × D)}
theorem TM.mem (h : TM M m N a b pa rb ex) {i : Nat} (hi : i ∈ toldAt m a b pa rb) : m ≤ i := by
  have h1 := h.ma
  have h2 := h.ab
  simp only [toldAt, List.append_assoc, List.mem_append, List.mem_cons, List.not_mem_nil, or_false] at hi
  rcases hi with (rfl | rfl | rfl) | hi
  · omega
  · omega
  · omega
  · have := h.ord i (by simp only [List.append_assoc, List.mem_append]; exact hi)
    omega
theorem TM.kp (h : TM M m N a b pa rb ex) {S : List Nat} (k : Kp S M M') (hs : ∀ i ∈ S, i < m) : TM M' m N a b pa rb ex :=
  ⟨h.t.kp k fun i hi hS => by have := h.mem hi; have := hs i hS; omega, h.ma, h.ab, h.ord, h.nd⟩
theorem TM.kp0 (h : TM M m N a b pa rb ex) (k : Kp [] M M') : TM M' m N a b pa rb ex := h.kp k (by simp)
/-- nothing that is no list or dict of the telling is changed -/
theorem TM.ins (h : TM M m N a b pa rb ex) {n : Nat} {c : Str} {fs : List (Str × D)} (hn : M[n]? = some (.ins c fs)) (k : Kp [n] M M') : TM M' m N a b pa rb ex := by
  refine ⟨h.t.kp k fun i hi hS => ?_, h.ma, h.ab, h.ord, h.nd⟩
  simp at hS
  subst hS
  simp only [toldAt, List.append_assoc, List.mem_append, List.mem_cons, List.not_mem_nil, or_false] at hi
  rcases hi with (rfl | rfl | rfl) | hi | hi | hi
  · rw [h.t.dct] at hn; cases hn
  · rw [h.t.pl] at hn; cases hn
  · rw [h.t.rd] at hn; cases hn
  · obtain ⟨x, hx, rfl⟩ := List.mem_map.mp hi
    obtain ⟨j, hj⟩ := List.getElem?_of_mem hx
    have hl : j < N.ps.length := by rw [← h.t.pz]; exact (List.getElem?_eq_some_iff.mp hj).1
    rw [(h.t.pp j x _ hj (List.getElem?_eq_getElem hl)).1] at hn; cases hn
  · obtain ⟨x, hx, rfl⟩ := List.mem_map.mp hi
    obtain ⟨j, hj⟩ := List.getElem?_of_mem hx
    have hl : j < N.ps.length := by rw [← h.t.pz]; exact (List.getElem?_eq_some_iff.mp hj).1
    rw [(h.t.pp j x _ hj (List.getElem?_eq_getElem hl)).2] at hn; cases hn
  · obtain ⟨j, hj⟩ := List.getElem?_of_mem hi
    have hl : j < N.rs.length := by rw [← h.t.rz]; exact (List.getElem?_eq_some_iff.mp hj).1
    rw [h.t.rr j i _ hj (List.getElem?_eq_getElem hl)] at hn; cases hn
theorem TM.lt (h : TM M m N a b pa rb ex) : ∀ i ∈ toldAt m a b pa rb, i < M.length := by
  intro i hi
  simp only [toldAt, List.append_assoc, List.mem_append, List.mem_cons, List.not_mem_nil, or_false] at hi
  rcases hi with (rfl | rfl | rfl) | hi | hi | hi
  · exact mlt h.t.dct
  · exact mlt h.t.pl
  · exact mlt h.t.rd
  · obtain ⟨x, hx, rfl⟩ := List.mem_map.mp hi
    obtain ⟨j, hj⟩ := List.getElem?_of_mem hx
    have hl : j < N.ps.length := by rw [← h.t.pz]; exact (List.getElem?_eq_some_iff.mp hj).1
    exact mlt (h.t.pp j x _ hj (List.getElem?_eq_getElem hl)).1
  · obtain ⟨x, hx, rfl⟩ := List.mem_map.mp hi
    obtain ⟨j, hj⟩ := List.getElem?_of_mem hx
    have hl : j < N.ps.length := by rw [← h.t.pz]; exact (List.getElem?_eq_some_iff.mp hj).1
    exact mlt (h.t.pp j x _ hj (List.getElem?_eq_getElem hl)).2
  · obtain ⟨j, hj⟩ := List.getElem?_of_mem hi
    have hl : j < N.rs.length := by rw [← h.t.rz]; exact (List.getElem?_eq_some_iff.mp hj).1
    exact mlt (h.t.rr j i _ hj (List.getElem?_eq_getElem hl))
theorem TM.old (h : TM M m N a b pa rb ex) {l : Nat} (hl : M.length ≤ l) : l ∉ pa.map (·.1) ++ pa.map (·.2) ++ rb := fun hc => by
  have := h.lt l (by simp only [toldAt, List.append_assoc, List.mem_append, List.mem_cons]; simp only [List.append_assoc, List.mem_append] at hc; exact .inr hc)
  omega
theorem TM.fr (h : TM M m N a b pa rb ex) {l : Nat} (hl : M.length ≤ l) : m < l ∧ l ≠ a ∧ l ≠ b := by
  have h1 := mlt h.t.dct
  have h2 := mlt h.t.pl
  have h3 := mlt h.t.rd
  omega
theorem TM.set {l : Nat} {o : O} (h : TM M m N a b pa rb ex) (hl : ∀ i ∈ toldAt m a b pa rb, i < l) : TM (M.set l o) m N a b pa rb ex :=
  ⟨h.t.kp (S := [l]) (.set (by simp)) fun i hi hc => by have := hl i hi; simp at hc; omega, h.ma, h.ab, h.ord, h.nd⟩
theorem TM.addP (h : TM M m N a b pa rb ex) {P : Pl} {x y : Nat} (nx : x ∉ pa.map (·.1) ++ pa.map (·.2) ++ rb) (ny : y ∉ pa.map (·.1) ++ pa.map (·.2) ++ rb) (xy : y < x) (hx : M[x]? = some (.lst (plL P y))) (hy : M[y]? = some (.lst (P.wants.map pD))) (bx : m < x ∧ x ≠ a ∧ x ≠ b) (yb : m < y ∧ y ≠ a ∧ y ≠ b) : TM (M.set a (.lst ((pa.map fun x => D.ref x.1) ++ [.ref x]))) m { N with ps := N.ps ++ [P] } a b (pa ++ [(x, y)]) rb ex := by
  have h1 := h.ma
  have h2 := h.ab
  have ne : ∀ {i : Nat}, i ≠ a → (M.set a (.lst ((pa.map fun x => D.ref x.1) ++ [.ref x])))[i]? = M[i]? := fun hi => List.getElem?_set_ne (Ne.symm hi)
  refine ⟨⟨?_, ?_, ?_, by simp [h.t.pz], h.t.rz, ?_, ?_⟩, h1, h2, ?_, ?_⟩
  · rw [ne (by omega)]; exact h.t.dct
  · rw [msame h.t.pl]; simp
  · rw [ne (by omega)]; exact h.t.rd
  · intro i z p hz hp
    by_cases hi : i < pa.length
    · rw [List.getElem?_append_left hi] at hz
      rw [List.getElem?_append_left (by rw [← h.t.pz]; exact hi)] at hp
      obtain ⟨g1, g2⟩ := h.t.pp i z p hz hp
      have hm := List.mem_of_getElem? hz
      have o1 := h.ord z.1 (by simp only [List.mem_append]; exact .inl (.inl (List.mem_map_of_mem hm)))
      have o2 := h.ord z.2 (by simp only [List.mem_append]; exact .inl (.inr (List.mem_map_of_mem hm)))
      rw [ne (by omega), ne (by omega)]
      exact ⟨g1, g2⟩
    · have hi2 : i = pa.length := by
        have := (List.getElem?_eq_some_iff.mp hz).1
        simp at this; omega
      subst hi2
      rw [List.getElem?_concat_length] at hz
      rw [h.t.pz, List.getElem?_concat_length] at hp
      cases hz; cases hp
      rw [ne (by simp only; omega), ne (by simp only; omega)]
      exact ⟨hx, hy⟩
  · intro i z r hz hr
    have o1 := h.ord z (by simp only [List.mem_append]; exact .inr (List.mem_of_getElem? hz))
    rw [ne (by omega)]
    exact h.t.rr i z r hz hr
  · intro z hz
    simp only [List.map_append, List.map_cons, List.map_nil, List.mem_append, List.mem_cons, List.not_mem_nil, or_false] at hz
    rcases hz with ((hz | rfl) | (hz | rfl)) | hz
    · exact h.ord z (by simp only [List.mem_append]; exact .inl (.inl hz))
    · exact bx
    · exact h.ord z (by simp only [List.mem_append]; exact .inl (.inr hz))
    · exact yb
    · exact h.ord z (by simp only [List.mem_append]; exact .inr hz)
  · have pm : ((pa ++ [(x, y)]).map (·.1) ++ (pa ++ [(x, y)]).map (·.2) ++ rb).Perm (x :: y :: (pa.map (·.1) ++ pa.map (·.2) ++ rb)) := by
      rw [List.perm_iff_count]
      intro w
      simp [List.count_append, List.count_cons]
      omega
    rw [pm.nodup_iff, List.nodup_cons, List.nodup_cons]
    refine ⟨fun hc => ?_, ny, h.nd⟩
    rcases List.mem_cons.mp hc with rfl | hc
    · omega
    · exact nx hc
theorem TM.addR (h : TM M m N a b pa rb ex) {R : Rd} {x : Nat} (nx : x ∉ pa.map (·.1) ++ pa.map (·.2) ++ rb) (hx : M[x]? = some (.lst (rdL R))) (bx : m < x ∧ x ≠ a ∧ x ≠ b) : TM (M.set b (.lst ((rb.map D.ref) ++ [.ref x]))) m { N with rs := N.rs ++ [R] } a b pa (rb ++ [x]) ex := by
  have h1 := h.ma
  have h2 := h.ab
  have ne : ∀ {i : Nat}, i ≠ b → (M.set b (.lst ((rb.map D.ref) ++ [.ref x])))[i]? = M[i]? := fun hi => List.getElem?_set_ne (Ne.symm hi)
  refine ⟨⟨?_, ?_, ?_, h.t.pz, by simp [h.t.rz], ?_, ?_⟩, h1, h2, ?_, ?_⟩
  · rw [ne (by omega)]; exact h.t.dct
  · rw [ne (by omega)]; exact h.t.pl
  · rw [msame h.t.rd]; simp
  · intro i z p hz hp
    obtain ⟨g1, g2⟩ := h.t.pp i z p hz hp
    have hm := List.mem_of_getElem? hz
    have o1 := h.ord z.1 (by simp only [List.mem_append]; exact .inl (.inl (List.mem_map_of_mem hm)))
    have o2 := h.ord z.2 (by simp only [List.mem_append]; exact .inl (.inr (List.mem_map_of_mem hm)))
    rw [ne (by omega), ne (by omega)]
    exact ⟨g1, g2⟩
  · intro i z r hz hr
    by_cases hi : i < rb.length
    · rw [List.getElem?_append_left hi] at hz
      rw [List.getElem?_append_left (by rw [← h.t.rz]; exact hi)] at hr
      have o1 := h.ord z (by simp only [List.mem_append]; exact .inr (List.mem_of_getElem? hz))
      rw [ne (by omega)]
      exact h.t.rr i z r hz hr
    · have hi2 : i = rb.length := by
        have := (List.getElem?_eq_some_iff.mp hz).1
        simp at this; omega
      subst hi2
      rw [List.getElem?_concat_length] at hz
      rw [h.t.rz, List.getElem?_concat_length] at hr
      cases hz; cases hr
      rw [ne (by omega)]
      exact hx
  · intro z hz
    simp only [List.mem_append, List.mem_cons, List.not_mem_nil, or_false] at hz
    rcases hz with (hz | hz) | hz | rfl
    · exact h.ord z (by simp only [List.mem_append]; exact .inl (.inl hz))
    · exact h.ord z (by simp only [List.mem_append]; exact .inl (.inr hz))
    · exact h.ord z (by simp only [List.mem_append]; exact .inr hz)
    · exact bx
  · rw [← List.append_assoc, List.nodup_append]
    refine ⟨h.nd, by simp, ?_⟩
    intro u hu v hv e
    simp at hv
    subst hv
    exact nx (e ▸ hu)
end
end MV

namespace MV
def namesN (N : Nt) : List Str := N.ps.map (·.nm) ++ N.rs.map (·.nm)
end MV
namespace Prf
/-- a net as the law draws it -/
structure BareN (N : Nt) : Prop where
  s : SmB N.s
  t : SmB N.t
  h : 1 ≤ N.h ∧ N.h ≤ 6
  nm : ∀ z ∈ namesN N, Nm 8 z
  nd : (namesN N).Nodup
  ps : ∀ p ∈ N.ps, PlMk N.s N.h p
  rs : ∀ r ∈ N.rs, RdMk N.s N.t (N.ps.map (·.nm)) r
  pl : N.ps.length ≤ 9
  rl : N.rs.length ≤ 9
theorem x_disp {ρ : Ev} {M : Mem} {Q : DK} {X : XM} {trs : List (ME × ME)} (h : mPairs trs ρ (M ++ [.dct false []]) (fun ps M2 => M2[M.length]? = some (.dct false []) ∧ ps.length ≤ 15 ∧ match keysOf ps with
  | some kvs => Q (.ref M.length) (M2.set M.length (.dct false (mergeD [] kvs)))
  | none => False) X) : mDisp trs ρ M Q X := h
theorem disp1 {ρ : Ev} {M : Mem} {Q : DK} {X : XM} {h : Int} {s t : Int × Int} {mh ms mt : ME} (eh : ∀ (M : Mem) (Q : DK) X, Q (.int h) M → mh ρ M Q X) (es : ∀ (M : Mem) (Q : DK) X, Q (pD s) M → ms ρ M Q X) (et : ∀ (M : Mem) (Q : DK) X, Q (pD t) M → mt ρ M Q X)
    (k : ∀ M' a b c, Kp [] M M' → TM M' M.length ⟨h, s, t, [], []⟩ a b [] [] [(.inr "plan", .ref c)] → Q (.ref M.length) M') :
    mDisp ((mC (.str "hours"), mh) :: (mC (.str "s"), ms) :: (mC (.str "t"), mt) :: (mC (.str "places"), mCB oLst mNil) :: (mC (.str "roads"), mCB oLst mNil) :: (mC (.str "plan"), mCB oLst mNil) :: []) ρ M Q X := by
  refine x_disp ?_
  show mC (.str "hours") ρ (M ++ [.dct false []]) _ X
  refine x_c (eh _ _ _ ?_)
  show mC (.str "s") ρ (M ++ [.dct false []]) _ X
  refine x_c (es _ _ _ ?_)
  show mC (.str "t") ρ (M ++ [.dct false []]) _ X
  refine x_c (et _ _ _ ?_)
  have k0 : Kp [] M (M ++ [O.dct false []]) := .app
  have e0 : (M ++ [O.dct false []])[M.length]? = some (.dct false []) := mnew
  generalize M ++ [O.dct false []] = M0 at k0 e0 ⊢
  show mC (.str "places") ρ M0 _ X
  refine x_c ⟨by decide, ?_⟩
  have k1 : Kp [] M0 (M0 ++ [O.lst []]) := .app
  have e1 : (M0 ++ [O.lst []])[M0.length]? = some (.lst []) := mnew
  have l0 := mlt e0
  show mC (.str "roads") ρ (M0 ++ [O.lst []]) _ X
  generalize M0 ++ [O.lst []] = M1 at k1 e1 ⊢
  refine x_c ⟨by decide, ?_⟩
  have k2 : Kp [] M1 (M1 ++ [O.lst []]) := .app
  have e2 : (M1 ++ [O.lst []])[M1.length]? = some (.lst []) := mnew
  have l1 := mlt e1
  show mC (.str "plan") ρ (M1 ++ [O.lst []]) _ X
  generalize M1 ++ [O.lst []] = M2 at k2 e2 ⊢
  refine x_c ⟨by decide, ?_⟩
  have k3 : Kp [] M2 (M2 ++ [O.lst []]) := .app
  have l2 := mlt e2
  show (M2 ++ [O.lst []])[M.length]? = some (.dct false []) ∧ _
  have e02 := (k1.trans (k2.trans k3)).at_ _ _ (by simp) e0
  have e12 := (k2.trans k3).at_ _ _ (by simp) e1
  have e22 := k3.at_ _ _ (by simp) e2
  refine ⟨e02, Nat.le_of_ble_eq_true rfl, ?_⟩
  refine k _ M0.length M1.length M2.length ((k0.trans (k1.trans (k2.trans k3))).setNew (Nat.le_refl _)) ⟨⟨?_, ?_, ?_, rfl, rfl, by simp, by simp⟩, l0, ⟨by omega, by omega⟩, by simp, by simp⟩
  · rw [msame e02]; rfl
  · rw [List.getElem?_set_ne (by omega)]; exact e12
  · rw [List.getElem?_set_ne (by omega)]; exact e22
theorem cut_to {α : Type} {l : List α} {n : Nat} (h : n ≤ l.length) : cutD l none (some (n : Int)) = l.take n := by
  have e1 : HT.sIx l.length 0 none = 0 := rfl
  have e2 : HT.sIx l.length l.length (some (n : Int)) = n := by
    unfold HT.sIx; simp only; rw [if_neg (by omega)]; simp; omega
  unfold cutD
  rw [e1, e2]; simp
theorem cut_from {α : Type} {l : List α} {n : Nat} (h : n ≤ l.length) : cutD l (some (n : Int)) none = l.drop n := by
  have e1 : HT.sIx l.length 0 (some (n : Int)) = n := by
    unfold HT.sIx; simp only; rw [if_neg (by omega)]; simp; omega
  have e2 : HT.sIx l.length l.length none = l.length := rfl
  unfold cutD
  rw [e1, e2]
  rw [List.take_of_length_le (by simp)]
theorem lbareX {M : Mem} {p q : Nat} {x y z : Int} {Q : DK} {X : XM} (F : Feed M p q) (x0 : 1 ≤ x ∧ x ≤ 9) (y0 : 0 ≤ y ∧ y ≤ 9) (z0 : 1 ≤ z ∧ z ≤ 6)
    (k : ∀ N m a b pa rb c M', BareN N → (N.ps.length : Int) ≤ x → 1 ≤ N.ps.length → (N.rs.length : Int) ≤ y → N.h ≤ z → Kp [p] M M' → Feed M' p q → p < m → q < m → TM M' m N a b pa rb [(.inr "plan", .ref c)] → Q (.ref m) M') : w_Lbare [.ref p, .int x, .int y, .int z] M Q X := by
  unfold w_Lbare wOf
  rw [show startE N_Lbare [.ref p, .int x, .int y, .int z] = [some (.ref p), some (.int x), some (.int y), some (.int z), none, none, none, none, none, none, none, none] from rfl]
  unfold m_Lbare
  walk_at "ml"
  refine ldraw F (by omega) (by omega) fun u M1 u0 u1 k1 F1 => ?_
  walk_at "ml"
  refine ldraw F1 (by omega) (by omega) fun v M2 v0 v1 k2 F2 => ?_
  walk_at "ml"
  refine lnames F2 (by omega) (by omega) fun nms M3 hn3 ha3 hd3 k3 F3 h3 => ?_
  have lt2 := F2.lt
  walk_at "ml"
  refine ldraw F3 (by decide) (by decide) fun c1 M4 c10 c11 k4 F4 => ?_
  walk_at "ml"
  refine ldraw F4 (by decide) (by decide) fun c2 M5 c20 c21 k5 F5 => ?_
  walk_at "ml"
  refine ldraw F5 (by decide) (by decide) fun c3 M6 c30 c31 k6 F6 => ?_
  walk_at "ml"
  refine ldraw F6 (by decide) (by decide) fun c4 M7 c40 c41 k7 F7 => ?_
  walk_at "ml"
  refine ldraw F7 (by omega) (by omega) fun hh M8 hh0 hh1 k8 F8 => ?_
  walk_at "mq"
  iterate 2 walk_at "sx"
  have kM8 : Kp [p] M M8 := ((((((k1.trans k2).trans k3).trans k4).trans k5).trans k6).trans k7).trans k8
  have hln : M2.length ∉ [p] := by simp; omega
  have h8 := ((((k4.trans k5).trans k6).trans k7).trans k8).at_ _ _ hln h3
  have l8 := mlt h8
  have lt8 := F8.lt
  have hM8 := kM8.len
  obtain ⟨S, hS⟩ : ∃ S : Int × Int, S = (c1 - 2, c1 - 2 + c2) := ⟨_, rfl⟩
  obtain ⟨T, hT⟩ : ∃ T : Int × Int, T = (c3 - 2, c3 - 2 + c4) := ⟨_, rfl⟩
  have eS : D.tup [.int (c1 - 2), .int (c1 - 2 + c2)] = pD S := by rw [hS]; rfl
  have eT : D.tup [.int (c3 - 2), .int (c3 - 2 + c4)] = pD T := by rw [hT]; rfl
  rw [eS, eT]
  have sS : SmB S := by rw [hS]; exact ⟨by simp only; omega, by simp only; omega, by simp only; omega⟩
  have sT : SmB T := by rw [hT]; exact ⟨by simp only; omega, by simp only; omega, by simp only; omega⟩
  refine disp1 (h := 1 + hh) (s := S) (t := T) (fun _ _ _ h => by walk_at "ml"; exact h) (fun _ _ _ h => by walk_at "ml"; exact h) (fun _ _ _ h => by walk_at "ml"; exact h) fun M9 a b c k9 T9 => ?_
  have h9 := k9.at_ _ _ (by simp) h8
  have F9 := F8.kp k9 (by simp) (by simp)
  have kM9 : Kp [p] M M9 := kM8.trans (k9.weak (by simp))
  have lm : p < M8.length ∧ q < M8.length := F8.lt
  have llm : M2.length < M8.length := l8
  have hmM : M.length ≤ M8.length := hM8
  generalize M8.length = m at *
  generalize M2.length = ln at *
  clear k1 k2 k3 k4 k5 k6 k7 k8 k9 F1 F2 F3 F4 F5 F6 F7 F8 h3 h8 kM8 lt2 lt8 l8 hM8
  have hmany : ∃ n : Nat, 1 + u = (n : Int) ∧ 1 ≤ n ∧ (n : Int) ≤ x ∧ n ≤ nms.length := ⟨(1 + u).toNat, by omega, by omega, by omega, by rw [hn3]; omega⟩
  obtain ⟨n, hun, n1, nx, nl⟩ := hmany
  rw [hun]
  have ny : ((nms.drop n).length : Int) ≤ y := by rw [List.length_drop, hn3]; omega
  have ma := T9.ma
  have ab := T9.ab
  clear eS eT hS hT
  have hH : 1 ≤ 1 + hh ∧ 1 + hh ≤ z := by omega
  generalize 1 + hh = H at *
  with_reducible refine x_join (fun ρ M' => ∃ pa ps, (∃ o7 o11, ρ = [some (.ref p), some (.int x), some (.int y), some (.int H), some (.int n), some (.int v), some (.ref ln), o7, some (pD S), some (pD T), some (.ref m), o11]) ∧ ps.map (·.nm) = nms.take n ∧ (∀ p ∈ ps, PlMk S H p) ∧ TM M' m ⟨H, S, T, ps, []⟩ a b pa [] [(.inr "plan", .ref c)] ∧ Kp [p] M M' ∧ Feed M' p q ∧ M'[ln]? = some (.lst (nms.map .str))) ?_ ?_
  · intro K hK
    walk_at "sx"
    with_reducible refine x_iseq ?_
    walk_at "ml"
    refine o_slL h9 ?_
    rw [cut_to (by simp; omega), ← List.map_take]
    refine iseqL mnew ?_
    have l9 := mlt T9.t.rd
    have l9a := mlt T9.t.pl
    refine for_ix (fun i ρ M' => ∃ pa ps, (∃ o7 o11, ρ = [some (.ref p), some (.int x), some (.int y), some (.int H), some (.int n), some (.int v), some (.ref ln), o7, some (pD S), some (pD T), some (.ref m), o11]) ∧ ps.map (·.nm) = nms.take i ∧ (∀ p ∈ ps, PlMk S H p) ∧ TM M' m ⟨H, S, T, ps, []⟩ a b pa [] [(.inr "plan", .ref c)] ∧ Kp [p] M M' ∧ Feed M' p q ∧ M'[ln]? = some (.lst (nms.map .str)) ∧ M'[M9.length]? = some (.lst ((nms.take n).map .str))) ?_ ?_ ?_ ?_
    · rintro i ρ M' ⟨_, _, _, _, _, _, _, _, _, hg⟩; exact hg
    · rintro ρ M' ⟨pa, ps, ho, h1, h2, h3, h4, h5, h6, -⟩
      have e : ((nms.take n).map D.str).length = n := by simp; omega
      rw [e] at h1
      exact hK _ _ ⟨pa, ps, ho, h1, h2, h3, h4, h5, h6⟩
    · rintro i d ρ M' K2 hd ⟨pa, ps, ⟨o7, o11, rfl⟩, hps, hpk, hTM, kM, F', hl', hsl'⟩ hK2
      rw [List.getElem?_map] at hd
      cases hq : (nms.take n)[i]? with
      | none => rw [hq] at hd; cases hd
      | some nm =>
      rw [hq] at hd
      cases hd
      have hq2 : nms[i]? = some nm := by
        rw [List.getElem?_take] at hq
        split at hq
        · exact hq
        · cases hq
      have lb := mlt hTM.t.rd
      have hpl := hTM.t.pl
      walk_at "ml"
      refine o_ixK hTM.t.dct tk_p ?_
      walk_at "ml"
      refine lsome_place F' (by omega) (by omega) sS fun P x' y' M'' hnm hP k' F'' ly lyx hy hx => ?_
      have T2 := hTM.kp k' (by simp; omega)
      walk_at "ml"
      refine o_app T2.t.pl (by simp [T2.t.pz]; have := congrArg List.length hps; simp at this; omega) ?_
      have A := T2.addP (hTM.old (by omega)) (hTM.old ly) lyx hx hy (hTM.fr (by omega)) (hTM.fr ly)
      have nea : ∀ {j : Nat}, j ≠ a → (M''.set a (.lst ((pa.map fun x => D.ref x.1) ++ [.ref x'])))[j]? = M''[j]? := fun hj => List.getElem?_set_ne (Ne.symm hj)
      refine hK2 _ _ ⟨pa ++ [(x', y')], ps ++ [P], ⟨_, _, rfl⟩, ?_, ?_, A, (kM.trans k').setNew (by omega), F''.kp (S := [a]) (.set (by simp)) (by simp; omega) (by simp; omega), ?_, ?_⟩
      · rw [List.take_succ, hq2, List.map_append, hps, ← hnm]; rfl
      · intro w hw
        rcases List.mem_append.mp hw with g | g
        · exact hpk w g
        · simp at g; subst g; exact hP
      · rw [nea (by omega)]; exact k'.at_ _ _ hln hl'
      · rw [nea (by omega)]; exact k'.at_ _ _ (by simp; omega) hsl'
    · exact ⟨[], [], ⟨_, _, rfl⟩, rfl, by simp, T9.kp0 .app, kM9.trans .app, F9.app, (Kp.app (S := [])).at_ _ _ (by simp) h9, mnew⟩
  rintro _ M10 ⟨pa, ps, ⟨o7, o11, rfl⟩, hps, hpk, T10, kM10, F10, h10⟩
  have hpn : ps.length = n := by have := congrArg List.length hps; simp at this; omega
  have l10 := mlt T10.t.rd
  walk_at "sx"
  walk_at "sx"
  with_reducible refine x_iseq ?_
  walk_at "ml"
  refine o_slL h10 ?_
  rw [cut_from (by simp; omega), ← List.map_drop]
  refine iseqL mnew ?_
  refine for_ix (fun i ρ M' => ∃ rb rs, (∃ o7 o11, ρ = [some (.ref p), some (.int x), some (.int y), some (.int H), some (.int n), some (.int v), some (.ref ln), o7, some (pD S), some (pD T), some (.ref m), o11]) ∧ rs.map (·.nm) = (nms.drop n).take i ∧ (∀ r ∈ rs, RdMk S T (ps.map (·.nm)) r) ∧ TM M' m ⟨H, S, T, ps, rs⟩ a b pa rb [(.inr "plan", .ref c)] ∧ Kp [p] M M' ∧ Feed M' p q ∧ M'[ln]? = some (.lst (nms.map .str)) ∧ M'[M10.length]? = some (.lst ((nms.drop n).map .str))) ?_ ?_ ?_ ?_
  · rintro i ρ M' ⟨_, _, _, _, _, _, _, _, _, hg⟩; exact hg
  · rintro ρ M' ⟨rb, rs, ⟨_, _, rfl⟩, h1, h2, h3, h4, h5, h6, -⟩
    rw [List.take_of_length_le (by simp)] at h1
    have e : namesN ⟨H, S, T, ps, rs⟩ = nms := by
      show ps.map (·.nm) ++ rs.map (·.nm) = nms
      rw [hps, h1, List.take_append_drop]
    have hrn : rs.length = (nms.drop n).length := by have := congrArg List.length h1; simpa using this
    walk_at "ml"
    refine k ⟨H, S, T, ps, rs⟩ m a b pa rb _ M' ⟨sS, sT, by simp only; omega, by rw [e]; exact ha3, by rw [e]; exact hd3, hpk, h2, by simp only; omega, by simp only; omega⟩ (by simp only; omega) (by simp only; omega) (by simp only; omega) (by simp only; omega) h4 h5 lm.1 lm.2 h3
  · rintro i d ρ M' K2 hd ⟨rb, rs, ⟨o7, o11, rfl⟩, hrs, hrk, hTM, kM, F', hl', hsl'⟩ hK2
    rw [List.getElem?_map] at hd
    cases hq : (nms.drop n)[i]? with
    | none => rw [hq] at hd; cases hd
    | some nm =>
    rw [hq] at hd
    cases hd
    have lb := mlt hTM.t.rd
    have hrd := hTM.t.rd
    walk_at "ml"
    refine o_ixK hTM.t.dct tk_r ?_
    walk_at "ml"
    refine o_slL hl' ?_
    rw [cut_to (by simp; omega), ← List.map_take, ← hps]
    have hTM2 := hTM.kp0 (.app (l := [O.lst ((ps.map (·.nm)).map .str)]))
    have F2' := F'.app (l := [O.lst ((ps.map (·.nm)).map .str)])
    have kM2 := kM.trans (.app (l := [O.lst ((ps.map (·.nm)).map .str)]))
    have hl2 := (Kp.app (S := []) (l := [O.lst ((ps.map (·.nm)).map .str)])).at_ _ _ (by simp) hl'
    have hsl2 := (Kp.app (S := []) (l := [O.lst ((ps.map (·.nm)).map .str)])).at_ _ _ (by simp) hsl'
    have he2 : (M' ++ [O.lst ((ps.map (·.nm)).map .str)])[M'.length]? = some (.lst ((ps.map (·.nm)).map .str)) := mnew
    have lt' := F'.lt
    have len2 : M'.length ≤ (M' ++ [O.lst ((ps.map (·.nm)).map D.str)]).length := by simp
    generalize M' ++ [O.lst ((ps.map (·.nm)).map .str)] = M2' at *
    walk_at "ml"
    refine lsome_road F2' (by omega) he2 (by simp; omega) (by simp; omega) sS sT fun R x' M'' hnm hR k' F'' lx hx => ?_
    have T2 := hTM2.kp k' (by simp; omega)
    walk_at "ml"
    refine o_app T2.t.rd (by simp [T2.t.rz]; have := congrArg List.length hrs; simp at this; omega) ?_
    have A := T2.addR (hTM.old (by omega)) hx (hTM.fr (by omega))
    have neb : ∀ {j : Nat}, j ≠ b → (M''.set b (.lst ((rb.map D.ref) ++ [.ref x'])))[j]? = M''[j]? := fun hj => List.getElem?_set_ne (Ne.symm hj)
    refine hK2 _ _ ⟨rb ++ [x'], rs ++ [R], ⟨_, _, rfl⟩, ?_, ?_, A, (kM2.trans k').setNew (by omega), F''.kp (S := [b]) (.set (by simp)) (by simp; omega) (by simp; omega), ?_, ?_⟩
    · rw [List.take_succ, hq, List.map_append, hrs, ← hnm]; rfl
    · intro w hw
      rcases List.mem_append.mp hw with g | g
      · exact hrk w g
      · simp at g; subst g; exact hR
    · rw [neb (by omega)]; exact k'.at_ _ _ hln hl2
    · rw [neb (by omega)]; exact k'.at_ _ _ (by simp; omega) hsl2
  · exact ⟨[], [], ⟨_, _, rfl⟩, rfl, by simp, T10.kp0 .app, kM10.trans .app, F10.app, (Kp.app (S := [])).at_ _ _ (by simp) h10, mnew⟩
end Prf

namespace Prf
def xNoHour (k : Int) : Exn := xE "NoHour" "number" "no hour" (.int k)
theorem cut1 {α : Type} {x : α} {l : List α} : cutD (x :: l) (some 1) none = l := by
  have e1 : HT.sIx (x :: l).length 0 (some 1) = 1 := by simp [HT.sIx]
  have e2 : HT.sIx (x :: l).length (x :: l).length none = (x :: l).length := rfl
  unfold cutD
  rw [e1, e2]
  simp
theorem find_nm {ps : List Pl} {s : Str} {q : Pl} (h : findP ps s = some q) : q.nm = s := by
  unfold findP at h
  simpa using List.find?_some h
theorem de_last {Q Q' : DK} {X : XM} {M : Mem} {n : Nat} {N : Nt} {r : Option Exn} (h : De Q X M n r N) (k : r = none → De Q X M n none N → Q' .non M) : En Q' X M r := by
  cases r with
  | none => exact k rfl h
  | some e => exact h
def rRm (s : Str) (b : Int × Int) (o : Option (Int × Int)) : Option Exn := (oRef (rMove 1000000) o).or (oRef (fun m => rRoom s m b) o)
theorem l_through {M : Mem} {Q : DK} {X : XM} {n p r : Nat} {N : Nt} {s : Str} {o : Option (Int × Int)} (hN : NetM M n N p r) (ok : NOk N) (h : OnS (findP N.ps s) (fun q => De Q X M n (rRm s N.s o) { N with ps := putP N.ps { q with room := o } }) (X (xNoPlace s) M)) : w_Net_through [.ref n, .str s, omD o] M Q X := by
  have h1 := hN.ins
  show m_Net_through _ [some (.ref n), some (.str s), some (omD o), none] M
  unfold m_Net_through
  walk_at "ml"
  refine l_known hN ?_
  cases hp : findP N.ps s with
  | none => rw [hp] at h; exact h
  | some q =>
  rw [hp] at h
  replace h : De Q X M n (rRm s N.s o) { N with ps := putP N.ps { q with room := o } } := h
  have hnm := find_nm hp
  refine OnS.some ?_
  rw [show plD q = .tup [omD q.room, omD q.kept, pD q.price, .tup (q.wants.map pD)] from rfl]
  have fin : De Q X M n none { N with ps := putP N.ps { q with room := o } } → w_Net_set_place [.ref n, .str s, plD { q with room := o }] M (fun _ M1 => Q .non M1) X := fun h => by
    have := l_set_place (X := X) (q := { q with room := o }) hN ok.pl (Q := fun _ M1 => Q .non M1) h
    rw [show ({ q with room := o } : Pl).nm = s from hnm] at this
    exact this
  walk_at "ml"
  cases o with
  | none =>
    refine if_f ?_
    walk_at "ml"
    refine o_addT (by rw [cut1]; simp) ?_
    rw [cut1]
    walk_at "ml"
    exact fin h
  | some m =>
    refine if_t ?_
    walk_at "ml"
    refine l_move (De.step (r2 := rRoom s m N.s) h fun _ h => ?_)
    walk_at "ml"
    refine l_room ok.s (de_last h fun _ h => ?_)
    walk_at "ml"
    refine o_addT (by rw [cut1]; simp) ?_
    rw [cut1]
    walk_at "ml"
    exact fin h
def rSto (s : Str) (b : Int × Int) (o : Option (Int × Int)) (pr : Int × Int) : Option Exn := (oRef (rMove 1000000) o).or ((rMove 1000000 pr).or (oRef (fun m => rRoom s m b) o))
def stoP (q : Pl) (o : Option (Int × Int)) (pr : Int × Int) : Pl := { q with kept := o, price := if o = some (0, 0) then (0, 0) else pr }
theorem l_store {M : Mem} {Q : DK} {X : XM} {n p r : Nat} {N : Nt} {s : Str} {o : Option (Int × Int)} {pr : Int × Int} (hN : NetM M n N p r) (ok : NOk N) (h : OnS (findP N.ps s) (fun q => De Q X M n (rSto s N.s o pr) { N with ps := putP N.ps (stoP q o pr) }) (X (xNoPlace s) M)) : w_Net_store [.ref n, .str s, omD o, pD pr] M Q X := by
  have h1 := hN.ins
  show m_Net_store _ [some (.ref n), some (.str s), some (omD o), some (pD pr), none] M
  unfold m_Net_store
  walk_at "ml"
  refine l_known hN ?_
  cases hp : findP N.ps s with
  | none => rw [hp] at h; exact h
  | some q =>
  rw [hp] at h
  replace h : De Q X M n (rSto s N.s o pr) { N with ps := putP N.ps (stoP q o pr) } := h
  have hnm := find_nm hp
  refine OnS.some ?_
  rw [show plD q = .tup [omD q.room, omD q.kept, pD q.price, .tup (q.wants.map pD)] from rfl]
  have fin : De Q X M n none { N with ps := putP N.ps (stoP q o pr) } → w_Net_set_place [.ref n, .str s, plD (stoP q o pr)] M (fun _ M1 => Q .non M1) X := fun h => by
    have := l_set_place (X := X) (q := stoP q o pr) hN ok.pl (Q := fun _ M1 => Q .non M1) h
    rw [show (stoP q o pr).nm = s from hnm] at this
    exact this
  walk_at "ml"
  cases o with
  | none =>
    refine if_f ?_
    walk_at "ml"
    refine l_move (De.step (r2 := none) (by simpa [rSto, oRef] using h) fun _ h => ?_)
    walk_at "ml"
    refine if_f ?_
    walk_at "ml"
    refine eq_om (o := none) (m := (0, 0)) ?_
    refine if_d (fun e => by cases e) (fun _ => ?_)
    walk_at "ml"
    exact fin h
  | some m =>
    refine if_t ?_
    walk_at "ml"
    refine l_move (De.step (r2 := (rMove 1000000 pr).or (rRoom s m N.s)) h fun _ h => ?_)
    walk_at "ml"
    refine l_move (De.step h fun _ h => ?_)
    walk_at "ml"
    refine if_t ?_
    walk_at "ml"
    refine l_room ok.s (de_last h fun _ h => ?_)
    walk_at "ml"
    refine eq_om (o := some m) (m := (0, 0)) ?_
    refine if_d (fun e => ?_) (fun e => ?_)
    · walk_at "ml"
      have : plD (stoP q (some m) pr) = .tup [omD q.room, omD (some m), .tup [.int 0, .int 0], .tup (q.wants.map pD)] := by
        simp only [stoP, plD]; rw [if_pos e]; rfl
      rw [this] at fin
      exact fin h
    · walk_at "ml"
      have : plD (stoP q (some m) pr) = .tup [omD q.room, omD (some m), pD pr, .tup (q.wants.map pD)] := by
        simp only [stoP, plD]; rw [if_neg e]
      rw [this] at fin
      exact fin h
def wanP (q : Pl) (k : Int) (m : Int × Int) : Pl := { q with wants := q.wants.take (k.toNat - 1) ++ [m] ++ q.wants.drop k.toNat }
theorem l_want {M : Mem} {Q : DK} {X : XM} {n p r : Nat} {N : Nt} {s : Str} {k : Int} {m : Int × Int} (hN : NetM M n N p r) (ok : NOk N) (hw : ∀ q ∈ N.ps, (q.wants.length : Int) = N.h)
    (h : OnS (findP N.ps s) (fun q => De Q X M n ((if 1 ≤ k ∧ k ≤ N.h then none else some (xNoHour k)).or (rMove 1000000 m)) { N with ps := putP N.ps (wanP q k m) }) (X (xNoPlace s) M)) : w_Net_want [.ref n, .str s, .int k, pD m] M Q X := by
  have h1 := hN.ins
  unfold w_Net_want wOf
  rw [show startE N_Net_want [.ref n, .str s, .int k, pD m] = [some (.ref n), some (.str s), some (.int k), some (pD m), none, none, none, none] from rfl]
  unfold m_Net_want
  walk_at "ml"
  refine l_known hN ?_
  cases hp : findP N.ps s with
  | none => rw [hp] at h; exact h
  | some q =>
  rw [hp] at h
  replace h : De Q X M n ((if 1 ≤ k ∧ k ≤ N.h then none else some (xNoHour k)).or (rMove 1000000 m)) { N with ps := putP N.ps (wanP q k m) } := h
  have hnm := find_nm hp
  have hwl := hw q (List.mem_of_find?_eq_some hp)
  have hh1 := ok.h1
  refine OnS.some ?_
  rw [show plD q = .tup [omD q.room, omD q.kept, pD q.price, .tup (q.wants.map pD)] from rfl]
  have fin : De Q X M n none { N with ps := putP N.ps (wanP q k m) } → w_Net_set_place [.ref n, .str s, plD (wanP q k m)] M (fun _ M1 => Q .non M1) X := fun h => by
    have := l_set_place (X := X) (q := wanP q k m) hN ok.pl (Q := fun _ M1 => Q .non M1) h
    rw [show (wanP q k m).nm = s from hnm] at this
    exact this
  walk_at "mq"
  iterate 2 walk_at "sx"
  iterate 2 walk_at "ex"
  refine x_chI (x := 1) (y := k) (z := N.h) (fun _ h => by walk_at "ml"; exact h) (fun _ h => by walk_at "ml"; exact h) (fun _ h => by walk_at "ml"; exact h) ?_
  refine if_n (fun hc => ?_) (fun hc => ?_)
  · rw [if_neg hc] at h
    walk_at "ml"
    exact ⟨rfl, h⟩
  rw [if_pos hc] at h
  replace h : De Q X M n (rMove 1000000 m) { N with ps := putP N.ps (wanP q k m) } := h
  walk_at "ml"
  refine l_move (de_last h fun _ h => ?_)
  walk_at "ml"
  have c1 : cutD (q.wants.map pD) none (some (k - 1)) = (q.wants.take (k.toNat - 1)).map pD := by
    have : k - 1 = ((k.toNat - 1 : Nat) : Int) := by omega
    rw [this, cut_to (by simp; omega), List.map_take]
  have c2 : cutD (q.wants.map pD) (some k) none = (q.wants.drop k.toNat).map pD := by
    have : k = ((k.toNat : Nat) : Int) := by omega
    rw [show cutD (q.wants.map pD) (some k) none = cutD (q.wants.map pD) (some (k.toNat : Int)) none by rw [← this], cut_from (by simp; omega), List.map_drop]
  refine o_addT (by rw [c1]; simp; omega) ?_
  walk_at "ml"
  refine o_addT (by rw [c1, c2]; simp; omega) ?_
  walk_at "ml"
  rw [c1, c2]
  have : plD (wanP q k m) = .tup [omD q.room, omD q.kept, pD q.price, .tup ((q.wants.take (k.toNat - 1)).map pD ++ [pD m] ++ (q.wants.drop k.toNat).map pD)] := by
    simp [wanP, plD]
  rw [this] at fin
  exact fin h
end Prf

namespace Prf
theorem BareN.ntok {N : Nt} (h : BareN N) : NtOk N := by
  have nmP : ∀ p ∈ N.ps, Nm 8 p.nm := fun p hp => h.nm _ (List.mem_append.mpr (.inl (List.mem_map_of_mem hp)))
  have nmR : ∀ p ∈ N.rs, Nm 8 p.nm := fun p hp => h.nm _ (List.mem_append.mpr (.inr (List.mem_map_of_mem hp)))
  have hh := h.h
  have nd := List.nodup_append.mp h.nd
  refine ⟨h.h, h.s.mv, h.t.mv, fun p hp => ?_, fun r hr => ?_, by have := h.pl; omega, by have := h.rl; omega, nd.1, nd.2.1⟩
  · have g := h.ps p hp
    refine ⟨(nmP p hp).asc, fun m e => (g.room m e).mv, fun m e => (g.kept m e).mv, ⟨by have := g.price.1; omega, by have := g.price.2; omega⟩, ?_, ?_⟩
    · intro m hm
      rw [g.wants] at hm
      rw [List.eq_of_mem_replicate hm]
      exact ⟨by decide, by decide⟩
    · rw [g.wants]; simp; omega
  · have g := h.rs r hr
    have nmS : ∀ z ∈ N.ps.map (·.nm), Asc 8 z := fun z hz => by
      obtain ⟨p, hp, rfl⟩ := List.mem_map.mp hz
      exact (nmP p hp).asc
    refine ⟨(nmR r hr).asc, nmS _ g.st, nmS _ g.en, ⟨g.takes.1, by have := g.takes.2; omega⟩, g.floor.mv, fun x hx => ⟨fun m e => (g.rungs.room x hx m e).mv, ⟨by have := (g.rungs.price x hx).1; omega, by have := (g.rungs.price x hx).2; omega⟩⟩, ?_⟩
    rcases g.rungs.len with e | e <;> omega
theorem mv_none {m : Int × Int} (h : Mv m) : rMove 1000000 m = none := by
  unfold rMove rNum
  have h1 := h.1
  have h2 := h.2
  rw [if_pos (by omega), if_pos (by omega)]
  rfl
theorem rm_none {nm : Str} {b m : Int × Int} (h : RmOk b m) : rRoom nm m b = none := by unfold rRoom; rw [rm_sinks h]; rfl
theorem orm_none {b : Int × Int} {o : Option (Int × Int)} (h : ∀ m, o = some m → RmOk b m) : oRef (rMove 1000000) o = none := by
  cases o with
  | none => rfl
  | some m => exact mv_none (h m rfl).mv
theorem orr_none {nm : Str} {b : Int × Int} {o : Option (Int × Int)} (h : ∀ m, o = some m → RmOk b m) : oRef (fun m => rRoom nm m b) o = none := by
  cases o with
  | none => rfl
  | some m => exact rm_none (h m rfl)
theorem rungs_none {nm : Str} {s t : Int × Int} {rs : List Rung} (h : RgMk s t rs) : rRungs 4 1000000 nm s t rs = none := by
  unfold rRungs
  have h1 : 1 ≤ (rs.length : Int) ∧ (rs.length : Int) ≤ 4 := by rcases h.len with e | e <;> omega
  have h2 : (rs.dropLast.any fun r => r.1.isNone) = false := by
    rw [List.any_eq_false]
    intro x hx hc
    exact h.first x hx (Option.isNone_iff_eq_none.mp hc)
  have h3 : rs.findSome? (rRung 1000000 nm s) = none := by
    rw [List.findSome?_eq_none_iff]
    intro g hg
    unfold rRung
    rw [orm_none (h.room g hg), mv_none ⟨by have := (h.price g hg).1; omega, by have := (h.price g hg).2; omega⟩, orr_none (h.room g hg)]
    rfl
  have h4 : rRis nm t rs = none := by
    match rs, h.len, h.rise with
    | [a], _, _ => rfl
    | [a, b], _, hr =>
      unfold rRis
      rw [rm_sinks (hr a b rfl)]
      rfl
  rw [if_pos h1, h2, h3, h4]
  rfl
theorem road_none {N : Nt} {q : Rd} (h : RdMk N.s N.t (N.ps.map (·.nm)) q) : rSetRoad N q = none := by
  unfold rSetRoad
  have ht := h.takes
  rw [if_pos (by omega), mv_none h.floor.mv, rm_none h.floor, rungs_none h.rungs]
  rfl
theorem find_none {ps : List Pl} {s : Str} (h : s ∉ ps.map (·.nm)) : findP ps s = none := by
  unfold findP
  rw [List.find?_eq_none]
  intro x hx hc
  exact h (by rw [← of_decide_eq_true hc]; exact List.mem_map_of_mem hx)
theorem find_noneR {ps : List Rd} {s : Str} (h : s ∉ ps.map (·.nm)) : findR ps s = none := by
  unfold findR
  rw [List.find?_eq_none]
  intro x hx hc
  exact h (by rw [← of_decide_eq_true hc]; exact List.mem_map_of_mem hx)
theorem find_some {ps : List Pl} {s : Str} (h : s ∈ ps.map (·.nm)) : (findP ps s).isSome = true := by
  unfold findP
  rw [List.find?_isSome]
  obtain ⟨p, hp, rfl⟩ := List.mem_map.mp h
  exact ⟨p, hp, by simp⟩
theorem putP_last {ps : List Pl} {q q' : Pl} (h : q.nm ∉ ps.map (·.nm)) (e : q'.nm = q.nm) : putP (ps ++ [q]) q' = ps ++ [q'] := by
  unfold putP
  rw [if_pos (by simp [e])]
  rw [List.map_append]
  congr 1
  · have : ps.map (fun q => if q.nm = q'.nm then q' else q) = ps.map id := List.map_congr_left fun x hx => by
      rw [if_neg]
      · rfl
      · intro hc
        exact h (by rw [← e, ← hc]; exact List.mem_map_of_mem hx)
    rw [this, List.map_id]
  · simp [e]
theorem find_last {ps : List Pl} {q : Pl} (h : q.nm ∉ ps.map (·.nm)) : findP (ps ++ [q]) q.nm = some q := by
  unfold findP
  rw [List.find?_append]
  have := find_none h
  unfold findP at this
  rw [this]
  simp
end Prf

namespace MV
theorem Kp.new {M M' M'' : Mem} {n : Nat} (k : Kp [] M M') (k' : Kp [n] M' M'') (h : M.length ≤ n) : Kp [] M M'' := ⟨Nat.le_trans k.len k'.len, fun i o hi e => by
  have := mlt e
  exact k'.at_ i o (by simp; omega) (k.at_ i o hi e)⟩
end MV
namespace Prf
theorem box_none {d : Str} {b : Int × Int} (h : SmB b) : rBox 1000000 d b = none := by
  obtain ⟨h1, h2, h3⟩ := h
  unfold rBox rNum
  rw [if_pos (by omega), if_pos (by omega), if_neg (by omega)]
  rfl
theorem bare_init {N : Nt} (h : BareN N) : rInit N.h N.s N.t = none := by
  unfold rInit
  rw [if_pos h.h, box_none h.s, box_none h.t]
  rfl
theorem rep_want {n j : Nat} (h : j < n) : (List.replicate n ((0 : Int), (0 : Int))).take j ++ [(0, 0)] ++ (List.replicate n ((0 : Int), (0 : Int))).drop (j + 1) = List.replicate n (0, 0) := by
  rw [List.take_replicate, List.drop_replicate, Nat.min_eq_left (by omega)]
  rw [← List.replicate_succ', List.replicate_append_replicate]
  congr 1
  omega
theorem lmade {M : Mem} {Q : DK} {X : XM} {m a b : Nat} {pa : List (Nat × Nat)} {rb : List Nat} {ex : List (Key × D)} {N : Nt} (hT : TM M m N a b pa rb ex) (hb : BareN N) (k : ∀ M' n p r, Kp [] M M' → M.length ≤ n → NetM M' n N p r → Q (.ref n) M') : w_Lmade [.ref m] M Q X := by
  have hh := hb.h
  have hpl := hb.pl
  have hrl := hb.rl
  have nd := List.nodup_append.mp hb.nd
  have nmP : ∀ p ∈ N.ps, Nm 8 p.nm := fun p hp => hb.nm _ (List.mem_append.mpr (.inl (List.mem_map_of_mem hp)))
  have nmR : ∀ p ∈ N.rs, Nm 8 p.nm := fun p hp => hb.nm _ (List.mem_append.mpr (.inr (List.mem_map_of_mem hp)))
  unfold w_Lmade wOf
  rw [show startE N_Lmade [.ref m] = [some (.ref m), none, none, none, none, none, none, none, none, none, none, none, none] from rfl]
  unfold m_Lmade
  walk_at "ml"
  refine o_ixK hT.t.dct tk_h ?_
  walk_at "ml"
  refine o_ixK hT.t.dct tk_s ?_
  walk_at "ml"
  refine o_ixK hT.t.dct tk_t ?_
  walk_at "ml"
  refine ⟨⟨rfl, rfl⟩, ?_⟩
  refine l_init (h := N.h) (s := N.s) (t := N.t) ?_
  rw [bare_init hb]
  intro M1 p1 r1 k1 N1
  have ok : ∀ ps rs, ps.length ≤ 10 → rs.length ≤ 10 → NOk ⟨N.h, N.s, N.t, ps, rs⟩ := fun ps rs h1 h2 => ⟨hb.s.tame, hb.t.tame, by simp only; omega, by simp only; omega, by simp only; omega, by simp only; omega⟩
  have hnn : M.length ≤ M.length := Nat.le_refl _
  generalize hn : M.length = n at N1 ⊢
  rw [hn] at hnn
  have hnM : M.length ≤ n := by omega
  walk_at "mq"
  with_reducible refine x_join (fun ρ M' => (∃ o2 o3 o4 o5 o6 o7 o8 o9 o10 o11 o12, ρ = [some (.ref m), some (.ref n), o2, o3, o4, o5, o6, o7, o8, o9, o10, o11, o12]) ∧ Kp [] M M' ∧ ∃ p r, NetM M' n ⟨N.h, N.s, N.t, N.ps, []⟩ p r) ?_ ?_
  · intro K hK
    have T1 := hT.kp0 k1
    walk_at "sx"
    with_reducible refine x_iseq ?_
    walk_at "ml"
    refine o_ixK T1.t.dct tk_p ?_
    refine iseqL T1.t.pl ?_
    refine for_ix (fun i ρ M' => (∃ o2 o3 o4 o5 o6 o7 o8 o9 o10 o11 o12, ρ = [some (.ref m), some (.ref n), o2, o3, o4, o5, o6, o7, o8, o9, o10, o11, o12]) ∧ Kp [] M M' ∧ ∃ p r, NetM M' n ⟨N.h, N.s, N.t, N.ps.take i, []⟩ p r) ?_ ?_ ?_ ⟨⟨_, _, _, _, _, _, _, _, _, _, _, rfl⟩, k1, p1, r1, N1⟩
    · rintro i ρ M' ⟨_, k', _⟩
      exact k'.at_ _ _ (by simp) hT.t.pl
    · rintro ρ M' ⟨ho, k', p', r', hN'⟩
      rw [List.take_of_length_le (by simp [hT.t.pz])] at hN'
      exact hK _ _ ⟨ho, k', p', r', hN'⟩
    · rintro i d ρ M2 K2 hd ⟨⟨o2, o3, o4, o5, o6, o7, o8, o9, o10, o11, o12, rfl⟩, k2, p2, r2, N2⟩ hK2
      rw [List.getElem?_map] at hd
      cases hq : pa[i]? with
      | none => rw [hq] at hd; cases hd
      | some x =>
      rw [hq] at hd
      cases hd
      have hi : i < N.ps.length := by rw [← hT.t.pz]; exact (List.getElem?_eq_some_iff.mp hq).1
      obtain ⟨P, hP⟩ : ∃ P, N.ps[i]? = some P := ⟨_, List.getElem?_eq_getElem hi⟩
      obtain ⟨px, py⟩ := (hT.t.kp0 k2).pp i x P hq hP
      obtain ⟨x1, y⟩ := x
      unfold plL at px
      dsimp only at px py
      have hPm := List.mem_of_getElem? hP
      have gP := hb.ps P hPm
      have ht : N.ps.take (i + 1) = N.ps.take i ++ [P] := by rw [List.take_succ, hP]; rfl
      have hni : P.nm ∉ (N.ps.take i).map (·.nm) := by
        have hs : ((N.ps.take (i + 1)).map (·.nm)).Nodup := by
          rw [List.map_take]
          exact (List.take_sublist _ _).nodup nd.1
        rw [ht, List.map_append, List.nodup_append] at hs
        intro hc
        exact hs.2.2 _ hc P.nm (by simp) rfl
      rw [ht] at hK2
      have hl1 : (N.ps.take i).length ≤ 8 := by simp; omega
      have hpsm : ∀ q ∈ N.ps.take i, (q.wants.length : Int) = N.h := fun q h => by
        rw [(hb.ps q (List.mem_of_mem_take h)).wants]; simp; omega
      generalize N.ps.take i = ps at *
      refine x_tpL px rfl ?_
      have i2 := N2.ins
      walk_at "ml"
      refine l_place N2 (ok _ _ (by omega) (by simp)) (nmP P hPm).short ?_
      have e1 : rPlace ⟨N.h, N.s, N.t, ps, []⟩ P.nm = none := by
        unfold rPlace rFresh
        rw [(nmP P hPm).name, find_none hni, if_neg (by simp [findR]), if_neg (by simp only; omega)]
        rfl
      rw [e1]
      intro M3 p3 r3 k3 N3
      have i3 := N3.ins
      walk_at "ml"
      have hni' : (newPl ⟨N.h, N.s, N.t, ps, []⟩ P.nm).nm ∉ ps.map (·.nm) := hni
      refine l_through N3 (ok _ _ (by simp; omega) (by simp)) ?_
      rw [show findP (ps ++ [newPl ⟨N.h, N.s, N.t, ps, []⟩ P.nm]) P.nm = some (newPl ⟨N.h, N.s, N.t, ps, []⟩ P.nm) from find_last hni']
      refine OnS.some ?_
      rw [show rRm P.nm N.s P.room = none by unfold rRm; rw [orm_none gP.room, orr_none gP.room]; rfl]
      intro M4 p4 r4 k4 N4
      rw [putP_last (q' := ({ newPl ⟨N.h, N.s, N.t, ps, []⟩ P.nm with room := P.room } : Pl)) hni' rfl] at N4
      have i4 := N4.ins
      walk_at "ml"
      refine l_store N4 (ok _ _ (by simp; omega) (by simp)) ?_
      rw [show findP (ps ++ [({ newPl ⟨N.h, N.s, N.t, ps, []⟩ P.nm with room := P.room } : Pl)]) P.nm = some ({ newPl ⟨N.h, N.s, N.t, ps, []⟩ P.nm with room := P.room } : Pl) from find_last (q := ({ newPl ⟨N.h, N.s, N.t, ps, []⟩ P.nm with room := P.room } : Pl)) hni']
      refine OnS.some ?_
      have pm : Mv P.price := ⟨by have := gP.price.1; omega, by have := gP.price.2; omega⟩
      rw [show rSto P.nm N.s P.kept P.price = none by unfold rSto; rw [orm_none gP.kept, mv_none pm, orr_none gP.kept]; rfl]
      intro M5 p5 r5 k5 N5
      rw [putP_last (q := ({ newPl ⟨N.h, N.s, N.t, ps, []⟩ P.nm with room := P.room } : Pl)) (q' := stoP ({ newPl ⟨N.h, N.s, N.t, ps, []⟩ P.nm with room := P.room } : Pl) P.kept P.price) hni' rfl] at N5
      have eP : stoP ({ newPl ⟨N.h, N.s, N.t, ps, []⟩ P.nm with room := P.room } : Pl) P.kept P.price = P := by
        obtain ⟨nm, rm, kp, pr, ws⟩ := P
        unfold stoP newPl
        have hw := gP.wants
        have hn0 := gP.none
        simp only at hw hn0 ⊢
        rw [hw]
        congr 1
        split
        · rename_i e; exact (hn0 e).symm
        · rfl
      rw [eP] at N5
      have k6 := ((k2.new k3 hnM).new k4 hnM).new k5 hnM
      have py5 := ((hT.t.kp0 k6).pp i (x1, y) P hq hP).2
      dsimp only at py5
      have hwl : P.wants.length = N.h.toNat := by rw [gP.wants]; simp
      walk_at "ml"
      rw [List.length_map]
      refine ⟨⟨by omega, by omega⟩, ?_⟩
      refine for_ix (fun j ρ M' => (∃ o7 o8 o9 o10 o11 o12, ρ = [some (.ref m), some (.ref n), some (.str P.nm), some (omD P.room), some (omD P.kept), some (pD P.price), some (.ref y), o7, o8, o9, o10, o11, o12]) ∧ Kp [] M M' ∧ ∃ p r, NetM M' n ⟨N.h, N.s, N.t, ps ++ [P], []⟩ p r) (fun _ _ _ _ => trivial) ?_ ?_ ⟨⟨_, _, _, _, _, _, rfl⟩, k6, p5, r5, N5⟩
      · rintro ρ M' ⟨⟨_, _, _, _, _, _, rfl⟩, k', p', r', hN'⟩
        exact hK2 _ _ ⟨⟨_, _, _, _, _, _, _, _, _, _, _, rfl⟩, k', p', r', hN'⟩
      · rintro j d ρ M6 K3 hd ⟨⟨_, _, _, _, _, _, rfl⟩, k7, p6, r6, N6⟩ hK3
        obtain ⟨rfl, hj'⟩ := rng_at hd
        have hj : j < P.wants.length := by simpa using hj'
        have i6 := N6.ins
        have py6 := ((hT.t.kp0 k7).pp i (x1, y) P hq hP).2
        dsimp only at py6
        have ew : P.wants[j]? = some (0, 0) := by rw [gP.wants, List.getElem?_replicate, if_pos (by omega)]
        have at6 : atI (P.wants.map pD) (j : Int) = some (pD (0, 0)) := by rw [atI_n, List.getElem?_map, ew]; rfl
        walk_at "ml"
        refine o_ixL py6 at6 ?_
        walk_at "ml"
        refine l_want N6 (ok _ _ (by simp; omega) (by simp)) ?_ ?_
        · intro q hq'
          rcases List.mem_append.mp hq' with z | z
          · exact hpsm q z
          · simp at z; subst z; rw [hwl]; simp only; omega
        rw [show findP (ps ++ [P]) P.nm = some P from find_last hni]
        refine OnS.some ?_
        rw [if_pos (by simp only; omega), mv_none ⟨by decide, by decide⟩]
        intro M7 p7 r7 k8 N7
        have e7 : wanP P (j + 1) (0, 0) = P := by
          obtain ⟨nm, rm, kp, pr, ws⟩ := P
          unfold wanP
          have hw := gP.wants
          simp only at hw hj ⊢
          congr 1
          rw [show ((j : Int) + 1).toNat - 1 = j by omega, show ((j : Int) + 1).toNat = j + 1 by omega, hw]
          rw [hw] at hj
          exact rep_want (by simpa using hj)
        rw [e7, putP_last (q' := P) hni rfl] at N7
        exact hK3 _ _ ⟨⟨_, _, _, _, _, _, rfl⟩, k7.new k8 hnM, p7, r7, N7⟩
  rintro _ M2 ⟨⟨o2, o3, o4, o5, o6, o7, o8, o9, o10, o11, o12, rfl⟩, k2, p2, r2, N2⟩
  have T2 := hT.kp0 k2
  walk_at "sx"
  walk_at "sx"
  with_reducible refine x_iseq ?_
  walk_at "ml"
  refine o_ixK T2.t.dct tk_r ?_
  refine iseqL T2.t.rd ?_
  refine for_ix (fun i ρ M' => (∃ o2 o3 o4 o5 o6 o7 o8 o9 o10 o11 o12, ρ = [some (.ref m), some (.ref n), o2, o3, o4, o5, o6, o7, o8, o9, o10, o11, o12]) ∧ Kp [] M M' ∧ ∃ p r, NetM M' n ⟨N.h, N.s, N.t, N.ps, N.rs.take i⟩ p r) ?_ ?_ ?_ ⟨⟨_, _, _, _, _, _, _, _, _, _, _, rfl⟩, k2, p2, r2, N2⟩
  · rintro i ρ M' ⟨_, k', _⟩
    exact k'.at_ _ _ (by simp) hT.t.rd
  · rintro ρ M' ⟨⟨_, _, _, _, _, _, _, _, _, _, _, rfl⟩, k', p', r', hN'⟩
    rw [List.take_of_length_le (by simp [hT.t.rz])] at hN'
    walk_at "ml"
    exact k M' n p' r' k' hnM hN'
  · rintro i d ρ M3 K2 hd ⟨⟨o2, o3, o4, o5, o6, o7, o8, o9, o10, o11, o12, rfl⟩, k3, p3, r3, N3⟩ hK2
    rw [List.getElem?_map] at hd
    cases hq : rb[i]? with
    | none => rw [hq] at hd; cases hd
    | some x =>
    rw [hq] at hd
    cases hd
    have hi : i < N.rs.length := by rw [← hT.t.rz]; exact (List.getElem?_eq_some_iff.mp hq).1
    obtain ⟨R, hR⟩ : ∃ R, N.rs[i]? = some R := ⟨_, List.getElem?_eq_getElem hi⟩
    have px := (hT.t.kp0 k3).rr i x R hq hR
    unfold rdL at px
    have hRm := List.mem_of_getElem? hR
    have gR := hb.rs R hRm
    have ht : N.rs.take (i + 1) = N.rs.take i ++ [R] := by rw [List.take_succ, hR]; rfl
    have hni : R.nm ∉ (N.rs.take i).map (·.nm) := by
      have hs : ((N.rs.take (i + 1)).map (·.nm)).Nodup := by
        rw [List.map_take]
        exact (List.take_sublist _ _).nodup nd.2.1
      rw [ht, List.map_append, List.nodup_append] at hs
      intro hc
      exact hs.2.2 _ hc R.nm (by simp) rfl
    have hnp : R.nm ∉ N.ps.map (·.nm) := fun hc => nd.2.2 _ hc R.nm (List.mem_map_of_mem hRm) rfl
    rw [ht] at hK2
    have hl1 : (N.rs.take i).length ≤ 8 := by simp; omega
    generalize N.rs.take i = rs at *
    refine x_tpL px rfl ?_
    have i3 := N3.ins
    walk_at "ml"
    refine l_road (q := R) N3 (ok _ _ (by omega) (by omega)) (by rcases gR.rungs.len with e | e <;> omega) (nmR R hRm).short ?_
    have e1 : rRoad ⟨N.h, N.s, N.t, N.ps, rs⟩ R = none := by
      unfold rRoad rFresh rKnown
      rw [(nmR R hRm).name]
      simp only
      rw [find_none hnp, find_noneR hni, find_some gR.st, find_some gR.en, if_neg (by simp), if_pos rfl, if_pos rfl, if_neg (by omega)]
      have := road_none (N := ⟨N.h, N.s, N.t, N.ps, rs⟩) gR
      rw [this]
      rfl
    rw [e1]
    intro M4 p4 r4 k4 N4
    exact hK2 _ _ ⟨⟨_, _, _, _, _, _, _, _, _, _, _, rfl⟩, k3.new k4 hnM, p4, r4, N4⟩
end Prf

namespace Prf
theorem l_rows {M : Mem} {Q : DK} {X : XM} {m a b : Nat} {pa : List (Nat × Nat)} {rb : List Nat} {ex : List (Key × D)} {N : Nt} (hT : ToldM M m N a b pa rb ex) (ok : NtOk N) (k : ∀ M', Kp [] M M' → M'[M.length]? = some (.lst ((textR N).map .str)) → Q (.ref M.length) M') : w_Lrows [.ref m] M Q X := by
  have hd := hT.dct
  have hh := ok.h
  have b1 := ok.s.1; have b2 := ok.s.2; have b3 := ok.t.1; have b4 := ok.t.2
  have hpl := ok.pl
  have hrl := ok.rl
  obtain ⟨hf1, hf2⟩ := flat_len ok.ps
  obtain ⟨ht1, ht2⟩ := text_sh ok
  have a0 := (hr_asc (k := N.h) (by omega) (by omega)).len
  have a1 := ok.s.s1.len; have a2 := ok.s.s2.len; have a3 := ok.t.s1.len; have a4 := ok.t.s2.len
  show m_Lrows _ [some (.ref m), none, none, none, none, none, none, none, none, none] M
  unfold m_Lrows
  walk_at "ml"
  refine o_ixK hd tk_h ?_
  walk_at "ml"
  refine o_sI (by omega) ?_
  refine o_addS (by rw [L_hours]; omega) ?_
  walk_at "mq"
  have k0 : Kp [] M (M ++ [O.lst [.str ("hours " ++ iS N.h)]]) := .app
  have e0 : (M ++ [O.lst [.str ("hours " ++ iS N.h)]])[M.length]? = some (.lst [.str ("hours " ++ iS N.h)]) := mnew
  generalize M ++ [O.lst [.str ("hours " ++ iS N.h)]] = M0 at k0 e0 ⊢
  have hd0 := k0.at_ _ _ (by simp) hd
  walk_at "ml"
  refine o_ixK hd0 tk_s ?_
  walk_at "ml"
  refine o_sI (by omega) ?_
  refine o_addS (by rw [L_s]; omega) ?_
  walk_at "ml"
  refine o_addS (by rw [len_app, L_s, L_sp]; omega) ?_
  walk_at "ml"
  refine o_ixK hd0 tk_s ?_
  walk_at "ml"
  refine o_sI (by omega) ?_
  refine o_addS (by rw [len_app, len_app, L_s, L_sp]; omega) ?_
  walk_at "ml"
  refine o_app e0 (by simp) ?_
  have e1 := msame (o' := .lst [.str ("hours " ++ iS N.h), .str ("s " ++ iS N.s.1 ++ " " ++ iS N.s.2)]) e0
  have k1 := k0.setNew (o := .lst [.str ("hours " ++ iS N.h), .str ("s " ++ iS N.s.1 ++ " " ++ iS N.s.2)]) (Nat.le_refl _)
  rw [List.singleton_append]
  dsimp only
  generalize M0.set M.length (.lst [.str ("hours " ++ iS N.h), .str ("s " ++ iS N.s.1 ++ " " ++ iS N.s.2)]) = M1 at e1 k1 ⊢
  have hd1 := k1.at_ _ _ (by simp) hd
  walk_at "ml"
  refine o_ixK hd1 tk_t ?_
  walk_at "ml"
  refine o_sI (by omega) ?_
  refine o_addS (by rw [L_t]; omega) ?_
  walk_at "ml"
  refine o_addS (by rw [len_app, L_t, L_sp]; omega) ?_
  walk_at "ml"
  refine o_ixK hd1 tk_t ?_
  walk_at "ml"
  refine o_sI (by omega) ?_
  refine o_addS (by rw [len_app, len_app, L_t, L_sp]; omega) ?_
  walk_at "ml"
  refine o_app e1 (by simp) ?_
  have e2 : (M1.set M.length (.lst [.str ("hours " ++ iS N.h), .str ("s " ++ iS N.s.1 ++ " " ++ iS N.s.2), .str ("t " ++ iS N.t.1 ++ " " ++ iS N.t.2)]))[M.length]? = some (.lst ((headRows N).map .str)) := msame e1
  have k2 := k1.setNew (o := .lst [.str ("hours " ++ iS N.h), .str ("s " ++ iS N.s.1 ++ " " ++ iS N.s.2), .str ("t " ++ iS N.t.1 ++ " " ++ iS N.t.2)]) (Nat.le_refl _)
  rw [List.cons_append, List.singleton_append]
  dsimp only
  generalize M1.set M.length (.lst [.str ("hours " ++ iS N.h), .str ("s " ++ iS N.s.1 ++ " " ++ iS N.s.2), .str ("t " ++ iS N.t.1 ++ " " ++ iS N.t.2)]) = M2 at e2 k2 ⊢
  have T2 := hT.kp0 k2
  clear e0 e1 k0 k1 hd0 hd1
  with_reducible refine x_join (fun ρ M' => (∃ o2 o3 o4 o5 o6 o7 o8 o9, ρ = [some (.ref m), some (.ref M.length), o2, o3, o4, o5, o6, o7, o8, o9]) ∧ Kp [] M M' ∧ M'[M.length]? = some (.lst ((headRows N ++ N.ps.flatMap plRows).map .str))) ?_ ?_
  · intro K hK
    walk_at "sx"
    with_reducible refine x_iseq ?_
    walk_at "ml"
    refine o_ixK T2.dct tk_p ?_
    refine iseqL T2.pl ?_
    refine for_ix (fun i ρ M' => (∃ o2 o3 o4 o5 o6 o7 o8 o9, ρ = [some (.ref m), some (.ref M.length), o2, o3, o4, o5, o6, o7, o8, o9]) ∧ Kp [] M M' ∧ M'[M.length]? = some (.lst ((headRows N ++ (N.ps.take i).flatMap plRows).map .str))) ?_ ?_ ?_ ?_
    · rintro i ρ M' ⟨_, k2, _⟩
      exact k2.at_ _ _ (by simp) hT.pl
    · rintro ρ M' ⟨ho, k1, e2⟩
      rw [List.take_of_length_le (by simp [hT.pz])] at e2
      exact hK _ _ ⟨ho, k1, e2⟩
    · rintro i d ρ M3 K2 hd ⟨⟨o2, o3, o4, o5, o6, o7, o8, o9, rfl⟩, k3, e3⟩ hK2
      rw [List.getElem?_map] at hd
      cases hq : pa[i]? with
      | none => rw [hq] at hd; cases hd
      | some x =>
      rw [hq] at hd
      cases hd
      have hi : i < N.ps.length := by rw [← hT.pz]; exact (List.getElem?_eq_some_iff.mp hq).1
      obtain ⟨q, hqq⟩ : ∃ q, N.ps[i]? = some q := ⟨_, List.getElem?_eq_getElem hi⟩
      obtain ⟨px, py⟩ := (hT.kp0 k3).pp i x q hq hqq
      obtain ⟨x1, y⟩ := x
      unfold plL at px
      dsimp only at px py
      have hm := List.mem_of_getElem? hqq
      have qk := ok.ps q hm
      have hn := qk.nm.len
      have l1 := (flat_len (ps := N.ps.take i) fun p hp => ok.ps p (List.mem_of_mem_take hp)).1
      have l3 : (N.ps.take i).length ≤ 12 := by simp; omega
      have l4 : (headRows N ++ (N.ps.take i).flatMap plRows).length ≤ 120 := by rw [List.length_append, show (headRows N).length = 3 from rfl]; omega
      have ht : N.ps.take (i + 1) = N.ps.take i ++ [q] := by rw [List.take_succ, hqq]; rfl
      rw [ht, List.flatMap_append, ← List.append_assoc, show [q].flatMap plRows = plRows q by simp] at hK2
      rw [show plRows q = ["place " ++ q.nm] ++ thrRow q ++ stoRow q ++ wantRows q.nm 1 q.wants from rfl] at hK2
      generalize headRows N ++ (N.ps.take i).flatMap plRows = R at *
      refine x_tpL px rfl ?_
      walk_at "mq"
      iterate 2 walk_at "sx"
      walk_at "mq"
      refine o_addS (by rw [L_place]; omega) ?_
      walk_at "mq"
      refine o_app e3 (by simp; omega) ?_
      have e4 : (M3.set M.length (.lst (R.map .str ++ [.str ("place " ++ q.nm)])))[M.length]? = some (.lst ((R ++ ["place " ++ q.nm]).map .str)) := by rw [msame e3]; simp
      have k4 := k3.setNew (o := .lst (R.map .str ++ [.str ("place " ++ q.nm)])) (Nat.le_refl _)
      dsimp only
      generalize M3.set M.length (.lst (R.map .str ++ [.str ("place " ++ q.nm)])) = M4 at e4 k4 ⊢
      clear e3 k3 px py
      with_reducible refine x_join (fun ρ M' => ρ = [some (.ref m), some (.ref M.length), some (.str q.nm), some (omD q.room), some (omD q.kept), some (pD q.price), some (.ref y), o7, o8, o9] ∧ Kp [] M M' ∧ M'[M.length]? = some (.lst ((R ++ ["place " ++ q.nm] ++ thrRow q).map .str))) ?_ ?_
      · intro K hK
        walk_at "ml"
        unfold thrRow at hK
        cases hr : q.room with
        | none =>
          refine if_f ?_
          walk_at "ml"
          rw [if_pos hr] at hK
          refine hK _ _ ⟨by rw [hr]; rfl, k4, by simpa using e4⟩
        | some mm =>
          refine if_t ?_
          walk_at "ml"
          rw [if_neg (by rw [hr]; simp)] at hK
          have om : oMv (some mm) := hr ▸ qk.room
          have aw := (roomW_asc om as_s).len
          refine o_addS (by rw [L_through]; omega) ?_
          walk_at "ml"
          refine o_addS (by rw [len_app, L_through, L_sp]; omega) ?_
          walk_at "ml"
          refine l_move_word om as_s ?_
          refine o_addS (by rw [len_app, len_app, L_through, L_sp]; omega) ?_
          walk_at "ml"
          refine o_app e4 (by simp; omega) ?_
          refine hK _ _ ⟨by rw [hr]; rfl, k4.setNew (Nat.le_refl _), ?_⟩
          rw [msame e4, hr]; simp
      rintro _ M5 ⟨rfl, k5, e5⟩
      have s1 : (R ++ ["place " ++ q.nm] ++ thrRow q).length ≤ 122 := by unfold thrRow; split <;> simp <;> omega
      generalize hR1 : R ++ ["place " ++ q.nm] ++ thrRow q = R1 at *
      with_reducible refine x_join (fun ρ M' => (∃ o8, ρ = [some (.ref m), some (.ref M.length), some (.str q.nm), some (omD q.room), some (omD q.kept), some (pD q.price), some (.ref y), o7, o8, o9]) ∧ Kp [] M M' ∧ M'[M.length]? = some (.lst ((R1 ++ stoRow q).map .str))) ?_ ?_
      · intro K hK
        walk_at "ml"
        refine ne_om (m := (0, 0)) ?_
        unfold stoRow at hK
        refine if_n (fun hc => ?_) (fun hc => ?_)
        · rw [if_neg hc] at hK
          walk_at "ml"
          refine l_move_word qk.kept as_s ?_
          walk_at "ml"
          refine l_move_word (o := some q.price) (fun m h => by cases h; exact qk.price) as_t ?_
          walk_at "mq"
          have k6 : Kp [] M5 (M5 ++ [O.lst [.str "store", .str q.nm, .str (roomW q.kept "s"), .str (roomW (some q.price) "t")]]) := .app
          have e6 : (M5 ++ [O.lst [.str "store", .str q.nm, .str (roomW q.kept "s"), .str (roomW (some q.price) "t")]])[M5.length]? = some (.lst ([("store" : Str), q.nm, roomW q.kept "s", roomW (some q.price) "t"].map .str)) := mnew
          generalize M5 ++ [O.lst [.str "store", .str q.nm, .str (roomW q.kept "s"), .str (roomW (some q.price) "t")]] = M6 at k6 e6 ⊢
          have e7 := k6.at_ _ _ (by simp) e5
          walk_at "ml"
          have aw := (roomW_asc qk.kept as_s).len
          have aw2 : (roomW (some q.price) "t").length ≤ 18 := (moveW_asc qk.price as_t).len
          refine o_join (k := 40) (b := 4) e6 ?_ L_sp (by simp) (by decide) ?_
          · intro z hz
            simp only [List.mem_cons, List.not_mem_nil, or_false] at hz
            rcases hz with rfl | rfl | rfl | rfl
            · rw [L_store']; decide
            · omega
            · omega
            · omega
          rw [join4, store_lit]
          walk_at "ml"
          refine o_app e7 (by simp; omega) ?_
          refine hK _ _ ⟨⟨_, rfl⟩, (k5.trans k6).setNew (Nat.le_refl _), ?_⟩
          rw [msame e7]; simp [roomW]
        · rw [if_pos hc] at hK
          walk_at "ml"
          exact hK _ _ ⟨⟨_, rfl⟩, k5, by simpa using e5⟩
      rintro _ M6 ⟨⟨o8, rfl⟩, k6, e6⟩
      have s2 : (R1 ++ stoRow q).length ≤ 123 := by unfold stoRow; split <;> simp <;> omega
      generalize hR2 : R1 ++ stoRow q = R2 at *
      have hwl := qk.wl
      have py := ((hT.kp0 k6).pp i (x1, y) q hq hqq).2
      dsimp only at py
      walk_at "ml"
      rw [List.length_map]
      refine ⟨⟨by omega, by omega⟩, ?_⟩
      refine for_ix (fun j ρ M' => (∃ o7 o8, ρ = [some (.ref m), some (.ref M.length), some (.str q.nm), some (omD q.room), some (omD q.kept), some (pD q.price), some (.ref y), o7, o8, o9]) ∧ Kp [] M M' ∧ M'[M.length]? = some (.lst ((R2 ++ wantRows q.nm 1 (q.wants.take j)).map .str))) (fun _ _ _ _ => trivial) ?_ ?_ ⟨⟨_, _, rfl⟩, k6, by simpa [wantRows] using e6⟩
      · rintro ρ M7 ⟨⟨_, _, rfl⟩, k7, e7⟩
        rw [rng_len, List.take_of_length_le (by simp)] at e7
        refine hK2 _ _ ⟨⟨_, _, _, _, _, _, _, _, rfl⟩, k7, ?_⟩
        rw [e7, ← hR2, ← hR1]
        simp
      · rintro j d ρ M7 K hd ⟨⟨_, _, rfl⟩, k7, e7⟩ hK
        obtain ⟨rfl, hj'⟩ := rng_at hd
        have hj : j < q.wants.length := by simpa using hj'
        have hw := qk.wants q.wants[j] (List.getElem_mem hj)
        have ht : q.wants.take (j + 1) = q.wants.take j ++ [q.wants[j]] := by rw [List.take_succ, List.getElem?_eq_getElem hj]; rfl
        have hl : (q.wants.take j).length = j := by simp; omega
        have s3 := (sh_wants qk.nm (l := q.wants.take j) (k := 1) (fun m hm => qk.wants m (List.mem_of_mem_take hm)) (by decide) (by omega)).2
        rw [ht, wantRows_app, hl] at hK
        unfold wantRow at hK
        have py7 := ((hT.kp0 k7).pp i (x1, y) q hq hqq).2
        dsimp only at py7
        have at7 : atI (q.wants.map pD) (j : Int) = some (pD q.wants[j]) := by rw [atI_n]; simp [hj]
        walk_at "ml"
        refine o_ixL py7 at7 ?_
        walk_at "ml"
        refine ne_pD (m := (0, 0)) ?_
        refine if_n (fun hc => ?_) (fun hc => ?_)
        · rw [if_neg hc] at hK
          walk_at "ml"
          refine o_sI (by omega) ?_
          walk_at "ml"
          refine o_ixL py7 at7 ?_
          walk_at "ml"
          refine l_move_word (o := some q.wants[j]) (fun m h => by cases h; exact hw) as_s ?_
          walk_at "mq"
          have k8 : Kp [] M7 (M7 ++ [O.lst [.str "want", .str q.nm, .str (iS (j + 1)), .str (roomW (some q.wants[j]) "s")]]) := .app
          have e8 : (M7 ++ [O.lst [.str "want", .str q.nm, .str (iS (j + 1)), .str (roomW (some q.wants[j]) "s")]])[M7.length]? = some (.lst ([("want" : Str), q.nm, iS (j + 1), roomW (some q.wants[j]) "s"].map .str)) := mnew
          generalize M7 ++ [O.lst [.str "want", .str q.nm, .str (iS (j + 1)), .str (roomW (some q.wants[j]) "s")]] = M8 at k8 e8 ⊢
          have e9 := k8.at_ _ _ (by simp) e7
          walk_at "ml"
          have aw := (hr_asc (k := (j : Int) + 1) (by omega) (by omega)).len
          have aw2 : (roomW (some q.wants[j]) "s").length ≤ 18 := (moveW_asc hw as_s).len
          refine o_join (k := 40) (b := 4) e8 ?_ L_sp (by simp) (by decide) ?_
          · intro z hz
            simp only [List.mem_cons, List.not_mem_nil, or_false] at hz
            rcases hz with rfl | rfl | rfl | rfl
            · rw [L_want']; decide
            · omega
            · omega
            · omega
          rw [join4, want_lit]
          walk_at "ml"
          refine o_app e9 (by simp; omega) ?_
          refine hK _ _ ⟨⟨_, _, rfl⟩, (k7.trans k8).setNew (Nat.le_refl _), ?_⟩
          rw [msame e9, Int.add_comm]; simp [roomW]
        · rw [if_pos hc] at hK
          walk_at "ml"
          exact hK _ _ ⟨⟨_, _, rfl⟩, k7, by simpa using e7⟩
    · exact ⟨⟨_, _, _, _, _, _, _, _, rfl⟩, k2, by simpa using e2⟩
  rintro _ M3 ⟨⟨o2, o3, o4, o5, o6, o7, o8, o9, rfl⟩, k3, e3⟩
  have T3 := hT.kp0 k3
  have hlen : (headRows N ++ N.ps.flatMap plRows).length ≤ 200 := by
    have : (textR N).length = (headRows N ++ N.ps.flatMap plRows).length + N.rs.length := by simp [textR]; omega
    omega
  generalize hR : headRows N ++ N.ps.flatMap plRows = R at *
  walk_at "sx"
  walk_at "sx"
  with_reducible refine x_iseq ?_
  walk_at "ml"
  refine o_ixK T3.dct tk_r ?_
  refine iseqL T3.rd ?_
  refine for_ix (fun i ρ M' => (∃ o2 o3 o4 o5 o6 o7 o8 o9, ρ = [some (.ref m), some (.ref M.length), o2, o3, o4, o5, o6, o7, o8, o9]) ∧ Kp [] M M' ∧ M'[M.length]? = some (.lst ((R ++ (N.rs.take i).map rdRow).map .str))) ?_ ?_ ?_ ?_
  · rintro i ρ M' ⟨_, k2, _⟩
    exact k2.at_ _ _ (by simp) hT.rd
  · rintro ρ M' ⟨⟨_, _, _, _, _, _, _, _, rfl⟩, k4, e4⟩
    rw [List.take_of_length_le (by simp [hT.rz])] at e4
    walk_at "ml"
    have eR : R ++ N.rs.map rdRow = textR N := by rw [← hR]; rfl
    rw [eR] at e4
    exact k M' k4 e4
  · rintro i d ρ M4 K2 hd ⟨⟨_, _, _, _, _, _, _, _, rfl⟩, k4, e4⟩ hK2
    rw [List.getElem?_map] at hd
    cases hq : rb[i]? with
    | none => rw [hq] at hd; cases hd
    | some x =>
    rw [hq] at hd
    cases hd
    have hi : i < N.rs.length := by rw [← hT.rz]; exact (List.getElem?_eq_some_iff.mp hq).1
    obtain ⟨q, hqq⟩ : ∃ q, N.rs[i]? = some q := ⟨_, List.getElem?_eq_getElem hi⟩
    have px := (hT.kp0 k4).rr i x q hq hqq
    walk_at "ml"
    refine l_Lroad_row px (ok.rs q (List.mem_of_getElem? hqq)) fun M5 k5 => ?_
    walk_at "ml"
    refine o_app (k5.at_ _ _ (by simp) e4) (by simp; omega) ?_
    refine hK2 _ _ ⟨⟨_, _, _, _, _, _, _, _, rfl⟩, (k4.trans k5).setNew (Nat.le_refl _), ?_⟩
    rw [msame (k5.at_ _ _ (by simp) e4), List.take_succ, hqq]
    simp
  · exact ⟨⟨_, _, _, _, _, _, _, _, rfl⟩, k3, by simpa using e3⟩
theorem l_Ltext {M : Mem} {Q : DK} {X : XM} {m a b : Nat} {pa : List (Nat × Nat)} {rb : List Nat} {ex : List (Key × D)} {N : Nt} (hT : ToldM M m N a b pa rb ex) (ok : NtOk N) (k : ∀ M', Kp [] M M' → Q (.str (textN N)) M') : w_Ltext [.ref m] M Q X := by
  obtain ⟨ht1, ht2⟩ := text_sh ok
  show m_Ltext _ [some (.ref m)] M
  unfold m_Ltext
  walk_at "ml"
  refine l_rows hT ok fun M' k' e' => ?_
  walk_at "ml"
  exact o_join e' ht1 L_nl ht2 (by decide) (k M' k')
end Prf

namespace MV
end MV
namespace Prf
end Prf

namespace MV
/-- a refusal with a word -/
def Wd (e : Exn) : Prop := ∃ c f w a, e = xE c f w a ∧ w ≠ "" ∧ PyData.strOk w = true ∧ (∀ k, fine k a = true)
def WdO (o : Option Exn) : Prop := ∀ e, o = some e → Wd e
theorem WdO.or {a b : Option Exn} (h1 : WdO a) (h2 : WdO b) : WdO (a.or b) := by
  cases a with
  | none => exact h2
  | some x => exact fun e he => h1 e (by simpa using he)
end MV
namespace Prf
end Prf

namespace MV
theorem o_addL {M : Mem} {Q : DK} {p q : Nat} {ds es : List D} (e1 : M[p]? = some (.lst ds)) (e2 : M[q]? = some (.lst es)) (hl : ds.length + es.length ≤ 1000000) (h : Q (.ref M.length) (M ++ [.lst (ds ++ es)])) : oAdd (.ref p) (.ref q) M Q := by
  unfold oAdd; dsimp only; rw [e1, e2]; exact ⟨by omega, h⟩
end MV
namespace Prf
end Prf

namespace MV
theorem NetM.lst {M M' : Mem} {n p r l : Nat} {N : Nt} {ds : List D} (h : NetM M n N p r) (hl : M[l]? = some (.lst ds)) (k : Kp [l] M M') : NetM M' n N p r := by
  refine h.kp k ?_ ?_ ?_
  · simp; rintro rfl; rw [h.ins] at hl; cases hl
  · simp; rintro rfl; rw [h.pl] at hl; cases hl
  · simp; rintro rfl; rw [h.rd] at hl; cases hl
end MV
namespace Prf
end Prf

namespace MV
theorem TM.setW {M : Mem} {m a b i x y : Nat} {pa : List (Nat × Nat)} {rb : List Nat} {ex : List (Key × D)} {N : Nt} {p : Pl} {ws : List (Int × Int)} (h : TM M m N a b pa rb ex) (hi : pa[i]? = some (x, y)) (hp : N.ps[i]? = some p) : TM (M.set y (.lst (ws.map pD))) m { N with ps := N.ps.set i { p with wants := ws } } a b pa rb ex := by
  have ma := h.ma
  have ab := h.ab
  have hm := List.mem_of_getElem? hi
  have oy := h.ord y (by simp only [List.mem_append]; exact .inl (.inr (List.mem_map.mpr ⟨_, hm, rfl⟩)))
  obtain ⟨n1, n2, n3⟩ := List.nodup_append.mp h.nd
  obtain ⟨n4, n5, n6⟩ := List.nodup_append.mp n1
  have ym : y ∈ pa.map (·.2) := List.mem_map.mpr ⟨_, hm, rfl⟩
  have ne : ∀ {j : Nat}, j ≠ y → (M.set y (.lst (ws.map pD)))[j]? = M[j]? := fun hj => List.getElem?_set_ne (Ne.symm hj)
  have hil : i < N.ps.length := (List.getElem?_eq_some_iff.mp hp).1
  refine ⟨⟨?_, ?_, ?_, by simp [h.t.pz], h.t.rz, ?_, ?_⟩, ma, ab, h.ord, h.nd⟩
  · rw [ne (by omega)]; exact h.t.dct
  · rw [ne (by omega)]; exact h.t.pl
  · rw [ne (by omega)]; exact h.t.rd
  · intro j z q hz hq
    have zm := List.mem_of_getElem? hz
    have xz : z.1 ≠ y := fun e => n6 z.1 (List.mem_map_of_mem zm) y ym e
    by_cases hj : i = j
    · subst hj
      rw [hi] at hz
      cases hz
      rw [List.getElem?_set_self hil] at hq
      cases hq
      obtain ⟨g1, g2⟩ := h.t.pp i (x, y) p hi hp
      refine ⟨?_, msame g2⟩
      rw [ne xz]
      exact g1
    · rw [List.getElem?_set_ne hj] at hq
      obtain ⟨g1, g2⟩ := h.t.pp j z q hz hq
      have yz : z.2 ≠ y := by
        intro e
        have e1 : (pa.map (·.2))[i]? = some y := by rw [List.getElem?_map, hi]; rfl
        have e2 : (pa.map (·.2))[j]? = some y := by rw [List.getElem?_map, hz, ← e]; rfl
        obtain ⟨l1, v1⟩ := List.getElem?_eq_some_iff.mp e1
        obtain ⟨l2, v2⟩ := List.getElem?_eq_some_iff.mp e2
        exact hj ((List.getElem_inj n5).mp (v1.trans v2.symm))
      rw [ne xz, ne yz]
      exact ⟨g1, g2⟩
  · intro j z q hz hq
    have zy : z ≠ y := fun e => n3 y (List.mem_append.mpr (.inr ym)) z (List.mem_of_getElem? hz) e.symm
    rw [ne zy]
    exact h.t.rr j z q hz hq
end MV
namespace Prf
end Prf

namespace Prf
inductive Known : Exn → Prop
  | badName (s : D) : Known (xE "BadName" "name" "bad name" s)
  | taken (s : D) : Known (xE "Taken" "name" "taken" s)
  | noPlace (s : D) : Known (xE "NoPlace" "name" "no place" s)
  | noRoad (s : D) : Known (xE "NoRoad" "name" "no road" s)
  | noName (s : D) : Known (xE "NoName" "name" "no name" s)
  | inUse (s : D) : Known (xE "InUse" "name" "in use" s)
  | below (s : D) : Known (xE "Below" "name" "below" s)
  | falls (s : D) : Known (xE "Falls" "name" "falls" s)
  | badRungs (s : D) : Known (xE "BadRungs" "name" "bad rungs" s)
  | noHour (s : D) : Known (xE "NoHour" "number" "no hour" s)
  | badTakes (s : D) : Known (xE "BadTakes" "number" "bad takes" s)
  | tooFar (s : D) : Known (xE "TooFar" "number" "too far" s)
  | tooMany (s : D) : Known (xE "TooMany" "most" "too many" s)
  | badBox (s : D) : Known (xE "BadBox" "dial" "bad box" s)
end Prf

namespace MV
structure All3 (p q m n a b : Nat) (ex : List (Key × D)) (M : Mem) (NT NN : Nt) : Prop where
  f : Feed M p q
  pm : p < m ∧ q < m
  t : ∃ pa rb, TM M m NT a b pa rb ex
  n : ∃ pp rr, NetM M n NN pp rr
theorem All3.kp0 {p q m n a b : Nat} {ex : List (Key × D)} {M M' : Mem} {NT NN : Nt} (h : All3 p q m n a b ex M NT NN) (k : Kp [] M M') : All3 p q m n a b ex M' NT NN := by
  obtain ⟨f, pm, ⟨pa, rb, t⟩, pp, rr, n⟩ := h
  exact ⟨f.kp k (by simp) (by simp), pm, ⟨pa, rb, t.kp0 k⟩, pp, rr, n.kp k (by simp) (by simp) (by simp)⟩
theorem All3.fd {p q m n a b : Nat} {ex : List (Key × D)} {M M' : Mem} {NT NN : Nt} (h : All3 p q m n a b ex M NT NN) (k : Kp [p] M M') (f' : Feed M' p q) : All3 p q m n a b ex M' NT NN := by
  obtain ⟨f, pm, ⟨pa, rb, t⟩, pp, rr, n⟩ := h
  exact ⟨f', pm, ⟨pa, rb, t.kp k (by simp; omega)⟩, pp, rr, n.fd f k⟩
end MV
namespace Prf
end Prf

namespace Prf
end Prf

namespace MV
theorem o_truL {M : Mem} {l : Nat} {ds : List D} {QB : Bool → Mem → Prop} (e : M[l]? = some (.lst ds)) (h : QB (!ds.isEmpty) M) : tru (.ref l) M QB := by
  unfold tru; dsimp only; rw [e]; exact h
end MV
namespace Prf
end Prf

namespace Prf
def I11 (N : Nt) : Prop := NtOk N ∧ ∀ q ∈ N.ps, (q.wants.length : Int) = N.h
end Prf

namespace Prf
end Prf

namespace MV
theorem TM.setX {M : Mem} {m a b i x y : Nat} {pa : List (Nat × Nat)} {rb : List Nat} {ex : List (Key × D)} {N : Nt} {p p' : Pl} (h : TM M m N a b pa rb ex) (hi : pa[i]? = some (x, y)) (hp : N.ps[i]? = some p) (hw : p'.wants = p.wants) : TM (M.set x (.lst (plL p' y))) m { N with ps := N.ps.set i p' } a b pa rb ex := by
  have ma := h.ma
  have ab := h.ab
  have hm := List.mem_of_getElem? hi
  have xm : x ∈ pa.map (·.1) := List.mem_map.mpr ⟨_, hm, rfl⟩
  have ox := h.ord x (by simp only [List.mem_append]; exact .inl (.inl xm))
  obtain ⟨n1, n2, n3⟩ := List.nodup_append.mp h.nd
  obtain ⟨n4, n5, n6⟩ := List.nodup_append.mp n1
  have ne : ∀ {j : Nat}, j ≠ x → (M.set x (.lst (plL p' y)))[j]? = M[j]? := fun hj => List.getElem?_set_ne (Ne.symm hj)
  have hil : i < N.ps.length := (List.getElem?_eq_some_iff.mp hp).1
  refine ⟨⟨?_, ?_, ?_, by simp [h.t.pz], h.t.rz, ?_, ?_⟩, ma, ab, h.ord, h.nd⟩
  · rw [ne (by omega)]; exact h.t.dct
  · rw [ne (by omega)]; exact h.t.pl
  · rw [ne (by omega)]; exact h.t.rd
  · intro j z q hz hq
    have zm := List.mem_of_getElem? hz
    have xz : z.2 ≠ x := fun e => n6 x xm z.2 (List.mem_map_of_mem zm) e.symm
    by_cases hj : i = j
    · subst hj
      rw [hi] at hz
      cases hz
      rw [List.getElem?_set_self hil] at hq
      cases hq
      obtain ⟨g1, g2⟩ := h.t.pp i (x, y) p hi hp
      refine ⟨msame g1, ?_⟩
      rw [ne xz, hw]
      exact g2
    · rw [List.getElem?_set_ne hj] at hq
      obtain ⟨g1, g2⟩ := h.t.pp j z q hz hq
      have yz : z.1 ≠ x := by
        intro e
        have e1 : (pa.map (·.1))[i]? = some x := by rw [List.getElem?_map, hi]; rfl
        have e2 : (pa.map (·.1))[j]? = some x := by rw [List.getElem?_map, hz, ← e]; rfl
        obtain ⟨l1, v1⟩ := List.getElem?_eq_some_iff.mp e1
        obtain ⟨l2, v2⟩ := List.getElem?_eq_some_iff.mp e2
        exact hj ((List.getElem_inj n4).mp (v1.trans v2.symm))
      rw [ne xz, ne yz]
      exact ⟨g1, g2⟩
  · intro j z q hz hq
    have zx : z ≠ x := fun e => n3 x (List.mem_append.mpr (.inl xm)) z (List.mem_of_getElem? hz) e.symm
    rw [ne zx]
    exact h.t.rr j z q hz hq
theorem NetM.told {M : Mem} {m a b n pp rr : Nat} {pa : List (Nat × Nat)} {rb : List Nat} {ex : List (Key × D)} {N NN : Nt} (h : TM M m N a b pa rb ex) (g : NetM M n NN pp rr) : n ∉ toldAt m a b pa rb ∧ pp ∉ toldAt m a b pa rb ∧ rr ∉ toldAt m a b pa rb := by
  have key : ∀ i ∈ toldAt m a b pa rb, i = m ∨ ∃ ds, M[i]? = some (.lst ds) := by
    intro i hi
    simp only [toldAt, List.append_assoc, List.mem_append, List.mem_cons, List.not_mem_nil, or_false] at hi
    rcases hi with (rfl | rfl | rfl) | hi | hi | hi
    · exact .inl rfl
    · exact .inr ⟨_, h.t.pl⟩
    · exact .inr ⟨_, h.t.rd⟩
    · obtain ⟨x, hx, rfl⟩ := List.mem_map.mp hi
      obtain ⟨j, hj⟩ := List.getElem?_of_mem hx
      have hl : j < N.ps.length := by rw [← h.t.pz]; exact (List.getElem?_eq_some_iff.mp hj).1
      exact .inr ⟨_, (h.t.pp j x _ hj (List.getElem?_eq_getElem hl)).1⟩
    · obtain ⟨x, hx, rfl⟩ := List.mem_map.mp hi
      obtain ⟨j, hj⟩ := List.getElem?_of_mem hx
      have hl : j < N.ps.length := by rw [← h.t.pz]; exact (List.getElem?_eq_some_iff.mp hj).1
      exact .inr ⟨_, (h.t.pp j x _ hj (List.getElem?_eq_getElem hl)).2⟩
    · obtain ⟨j, hj⟩ := List.getElem?_of_mem hi
      have hl : j < N.rs.length := by rw [← h.t.rz]; exact (List.getElem?_eq_some_iff.mp hj).1
      exact .inr ⟨_, h.t.rr j i _ hj (List.getElem?_eq_getElem hl)⟩
  refine ⟨fun hc => ?_, fun hc => ?_, fun hc => ?_⟩
  · rcases key _ hc with rfl | ⟨ds, e⟩
    · have := g.ins; rw [h.t.dct] at this; cases this
    · have := g.ins; rw [e] at this; cases this
  · rcases key _ hc with rfl | ⟨ds, e⟩
    · have := g.pl; rw [h.t.dct] at this
      injection this with this
      injection this with _ this
      cases hp : NN.ps with
      | nil => rw [hp] at this; cases this
      | cons z l => rw [hp] at this; injection this with this; injection this with _ this; cases this
    · have := g.pl; rw [e] at this; cases this
  · rcases key _ hc with rfl | ⟨ds, e⟩
    · have := g.rd; rw [h.t.dct] at this
      injection this with this
      injection this with _ this
      cases hp : NN.rs with
      | nil => rw [hp] at this; cases this
      | cons z l => rw [hp] at this; injection this with this; injection this with _ this; cases this
    · have := g.rd; rw [e] at this; cases this
end MV

namespace MV
def TK (M M' : Mem) (m : Nat) (N' : Nt) (a b : Nat) (ex : List (Key × D)) (pa : List (Nat × Nat)) (rb : List Nat) : Prop := ∃ pa' rb', TM M' m N' a b pa' rb' ex ∧ Kp (toldAt m a b pa rb) M M' ∧ ∀ i ∈ toldAt m a b pa' rb', i ∈ toldAt m a b pa rb ∨ M.length ≤ i
theorem TK.all {p q m n a b : Nat} {ex : List (Key × D)} {M M' : Mem} {N N' NN : Nt} {pa : List (Nat × Nat)} {rb : List Nat} (F : Feed M p q) (pm : p < m ∧ q < m) (T : TM M m N a b pa rb ex) (g : ∃ pp rr, NetM M n NN pp rr) (k : TK M M' m N' a b ex pa rb) : All3 p q m n a b ex M' N' NN := by
  obtain ⟨pp, rr, g⟩ := g
  obtain ⟨pa', rb', T', kp, -⟩ := k
  obtain ⟨o1, o2, o3⟩ := g.told T
  refine ⟨F.kp kp (fun hc => ?_) (fun hc => ?_), pm, ⟨pa', rb', T'⟩, pp, rr, g.kp kp o1 o2 o3⟩
  · have := T.mem hc; omega
  · have := T.mem hc; omega
end MV
namespace Prf
local macro_rules | `(tactic| walk_at "no") => `(tactic| (walk_at "ml"; refine if_d (fun h => absurd h (by decide +kernel)) (fun _ => ?_)))
local macro_rules | `(tactic| walk_at "ya") => `(tactic| (walk_at "ml"; refine if_d (fun _ => ?_) (fun h => absurd rfl h)))
end Prf

namespace Prf
local macro_rules | `(tactic| walk_at "no") => `(tactic| (walk_at "ml"; refine if_d (fun h => absurd h (by decide +kernel)) (fun _ => ?_)))
local macro_rules | `(tactic| walk_at "ya") => `(tactic| (walk_at "ml"; refine if_d (fun _ => ?_) (fun h => absurd rfl h)))
end Prf

namespace Prf
local macro_rules | `(tactic| walk_at "no") => `(tactic| (walk_at "ml"; refine if_d (fun h => absurd h (by decide +kernel)) (fun _ => ?_)))
local macro_rules | `(tactic| walk_at "ya") => `(tactic| (walk_at "ml"; refine if_d (fun _ => ?_) (fun h => absurd rfl h)))
end Prf

namespace MV
theorem nodup_set {l : List Nat} {i x : Nat} (h : l.Nodup) (hx : x ∉ l) : (l.set i x).Nodup := by
  unfold List.Nodup
  rw [List.pairwise_iff_getElem]
  intro j k hj hk hjk
  rw [List.length_set] at hj hk
  have h2 := List.pairwise_iff_getElem.mp h
  rw [List.getElem_set, List.getElem_set]
  split
  · split
    · omega
    · exact fun e => hx (e ▸ List.getElem_mem hk)
  · split
    · exact fun e => hx (e ▸ List.getElem_mem hj)
    · exact h2 j k hj hk hjk
theorem TM.putR {M : Mem} {m a b i x : Nat} {pa : List (Nat × Nat)} {rb : List Nat} {ex : List (Key × D)} {N : Nt} {R : Rd} (h : TM M m N a b pa rb ex) (hi : i < rb.length) (nx : x ∉ pa.map (·.1) ++ pa.map (·.2) ++ rb) (hx : M[x]? = some (.lst (rdL R))) (bx : m < x ∧ x ≠ a ∧ x ≠ b) : TM (M.set b (.lst ((rb.map D.ref).set i (.ref x)))) m { N with rs := N.rs.set i R } a b pa (rb.set i x) ex := by
  have h1 := h.ma
  have h2 := h.ab
  have ne : ∀ {j : Nat}, j ≠ b → (M.set b (.lst ((rb.map D.ref).set i (.ref x))))[j]? = M[j]? := fun hj => List.getElem?_set_ne (Ne.symm hj)
  refine ⟨⟨?_, ?_, ?_, h.t.pz, by simp [h.t.rz], ?_, ?_⟩, h1, h2, ?_, ?_⟩
  · rw [ne (by omega)]; exact h.t.dct
  · rw [ne (by omega)]; exact h.t.pl
  · rw [msame h.t.rd]; simp [List.map_set]
  · intro j z p hz hp
    obtain ⟨g1, g2⟩ := h.t.pp j z p hz hp
    have hm := List.mem_of_getElem? hz
    have o1 := h.ord z.1 (by simp only [List.mem_append]; exact .inl (.inl (List.mem_map_of_mem hm)))
    have o2 := h.ord z.2 (by simp only [List.mem_append]; exact .inl (.inr (List.mem_map_of_mem hm)))
    rw [ne (by omega), ne (by omega)]
    exact ⟨g1, g2⟩
  · intro j z r hz hr
    by_cases hj : i = j
    · subst hj
      rw [List.getElem?_set_self hi] at hz
      rw [List.getElem?_set_self (by rw [← h.t.rz]; exact hi)] at hr
      cases hz; cases hr
      rw [ne (by omega)]
      exact hx
    · rw [List.getElem?_set_ne hj] at hz hr
      have o1 := h.ord z (by simp only [List.mem_append]; exact .inr (List.mem_of_getElem? hz))
      rw [ne (by omega)]
      exact h.t.rr j z r hz hr
  · intro z hz
    rcases List.mem_append.mp hz with hz | hz
    · exact h.ord z (List.mem_append.mpr (.inl hz))
    · rcases List.mem_or_eq_of_mem_set hz with hz | rfl
      · exact h.ord z (List.mem_append.mpr (.inr hz))
      · exact bx
  · obtain ⟨n1, n2, n3⟩ := List.nodup_append.mp h.nd
    rw [List.nodup_append]
    refine ⟨n1, nodup_set n2 (fun hc => nx (List.mem_append.mpr (.inr hc))), ?_⟩
    intro u hu v hv
    rcases List.mem_or_eq_of_mem_set hv with hv | rfl
    · exact n3 u hu v hv
    · exact fun e => nx (List.mem_append.mpr (.inl (e ▸ hu)))
end MV
namespace Prf
local macro_rules | `(tactic| walk_at "no") => `(tactic| (walk_at "ml"; refine if_d (fun h => absurd h (by decide +kernel)) (fun _ => ?_)))
local macro_rules | `(tactic| walk_at "ya") => `(tactic| (walk_at "ml"; refine if_d (fun _ => ?_) (fun h => absurd rfl h)))
end Prf

namespace MV
end MV

namespace Prf
end Prf

namespace Prf
local macro_rules | `(tactic| walk_at "no") => `(tactic| (walk_at "ml"; refine if_d (fun h => absurd h (by decide +kernel)) (fun _ => ?_)))
local macro_rules | `(tactic| walk_at "ya") => `(tactic| (walk_at "ml"; refine if_d (fun _ => ?_) (fun h => absurd rfl h)))
end Prf
namespace MV
theorem put_ts {N : Nt} {a b : Nat} {ex : List (Key × D)} {s : Int × Int} : dput (toldK N a b ex) (.inr "s") (pD s) = toldK { N with s := s } a b (ex.map fun kv => if kv.1 = .inr "s" then (kv.1, pD s) else kv) := by
  unfold dput
  rw [if_pos (by rfl)]
  unfold toldK
  rw [List.map_append]
  congr 1
theorem put_tt {N : Nt} {a b : Nat} {ex : List (Key × D)} {t : Int × Int} : dput (toldK N a b ex) (.inr "t") (pD t) = toldK { N with t := t } a b (ex.map fun kv => if kv.1 = .inr "t" then (kv.1, pD t) else kv) := by
  unfold dput
  rw [if_pos (by rfl)]
  unfold toldK
  rw [List.map_append]
  congr 1
def NoDial (ex : List (Key × D)) : Prop := ∀ kv ∈ ex, kv.1 ≠ .inr "s" ∧ kv.1 ≠ .inr "t"
theorem NoDial.s {ex : List (Key × D)} {d : D} (h : NoDial ex) : (ex.map fun kv => if kv.1 = .inr "s" then (kv.1, d) else kv) = ex := by
  conv => rhs; rw [← List.map_id ex]
  exact List.map_congr_left fun kv hk => by rw [if_neg (h kv hk).1]; rfl
theorem NoDial.t {ex : List (Key × D)} {d : D} (h : NoDial ex) : (ex.map fun kv => if kv.1 = .inr "t" then (kv.1, d) else kv) = ex := by
  conv => rhs; rw [← List.map_id ex]
  exact List.map_congr_left fun kv hk => by rw [if_neg (h kv hk).2]; rfl
theorem TM.setK {M : Mem} {m a b : Nat} {pa : List (Nat × Nat)} {rb : List Nat} {ex : List (Key × D)} {N : Nt} {s t : Int × Int} (h : TM M m N a b pa rb ex) : TM (M.set m (.dct false (toldK { N with s := s, t := t } a b ex))) m { N with s := s, t := t } a b pa rb ex := by
  have ma := h.ma
  have ab := h.ab
  have ne : ∀ {j : Nat}, j ≠ m → (M.set m (.dct false (toldK { N with s := s, t := t } a b ex)))[j]? = M[j]? := fun hj => List.getElem?_set_ne (Ne.symm hj)
  refine ⟨⟨msame h.t.dct, ?_, ?_, h.t.pz, h.t.rz, ?_, ?_⟩, ma, ab, h.ord, h.nd⟩
  · rw [ne (by omega)]; exact h.t.pl
  · rw [ne (by omega)]; exact h.t.rd
  · intro j z p hz hp
    obtain ⟨g1, g2⟩ := h.t.pp j z p hz hp
    have hm := List.mem_of_getElem? hz
    have o1 := h.ord z.1 (by simp only [List.mem_append]; exact .inl (.inl (List.mem_map_of_mem hm)))
    have o2 := h.ord z.2 (by simp only [List.mem_append]; exact .inl (.inr (List.mem_map_of_mem hm)))
    rw [ne (by omega), ne (by omega)]
    exact ⟨g1, g2⟩
  · intro j z r hz hr
    have o1 := h.ord z (by simp only [List.mem_append]; exact .inr (List.mem_of_getElem? hz))
    rw [ne (by omega)]
    exact h.t.rr j z r hz hr
end MV
namespace Prf
end Prf

namespace MV
theorem TM.setRd {M : Mem} {m a b i x : Nat} {pa : List (Nat × Nat)} {rb : List Nat} {ex : List (Key × D)} {N : Nt} {R R' : Rd} (h : TM M m N a b pa rb ex) (hi : rb[i]? = some x) (hr : N.rs[i]? = some R) : TM (M.set x (.lst (rdL R'))) m { N with rs := N.rs.set i R' } a b pa rb ex := by
  have ma := h.ma
  have ab := h.ab
  have xm := List.mem_of_getElem? hi
  have ox := h.ord x (by simp only [List.mem_append]; exact .inr xm)
  obtain ⟨n1, n2, n3⟩ := List.nodup_append.mp h.nd
  have ne : ∀ {j : Nat}, j ≠ x → (M.set x (.lst (rdL R')))[j]? = M[j]? := fun hj => List.getElem?_set_ne (Ne.symm hj)
  have hil : i < N.rs.length := (List.getElem?_eq_some_iff.mp hr).1
  refine ⟨⟨?_, ?_, ?_, h.t.pz, by simp [h.t.rz], ?_, ?_⟩, ma, ab, h.ord, h.nd⟩
  · rw [ne (by omega)]; exact h.t.dct
  · rw [ne (by omega)]; exact h.t.pl
  · rw [ne (by omega)]; exact h.t.rd
  · intro j z q hz hq
    have zm := List.mem_of_getElem? hz
    have x1 : z.1 ≠ x := fun e => n3 z.1 (List.mem_append.mpr (.inl (List.mem_map_of_mem zm))) x xm e
    have x2 : z.2 ≠ x := fun e => n3 z.2 (List.mem_append.mpr (.inr (List.mem_map_of_mem zm))) x xm e
    rw [ne x1, ne x2]
    exact h.t.pp j z q hz hq
  · intro j z q hz hq
    by_cases hj : i = j
    · subst hj
      rw [hi] at hz
      cases hz
      rw [List.getElem?_set_self hil] at hq
      cases hq
      exact msame (h.t.rr i x R hi hr)
    · rw [List.getElem?_set_ne hj] at hq
      have zx : z ≠ x := by
        intro e
        obtain ⟨l1, v1⟩ := List.getElem?_eq_some_iff.mp hi
        obtain ⟨l2, v2⟩ := List.getElem?_eq_some_iff.mp hz
        exact hj ((List.getElem_inj n2).mp (v1.trans (e.symm.trans v2.symm)))
      rw [ne zx]
      exact h.t.rr j z q hz hq
end MV

namespace MV
/-- a place with its wants set up to j -/
def wSt (P : Pl) (j : Nat) : Pl := { P with wants := P.wants.take j ++ List.replicate (P.wants.length - j) (0, 0) }
theorem wSt_all {P : Pl} : wSt P P.wants.length = P := by unfold wSt; simp
theorem wSt_len {P : Pl} {j : Nat} (h : j ≤ P.wants.length) : (wSt P j).wants.length = P.wants.length := by unfold wSt; simp; omega
end MV
namespace Prf
theorem wSt_succ {P : Pl} {j : Nat} {w : Int × Int} (h : P.wants[j]? = some w) : wanP (wSt P j) ((j : Int) + 1) w = wSt P (j + 1) := by
  have hj := (List.getElem?_eq_some_iff.mp h).1
  obtain ⟨nm, rm, kp, pr, ws⟩ := P
  unfold wanP wSt
  simp only at h hj ⊢
  congr 1
  rw [show ((j : Int) + 1).toNat - 1 = j by omega, show ((j : Int) + 1).toNat = j + 1 by omega]
  rw [List.take_append_of_le_length (by simp; omega), List.take_take, Nat.min_self, List.drop_append, List.drop_eq_nil_of_le (by simp; omega), List.nil_append]
  rw [List.take_succ, h, List.drop_replicate]
  have e : ws.length - j - (j + 1 - (ws.take j).length) = ws.length - (j + 1) := by rw [List.length_take]; omega
  rw [e]
  rfl
/-- a place as the sketch makes it, with wants -/
structure PlSk (b : Int × Int) (h : Int) (p : Pl) : Prop where
  room : ∀ m, p.room = some m → RmOk b m
  kept : ∀ m, p.kept = some m → RmOk b m
  price : p.price.1.natAbs ≤ 100 ∧ p.price.2.natAbs ≤ 100
  none : p.kept = some (0, 0) → p.price = (0, 0)
  wl : p.wants.length = h.toNat
  wv : ∀ w ∈ p.wants, Mv w
structure SkN (N : Nt) : Prop where
  s : SmB N.s
  t : SmB N.t
  h : 1 ≤ N.h ∧ N.h ≤ 6
  nm : ∀ z ∈ namesN N, Nm 8 z
  nd : (namesN N).Nodup
  ps : ∀ p ∈ N.ps, PlSk N.s N.h p
  rs : ∀ r ∈ N.rs, RdMk N.s N.t (N.ps.map (·.nm)) r
  pl : N.ps.length ≤ 9
  rl : N.rs.length ≤ 9
theorem SkN.ntok {N : Nt} (h : SkN N) : NtOk N := by
  have nmP : ∀ p ∈ N.ps, Nm 8 p.nm := fun p hp => h.nm _ (List.mem_append.mpr (.inl (List.mem_map_of_mem hp)))
  have nmR : ∀ p ∈ N.rs, Nm 8 p.nm := fun p hp => h.nm _ (List.mem_append.mpr (.inr (List.mem_map_of_mem hp)))
  have hh := h.h
  have nd := List.nodup_append.mp h.nd
  refine ⟨h.h, h.s.mv, h.t.mv, fun p hp => ?_, fun r hr => ?_, by have := h.pl; omega, by have := h.rl; omega, nd.1, nd.2.1⟩
  · have g := h.ps p hp
    exact ⟨(nmP p hp).asc, fun m e => (g.room m e).mv, fun m e => (g.kept m e).mv, ⟨by have := g.price.1; omega, by have := g.price.2; omega⟩, g.wv, by rw [g.wl]; omega⟩
  · have g := h.rs r hr
    have nmS : ∀ z ∈ N.ps.map (·.nm), Asc 8 z := fun z hz => by
      obtain ⟨p, hp, rfl⟩ := List.mem_map.mp hz
      exact (nmP p hp).asc
    refine ⟨(nmR r hr).asc, nmS _ g.st, nmS _ g.en, ⟨g.takes.1, by have := g.takes.2; omega⟩, g.floor.mv, fun x hx => ⟨fun m e => (g.rungs.room x hx m e).mv, ⟨by have := (g.rungs.price x hx).1; omega, by have := (g.rungs.price x hx).2; omega⟩⟩, ?_⟩
    rcases g.rungs.len with e | e <;> omega
end Prf

namespace Prf
/-- a good name -/
structure NmV (s : Str) : Prop where
  asc : Asc 8 s
  name : rName s = none
theorem NmV.short {s : Str} (h : NmV s) : s.length ≤ 1000000 := by have := h.asc.1; unfold Str.length; omega
theorem Nm.v {s : Str} (h : Nm 8 s) : NmV s := ⟨h.asc, h.name⟩
/-- a net as deeds can make it -/
structure VN (N : Nt) : Prop where
  ok : NtOk N
  nm : ∀ z ∈ namesN N, NmV z
  nd : (namesN N).Nodup
  wl : ∀ p ∈ N.ps, p.wants.length = N.h.toNat
  init : rInit N.h N.s N.t = none
  ps : ∀ p ∈ N.ps, rRm p.nm N.s p.room = none ∧ rSto p.nm N.s p.kept p.price = none ∧ (p.kept = some (0, 0) → p.price = (0, 0))
  rs : ∀ r ∈ N.rs, r.st ∈ N.ps.map (·.nm) ∧ r.en ∈ N.ps.map (·.nm) ∧ rSetRoad N r = none
theorem VN.i11 {N : Nt} (h : VN N) : I11 N := ⟨h.ok, fun q hq => by rw [h.wl q hq]; have := h.ok.h; omega⟩
theorem BareN.vn {N : Nt} (h : BareN N) : VN N := ⟨h.ntok, fun z hz => (h.nm z hz).v, h.nd, fun p hp => by rw [(h.ps p hp).wants]; simp, bare_init h, fun p hp => by
    have g := h.ps p hp
    have pm : Mv p.price := ⟨by have := g.price.1; omega, by have := g.price.2; omega⟩
    exact ⟨by unfold rRm; rw [orm_none g.room, orr_none g.room]; rfl, by unfold rSto; rw [orm_none g.kept, mv_none pm, orr_none g.kept]; rfl, g.none⟩,
  fun r hr => ⟨(h.rs r hr).st, (h.rs r hr).en, road_none (h.rs r hr)⟩⟩
theorem lmadeV {M : Mem} {Q : DK} {X : XM} {m a b : Nat} {pa : List (Nat × Nat)} {rb : List Nat} {ex : List (Key × D)} {N : Nt} (hT : TM M m N a b pa rb ex) (hb : VN N) (k : ∀ M' n p r, Kp [] M M' → M.length ≤ n → NetM M' n N p r → Q (.ref n) M') : w_Lmade [.ref m] M Q X := by
  have hh := hb.ok.h
  have hpl := hb.ok.pl
  have hrl := hb.ok.rl
  have nd := List.nodup_append.mp hb.nd
  have nmP : ∀ p ∈ N.ps, NmV p.nm := fun p hp => hb.nm _ (List.mem_append.mpr (.inl (List.mem_map_of_mem hp)))
  have nmR : ∀ p ∈ N.rs, NmV p.nm := fun p hp => hb.nm _ (List.mem_append.mpr (.inr (List.mem_map_of_mem hp)))
  unfold w_Lmade wOf
  rw [show startE N_Lmade [.ref m] = [some (.ref m), none, none, none, none, none, none, none, none, none, none, none, none] from rfl]
  unfold m_Lmade
  walk_at "ml"
  refine o_ixK hT.t.dct tk_h ?_
  walk_at "ml"
  refine o_ixK hT.t.dct tk_s ?_
  walk_at "ml"
  refine o_ixK hT.t.dct tk_t ?_
  walk_at "ml"
  refine ⟨⟨rfl, rfl⟩, ?_⟩
  refine l_init (h := N.h) (s := N.s) (t := N.t) ?_
  rw [hb.init]
  intro M1 p1 r1 k1 N1
  have ok : ∀ ps rs, ps.length ≤ 30 → rs.length ≤ 30 → NOk ⟨N.h, N.s, N.t, ps, rs⟩ := fun ps rs h1 h2 => ⟨hb.ok.s.tame, hb.ok.t.tame, by simp only; omega, by simp only; omega, by simp only; omega, by simp only; omega⟩
  have hnn : M.length ≤ M.length := Nat.le_refl _
  generalize hn : M.length = n at N1 ⊢
  rw [hn] at hnn
  have hnM : M.length ≤ n := by omega
  walk_at "mq"
  with_reducible refine x_join (fun ρ M' => (∃ o2 o3 o4 o5 o6 o7 o8 o9 o10 o11 o12, ρ = [some (.ref m), some (.ref n), o2, o3, o4, o5, o6, o7, o8, o9, o10, o11, o12]) ∧ Kp [] M M' ∧ ∃ p r, NetM M' n ⟨N.h, N.s, N.t, N.ps, []⟩ p r) ?_ ?_
  · intro K hK
    have T1 := hT.kp0 k1
    walk_at "sx"
    with_reducible refine x_iseq ?_
    walk_at "ml"
    refine o_ixK T1.t.dct tk_p ?_
    refine iseqL T1.t.pl ?_
    refine for_ix (fun i ρ M' => (∃ o2 o3 o4 o5 o6 o7 o8 o9 o10 o11 o12, ρ = [some (.ref m), some (.ref n), o2, o3, o4, o5, o6, o7, o8, o9, o10, o11, o12]) ∧ Kp [] M M' ∧ ∃ p r, NetM M' n ⟨N.h, N.s, N.t, N.ps.take i, []⟩ p r) ?_ ?_ ?_ ⟨⟨_, _, _, _, _, _, _, _, _, _, _, rfl⟩, k1, p1, r1, N1⟩
    · rintro i ρ M' ⟨_, k', _⟩
      exact k'.at_ _ _ (by simp) hT.t.pl
    · rintro ρ M' ⟨ho, k', p', r', hN'⟩
      rw [List.take_of_length_le (by simp [hT.t.pz])] at hN'
      exact hK _ _ ⟨ho, k', p', r', hN'⟩
    · rintro i d ρ M2 K2 hd ⟨⟨o2, o3, o4, o5, o6, o7, o8, o9, o10, o11, o12, rfl⟩, k2, p2, r2, N2⟩ hK2
      rw [List.getElem?_map] at hd
      cases hq : pa[i]? with
      | none => rw [hq] at hd; cases hd
      | some x =>
      rw [hq] at hd
      cases hd
      have hi : i < N.ps.length := by rw [← hT.t.pz]; exact (List.getElem?_eq_some_iff.mp hq).1
      obtain ⟨P, hP⟩ : ∃ P, N.ps[i]? = some P := ⟨_, List.getElem?_eq_getElem hi⟩
      obtain ⟨px, py⟩ := (hT.t.kp0 k2).pp i x P hq hP
      obtain ⟨x1, y⟩ := x
      unfold plL at px
      dsimp only at px py
      have hPm := List.mem_of_getElem? hP
      have gP := hb.ps P hPm
      have gO := hb.ok.ps P hPm
      have ht : N.ps.take (i + 1) = N.ps.take i ++ [P] := by rw [List.take_succ, hP]; rfl
      have hni : P.nm ∉ (N.ps.take i).map (·.nm) := by
        have hs : ((N.ps.take (i + 1)).map (·.nm)).Nodup := by
          rw [List.map_take]
          exact (List.take_sublist _ _).nodup nd.1
        rw [ht, List.map_append, List.nodup_append] at hs
        intro hc
        exact hs.2.2 _ hc P.nm (by simp) rfl
      rw [ht] at hK2
      have hl1 : (N.ps.take i).length ≤ 11 := by simp; omega
      have hpsm : ∀ q ∈ N.ps.take i, (q.wants.length : Int) = N.h := fun q h => by
        rw [hb.wl q (List.mem_of_mem_take h)]; omega
      generalize N.ps.take i = ps at *
      refine x_tpL px rfl ?_
      have i2 := N2.ins
      walk_at "ml"
      refine l_place N2 (ok _ _ (by omega) (by simp)) (nmP P hPm).short ?_
      have e1 : rPlace ⟨N.h, N.s, N.t, ps, []⟩ P.nm = none := by
        unfold rPlace rFresh
        rw [(nmP P hPm).name, find_none hni, if_neg (by simp [findR]), if_neg (by simp only; omega)]
        rfl
      rw [e1]
      intro M3 p3 r3 k3 N3
      have i3 := N3.ins
      walk_at "ml"
      have hni' : (newPl ⟨N.h, N.s, N.t, ps, []⟩ P.nm).nm ∉ ps.map (·.nm) := hni
      refine l_through N3 (ok _ _ (by simp; omega) (by simp)) ?_
      rw [show findP (ps ++ [newPl ⟨N.h, N.s, N.t, ps, []⟩ P.nm]) P.nm = some (newPl ⟨N.h, N.s, N.t, ps, []⟩ P.nm) from find_last hni']
      refine OnS.some ?_
      rw [show rRm P.nm N.s P.room = none from gP.1]
      intro M4 p4 r4 k4 N4
      rw [putP_last (q' := ({ newPl ⟨N.h, N.s, N.t, ps, []⟩ P.nm with room := P.room } : Pl)) hni' rfl] at N4
      have i4 := N4.ins
      walk_at "ml"
      refine l_store N4 (ok _ _ (by simp; omega) (by simp)) ?_
      rw [show findP (ps ++ [({ newPl ⟨N.h, N.s, N.t, ps, []⟩ P.nm with room := P.room } : Pl)]) P.nm = some ({ newPl ⟨N.h, N.s, N.t, ps, []⟩ P.nm with room := P.room } : Pl) from find_last (q := ({ newPl ⟨N.h, N.s, N.t, ps, []⟩ P.nm with room := P.room } : Pl)) hni']
      refine OnS.some ?_
      rw [show rSto P.nm N.s P.kept P.price = none from gP.2.1]
      intro M5 p5 r5 k5 N5
      rw [putP_last (q := ({ newPl ⟨N.h, N.s, N.t, ps, []⟩ P.nm with room := P.room } : Pl)) (q' := stoP ({ newPl ⟨N.h, N.s, N.t, ps, []⟩ P.nm with room := P.room } : Pl) P.kept P.price) hni' rfl] at N5
      have hwl : P.wants.length = N.h.toNat := hb.wl P hPm
      have eP : stoP ({ newPl ⟨N.h, N.s, N.t, ps, []⟩ P.nm with room := P.room } : Pl) P.kept P.price = wSt P 0 := by
        have hn0 := gP.2.2
        obtain ⟨nm, rm, kp, pr, ws⟩ := P
        unfold stoP newPl wSt
        simp only at hwl hn0 ⊢
        rw [hwl]
        congr 1
        split
        · rename_i e; exact (hn0 e).symm
        · rfl
      rw [eP] at N5
      have k6 := ((k2.new k3 hnM).new k4 hnM).new k5 hnM
      have py5 := ((hT.t.kp0 k6).pp i (x1, y) P hq hP).2
      dsimp only at py5
      walk_at "ml"
      rw [List.length_map]
      refine ⟨⟨by omega, by omega⟩, ?_⟩
      refine for_ix (fun j ρ M' => (∃ o7 o8 o9 o10 o11 o12, ρ = [some (.ref m), some (.ref n), some (.str P.nm), some (omD P.room), some (omD P.kept), some (pD P.price), some (.ref y), o7, o8, o9, o10, o11, o12]) ∧ Kp [] M M' ∧ ∃ p r, NetM M' n ⟨N.h, N.s, N.t, ps ++ [wSt P j], []⟩ p r) (fun _ _ _ _ => trivial) ?_ ?_ ⟨⟨_, _, _, _, _, _, rfl⟩, k6, p5, r5, N5⟩
      · rintro ρ M' ⟨⟨_, _, _, _, _, _, rfl⟩, k', p', r', hN'⟩
        rw [rng_len, show ((P.wants.length : Int)).toNat = P.wants.length from rfl, wSt_all] at hN'
        exact hK2 _ _ ⟨⟨_, _, _, _, _, _, _, _, _, _, _, rfl⟩, k', p', r', hN'⟩
      · rintro j d ρ M6 K3 hd ⟨⟨_, _, _, _, _, _, rfl⟩, k7, p6, r6, N6⟩ hK3
        obtain ⟨rfl, hj'⟩ := rng_at hd
        have hj : j < P.wants.length := by simpa using hj'
        have i6 := N6.ins
        have py6 := ((hT.t.kp0 k7).pp i (x1, y) P hq hP).2
        dsimp only at py6
        obtain ⟨w, ew⟩ : ∃ w, P.wants[j]? = some w := ⟨_, List.getElem?_eq_getElem hj⟩
        have at6 : atI (P.wants.map pD) (j : Int) = some (pD w) := by rw [atI_n, List.getElem?_map, ew]; rfl
        walk_at "ml"
        refine o_ixL py6 at6 ?_
        walk_at "ml"
        refine l_want N6 (ok _ _ (by simp; omega) (by simp)) ?_ ?_
        · intro q hq'
          rcases List.mem_append.mp hq' with z | z
          · exact hpsm q z
          · simp at z; subst z; rw [wSt_len (by omega), hwl]; simp only; omega
        rw [show findP (ps ++ [wSt P j]) P.nm = some (wSt P j) from find_last (q := wSt P j) hni]
        refine OnS.some ?_
        rw [if_pos (by simp only; omega), mv_none (gO.wants w (List.mem_of_getElem? ew))]
        intro M7 p7 r7 k8 N7
        rw [wSt_succ ew, putP_last (q := wSt P j) (q' := wSt P (j + 1)) hni rfl] at N7
        exact hK3 _ _ ⟨⟨_, _, _, _, _, _, rfl⟩, k7.new k8 hnM, p7, r7, N7⟩
  rintro _ M2 ⟨⟨o2, o3, o4, o5, o6, o7, o8, o9, o10, o11, o12, rfl⟩, k2, p2, r2, N2⟩
  have T2 := hT.kp0 k2
  walk_at "sx"
  walk_at "sx"
  with_reducible refine x_iseq ?_
  walk_at "ml"
  refine o_ixK T2.t.dct tk_r ?_
  refine iseqL T2.t.rd ?_
  refine for_ix (fun i ρ M' => (∃ o2 o3 o4 o5 o6 o7 o8 o9 o10 o11 o12, ρ = [some (.ref m), some (.ref n), o2, o3, o4, o5, o6, o7, o8, o9, o10, o11, o12]) ∧ Kp [] M M' ∧ ∃ p r, NetM M' n ⟨N.h, N.s, N.t, N.ps, N.rs.take i⟩ p r) ?_ ?_ ?_ ⟨⟨_, _, _, _, _, _, _, _, _, _, _, rfl⟩, k2, p2, r2, N2⟩
  · rintro i ρ M' ⟨_, k', _⟩
    exact k'.at_ _ _ (by simp) hT.t.rd
  · rintro ρ M' ⟨⟨_, _, _, _, _, _, _, _, _, _, _, rfl⟩, k', p', r', hN'⟩
    rw [List.take_of_length_le (by simp [hT.t.rz])] at hN'
    walk_at "ml"
    exact k M' n p' r' k' hnM hN'
  · rintro i d ρ M3 K2 hd ⟨⟨o2, o3, o4, o5, o6, o7, o8, o9, o10, o11, o12, rfl⟩, k3, p3, r3, N3⟩ hK2
    rw [List.getElem?_map] at hd
    cases hq : rb[i]? with
    | none => rw [hq] at hd; cases hd
    | some x =>
    rw [hq] at hd
    cases hd
    have hi : i < N.rs.length := by rw [← hT.t.rz]; exact (List.getElem?_eq_some_iff.mp hq).1
    obtain ⟨R, hR⟩ : ∃ R, N.rs[i]? = some R := ⟨_, List.getElem?_eq_getElem hi⟩
    have px := (hT.t.kp0 k3).rr i x R hq hR
    unfold rdL at px
    have hRm := List.mem_of_getElem? hR
    have gR := hb.rs R hRm
    have ht : N.rs.take (i + 1) = N.rs.take i ++ [R] := by rw [List.take_succ, hR]; rfl
    have hni : R.nm ∉ (N.rs.take i).map (·.nm) := by
      have hs : ((N.rs.take (i + 1)).map (·.nm)).Nodup := by
        rw [List.map_take]
        exact (List.take_sublist _ _).nodup nd.2.1
      rw [ht, List.map_append, List.nodup_append] at hs
      intro hc
      exact hs.2.2 _ hc R.nm (by simp) rfl
    have hnp : R.nm ∉ N.ps.map (·.nm) := fun hc => nd.2.2 _ hc R.nm (List.mem_map_of_mem hRm) rfl
    rw [ht] at hK2
    have hl1 : (N.rs.take i).length ≤ 23 := by simp; omega
    generalize N.rs.take i = rs at *
    refine x_tpL px rfl ?_
    have i3 := N3.ins
    walk_at "ml"
    refine l_road (q := R) N3 (ok _ _ (by omega) (by omega)) (by have := (hb.ok.rs R hRm).rl; omega) (nmR R hRm).short ?_
    have e1 : rRoad ⟨N.h, N.s, N.t, N.ps, rs⟩ R = none := by
      unfold rRoad rFresh rKnown
      rw [(nmR R hRm).name]
      simp only
      rw [find_none hnp, find_noneR hni, find_some gR.1, find_some gR.2.1, if_neg (by simp), if_pos rfl, if_pos rfl, if_neg (by omega)]
      have := (show rSetRoad (⟨N.h, N.s, N.t, N.ps, rs⟩ : Nt) R = none from gR.2.2)
      rw [this]
      rfl
    rw [e1]
    intro M4 p4 r4 k4 N4
    exact hK2 _ _ ⟨⟨_, _, _, _, _, _, _, _, _, _, _, rfl⟩, k3.new k4 hnM, p4, r4, N4⟩
end Prf

namespace MV
theorem or_no {a b : Option Exn} (h : a.or b = none) : a = none ∧ b = none := by
  cases a with
  | none => exact ⟨rfl, by simpa using h⟩
  | some e => cases h
theorem or_no2 {a b : Option Exn} (h1 : a = none) (h2 : b = none) : a.or b = none := by rw [h1, h2]; rfl
end MV
namespace Prf
theorem sinks_low {m b : Int × Int} (h : ¬ sinksB m b = true) : ¬ sinksB m (b.1, b.1) = true := by
  simp only [sinksB, Bool.or_eq_true, decide_eq_true_eq, not_or] at h ⊢
  omega
theorem room_low {nm : Str} {m b : Int × Int} (h : rRoom nm m b = none) : rRoom nm m (b.1, b.1) = none := by
  unfold rRoom at h ⊢
  split at h
  · cases h
  · rename_i hc
    rw [if_neg (sinks_low hc)]
theorem oroom_low {nm : Str} {o : Option (Int × Int)} {b : Int × Int} (h : oRef (fun m => rRoom nm m b) o = none) : oRef (fun m => rRoom nm m (b.1, b.1)) o = none := by
  cases o with
  | none => rfl
  | some m => exact room_low (b := b) h
theorem rm_low {nm : Str} {b : Int × Int} {o : Option (Int × Int)} (h : rRm nm b o = none) : rRm nm (b.1, b.1) o = none := or_no2 (or_no h).1 (oroom_low (or_no h).2)
theorem sto_low {nm : Str} {b : Int × Int} {o : Option (Int × Int)} {pr : Int × Int} (h : rSto nm b o pr = none) : rSto nm (b.1, b.1) o pr = none := or_no2 (or_no h).1 (or_no2 (or_no (or_no h).2).1 (oroom_low (or_no (or_no h).2).2))
theorem rung_low {nm : Str} {b : Int × Int} {g : Rung} (h : rRung 1000000 nm b g = none) : rRung 1000000 nm (b.1, b.1) g = none := or_no2 (or_no h).1 (or_no2 (or_no (or_no h).2).1 (oroom_low (or_no (or_no h).2).2))
theorem ris_low {nm : Str} {t : Int × Int} : ∀ {rs : List Rung}, rRis nm t rs = none → rRis nm (t.1, t.1) rs = none
  | [], _ => rfl
  | [_], _ => rfl
  | a :: b :: l, h => by
    unfold rRis at h ⊢
    split at h
    · cases h
    · rename_i hc
      rw [if_neg (sinks_low hc)]
      exact ris_low h
theorem rungs_parts {nm : Str} {s t : Int × Int} {rs : List Rung} : rRungs 4 1000000 nm s t rs = none ↔ (1 ≤ rs.length ∧ rs.length ≤ 4) ∧ (∀ g ∈ rs.dropLast, g.1 ≠ none) ∧ (∀ g ∈ rs, rRung 1000000 nm s g = none) ∧ rRis nm t rs = none := by
  unfold rRungs
  constructor
  · intro h
    obtain ⟨h1, h⟩ := or_no h
    obtain ⟨h2, h⟩ := or_no h
    obtain ⟨h3, h4⟩ := or_no h
    refine ⟨?_, ?_, List.findSome?_eq_none_iff.mp h3, h4⟩
    · split at h1
      · omega
      · cases h1
    · intro g hg e
      split at h2
      · cases h2
      · rename_i hc
        exact hc (List.any_eq_true.mpr ⟨g, hg, by rw [e]; rfl⟩)
  · rintro ⟨h1, h2, h3, h4⟩
    refine or_no2 (if_pos (by omega)) (or_no2 (if_neg ?_) (or_no2 (List.findSome?_eq_none_iff.mpr h3) h4))
    intro hc
    obtain ⟨g, hg, e⟩ := List.any_eq_true.mp hc
    exact h2 g hg (Option.isNone_iff_eq_none.mp e)
theorem setroad_parts {N : Nt} {q : Rd} : rSetRoad N q = none ↔ (0 ≤ q.takes ∧ q.takes ≤ 9) ∧ rMove 1000000 q.floor = none ∧ rRoom q.nm q.floor N.s = none ∧ rRungs 4 1000000 q.nm N.s N.t q.rungs = none := by
  unfold rSetRoad
  constructor
  · intro h
    obtain ⟨h1, h⟩ := or_no h
    obtain ⟨h2, h⟩ := or_no h
    obtain ⟨h3, h4⟩ := or_no h
    refine ⟨?_, h2, h3, h4⟩
    split at h1
    · assumption
    · cases h1
  · rintro ⟨h1, h2, h3, h4⟩
    exact or_no2 (if_pos h1) (or_no2 h2 (or_no2 h3 h4))
theorem box_low {d : Str} {b : Int × Int} (h : rBox 1000000 d b = none) : rBox 1000000 d (b.1, b.1) = none := or_no2 (or_no h).1 (or_no2 (or_no h).1 (if_neg (by omega)))
theorem mv_low {b : Int × Int} (h : Mv b) : Mv (b.1, b.1) := ⟨h.1, h.1⟩
theorem VN.low_s {N : Nt} (h : VN N) : VN { N with s := (N.s.1, N.s.1) } := by
  have ok := h.ok
  refine ⟨⟨ok.h, mv_low ok.s, ok.t, ok.ps, ok.rs, ok.pl, ok.rl, ok.pn, ok.rn⟩, h.nm, h.nd, h.wl, ?_, fun p hp => ?_, fun r hr => ?_⟩
  · have hi := h.init
    exact or_no2 (or_no hi).1 (or_no2 (box_low (or_no (or_no hi).2).1) (or_no (or_no hi).2).2)
  · obtain ⟨h1, h2, h3⟩ := h.ps p hp
    exact ⟨rm_low h1, sto_low h2, h3⟩
  · obtain ⟨h1, h2, h3⟩ := h.rs r hr
    obtain ⟨g1, g2, g3, g4⟩ := setroad_parts.mp h3
    obtain ⟨r1, r2, r3, r4⟩ := rungs_parts.mp g4
    exact ⟨h1, h2, setroad_parts.mpr ⟨g1, g2, room_low g3, rungs_parts.mpr ⟨r1, r2, fun g hg => rung_low (r3 g hg), r4⟩⟩⟩
theorem VN.low_t {N : Nt} (h : VN N) : VN { N with t := (N.t.1, N.t.1) } := by
  have ok := h.ok
  refine ⟨⟨ok.h, ok.s, mv_low ok.t, ok.ps, ok.rs, ok.pl, ok.rl, ok.pn, ok.rn⟩, h.nm, h.nd, h.wl, ?_, h.ps, fun r hr => ?_⟩
  · have hi := h.init
    exact or_no2 (or_no hi).1 (or_no2 (or_no (or_no hi).2).1 (box_low (or_no (or_no hi).2).2))
  · obtain ⟨h1, h2, h3⟩ := h.rs r hr
    obtain ⟨g1, g2, g3, g4⟩ := setroad_parts.mp h3
    obtain ⟨r1, r2, r3, r4⟩ := rungs_parts.mp g4
    exact ⟨h1, h2, setroad_parts.mpr ⟨g1, g2, g3, rungs_parts.mpr ⟨r1, r2, r3, ris_low r4⟩⟩⟩
theorem set_nmP {ps : List Pl} {i : Nat} {p q : Pl} (hi : ps[i]? = some p) (e : q.nm = p.nm) : (ps.set i q).map (·.nm) = ps.map (·.nm) := by
  apply List.ext_getElem?
  intro j
  rw [List.getElem?_map, List.getElem?_map]
  by_cases hj : i = j
  · subst hj
    rw [List.getElem?_set_self (List.getElem?_eq_some_iff.mp hi).1, hi]
    simp [e]
  · rw [List.getElem?_set_ne hj]
theorem set_nmR {ps : List Rd} {i : Nat} {p q : Rd} (hi : ps[i]? = some p) (e : q.nm = p.nm) : (ps.set i q).map (·.nm) = ps.map (·.nm) := by
  apply List.ext_getElem?
  intro j
  rw [List.getElem?_map, List.getElem?_map]
  by_cases hj : i = j
  · subst hj
    rw [List.getElem?_set_self (List.getElem?_eq_some_iff.mp hi).1, hi]
    simp [e]
  · rw [List.getElem?_set_ne hj]
theorem VN.setP {N : Nt} {i : Nat} {p p' : Pl} (h : VN N) (hi : N.ps[i]? = some p) (e : p'.nm = p.nm) (hw : p'.wants.length = p.wants.length) (hm : ∀ w ∈ p'.wants, Mv w) (hr : oMv p'.room) (hk : oMv p'.kept) (hp : Mv p'.price)
    (f1 : rRm p'.nm N.s p'.room = none) (f2 : rSto p'.nm N.s p'.kept p'.price = none) (f3 : p'.kept = some (0, 0) → p'.price = (0, 0)) : VN { N with ps := N.ps.set i p' } := by
  have ok := h.ok
  have hpm := List.mem_of_getElem? hi
  have en := set_nmP hi e
  refine ⟨⟨ok.h, ok.s, ok.t, fun q hq => ?_, ok.rs, by simpa using ok.pl, ok.rl, ?_, ok.rn⟩, ?_, ?_, fun q hq => ?_, h.init, fun q hq => ?_, fun r hr => ?_⟩
  · rcases List.mem_or_eq_of_mem_set hq with z | rfl
    · exact ok.ps q z
    · exact ⟨by rw [e]; exact (ok.ps p hpm).nm, hr, hk, hp, hm, by rw [hw]; exact (ok.ps p hpm).wl⟩
  · show ((N.ps.set i p').map (·.nm)).Nodup
    rw [en]; exact ok.pn
  · intro z hz
    refine h.nm z ?_
    unfold namesN at hz ⊢
    simp only at hz
    rw [en] at hz; exact hz
  · show ((N.ps.set i p').map (·.nm) ++ N.rs.map (·.nm)).Nodup
    rw [en]; exact h.nd
  · rcases List.mem_or_eq_of_mem_set hq with z | rfl
    · exact h.wl q z
    · rw [hw]; exact h.wl p hpm
  · rcases List.mem_or_eq_of_mem_set hq with z | rfl
    · exact h.ps q z
    · exact ⟨f1, f2, f3⟩
  · obtain ⟨h1, h2, h3⟩ := h.rs r hr
    refine ⟨?_, ?_, h3⟩
    · show r.st ∈ (N.ps.set i p').map (·.nm)
      rw [en]; exact h1
    · show r.en ∈ (N.ps.set i p').map (·.nm)
      rw [en]; exact h2
theorem nodup_setA {α : Type} {l : List α} {i : Nat} {x : α} (h : l.Nodup) (hx : x ∉ l) : (l.set i x).Nodup := by
  unfold List.Nodup
  rw [List.pairwise_iff_getElem]
  intro j k hj hk hjk
  rw [List.length_set] at hj hk
  have h2 := List.pairwise_iff_getElem.mp h
  rw [List.getElem_set, List.getElem_set]
  split
  · split
    · omega
    · exact fun e => hx (e ▸ List.getElem_mem hk)
  · split
    · exact fun e => hx (e ▸ List.getElem_mem hj)
    · exact h2 j k hj hk hjk
theorem VN.setR {N : Nt} {i : Nat} {r r' : Rd} (h : VN N) (hi : N.rs[i]? = some r) (e : r'.nm = r.nm ∨ (NmV r'.nm ∧ r'.nm ∉ namesN N)) (hk : RdOk r') (h1 : r'.st ∈ N.ps.map (·.nm)) (h2 : r'.en ∈ N.ps.map (·.nm)) (h3 : rSetRoad N r' = none) : VN { N with rs := N.rs.set i r' } := by
  have ok := h.ok
  have hpm := List.mem_of_getElem? hi
  have hil := (List.getElem?_eq_some_iff.mp hi).1
  have nm' : ∀ z ∈ N.ps.map (·.nm) ++ (N.rs.set i r').map (·.nm), NmV z := fun z hz => by
    rcases List.mem_append.mp hz with hz | hz
    · exact h.nm z (List.mem_append.mpr (.inl hz))
    · obtain ⟨q, hq, rfl⟩ := List.mem_map.mp hz
      rcases List.mem_or_eq_of_mem_set hq with z | rfl
      · exact h.nm _ (List.mem_append.mpr (.inr (List.mem_map_of_mem z)))
      · rcases e with e | e
        · rw [e]; exact h.nm _ (List.mem_append.mpr (.inr (List.mem_map_of_mem hpm)))
        · exact e.1
  have nd' : (N.ps.map (·.nm) ++ (N.rs.set i r').map (·.nm)).Nodup := by
    rcases e with e | e
    · rw [set_nmR hi e]; exact h.nd
    · have e2 : N.ps.map (·.nm) ++ (N.rs.set i r').map (·.nm) = (namesN N).set (N.ps.length + i) r'.nm := by
        unfold namesN
        rw [List.map_set, List.set_append_right _ _ (by simp)]
        simp
      rw [e2]
      exact nodup_setA h.nd e.2
  have nd2 := List.nodup_append.mp nd'
  refine ⟨⟨ok.h, ok.s, ok.t, ok.ps, fun q hq => ?_, ok.pl, by simpa using ok.rl, ok.pn, nd2.2.1⟩, nm', nd', h.wl, h.init, h.ps, fun q hq => ?_⟩
  · rcases List.mem_or_eq_of_mem_set hq with z | rfl
    · exact ok.rs q z
    · exact hk
  · rcases List.mem_or_eq_of_mem_set hq with z | rfl
    · exact h.rs q z
    · exact ⟨h1, h2, h3⟩
theorem VN.perm {N : Nt} {ps : List Pl} {rs : List Rd} (h : VN N) (hp : ps.Perm N.ps) (hr : rs.Perm N.rs) : VN { N with ps := ps, rs := rs } := by
  have ok := h.ok
  have hn : (ps.map (·.nm) ++ rs.map (·.nm)).Perm (namesN N) := (hp.map _).append (hr.map _)
  refine ⟨⟨ok.h, ok.s, ok.t, fun p hm => ok.ps p (hp.mem_iff.mp hm), fun r hm => ok.rs r (hr.mem_iff.mp hm), by rw [hp.length_eq]; exact ok.pl, by rw [hr.length_eq]; exact ok.rl, (hp.map _).nodup_iff.mpr ok.pn, (hr.map _).nodup_iff.mpr ok.rn⟩, fun z hz => h.nm z (hn.mem_iff.mp hz), hn.nodup_iff.mpr h.nd, fun p hm => h.wl p (hp.mem_iff.mp hm), h.init, fun p hm => h.ps p (hp.mem_iff.mp hm), fun r hm => ?_⟩
  obtain ⟨h1, h2, h3⟩ := h.rs r (hr.mem_iff.mp hm)
  exact ⟨((hp.map _).mem_iff).mpr h1, ((hp.map _).mem_iff).mpr h2, h3⟩
theorem VN.clock {N : Nt} {c : Int} (h : VN N) (hc : 1 ≤ c ∧ c ≤ 6) (f : Pl → Pl) (hf : ∀ p ∈ N.ps, (f p).nm = p.nm ∧ (f p).room = p.room ∧ (f p).kept = p.kept ∧ (f p).price = p.price ∧ (f p).wants.length = c.toNat ∧ ∀ w ∈ (f p).wants, Mv w) : VN { N with h := c, ps := N.ps.map f } := by
  have ok := h.ok
  have en : (N.ps.map f).map (·.nm) = N.ps.map (·.nm) := by
    rw [List.map_map]
    exact List.map_congr_left fun p hp => (hf p hp).1
  refine ⟨⟨hc, ok.s, ok.t, fun q hq => ?_, ok.rs, by simpa using ok.pl, ok.rl, ?_, ok.rn⟩, ?_, ?_, fun q hq => ?_, ?_, fun q hq => ?_, fun r hr => ?_⟩
  · obtain ⟨p, hp, rfl⟩ := List.mem_map.mp hq
    obtain ⟨e1, e2, e3, e4, e5, e6⟩ := hf p hp
    have g := ok.ps p hp
    exact ⟨by rw [e1]; exact g.nm, by rw [e2]; exact g.room, by rw [e3]; exact g.kept, by rw [e4]; exact g.price, e6, by rw [e5]; omega⟩
  · show ((N.ps.map f).map (·.nm)).Nodup
    rw [en]; exact ok.pn
  · intro z hz
    refine h.nm z ?_
    unfold namesN at hz ⊢
    simp only at hz
    rw [en] at hz; exact hz
  · show ((N.ps.map f).map (·.nm) ++ N.rs.map (·.nm)).Nodup
    rw [en]; exact h.nd
  · obtain ⟨p, hp, rfl⟩ := List.mem_map.mp hq
    exact (hf p hp).2.2.2.2.1
  · have hi := h.init
    exact or_no2 (if_pos hc) (or_no hi).2
  · obtain ⟨p, hp, rfl⟩ := List.mem_map.mp hq
    obtain ⟨e1, e2, e3, e4, e5, e6⟩ := hf p hp
    rw [e1, e2, e3, e4]
    exact h.ps p hp
  · obtain ⟨h1, h2, h3⟩ := h.rs r hr
    refine ⟨?_, ?_, h3⟩
    · show r.st ∈ (N.ps.map f).map (·.nm)
      rw [en]; exact h1
    · show r.en ∈ (N.ps.map f).map (·.nm)
      rw [en]; exact h2
end Prf

namespace Prf
theorem l_twin {M : Mem} {Q : DK} {X : XM} {n pp rr : Nat} {N : Nt} (hN : NetM M n N pp rr) (hi : rInit N.h N.s N.t = none) (k : ∀ M' n' p' r', Kp [] M M' → M.length ≤ n' → NetM M' n' N p' r' → Q (.ref n') M') : w_Net_twin [.ref n] M Q X := by
  have h1 := hN.ins
  unfold w_Net_twin wOf
  rw [show startE N_Net_twin [.ref n] = [some (.ref n), none] from rfl]
  unfold m_Net_twin
  walk_at "ml"
  refine ⟨⟨rfl, rfl⟩, ?_⟩
  refine l_init (h := N.h) (s := N.s) (t := N.t) ?_
  rw [hi]
  intro M1 p1 r1 k1 N1
  have g1 := hN.kp k1 (by simp) (by simp) (by simp)
  have h2 := g1.ins
  have h3 := g1.pl
  have h4 := g1.rd
  have e1 := N1.ins
  have hn : M.length ≤ M.length := Nat.le_refl _
  have ln := mlt h1
  generalize hz : M.length = n' at N1 e1 hn ln ⊢
  have hMn : M.length ≤ n' := by omega
  clear hz
  walk_at "ml"
  with_reducible refine x_setFld ?_
  walk_at "ml"
  have k2 : Kp [] M1 (M1 ++ [O.dct false (N.ps.map plK)]) := .app
  have a2 := k2.at_ _ _ (by simp) e1
  have b2 := k2.at_ _ _ (by simp) h2
  have c2 := k2.at_ _ _ (by simp) h4
  have d2 : (M1 ++ [O.dct false (N.ps.map plK)])[M1.length]? = some (.dct false (N.ps.map plK)) := mnew
  have l1 := mlt e1
  have l2 := mlt h2
  have l4 := mlt h4
  show match (M1 ++ [O.dct false (N.ps.map plK)])[n']? with | some (.ins c fs) => _ | _ => False
  generalize M1 ++ [O.dct false (N.ps.map plK)] = M2 at *
  rw [a2]
  refine ⟨by decide +kernel, Nat.le_of_ble_eq_true rfl, ?_⟩
  rw [pf_p]
  have nn : n ≠ n' := by omega
  have hne : n' ≠ rr := fun e => by rw [← e, a2] at c2; cases c2
  have a3 := msame (o' := .ins "Net" (NF (.int N.h) (pD N.s) (pD N.t) (.ref M1.length) (.ref r1))) a2
  have b3 : (M2.set n' (.ins "Net" (NF (.int N.h) (pD N.s) (pD N.t) (.ref M1.length) (.ref r1))))[n]? = _ := (List.getElem?_set_ne (by omega)).trans b2
  have c3 : (M2.set n' (.ins "Net" (NF (.int N.h) (pD N.s) (pD N.t) (.ref M1.length) (.ref r1))))[rr]? = _ := (List.getElem?_set_ne hne).trans c2
  have d3 : (M2.set n' (.ins "Net" (NF (.int N.h) (pD N.s) (pD N.t) (.ref M1.length) (.ref r1))))[M1.length]? = _ := (List.getElem?_set_ne (by omega)).trans d2
  have k3 : Kp [] M (M2.set n' (.ins "Net" (NF (.int N.h) (pD N.s) (pD N.t) (.ref M1.length) (.ref r1)))) := (k1.trans k2).setNew hMn
  dsimp only
  show mSeq _ _ _ _ (M2.set n' (.ins "Net" (NF (.int N.h) (pD N.s) (pD N.t) (.ref M1.length) (.ref r1))))
  have l3 : (M2.set n' (.ins "Net" (NF (.int N.h) (pD N.s) (pD N.t) (.ref M1.length) (.ref r1)))).length = M2.length := by simp
  generalize M2.set n' (.ins "Net" (NF (.int N.h) (pD N.s) (pD N.t) (.ref M1.length) (.ref r1))) = M3 at *
  walk_at "ml"
  with_reducible refine x_setFld ?_
  walk_at "ml"
  have k4 : Kp [] M3 (M3 ++ [O.dct false (N.rs.map rdK)]) := .app
  have a4 := k4.at_ _ _ (by simp) a3
  have d4 := k4.at_ _ _ (by simp) d3
  have e4 : (M3 ++ [O.dct false (N.rs.map rdK)])[M3.length]? = some (.dct false (N.rs.map rdK)) := mnew
  have la := mlt a3
  show match (M3 ++ [O.dct false (N.rs.map rdK)])[n']? with | some (.ins c fs) => _ | _ => False
  generalize M3 ++ [O.dct false (N.rs.map rdK)] = M4 at *
  rw [a4]
  refine ⟨by decide +kernel, Nat.le_of_ble_eq_true rfl, ?_⟩
  rw [pf_r]
  have a5 := msame (o' := .ins "Net" (NF (.int N.h) (pD N.s) (pD N.t) (.ref M1.length) (.ref M3.length))) a4
  have d5 : (M4.set n' (.ins "Net" (NF (.int N.h) (pD N.s) (pD N.t) (.ref M1.length) (.ref M3.length))))[M1.length]? = _ := (List.getElem?_set_ne (by omega)).trans d4
  have e5 : (M4.set n' (.ins "Net" (NF (.int N.h) (pD N.s) (pD N.t) (.ref M1.length) (.ref M3.length))))[M3.length]? = _ := (List.getElem?_set_ne (by omega)).trans e4
  have k5 : Kp [] M (M4.set n' (.ins "Net" (NF (.int N.h) (pD N.s) (pD N.t) (.ref M1.length) (.ref M3.length)))) := (k3.trans k4).setNew hMn
  dsimp only
  walk_at "ml"
  exact k _ n' M1.length M3.length k5 hMn ⟨a5, d5, e5⟩
end Prf
namespace MV
def NoRows (ex : List (Key × D)) : Prop := ∀ kv ∈ ex, kv.1 ≠ .inr "places" ∧ kv.1 ≠ .inr "roads"
theorem plan_rows1 {c : Nat} : NoRows [(.inr "plan", .ref c)] := fun kv h => by
  rw [List.mem_singleton.mp h]
  exact ⟨show (.inr "plan" : Key) ≠ .inr "places" by decide +kernel, show (.inr "plan" : Key) ≠ .inr "roads" by decide +kernel⟩
def ExOk (ex : List (Key × D)) : Prop := (∀ kv ∈ ex, kv.1 ≠ .inr "s" ∧ kv.1 ≠ .inr "t") ∧ NoRows ex ∧ ex.length < 100
theorem ex_plan {c : Nat} : ExOk [(.inr "plan", .ref c)] := ⟨fun kv h => by
  rw [List.mem_singleton.mp h]
  exact ⟨show (.inr "plan" : Key) ≠ .inr "s" by decide +kernel, show (.inr "plan" : Key) ≠ .inr "t" by decide +kernel⟩, plan_rows1, by simp⟩
theorem map_no {ex : List (Key × D)} {k : Key} {d : D} (h : ∀ kv ∈ ex, kv.1 ≠ k) : (ex.map fun kv => if kv.1 = k then (kv.1, d) else kv) = ex := by
  conv => rhs; rw [← List.map_id ex]
  exact List.map_congr_left fun kv hk => by rw [if_neg (h kv hk)]; rfl
theorem put_tp {N : Nt} {a b x : Nat} {ex : List (Key × D)} (h : NoRows ex) : dput (toldK N a b ex) (.inr "places") (.ref x) = toldK N x b ex := by
  unfold dput
  rw [if_pos (by rfl)]
  unfold toldK
  rw [List.map_append, map_no fun kv hk => (h kv hk).1]
  congr 1
theorem put_tr {N : Nt} {a b x : Nat} {ex : List (Key × D)} (h : NoRows ex) : dput (toldK N a b ex) (.inr "roads") (.ref x) = toldK N a x ex := by
  unfold dput
  rw [if_pos (by rfl)]
  unfold toldK
  rw [List.map_append, map_no fun kv hk => (h kv hk).2]
  congr 1
end MV
namespace Prf
theorem lcopy {M : Mem} {Q : DK} {X : XM} {m a b : Nat} {pa : List (Nat × Nat)} {rb : List Nat} {ex : List (Key × D)} {N : Nt} (hT : TM M m N a b pa rb ex) (hx : NoRows ex) (hxl : ex.length < 100) (hpl : N.ps.length ≤ 12) (hrl : N.rs.length ≤ 24) (k : ∀ M' m' a' b' pa' rb', Kp [] M M' → TM M' m' N a' b' pa' rb' ex → M.length ≤ m' → Q (.ref m') M') : w_Lcopy [.ref m] M Q X := by
  have h0 := hT.t.dct
  have h1 := hT.t.pl
  have h2 := hT.t.rd
  unfold w_Lcopy wOf
  rw [show startE N_Lcopy [.ref m] = [some (.ref m), none, none, none] from rfl]
  unfold m_Lcopy
  walk_at "ml"
  have kA : Kp [] M (M ++ [O.dct false (toldK N a b ex)]) := .app
  have g0 : (M ++ [O.dct false (toldK N a b ex)])[M.length]? = some (.dct false (toldK N a b ex)) := mnew
  have lA : (M ++ [O.dct false (toldK N a b ex)]).length = M.length + 1 := by simp
  have TA := hT.kp0 kA
  have lm := mlt h0
  generalize hz : M.length = m' at *
  generalize M ++ [O.dct false (toldK N a b ex)] = MA at *
  have hMm : M.length ≤ m' := by omega
  walk_at "ml"
  with_reducible refine x_iseq ?_
  walk_at "ml"
  refine o_ixK TA.t.dct tk_p ?_
  refine iseqL TA.t.pl ?_
  refine lc_ix (fun i acc M' => ∃ pa' : List (Nat × Nat), acc = pa'.map (fun x => D.ref x.1) ∧ pa'.length = i ∧ (∀ (j : Nat) (x : Nat × Nat) (P : Pl), pa'[j]? = some x → N.ps[j]? = some P → M'[x.1]? = some (.lst (plL P x.2)) ∧ M'[x.2]? = some (.lst (P.wants.map pD))) ∧ Kp [] MA M' ∧ (∀ z ∈ pa'.map (·.1) ++ pa'.map (·.2), MA.length < z ∧ z < M'.length) ∧ (pa'.map (·.1) ++ pa'.map (·.2)).Nodup) ?_ ?_ ?_ (by rw [List.length_map, TA.t.pz]; omega) mnew ⟨[], rfl, rfl, fun _ _ _ h => by simp at h, .app, by simp, by simp⟩
  · rintro i acc M' ⟨_, _, _, _, k', _⟩
    exact k'.at_ _ _ (by simp) TA.t.pl
  · rintro i d acc M1 K hd hacc ⟨pa', rfl, hl, hpp, k1, hlt, hnd⟩ hK
    rw [List.getElem?_map] at hd
    cases hq : pa[i]? with
    | none => rw [hq] at hd; cases hd
    | some x =>
    rw [hq] at hd
    cases hd
    have hi : i < N.ps.length := by rw [← TA.t.pz]; exact (List.getElem?_eq_some_iff.mp hq).1
    obtain ⟨P, hP⟩ : ∃ P, N.ps[i]? = some P := ⟨_, List.getElem?_eq_getElem hi⟩
    obtain ⟨px, py⟩ := (TA.t.kp0 k1).pp i x P hq hP
    have la := mlt hacc
    walk_at "ml"
    refine o_slL px ?_
    rw [show cutD (plL P x.2) none (some 4) = [.str P.nm, omD P.room, omD P.kept, pD P.price] from rfl]
    have kB : Kp [] M1 (M1 ++ [O.lst [.str P.nm, omD P.room, omD P.kept, pD P.price]]) := .app
    have gB : (M1 ++ [O.lst [.str P.nm, omD P.room, omD P.kept, pD P.price]])[M1.length]? = some (.lst [.str P.nm, omD P.room, omD P.kept, pD P.price]) := mnew
    have pxB := kB.at_ _ _ (by simp) px
    have pyB := kB.at_ _ _ (by simp) py
    have lB : (M1 ++ [O.lst [.str P.nm, omD P.room, omD P.kept, pD P.price]]).length = M1.length + 1 := by simp
    generalize M1 ++ [O.lst [.str P.nm, omD P.room, omD P.kept, pD P.price]] = MB at *
    unfold plL at pxB
    walk_at "ml"
    have kC : Kp [] MB (MB ++ [O.lst (P.wants.map pD)]) := .app
    have yC : (MB ++ [O.lst (P.wants.map pD)])[MB.length]? = some (.lst (P.wants.map pD)) := mnew
    have gC := kC.at_ _ _ (by simp) gB
    have lC : (MB ++ [O.lst (P.wants.map pD)]).length = MB.length + 1 := by simp
    generalize MB ++ [O.lst (P.wants.map pD)] = MC at *
    have kD : Kp [] MC (MC ++ [O.lst [.ref MB.length]]) := .app
    have zD : (MC ++ [O.lst [.ref MB.length]])[MC.length]? = some (.lst [.ref MB.length]) := mnew
    have yD := kD.at_ _ _ (by simp) yC
    have gD := kD.at_ _ _ (by simp) gC
    have lD : (MC ++ [O.lst [.ref MB.length]]).length = MC.length + 1 := by simp
    generalize MC ++ [O.lst [.ref MB.length]] = MD at *
    refine o_addL gD zD (by simp) ?_
    have kE : Kp [] MD (MD ++ [O.lst (plL P MB.length)]) := .app
    have xE : (MD ++ [O.lst (plL P MB.length)])[MD.length]? = some (.lst (plL P MB.length)) := mnew
    have yE := kE.at_ _ _ (by simp) yD
    have lE : (MD ++ [O.lst (plL P MB.length)]).length = MD.length + 1 := by simp
    have kall : Kp [] M1 (MD ++ [O.lst (plL P MB.length)]) := kB.trans (kC.trans (kD.trans kE))
    have accE := kall.at_ _ _ (by simp) hacc
    show K _ (MD ++ [O.lst (plL P MB.length)])
    generalize MD ++ [O.lst (plL P MB.length)] = ME at *
    have l1 := k1.len
    refine hK _ _ accE ⟨pa' ++ [(MD.length, MB.length)], by simp, by simp [hl], ?_, (k1.trans kall).setNew (Nat.le_refl _), ?_, ?_⟩
    · intro j w P' hw hP'
      by_cases hj : j < pa'.length
      · rw [List.getElem?_append_left hj] at hw
        obtain ⟨w1, w2⟩ := hpp j w P' hw hP'
        have m1 := hlt w.1 (List.mem_append.mpr (.inl (List.mem_map_of_mem (List.mem_of_getElem? hw))))
        have m2 := hlt w.2 (List.mem_append.mpr (.inr (List.mem_map_of_mem (List.mem_of_getElem? hw))))
        rw [List.getElem?_set_ne (by omega), List.getElem?_set_ne (by omega)]
        exact ⟨kall.at_ _ _ (by simp) w1, kall.at_ _ _ (by simp) w2⟩
      · have hj2 : j = pa'.length := by
          have := (List.getElem?_eq_some_iff.mp hw).1
          simp at this; omega
        subst hj2
        rw [List.getElem?_concat_length] at hw
        cases hw
        rw [hl, hP] at hP'
        cases hP'
        simp only
        rw [List.getElem?_set_ne (by omega), List.getElem?_set_ne (by omega)]
        exact ⟨xE, yE⟩
    · intro z hz
      simp only [List.map_append, List.map_cons, List.map_nil, List.mem_append, List.mem_cons, List.not_mem_nil, or_false] at hz
      rw [List.length_set]
      rcases hz with (hz | rfl) | (hz | rfl)
      · have := hlt z (List.mem_append.mpr (.inl hz)); omega
      · omega
      · have := hlt z (List.mem_append.mpr (.inr hz)); omega
      · omega
    · have pm : ((pa' ++ [(MD.length, MB.length)]).map (·.1) ++ (pa' ++ [(MD.length, MB.length)]).map (·.2)).Perm (MD.length :: MB.length :: (pa'.map (·.1) ++ pa'.map (·.2))) := by
        rw [List.perm_iff_count]
        intro w
        simp [List.count_append, List.count_cons]
        omega
      rw [pm.nodup_iff, List.nodup_cons, List.nodup_cons]
      refine ⟨fun hc => ?_, fun hc => ?_, hnd⟩
      · rcases List.mem_cons.mp hc with hc | hc
        · omega
        · have := hlt _ hc; omega
      · have := hlt _ hc; omega
  rintro _ M2 g2 ⟨pa', rfl, hl', hpp, k2, hlt, hnd⟩
  have hm2 := k2.at_ _ _ (by simp) g0
  have T2 := TA.kp0 k2
  have la2 := mlt g2
  walk_at "ml"
  refine o_setD (kvs := toldK N a b ex) (k := .inr "places") hm2 rfl (by simp [toldK]; omega) ?_
  rw [show dput (toldK N a b ex) (.inr "places") (.ref MA.length) = toldK N MA.length b ex from put_tp hx]
  have nm2 : ∀ {i : Nat}, i ≠ m' → (M2.set m' (.dct false (toldK N MA.length b ex)))[i]? = M2[i]? := fun hi => List.getElem?_set_ne (Ne.symm hi)
  have mm3 := msame (o' := .dct false (toldK N MA.length b ex)) hm2
  have k3 : Kp [] M (M2.set m' (.dct false (toldK N MA.length b ex))) := (kA.trans k2).setNew hMm
  have T3 := hT.kp0 k3
  have g3 : (M2.set m' (.dct false (toldK N MA.length b ex)))[MA.length]? = some (.lst (pa'.map fun x => D.ref x.1)) := by rw [nm2 (by omega)]; exact g2
  have hpp3 : ∀ (j : Nat) (x : Nat × Nat) (P : Pl), pa'[j]? = some x → N.ps[j]? = some P → (M2.set m' (.dct false (toldK N MA.length b ex)))[x.1]? = some (.lst (plL P x.2)) ∧ (M2.set m' (.dct false (toldK N MA.length b ex)))[x.2]? = some (.lst (P.wants.map pD)) := fun j x P hx hP => by
    have m1 := hlt x.1 (List.mem_append.mpr (.inl (List.mem_map_of_mem (List.mem_of_getElem? hx))))
    have m2 := hlt x.2 (List.mem_append.mpr (.inr (List.mem_map_of_mem (List.mem_of_getElem? hx))))
    rw [nm2 (by omega), nm2 (by omega)]
    exact hpp j x P hx hP
  have l3 : (M2.set m' (.dct false (toldK N MA.length b ex))).length = M2.length := by simp
  generalize M2.set m' (.dct false (toldK N MA.length b ex)) = M3 at *
  clear nm2 hpp T2 hm2 g2
  walk_at "ml"
  with_reducible refine x_iseq ?_
  walk_at "ml"
  refine o_ixK T3.t.dct tk_r ?_
  refine iseqL T3.t.rd ?_
  refine lc_ix (fun i acc M' => ∃ rb' : List Nat, acc = rb'.map D.ref ∧ rb'.length = i ∧ (∀ (j : Nat) (x : Nat) (R : Rd), rb'[j]? = some x → N.rs[j]? = some R → M'[x]? = some (.lst (rdL R))) ∧ Kp [] M3 M' ∧ (∀ z ∈ rb', M3.length < z ∧ z < M'.length) ∧ rb'.Nodup) ?_ ?_ ?_ (by rw [List.length_map, T3.t.rz]; omega) mnew ⟨[], rfl, rfl, fun _ _ _ h => by simp at h, .app, by simp, by simp⟩
  · rintro i acc M' ⟨_, _, _, _, k', _⟩
    exact k'.at_ _ _ (by simp) T3.t.rd
  · rintro i d acc M4 K hd hacc ⟨rb', rfl, hl, hrr, k4, hlt4, hnd4⟩ hK
    rw [List.getElem?_map] at hd
    cases hq : rb[i]? with
    | none => rw [hq] at hd; cases hd
    | some x =>
    rw [hq] at hd
    cases hd
    have hi : i < N.rs.length := by rw [← T3.t.rz]; exact (List.getElem?_eq_some_iff.mp hq).1
    obtain ⟨R, hR⟩ : ∃ R, N.rs[i]? = some R := ⟨_, List.getElem?_eq_getElem hi⟩
    have px := (T3.t.kp0 k4).rr i x R hq hR
    have la := mlt hacc
    have l4 := k4.len
    walk_at "ml"
    have kB : Kp [] M4 (M4 ++ [O.lst (rdL R)]) := .app
    have gB : (M4 ++ [O.lst (rdL R)])[M4.length]? = some (.lst (rdL R)) := mnew
    have accB := kB.at_ _ _ (by simp) hacc
    have lB : (M4 ++ [O.lst (rdL R)]).length = M4.length + 1 := by simp
    show K _ (M4 ++ [O.lst (rdL R)])
    generalize M4 ++ [O.lst (rdL R)] = MB at *
    refine hK _ _ accB ⟨rb' ++ [M4.length], by simp, by simp [hl], ?_, (k4.trans kB).setNew (Nat.le_refl _), ?_, ?_⟩
    · intro j w R' hw hR'
      by_cases hj : j < rb'.length
      · rw [List.getElem?_append_left hj] at hw
        have w1 := hrr j w R' hw hR'
        have m1 := hlt4 w (List.mem_of_getElem? hw)
        rw [List.getElem?_set_ne (by omega)]
        exact kB.at_ _ _ (by simp) w1
      · have hj2 : j = rb'.length := by
          have := (List.getElem?_eq_some_iff.mp hw).1
          simp at this; omega
        subst hj2
        rw [List.getElem?_concat_length] at hw
        cases hw
        rw [hl, hR] at hR'
        cases hR'
        rw [List.getElem?_set_ne (by omega)]
        exact gB
    · intro z hz
      rw [List.length_set]
      simp only [List.mem_append, List.mem_cons, List.not_mem_nil, or_false] at hz
      rcases hz with hz | rfl
      · have := hlt4 z hz; omega
      · omega
    · rw [List.nodup_append]
      refine ⟨hnd4, by simp, fun u hu v hv e => ?_⟩
      simp at hv
      subst hv
      have := hlt4 u hu
      omega
  rintro _ M5 g5 ⟨rb', rfl, hl5, hrr, k5, hlt5, hnd5⟩
  have hm5 := k5.at_ _ _ (by simp) mm3
  have la5 := mlt g5
  walk_at "ml"
  refine o_setD (kvs := toldK N MA.length b ex) (k := .inr "roads") hm5 rfl (by simp [toldK]; omega) ?_
  rw [show dput (toldK N MA.length b ex) (.inr "roads") (.ref M3.length) = toldK N MA.length M3.length ex from put_tr hx]
  have nm5 : ∀ {i : Nat}, i ≠ m' → (M5.set m' (.dct false (toldK N MA.length M3.length ex)))[i]? = M5[i]? := fun hi => List.getElem?_set_ne (Ne.symm hi)
  have l5 := k5.len
  walk_at "ml"
  refine k _ m' MA.length M3.length pa' rb' ((k3.trans k5).setNew hMm) ⟨⟨msame hm5, ?_, ?_, by rw [hl', List.length_map, TA.t.pz], by rw [hl5, List.length_map, T3.t.rz], ?_, ?_⟩, by omega, by omega, ?_, ?_⟩ (by omega)
  · rw [nm5 (by omega)]; exact k5.at_ _ _ (by simp) g3
  · rw [nm5 (by omega)]; exact g5
  · intro i x P hx hP
    have m1 := hlt x.1 (List.mem_append.mpr (.inl (List.mem_map_of_mem (List.mem_of_getElem? hx))))
    have m2 := hlt x.2 (List.mem_append.mpr (.inr (List.mem_map_of_mem (List.mem_of_getElem? hx))))
    obtain ⟨w1, w2⟩ := hpp3 i x P hx hP
    rw [nm5 (by omega), nm5 (by omega)]
    exact ⟨k5.at_ _ _ (by simp) w1, k5.at_ _ _ (by simp) w2⟩
  · intro i x R hx hR
    have m1 := hlt5 x (List.mem_of_getElem? hx)
    rw [nm5 (by omega)]
    exact hrr i x R hx hR
  · intro z hz
    rcases List.mem_append.mp hz with hz | hz
    · have := hlt z hz; omega
    · have := hlt5 z hz; omega
  · rw [List.nodup_append]
    refine ⟨hnd, hnd5, fun u hu v hv e => ?_⟩
    have := hlt u hu
    have := hlt5 v hv
    omega
end Prf

namespace MV
theorem x_notV {ma : ME} {ρ : Ev} {M : Mem} {Q : DK} {X : XM} (h : ma ρ M (fun x M1 => match x with | .bl k => Q (.bl (!k)) M1 | _ => False) X) : mNotV ma ρ M Q X := h
end MV
namespace Prf
theorem l_eqN {M : Mem} {Q : DK} {n pp rr n2 pp2 rr2 : Nat} {N N2 : Nt} (g1 : NetM M n N pp rr) (g2 : NetM M n2 N2 pp2 rr2) (ok1 : NtOk N) (ok2 : NtOk N2) (k : ∀ M', Kp [] M M' → Q (.bl (decide (textN N = textN N2))) M') : oEqO ccs "Net" w_Net_UeqU (fun ds _ => ds) (.ref n) (.ref n2) M Q := by
  have ty : tyK (.ref n2) M = some (.c "Net") := by unfold tyK; simp only; rw [g2.ins]
  have ok : TyK.ok ccs (.c "Net") := by show ("Net" : Str) ∈ ccs; decide +kernel
  unfold oEqO
  dsimp only
  rw [g1.ins]
  refine ⟨rfl, ?_⟩
  rw [ty]
  refine ⟨ok, ?_⟩
  unfold w_Net_UeqU wOf
  rw [show startE N_Net_UeqU [.ref n, .ref n2] = [some (.ref n), some (.ref n2)] from rfl]
  unfold m_Net_UeqU
  walk_at "ml"
  unfold oIsiC
  dsimp only
  rw [ty]
  refine ⟨by decide +kernel, ok, ?_⟩
  rw [show TyK.is "Net" (.c "Net") = true from by decide +kernel]
  walk_at "ml"
  refine l_text_of g1 ok1 fun M1 k1 => ?_
  walk_at "ml"
  refine l_text_of (g2.kp k1 (by simp) (by simp) (by simp)) ok2 fun M2 k2 => ?_
  walk_at "ml"
  exact k M2 (k1.trans k2)
end Prf

namespace MV
theorem rot_get {α β : Type} {l : List α} {k : List β} (hz : l.length = k.length) {i : Nat} {x : α} {p : β} (hx : (l.drop 1 ++ l.take 1)[i]? = some x) (hp : (k.drop 1 ++ k.take 1)[i]? = some p) : ∃ j : Nat, l[j]? = some x ∧ k[j]? = some p := by
  by_cases h : i < l.length - 1
  · rw [List.getElem?_append_left (by simp; omega), List.getElem?_drop] at hx hp
    exact ⟨1 + i, hx, hp⟩
  · rw [List.getElem?_append_right (by simp; omega)] at hx hp
    simp only [List.length_drop] at hx hp
    rw [← hz] at hp
    rw [List.getElem?_take] at hx hp
    split at hx
    · rename_i hc
      rw [if_pos hc] at hp
      exact ⟨_, hx, hp⟩
    · cases hx
theorem rot_perm {α : Type} (l : List α) : (l.drop 1 ++ l.take 1).Perm l := by
  have h := List.perm_append_comm (l₁ := l.drop 1) (l₂ := l.take 1)
  rwa [List.take_append_drop] at h
theorem cut_toX {α : Type} {l : List α} : cutD l none (some ((1 : Nat) : Int)) = l.take 1 := by
  cases l with
  | nil => rfl
  | cons a l => exact Prf.cut_to (by simp)
theorem cut_fromX {α : Type} {l : List α} : cutD l (some ((1 : Nat) : Int)) none = l.drop 1 := by
  cases l with
  | nil => rfl
  | cons a l => exact Prf.cut_from (by simp)
theorem TM.rotP {M : Mem} {m a b x : Nat} {pa : List (Nat × Nat)} {rb : List Nat} {ex : List (Key × D)} {N : Nt} (h : TM M m N a b pa rb ex) (hx : M[x]? = some (.lst ((pa.drop 1 ++ pa.take 1).map fun z => D.ref z.1))) (hl : ∀ z ∈ toldAt m a b pa rb, z < x) : TM (M.set m (.dct false (toldK { N with ps := N.ps.drop 1 ++ N.ps.take 1 } x b ex))) m { N with ps := N.ps.drop 1 ++ N.ps.take 1 } x b (pa.drop 1 ++ pa.take 1) rb ex := by
  have ma := h.ma
  have ab := h.ab
  have lm := hl m (by simp [toldAt])
  have lb := hl b (by simp [toldAt])
  have lo : ∀ z ∈ pa.map (·.1) ++ pa.map (·.2) ++ rb, z < x := fun z hz => hl z (by simp only [toldAt, List.append_assoc, List.mem_append] at hz ⊢; exact .inr hz)
  have ne : ∀ {j : Nat}, j ≠ m → (M.set m (.dct false (toldK { N with ps := N.ps.drop 1 ++ N.ps.take 1 } x b ex)))[j]? = M[j]? := fun hj => List.getElem?_set_ne (Ne.symm hj)
  have P1 := (rot_perm pa).map (·.1)
  have P2 := (rot_perm pa).map (·.2)
  have PP := (P1.append P2).append (List.Perm.refl rb)
  refine ⟨⟨msame h.t.dct, ?_, ?_, by simp [h.t.pz], h.t.rz, ?_, ?_⟩, lm, ⟨by omega, by omega⟩, fun z hz => ?_, PP.nodup_iff.mpr h.nd⟩
  · rw [ne (by omega)]; exact hx
  · rw [ne (by omega)]; exact h.t.rd
  · intro i z q hz hq
    obtain ⟨j, e1, e2⟩ := rot_get h.t.pz hz hq
    obtain ⟨g1, g2⟩ := h.t.pp j z q e1 e2
    have o1 := h.ord z.1 (by simp only [List.mem_append]; exact .inl (.inl (List.mem_map_of_mem (List.mem_of_getElem? e1))))
    have o2 := h.ord z.2 (by simp only [List.mem_append]; exact .inl (.inr (List.mem_map_of_mem (List.mem_of_getElem? e1))))
    rw [ne (by omega), ne (by omega)]
    exact ⟨g1, g2⟩
  · intro i z q hz hq
    have o1 := h.ord z (List.mem_append.mpr (.inr (List.mem_of_getElem? hz)))
    rw [ne (by omega)]
    exact h.t.rr i z q hz hq
  · have hz' := PP.mem_iff.mp hz
    have o1 := h.ord z hz'
    have := lo z hz'
    omega
theorem TM.rotR {M : Mem} {m a b x : Nat} {pa : List (Nat × Nat)} {rb : List Nat} {ex : List (Key × D)} {N : Nt} (h : TM M m N a b pa rb ex) (hx : M[x]? = some (.lst ((rb.drop 1 ++ rb.take 1).map D.ref))) (hl : ∀ z ∈ toldAt m a b pa rb, z < x) : TM (M.set m (.dct false (toldK { N with rs := N.rs.drop 1 ++ N.rs.take 1 } a x ex))) m { N with rs := N.rs.drop 1 ++ N.rs.take 1 } a x pa (rb.drop 1 ++ rb.take 1) ex := by
  have ma := h.ma
  have ab := h.ab
  have lm := hl m (by simp [toldAt])
  have la := hl a (by simp [toldAt])
  have lo : ∀ z ∈ pa.map (·.1) ++ pa.map (·.2) ++ rb, z < x := fun z hz => hl z (by simp only [toldAt, List.append_assoc, List.mem_append] at hz ⊢; exact .inr hz)
  have ne : ∀ {j : Nat}, j ≠ m → (M.set m (.dct false (toldK { N with rs := N.rs.drop 1 ++ N.rs.take 1 } a x ex)))[j]? = M[j]? := fun hj => List.getElem?_set_ne (Ne.symm hj)
  have PP := (List.Perm.refl (pa.map (·.1) ++ pa.map (·.2))).append (rot_perm rb)
  refine ⟨⟨msame h.t.dct, ?_, ?_, h.t.pz, by simp [h.t.rz], ?_, ?_⟩, ma, ⟨by omega, by omega⟩, fun z hz => ?_, PP.nodup_iff.mpr h.nd⟩
  · rw [ne (by omega)]; exact h.t.pl
  · rw [ne (by omega)]; exact hx
  · intro j z q e1 e2
    obtain ⟨g1, g2⟩ := h.t.pp j z q e1 e2
    have o1 := h.ord z.1 (by simp only [List.mem_append]; exact .inl (.inl (List.mem_map_of_mem (List.mem_of_getElem? e1))))
    have o2 := h.ord z.2 (by simp only [List.mem_append]; exact .inl (.inr (List.mem_map_of_mem (List.mem_of_getElem? e1))))
    rw [ne (by omega), ne (by omega)]
    exact ⟨g1, g2⟩
  · intro i z q hz hq
    obtain ⟨j, e1, e2⟩ := rot_get h.t.rz hz hq
    have o1 := h.ord z (List.mem_append.mpr (.inr (List.mem_of_getElem? e1)))
    rw [ne (by omega)]
    exact h.t.rr j z q e1 e2
  · have hz' := PP.mem_iff.mp hz
    have o1 := h.ord z hz'
    have := lo z hz'
    omega
end MV
namespace Prf
local macro_rules | `(tactic| walk_at "no") => `(tactic| (walk_at "ml"; refine if_d (fun h => absurd h (by decide +kernel)) (fun _ => ?_)))
local macro_rules | `(tactic| walk_at "ya") => `(tactic| (walk_at "ml"; refine if_d (fun _ => ?_) (fun h => absurd rfl h)))
local macro_rules | `(tactic| walk_at "n8") => `(tactic| (walk_at "ml"; refine if_d (fun h => by exfalso; omega) (fun _ => ?_)))
local macro_rules | `(tactic| walk_at "y8") => `(tactic| (walk_at "ml"; refine if_d (fun _ => ?_) (fun h => by exfalso; omega)))
theorem rm_big {nm : Str} {b : Int × Int} : rRm nm b (some (90, 0)) = none := or_no2 (by decide +kernel) (by
  show rRoom nm (90, 0) b = none
  unfold rRoom
  rw [if_neg]
  simp only [sinksB, Bool.or_eq_true, decide_eq_true_eq, not_or]
  omega)
theorem room_nm {nm nm2 : Str} {m b : Int × Int} (h : rRoom nm m b = none) : rRoom nm2 m b = none := by
  unfold rRoom at h ⊢
  split at h
  · cases h
  · rename_i hc
    rw [if_neg hc]
theorem oroom_nm {nm nm2 : Str} {o : Option (Int × Int)} {b : Int × Int} (h : oRef (fun m => rRoom nm m b) o = none) : oRef (fun m => rRoom nm2 m b) o = none := by
  cases o with
  | none => rfl
  | some m => exact room_nm (nm := nm) h
theorem rung_nm {nm nm2 : Str} {b : Int × Int} {g : Rung} (h : rRung 1000000 nm b g = none) : rRung 1000000 nm2 b g = none := or_no2 (or_no h).1 (or_no2 (or_no (or_no h).2).1 (oroom_nm (nm := nm) (or_no (or_no h).2).2))
theorem ris_nm {nm nm2 : Str} {t : Int × Int} : ∀ {rs : List Rung}, rRis nm t rs = none → rRis nm2 t rs = none
  | [], _ => rfl
  | [_], _ => rfl
  | a :: b :: l, h => by
    unfold rRis at h ⊢
    split at h
    · cases h
    · rename_i hc
      rw [if_neg hc]
      exact ris_nm h
theorem z8v : NmV ("zzzzzzzz" : Str) := ⟨⟨by decide +kernel, by decide +kernel⟩, by decide +kernel⟩
theorem mv00 : Mv (0, 0) := ⟨by decide, by decide⟩
theorem lchanged {M : Mem} {Q : DK} {X : XM} {p q m a b : Nat} {pa : List (Nat × Nat)} {rb : List Nat} {ex : List (Key × D)} {N : Nt} {way : Nat} (hw : way < 13) (F : Feed M p q) (pm : p < m ∧ q < m) (hT : TM M m N a b pa rb ex) (hx : ExOk ex) (hb : BareN N) (h1 : 1 ≤ N.ps.length)
    (k : ∀ N' m' a' b' pa' rb' M', VN N' → Kp [p] M M' → M.length ≤ m' → Feed M' p q → TM M' m' N' a' b' pa' rb' ex → Q (.ref m') M') : w_Lchanged [.ref p, .ref m, .int way] M Q X := by
  have v := hb.vn
  have ok := hb.ntok
  have hpl := hb.pl
  have hrl := hb.rl
  unfold w_Lchanged wOf
  rw [show startE N_Lchanged [.ref p, .ref m, .int way] = [some (.ref p), some (.ref m), some (.int way), none, none, none, none, none] from rfl]
  unfold m_Lchanged
  walk_at "ml"
  refine lcopy hT hx.2.1 hx.2.2 (by omega) (by omega) fun M1 m1 a1 b1 pa1 rb1 k1 T1 lm1 => ?_
  have F1 := F.kp k1 (by simp) (by simp)
  have lF := F.lt
  walk_at "ml"
  refine o_ixK T1.t.dct tk_p ?_
  walk_at "ml"
  refine o_ixK T1.t.dct tk_r ?_
  have ma1 := T1.ma
  walk_at "ml"
  refine lpick F1 (by omega) T1.t.pl (by simp [T1.t.pz]; omega) (by simp [T1.t.pz]; omega) fun z M2 hz k2 F2 => ?_
  obtain ⟨⟨x, y⟩, hxm, rfl⟩ := List.mem_map.mp hz
  obtain ⟨i, hi⟩ := List.getElem?_of_mem hxm
  have T2 := T1.kp k2 (by simp; omega)
  have kM2 : Kp [p] M M2 := (k1.weak (by simp)).trans k2
  have l12 := k2.len
  have lF2 := F2.lt
  have hil : i < N.ps.length := by rw [← T2.t.pz]; exact (List.getElem?_eq_some_iff.mp hi).1
  obtain ⟨P, hP⟩ : ∃ P, N.ps[i]? = some P := ⟨_, List.getElem?_eq_getElem hil⟩
  obtain ⟨px, py⟩ := T2.t.pp i (x, y) P hi hP
  have gP := hb.ps P (List.mem_of_getElem? hP)
  have oP := ok.ps P (List.mem_of_getElem? hP)
  have vP := v.ps P (List.mem_of_getElem? hP)
  clear T1 k1 k2 F1 hT hz F
  unfold plL at px
  dsimp only at px py
  have hwy : way = 0 ∨ way = 1 ∨ way = 2 ∨ way = 3 ∨ way = 4 ∨ way = 5 ∨ way = 6 ∨ way = 7 ∨ 8 ≤ way := by omega
  have fin : ∀ N' M', VN N' → Kp [p] M M' → Feed M' p q → TM M' m1 N' a1 b1 pa1 rb1 ex → Q (.ref m1) M' := fun N' M' h1 h2 h3 h4 => k N' m1 a1 b1 pa1 rb1 M' h1 h2 lm1 h3 h4
  have lk : ((toldK N a1 b1 ex).length) < 16000000 := by simp [toldK]; have := hx.2.2; omega
  rcases hwy with rfl | rfl | rfl | rfl | rfl | rfl | rfl | rfl | h8
  · walk_at "ya"
    walk_at "ml"
    refine o_ixK T2.t.dct tk_s ?_
    walk_at "ml"
    refine o_ixK T2.t.dct tk_s ?_
    walk_at "ml"
    refine o_setD T2.t.dct (k := .inr "s") rfl lk ?_
    rw [show D.tup [.int N.s.1, .int N.s.1] = pD (N.s.1, N.s.1) from rfl, put_ts, NoDial.s hx.1]
    have f := fin _ _ v.low_s (kM2.setNew lm1) (F2.kp (S := [m1]) (.set (by simp)) (by simp; omega) (by simp; omega)) (T2.setK (s := (N.s.1, N.s.1)) (t := N.t))
    repeat walk_at "no"
    walk_at "ml"
    exact f
  · repeat walk_at "no"
    walk_at "ya"
    walk_at "ml"
    refine o_ixK T2.t.dct tk_t ?_
    walk_at "ml"
    refine o_ixK T2.t.dct tk_t ?_
    walk_at "ml"
    refine o_setD T2.t.dct (k := .inr "t") rfl lk ?_
    rw [show D.tup [.int N.t.1, .int N.t.1] = pD (N.t.1, N.t.1) from rfl, put_tt, NoDial.t hx.1]
    have f := fin _ _ v.low_t (kM2.setNew lm1) (F2.kp (S := [m1]) (.set (by simp)) (by simp; omega) (by simp; omega)) (T2.setK (s := N.s) (t := (N.t.1, N.t.1)))
    repeat walk_at "no"
    walk_at "ml"
    exact f
  · repeat walk_at "no"
    walk_at "ya"
    walk_at "ml"
    refine ldraw F2 (by decide) (by decide) fun d M3 d0 d1 k3 F3 => ?_
    walk_at "ml"
    refine ldraw F3 (by decide) (by decide) fun e M4 e0 e1 k4 F4 => ?_
    have k34 := k3.trans k4
    have T4 := T2.kp k34 (by simp; omega)
    obtain ⟨px4, py4⟩ := T4.t.pp i (x, y) P hi hP
    unfold plL at px4
    dsimp only at px4 py4
    walk_at "ml"
    have hwl : P.wants.length = N.h.toNat := v.wl P (List.mem_of_getElem? hP)
    have hh := ok.h
    rw [List.length_map]
    refine ldraw F4 (by omega) (by omega) fun f M5 f0 f1 k5 F5 => ?_
    have T5 := T4.kp k5 (by simp; omega)
    obtain ⟨px5, py5⟩ := T5.t.pp i (x, y) P hi hP
    dsimp only at px5 py5
    refine o_setL py5 (j := f.toNat) (ixN_i f0 (by simp; omega)) ?_
    have ew : (P.wants.map pD).set f.toNat (.tup [.int d, .int e]) = (P.wants.set f.toNat (d, e)).map pD := by rw [List.map_set]; rfl
    rw [ew]
    have ly := T5.lt y (by simp only [toldAt, List.append_assoc, List.mem_append]; exact .inr (.inr (.inl (List.mem_map.mpr ⟨_, List.mem_of_getElem? hi, rfl⟩))))
    have oy := T5.ord y (by simp only [List.mem_append]; exact .inl (.inr (List.mem_map.mpr ⟨_, List.mem_of_getElem? hi, rfl⟩)))
    have f := fin _ _ (v.setP (p' := { P with wants := P.wants.set f.toNat (d, e) }) hP rfl (by simp) (fun w hw => by
      rcases List.mem_or_eq_of_mem_set hw with z | rfl
      · exact oP.wants w z
      · exact ⟨by simp only; omega, by simp only; omega⟩) oP.room oP.kept oP.price vP.1 vP.2.1 vP.2.2) ((kM2.trans (k34.trans k5)).setNew (by omega)) (F5.kp (S := [y]) (.set (by simp)) (by simp; omega) (by simp; omega)) (T5.setW hi hP)
    repeat walk_at "no"
    walk_at "ml"
    exact f
  · repeat walk_at "no"
    walk_at "ya"
    walk_at "ml"
    have A3 := T2.kp0 (.app (l := [O.lst [.non, .tup [.int 90, .int 0]]]))
    refine lpick (F2.kp (S := []) (.app (l := [O.lst [.non, .tup [.int 90, .int 0]]])) (by simp) (by simp)) (by omega) mnew (by simp) (by simp) fun z M3 hz k3 F3 => ?_
    have k34 := (Kp.app (S := [p]) (M := M2) (l := [O.lst [.non, .tup [.int 90, .int 0]]])).trans k3
    have T4 := A3.kp k3 (by simp; omega)
    obtain ⟨px4, py4⟩ := T4.t.pp i (x, y) P hi hP
    unfold plL at px4
    dsimp only at px4 py4
    obtain ⟨rm, rfl, hrm⟩ : ∃ rm : Option (Int × Int), z = omD rm ∧ (rm = none ∨ rm = some (90, 0)) := by
      simp only [List.mem_cons, List.not_mem_nil, or_false] at hz
      rcases hz with rfl | rfl
      · exact ⟨none, rfl, .inl rfl⟩
      · exact ⟨some (90, 0), rfl, .inr rfl⟩
    walk_at "ml"
    refine o_setL px4 (j := 1) rfl ?_
    rw [show [D.str P.nm, omD P.room, omD P.kept, pD P.price, .ref y].set 1 (omD rm) = plL { P with room := rm } y from rfl]
    have lx := T4.lt x (by simp only [toldAt, List.append_assoc, List.mem_append]; exact .inr (.inl (List.mem_map.mpr ⟨_, List.mem_of_getElem? hi, rfl⟩)))
    have ox := T4.ord x (by simp only [List.mem_append]; exact .inl (.inl (List.mem_map.mpr ⟨_, List.mem_of_getElem? hi, rfl⟩)))
    have f := fin _ _ (v.setP (p' := { P with room := rm }) hP rfl rfl oP.wants (by rcases hrm with rfl | rfl <;> intro m e <;> cases e <;> exact ⟨by decide, by decide⟩) oP.kept oP.price (by rcases hrm with rfl | rfl; exact rfl; exact rm_big) vP.2.1 vP.2.2) ((kM2.trans k34).setNew (by omega)) (F3.kp (S := [x]) (.set (by simp)) (by simp; omega) (by simp; omega)) (T4.setX hi hP rfl)
    repeat walk_at "no"
    walk_at "ml"
    exact f
  · repeat walk_at "no"
    walk_at "ya"
    walk_at "ml"
    have A3 := T2.kp0 (.app (l := [O.lst [.tup [.int 0, .int 0], .tup [.int 90, .int 0]]]))
    refine lpick (F2.kp (S := []) (.app (l := [O.lst [.tup [.int 0, .int 0], .tup [.int 90, .int 0]]])) (by simp) (by simp)) (by omega) mnew (by simp) (by simp) fun z M3 hz k3 F3 => ?_
    have k34 := (Kp.app (S := [p]) (M := M2) (l := [O.lst [.tup [.int 0, .int 0], .tup [.int 90, .int 0]]])).trans k3
    have T4 := A3.kp k3 (by simp; omega)
    obtain ⟨px4, py4⟩ := T4.t.pp i (x, y) P hi hP
    unfold plL at px4
    dsimp only at px4 py4
    obtain ⟨rm, rfl, hrm⟩ : ∃ rm : Option (Int × Int), z = omD rm ∧ (rm = some (0, 0) ∨ rm = some (90, 0)) := by
      simp only [List.mem_cons, List.not_mem_nil, or_false] at hz
      rcases hz with rfl | rfl
      · exact ⟨some (0, 0), rfl, .inl rfl⟩
      · exact ⟨some (90, 0), rfl, .inr rfl⟩
    walk_at "ml"
    refine o_setL px4 (j := 2) rfl ?_
    rw [show [D.str P.nm, omD P.room, omD P.kept, pD P.price, .ref y].set 2 (omD rm) = plL { P with kept := rm } y from rfl]
    have lx := T4.lt x (by simp only [toldAt, List.append_assoc, List.mem_append]; exact .inr (.inl (List.mem_map.mpr ⟨_, List.mem_of_getElem? hi, rfl⟩)))
    have ox := T4.ord x (by simp only [List.mem_append]; exact .inl (.inl (List.mem_map.mpr ⟨_, List.mem_of_getElem? hi, rfl⟩)))
    have T5 := T4.setX (p' := { P with kept := rm }) hi hP rfl
    have px5 := msame (o' := .lst (plL { P with kept := rm } y)) px4
    have kM5 : Kp [p] M (M3.set x (.lst (plL { P with kept := rm } y))) := (kM2.trans k34).setNew (by omega)
    have F5 : Feed (M3.set x (.lst (plL { P with kept := rm } y))) p q := F3.kp (S := [x]) (.set (by simp)) (by simp; omega) (by simp; omega)
    generalize M3.set x (.lst (plL { P with kept := rm } y)) = M5 at *
    unfold plL at px5
    dsimp only at px5
    walk_at "ml"
    refine o_setL px5 (j := 3) rfl ?_
    rw [show [D.str P.nm, omD P.room, omD rm, pD P.price, .ref y].set 3 (.tup [.int 0, .int 0]) = plL { P with kept := rm, price := (0, 0) } y from rfl]
    have hP5 : (N.ps.set i { P with kept := rm })[i]? = some { P with kept := rm } := List.getElem?_set_self hil
    have T6 := T5.setX (p' := { P with kept := rm, price := (0, 0) }) hi hP5 rfl
    rw [List.set_set] at T6
    have f := fin _ _ (v.setP (p' := { P with kept := rm, price := (0, 0) }) hP rfl rfl oP.wants oP.room (by rcases hrm with rfl | rfl <;> intro m e <;> cases e <;> exact ⟨by decide, by decide⟩) mv00 vP.1 (by
      refine or_no2 ?_ (or_no2 (show rMove 1000000 (0, 0) = none by decide +kernel) ?_)
      · rcases hrm with rfl | rfl
        · show oRef (rMove 1000000) (some (0, 0)) = none
          decide +kernel
        · show oRef (rMove 1000000) (some (90, 0)) = none
          decide +kernel
      · rcases hrm with rfl | rfl
        · show rRoom P.nm (0, 0) N.s = none
          unfold rRoom
          rw [if_neg]
          simp only [sinksB, Bool.or_eq_true, decide_eq_true_eq, not_or]
          omega
        · exact (or_no (rm_big (nm := P.nm) (b := N.s))).2) fun _ => rfl) (kM5.setNew (by omega)) (F5.kp (S := [x]) (.set (by simp)) (by simp; omega) (by simp; omega)) T6
    repeat walk_at "no"
    walk_at "ml"
    exact f
  · repeat walk_at "no"
    walk_at "ya"
    obtain ⟨px4, py4⟩ := T2.t.pp i (x, y) P hi hP
    unfold plL at px4
    dsimp only at px4 py4
    walk_at "ml"
    refine ne_om (m := (0, 0)) ?_
    refine if_n (fun hc => ?_) (fun _ => ?_)
    · walk_at "ml"
      refine o_setL px4 (j := 3) rfl ?_
      rw [show [D.str P.nm, omD P.room, omD P.kept, pD P.price, .ref y].set 3 (.tup [.int 5, .int 5]) = plL { P with price := (5, 5) } y from rfl]
      have lx := T2.lt x (by simp only [toldAt, List.append_assoc, List.mem_append]; exact .inr (.inl (List.mem_map.mpr ⟨_, List.mem_of_getElem? hi, rfl⟩)))
      have ox := T2.ord x (by simp only [List.mem_append]; exact .inl (.inl (List.mem_map.mpr ⟨_, List.mem_of_getElem? hi, rfl⟩)))
      have f := fin _ _ (v.setP (p' := { P with price := (5, 5) }) hP rfl rfl oP.wants oP.room oP.kept ⟨by show (5 : Int).natAbs ≤ 1000000; decide, by show (5 : Int).natAbs ≤ 1000000; decide⟩ vP.1 (or_no2 (or_no vP.2.1).1 (or_no2 (show rMove 1000000 (5, 5) = none by decide +kernel) (or_no (or_no vP.2.1).2).2)) fun e => absurd e hc) (kM2.setNew (by omega)) (F2.kp (S := [x]) (.set (by simp)) (by simp; omega) (by simp; omega)) (T2.setX hi hP rfl)
      repeat walk_at "no"
      walk_at "ml"
      exact f
    · have f := fin _ _ v kM2 F2 T2
      repeat walk_at "no"
      walk_at "ml"
      exact f
  · repeat walk_at "no"
    walk_at "ya"
    have hlt := T2.lt
    have h0 := T2.t.pl
    walk_at "ml"
    refine o_slL h0 ?_
    rw [show (1 : Int) = ((1 : Nat) : Int) from rfl, cut_from (by simp [T2.t.pz]; omega)]
    have kA : Kp [p] M2 (M2 ++ [O.lst ((pa1.map fun x => D.ref x.1).drop 1)]) := .app
    have gA : (M2 ++ [O.lst ((pa1.map fun x => D.ref x.1).drop 1)])[M2.length]? = some (.lst ((pa1.map fun x => D.ref x.1).drop 1)) := mnew
    have TA := T2.kp0 (.app (l := [O.lst ((pa1.map fun x => D.ref x.1).drop 1)]))
    have FA : Feed (M2 ++ [O.lst ((pa1.map fun x => D.ref x.1).drop 1)]) p q := F2.kp (S := []) .app (by simp) (by simp)
    have lA : (M2 ++ [O.lst ((pa1.map fun x => D.ref x.1).drop 1)]).length = M2.length + 1 := by simp
    generalize M2 ++ [O.lst ((pa1.map fun x => D.ref x.1).drop 1)] = MA at *
    walk_at "ml"
    refine o_slL TA.t.pl ?_
    rw [cut_to (by simp [T2.t.pz]; omega)]
    have kB : Kp [p] MA (MA ++ [O.lst ((pa1.map fun x => D.ref x.1).take 1)]) := .app
    have gB : (MA ++ [O.lst ((pa1.map fun x => D.ref x.1).take 1)])[MA.length]? = some (.lst ((pa1.map fun x => D.ref x.1).take 1)) := mnew
    have gA' := (Kp.app (S := []) (l := [O.lst ((pa1.map fun x => D.ref x.1).take 1)])).at_ _ _ (by simp) gA
    have TB := TA.kp0 (.app (l := [O.lst ((pa1.map fun x => D.ref x.1).take 1)]))
    have FB : Feed (MA ++ [O.lst ((pa1.map fun x => D.ref x.1).take 1)]) p q := FA.kp (S := []) .app (by simp) (by simp)
    have lB : (MA ++ [O.lst ((pa1.map fun x => D.ref x.1).take 1)]).length = MA.length + 1 := by simp
    generalize MA ++ [O.lst ((pa1.map fun x => D.ref x.1).take 1)] = MB at *
    refine o_addL gA' gB (by simp [T2.t.pz]; omega) ?_
    rw [← List.map_drop, ← List.map_take, ← List.map_append]
    have kC : Kp [p] MB (MB ++ [O.lst ((pa1.drop 1 ++ pa1.take 1).map fun x => D.ref x.1)]) := .app
    have gC : (MB ++ [O.lst ((pa1.drop 1 ++ pa1.take 1).map fun x => D.ref x.1)])[MB.length]? = some (.lst ((pa1.drop 1 ++ pa1.take 1).map fun x => D.ref x.1)) := mnew
    have TC := TB.kp0 (.app (l := [O.lst ((pa1.drop 1 ++ pa1.take 1).map fun x => D.ref x.1)]))
    have FC : Feed (MB ++ [O.lst ((pa1.drop 1 ++ pa1.take 1).map fun x => D.ref x.1)]) p q := FB.kp (S := []) .app (by simp) (by simp)
    generalize MB ++ [O.lst ((pa1.drop 1 ++ pa1.take 1).map fun x => D.ref x.1)] = MC at *
    walk_at "ml"
    refine o_setD TC.t.dct (k := .inr "places") rfl lk ?_
    rw [show dput (toldK N a1 b1 ex) (.inr "places") (.ref MB.length) = toldK N MB.length b1 ex from put_tp hx.2.1]
    have f := k _ m1 MB.length b1 _ _ _ (v.perm (rot_perm N.ps) (List.Perm.refl _)) ((kM2.trans (kA.trans (kB.trans kC))).setNew lm1) lm1 (FC.kp (S := [m1]) (.set (by simp)) (by simp; omega) (by simp; omega)) (TC.rotP gC fun z hz => by have := hlt z hz; omega)
    repeat walk_at "no"
    walk_at "ml"
    exact f
  · repeat walk_at "no"
    walk_at "ya"
    have hlt := T2.lt
    have h0 := T2.t.rd
    walk_at "ml"
    refine o_slL h0 ?_
    rw [show (1 : Int) = ((1 : Nat) : Int) from rfl, cut_fromX]
    have kA : Kp [p] M2 (M2 ++ [O.lst ((rb1.map D.ref).drop 1)]) := .app
    have gA : (M2 ++ [O.lst ((rb1.map D.ref).drop 1)])[M2.length]? = some (.lst ((rb1.map D.ref).drop 1)) := mnew
    have TA := T2.kp0 (.app (l := [O.lst ((rb1.map D.ref).drop 1)]))
    have FA : Feed (M2 ++ [O.lst ((rb1.map D.ref).drop 1)]) p q := F2.kp (S := []) .app (by simp) (by simp)
    have lA : (M2 ++ [O.lst ((rb1.map D.ref).drop 1)]).length = M2.length + 1 := by simp
    generalize M2 ++ [O.lst ((rb1.map D.ref).drop 1)] = MA at *
    walk_at "ml"
    refine o_slL TA.t.rd ?_
    rw [cut_toX]
    have kB : Kp [p] MA (MA ++ [O.lst ((rb1.map D.ref).take 1)]) := .app
    have gB : (MA ++ [O.lst ((rb1.map D.ref).take 1)])[MA.length]? = some (.lst ((rb1.map D.ref).take 1)) := mnew
    have gA' := (Kp.app (S := []) (l := [O.lst ((rb1.map D.ref).take 1)])).at_ _ _ (by simp) gA
    have TB := TA.kp0 (.app (l := [O.lst ((rb1.map D.ref).take 1)]))
    have FB : Feed (MA ++ [O.lst ((rb1.map D.ref).take 1)]) p q := FA.kp (S := []) .app (by simp) (by simp)
    have lB : (MA ++ [O.lst ((rb1.map D.ref).take 1)]).length = MA.length + 1 := by simp
    generalize MA ++ [O.lst ((rb1.map D.ref).take 1)] = MB at *
    refine o_addL gA' gB (by simp [T2.t.rz]; omega) ?_
    rw [← List.map_drop, ← List.map_take, ← List.map_append]
    have kC : Kp [p] MB (MB ++ [O.lst ((rb1.drop 1 ++ rb1.take 1).map D.ref)]) := .app
    have gC : (MB ++ [O.lst ((rb1.drop 1 ++ rb1.take 1).map D.ref)])[MB.length]? = some (.lst ((rb1.drop 1 ++ rb1.take 1).map D.ref)) := mnew
    have TC := TB.kp0 (.app (l := [O.lst ((rb1.drop 1 ++ rb1.take 1).map D.ref)]))
    have FC : Feed (MB ++ [O.lst ((rb1.drop 1 ++ rb1.take 1).map D.ref)]) p q := FB.kp (S := []) .app (by simp) (by simp)
    generalize MB ++ [O.lst ((rb1.drop 1 ++ rb1.take 1).map D.ref)] = MC at *
    walk_at "ml"
    refine o_setD TC.t.dct (k := .inr "roads") rfl lk ?_
    rw [show dput (toldK N a1 b1 ex) (.inr "roads") (.ref MB.length) = toldK N a1 MB.length ex from put_tr hx.2.1]
    have f := k _ m1 a1 MB.length _ _ _ (v.perm (List.Perm.refl _) (rot_perm N.rs)) ((kM2.trans (kA.trans (kB.trans kC))).setNew lm1) lm1 (FC.kp (S := [m1]) (.set (by simp)) (by simp; omega) (by simp; omega)) (TC.rotR gC fun z hz => by have := hlt z hz; omega)
    repeat walk_at "no"
    walk_at "ml"
    exact f
  · iterate 8 walk_at "n8"
    walk_at "y8"
    walk_at "ml"
    refine o_truL T2.t.rd ?_
    cases hrb : rb1 with
    | nil =>
      have f := fin _ _ v kM2 F2 T2
      rw [show (!(List.map D.ref ([] : List Nat)).isEmpty) = false from rfl]
      refine if_f ?_
      walk_at "ml"
      exact f
    | cons z0 zs0 =>
    rw [show (!(List.map D.ref (z0 :: zs0)).isEmpty) = true from rfl]
    refine if_t ?_
    have hl0 : 0 < rb1.length := by rw [hrb]; simp
    walk_at "ml"
    refine lpick F2 (by have := T2.ab; omega) T2.t.rd (by simpa using hl0) (by simp [T2.t.rz]; omega) fun z M3 hz k3 F3 => ?_
    obtain ⟨x3, hxm3, rfl⟩ := List.mem_map.mp hz
    obtain ⟨j, hj⟩ := List.getElem?_of_mem hxm3
    have T3 := T2.kp k3 (by simp; omega)
    have kM3 : Kp [p] M M3 := kM2.trans k3
    have hjl : j < N.rs.length := by rw [← T2.t.rz]; exact (List.getElem?_eq_some_iff.mp hj).1
    obtain ⟨R, hR⟩ : ∃ R, N.rs[j]? = some R := ⟨_, List.getElem?_eq_getElem hjl⟩
    have px3 := T3.t.rr j x3 R hj hR
    have gR := hb.rs R (List.mem_of_getElem? hR)
    have oR := ok.rs R (List.mem_of_getElem? hR)
    obtain ⟨v1, v2, v3⟩ := v.rs R (List.mem_of_getElem? hR)
    obtain ⟨s1, s2, s3, s4⟩ := setroad_parts.mp v3
    obtain ⟨r1, r2, r3, r4⟩ := rungs_parts.mp s4
    unfold rdL at px3
    have lx := T3.lt x3 (by simp only [toldAt, List.append_assoc, List.mem_append]; exact .inr (.inr (.inr hxm3)))
    have ox := T3.ord x3 (List.mem_append.mpr (.inr hxm3))
    have fin3 : ∀ (R' : Rd), VN { N with rs := N.rs.set j R' } → Q (.ref m1) (M3.set x3 (.lst (rdL R'))) := fun R' hv => fin _ _ hv (kM3.setNew (by omega)) (F3.kp (S := [x3]) (.set (by simp)) (by simp; omega) (by simp; omega)) (T3.setRd hj hR)
    have hwy : way = 8 ∨ way = 9 ∨ way = 10 ∨ way = 11 ∨ way = 12 := by omega
    rcases hwy with rfl | rfl | rfl | rfl | rfl
    · walk_at "ya"
      walk_at "ml"
      refine o_setL px3 (j := 3) rfl ?_
      have f := fin3 { R with takes := R.takes + 1 } (v.setR hR (.inl rfl) ⟨oR.nm, oR.st, oR.en, ⟨by have := oR.takes; simp only; omega, by have := gR.takes; simp only; omega⟩, oR.floor, oR.rungs, oR.rl⟩ v1 v2 (setroad_parts.mpr ⟨⟨by have := oR.takes; simp only; omega, by have := gR.takes; simp only; omega⟩, s2, s3, s4⟩))
      repeat walk_at "no"
      walk_at "ml"
      exact f
    · repeat walk_at "no"
      walk_at "ya"
      walk_at "ml"
      refine o_setL px3 (j := 4) rfl ?_
      have f := fin3 { R with floor := (90, 0) } (v.setR hR (.inl rfl) ⟨oR.nm, oR.st, oR.en, oR.takes, ⟨by show (90 : Int).natAbs ≤ 1000000; decide, by show (0 : Int).natAbs ≤ 1000000; decide⟩, oR.rungs, oR.rl⟩ v1 v2 (setroad_parts.mpr ⟨s1, show rMove 1000000 (90, 0) = none by decide +kernel, (or_no (rm_big (nm := R.nm) (b := N.s))).2, s4⟩))
      repeat walk_at "no"
      walk_at "ml"
      exact f
    · repeat walk_at "no"
      walk_at "ya"
      walk_at "ml"
      obtain ⟨g0, gs, eg⟩ : ∃ g gs, R.rungs = g :: gs := by
        cases e : R.rungs with
        | nil => rw [e] at r1; simp at r1
        | cons g gs => exact ⟨g, gs, rfl⟩
      rw [show (some (1 : Int)) = some ((1 : Nat) : Int) from rfl, cut_toX, ← List.map_take, eg]
      refine o_setL px3 (j := 5) rfl ?_
      have f := fin3 { R with rungs := [g0] } (v.setR hR (.inl rfl) ⟨oR.nm, oR.st, oR.en, oR.takes, oR.floor, fun g hg => oR.rungs g (by rw [eg]; simp at hg; simp [hg]), by simp⟩ v1 v2 (setroad_parts.mpr ⟨s1, s2, s3, rungs_parts.mpr ⟨⟨by simp, by simp⟩, by simp, fun g hg => r3 g (by rw [eg]; simp at hg; simp [hg]), rfl⟩⟩))
      repeat walk_at "no"
      walk_at "ml"
      exact f
    · repeat walk_at "no"
      walk_at "ya"
      obtain ⟨P0, hP0⟩ : ∃ P, N.ps[0]? = some P := ⟨_, List.getElem?_eq_getElem (by omega)⟩
      obtain ⟨⟨x0, y0⟩, hx0⟩ : ∃ z, pa1[0]? = some z := ⟨_, List.getElem?_eq_getElem (by rw [T2.t.pz]; omega)⟩
      obtain ⟨g0, -⟩ := T3.t.pp 0 (x0, y0) P0 hx0 hP0
      unfold plL at g0
      dsimp only at g0
      have hpl3 := T3.t.pl
      have ea : atI (pa1.map fun x => D.ref x.1) 0 = some (.ref x0) := by rw [atI_0, List.getElem?_map, hx0]; rfl
      walk_at "ml"
      refine o_ixL hpl3 ea ?_
      walk_at "ml"
      refine o_setL px3 (j := 1) rfl ?_
      have f := fin3 { R with st := P0.nm } (v.setR hR (.inl rfl) ⟨oR.nm, (ok.ps P0 (List.mem_of_getElem? hP0)).nm, oR.en, oR.takes, oR.floor, oR.rungs, oR.rl⟩ (List.mem_map_of_mem (List.mem_of_getElem? hP0)) v2 (setroad_parts.mpr ⟨s1, s2, s3, s4⟩))
      repeat walk_at "no"
      walk_at "ml"
      exact f
    · repeat walk_at "no"
      walk_at "ya"
      walk_at "ml"
      refine o_setL px3 (j := 0) rfl ?_
      have f := fin3 { R with nm := "zzzzzzzz" } (v.setR hR (.inr ⟨z8v, fun hc => (hb.nm _ hc).nz rfl⟩) ⟨z8v.asc, oR.st, oR.en, oR.takes, oR.floor, oR.rungs, oR.rl⟩ v1 v2 (setroad_parts.mpr ⟨s1, s2, room_nm s3, rungs_parts.mpr ⟨r1, r2, fun g hg => rung_nm (r3 g hg), ris_nm r4⟩⟩))
      walk_at "ml"
      exact f
end Prf

namespace MV
theorem TM.setH {M : Mem} {m a b : Nat} {pa : List (Nat × Nat)} {rb : List Nat} {ex : List (Key × D)} {N : Nt} {h' : Int} (h : TM M m N a b pa rb ex) : TM (M.set m (.dct false (toldK { N with h := h' } a b ex))) m { N with h := h' } a b pa rb ex := by
  have ma := h.ma
  have ab := h.ab
  have ne : ∀ {j : Nat}, j ≠ m → (M.set m (.dct false (toldK { N with h := h' } a b ex)))[j]? = M[j]? := fun hj => List.getElem?_set_ne (Ne.symm hj)
  refine ⟨⟨msame h.t.dct, ?_, ?_, h.t.pz, h.t.rz, ?_, ?_⟩, ma, ab, h.ord, h.nd⟩
  · rw [ne (by omega)]; exact h.t.pl
  · rw [ne (by omega)]; exact h.t.rd
  · intro j z p hz hp
    obtain ⟨g1, g2⟩ := h.t.pp j z p hz hp
    have hm := List.mem_of_getElem? hz
    have o1 := h.ord z.1 (by simp only [List.mem_append]; exact .inl (.inl (List.mem_map_of_mem hm)))
    have o2 := h.ord z.2 (by simp only [List.mem_append]; exact .inl (.inr (List.mem_map_of_mem hm)))
    rw [ne (by omega), ne (by omega)]
    exact ⟨g1, g2⟩
  · intro j z r hz hr
    have o1 := h.ord z (by simp only [List.mem_append]; exact .inr (List.mem_of_getElem? hz))
    rw [ne (by omega)]
    exact h.t.rr j z r hz hr
/-- a place's wants told in a new list -/
theorem TM.setY {M : Mem} {m a b i x y y' : Nat} {pa : List (Nat × Nat)} {rb : List Nat} {ex : List (Key × D)} {N : Nt} {p p' : Pl} (h : TM M m N a b pa rb ex) (hi : pa[i]? = some (x, y)) (hp : N.ps[i]? = some p) (hy : M[y']? = some (.lst (p'.wants.map pD))) (hl : ∀ z ∈ toldAt m a b pa rb, z < y') : TM (M.set x (.lst (plL p' y'))) m { N with ps := N.ps.set i p' } a b (pa.set i (x, y')) rb ex := by
  have ma := h.ma
  have ab := h.ab
  have hm := List.mem_of_getElem? hi
  have il := (List.getElem?_eq_some_iff.mp hi).1
  have xm : x ∈ pa.map (·.1) := List.mem_map.mpr ⟨_, hm, rfl⟩
  have ox := h.ord x (by simp only [List.mem_append]; exact .inl (.inl xm))
  have ha := hl a (by simp [toldAt])
  have hb := hl b (by simp [toldAt])
  have hmm := hl m (by simp [toldAt])
  have hx := hl x (by simp only [toldAt, List.append_assoc, List.mem_append]; exact .inr (.inl xm))
  have lo : ∀ z ∈ pa.map (·.1) ++ pa.map (·.2) ++ rb, z < y' := fun z hz => hl z (by simp only [toldAt, List.append_assoc, List.mem_append] at hz ⊢; exact .inr hz)
  obtain ⟨n1, n2, n3⟩ := List.nodup_append.mp h.nd
  obtain ⟨n4, n5, n6⟩ := List.nodup_append.mp n1
  have ne : ∀ {j : Nat}, j ≠ x → (M.set x (.lst (plL p' y')))[j]? = M[j]? := fun hj => List.getElem?_set_ne (Ne.symm hj)
  have hil : i < N.ps.length := (List.getElem?_eq_some_iff.mp hp).1
  have e1 : (pa.set i (x, y')).map (·.1) = pa.map (·.1) := by
    rw [List.map_set]
    show (pa.map (·.1)).set i x = _
    refine List.ext_getElem? fun j => ?_
    by_cases hj : i = j
    · subst hj
      rw [List.getElem?_set_self (by simpa using il), List.getElem?_map, hi]; rfl
    · rw [List.getElem?_set_ne hj]
  have e2 : (pa.set i (x, y')).map (·.2) = (pa.map (·.2)).set i y' := by rw [List.map_set]
  refine ⟨⟨?_, ?_, ?_, by simp [h.t.pz], h.t.rz, ?_, ?_⟩, ma, ab, ?_, ?_⟩
  · rw [ne (by omega)]; exact h.t.dct
  · rw [ne (by omega), h.t.pl]
    have : ((pa.set i (x, y')).map fun z => D.ref z.1) = ((pa.set i (x, y')).map (·.1)).map D.ref := by rw [List.map_map]; rfl
    rw [this, e1, List.map_map]; rfl
  · rw [ne (by omega)]; exact h.t.rd
  · intro j z q hz hq
    by_cases hj : i = j
    · subst hj
      rw [List.getElem?_set_self il] at hz
      cases hz
      rw [List.getElem?_set_self hil] at hq
      cases hq
      refine ⟨msame (h.t.pp i (x, y) p hi hp).1, ?_⟩
      rw [ne (by omega)]
      exact hy
    · rw [List.getElem?_set_ne hj] at hq hz
      obtain ⟨g1, g2⟩ := h.t.pp j z q hz hq
      have zm := List.mem_of_getElem? hz
      have xz : z.2 ≠ x := fun e => n6 x xm z.2 (List.mem_map_of_mem zm) e.symm
      have yz : z.1 ≠ x := by
        intro e
        have f1 : (pa.map (·.1))[i]? = some x := by rw [List.getElem?_map, hi]; rfl
        have f2 : (pa.map (·.1))[j]? = some x := by rw [List.getElem?_map, hz, ← e]; rfl
        obtain ⟨l1, v1⟩ := List.getElem?_eq_some_iff.mp f1
        obtain ⟨l2, v2⟩ := List.getElem?_eq_some_iff.mp f2
        exact hj ((List.getElem_inj n4).mp (v1.trans v2.symm))
      rw [ne xz, ne yz]
      exact ⟨g1, g2⟩
  · intro j z q hz hq
    have zx : z ≠ x := fun e => n3 x (List.mem_append.mpr (.inl xm)) z (List.mem_of_getElem? hz) e.symm
    rw [ne zx]
    exact h.t.rr j z q hz hq
  · rw [e1, e2]
    intro z hz
    rcases List.mem_append.mp hz with hz | hz
    · rcases List.mem_append.mp hz with hz | hz
      · exact h.ord z (by simp only [List.mem_append]; exact .inl (.inl hz))
      · rcases List.mem_or_eq_of_mem_set hz with hz | rfl
        · exact h.ord z (by simp only [List.mem_append]; exact .inl (.inr hz))
        · omega
    · exact h.ord z (List.mem_append.mpr (.inr hz))
  · rw [e1, e2, List.append_assoc, List.nodup_append, List.nodup_append]
    refine ⟨n4, ⟨Prf.nodup_setA n5 fun hc => ?_, n2, fun u hu w hw e => ?_⟩, fun u hu w hw e => ?_⟩
    · have := lo y' (by simp only [List.mem_append]; exact .inl (.inr hc)); omega
    · rcases List.mem_or_eq_of_mem_set hu with hu | rfl
      · exact n3 u (List.mem_append.mpr (.inr hu)) w hw e
      · have := lo w (by simp only [List.mem_append]; exact .inr hw); omega
    · rcases List.mem_append.mp hw with hw | hw
      · rcases List.mem_or_eq_of_mem_set hw with hw | rfl
        · exact n6 u hu w hw e
        · have := lo u (by simp only [List.mem_append]; exact .inl (.inl hu)); omega
      · exact n3 u (List.mem_append.mpr (.inl hu)) w hw e
end MV
namespace Prf
theorem eq_sy {a b : Str} : decide (a = b) = decide (b = a) := by
  by_cases h : a = b
  · rw [decide_eq_true h, decide_eq_true h.symm]
  · rw [decide_eq_false h, decide_eq_false fun e => h e.symm]
theorem join_head {s x : Str} : ∀ {l : List Str}, ∃ t, Txt.join s (x :: l) = x ++ t
  | [] => ⟨Str.empty, by
      rw [TL.join_eq]
      have : (x ++ Str.empty).cps = x.cps := by show x.cps ++ Str.empty.cps = x.cps; simp [Str.empty]
      show x = x ++ Str.empty
      cases x; exact (congrArg Str.mk this).symm⟩
  | y :: l => ⟨s ++ Str.join s (y :: l), by
      rw [TL.join_eq]
      show x ++ s ++ Str.join s (y :: l) = x ++ (s ++ Str.join s (y :: l))
      have : (x ++ s ++ Str.join s (y :: l)).cps = (x ++ (s ++ Str.join s (y :: l))).cps := by
        show x.cps ++ s.cps ++ _ = x.cps ++ (s.cps ++ _)
        rw [Array.append_assoc]
      generalize x ++ s ++ Str.join s (y :: l) = u at *
      generalize x ++ (s ++ Str.join s (y :: l)) = w at *
      cases u; cases w; exact congrArg Str.mk this⟩
theorem app_inj {x y t u : Str} (hl : x.cps.size = y.cps.size) (h : x ++ t = y ++ u) : x = y := by
  have e : x.cps ++ t.cps = y.cps ++ u.cps := congrArg Str.cps h
  have e2 := congrArg Array.toList e
  rw [Array.toList_append, Array.toList_append] at e2
  have e3 := List.append_inj_left e2 (by simpa using hl)
  cases x; cases y
  simp only at e3
  exact congrArg Str.mk (Array.toList_inj.mp e3)
theorem text_hours {N N' : Nt} (h1 : N.h = 1 ∨ N.h = 2) (h3 : N'.h = 3) : textN N ≠ textN N' := by
  intro e
  obtain ⟨t, ht⟩ := join_head (s := "\n") (x := "hours " ++ iS N.h) (l := ["s " ++ iS N.s.1 ++ " " ++ iS N.s.2, "t " ++ iS N.t.1 ++ " " ++ iS N.t.2] ++ N.ps.flatMap plRows ++ N.rs.map rdRow)
  obtain ⟨u, hu⟩ := join_head (s := "\n") (x := "hours " ++ iS N'.h) (l := ["s " ++ iS N'.s.1 ++ " " ++ iS N'.s.2, "t " ++ iS N'.t.1 ++ " " ++ iS N'.t.2] ++ N'.ps.flatMap plRows ++ N'.rs.map rdRow)
  have e' : ("hours " ++ iS N.h) ++ t = ("hours " ++ iS N'.h) ++ u := by rw [← ht, ← hu]; exact e
  rw [h3] at e'
  rcases h1 with h | h
  · rw [h] at e'
    have := app_inj (by decide +kernel) e'
    exact absurd this (by decide +kernel)
  · rw [h] at e'
    have := app_inj (by decide +kernel) e'
    exact absurd this (by decide +kernel)
def hP (P : Pl) : Pl := { P with wants := List.replicate 3 (0, 0) }
theorem law_holds : ∀ ns : List Int, ns.length ≤ 63 → w_law [.kl (ns.map .int)] [] (fun d _ => d = .bl true) (fun _ _ => False) := by
  intro ns _
  unfold w_law wOf
  rw [show startE N_law [.kl (ns.map .int)] = [some (.kl (ns.map .int)), none, none, none, none, none, none, none, none, none] from rfl]
  unfold m_law
  walk_at "ml"
  refine lfeed fun M1 k1 F1 => ?_
  generalize List.length ([] : Mem) + 2 = p at F1 ⊢
  generalize List.length ([] : Mem) + 1 = q at F1
  walk_at "ml"
  refine lbareX F1 (by decide) (by decide) (by decide) fun N m a b pa rb c M2 hb h3 hn1 hr4 hh2 k2 F2 pm qm T2 => ?_
  have v0 := hb.vn
  have ok := hb.ntok
  have hh := ok.h
  walk_at "ml"
  refine lmade T2 hb fun M3 n pp rr k3 ln N3 => ?_
  walk_at "ml"
  refine ⟨⟨by decide, by decide⟩, ?_⟩
  refine for_ix (fun i ρ M' => (∃ o4 o5 o6 o7, ρ = [some (.kl (ns.map .int)), some (.ref p), some (.ref m), some (.ref n), o4, o5, o6, o7, none, none]) ∧ Feed M' p q ∧ TM M' m N a b pa rb [(.inr "plan", .ref c)] ∧ ∃ pp rr, NetM M' n N pp rr) (fun _ _ _ _ => trivial) ?_ ?_ ⟨⟨_, _, _, _, rfl⟩, F2.kp k3 (by simp) (by simp), T2.kp0 k3, _, _, N3⟩
  · rintro ρ M4 ⟨⟨_, _, _, _, rfl⟩, F4, T4, pp4, rr4, N4⟩
    walk_at "ml"
    refine lcopy T4 plan_rows1 (by simp) (by have := ok.pl; omega) (by have := ok.rl; omega) fun M5 m5 a5 b5 pa5 rb5 k5 T5 lm5 => ?_
    walk_at "ml"
    refine o_setD T5.t.dct (k := .inr "hours") rfl (by simp [toldK]) ?_
    rw [show dput (toldK N a5 b5 [(.inr "plan", .ref c)]) (.inr "hours") (.int 3) = toldK { N with h := 3 } a5 b5 [(.inr "plan", .ref c)] from rfl]
    have T6 := T5.setH (h' := 3)
    have k6 : Kp [] M4 (M5.set m5 (.dct false (toldK { N with h := 3 } a5 b5 [(.inr "plan", .ref c)]))) := k5.setNew lm5
    generalize M5.set m5 (.dct false (toldK { N with h := 3 } a5 b5 [(.inr "plan", .ref c)])) = M6 at *
    iterate 2 walk_at "sx"
    with_reducible refine x_iseq ?_
    walk_at "ml"
    refine o_ixK T6.t.dct tk_p ?_
    refine iseqL T6.t.pl ?_
    refine for_ix (fun i ρ M' => (∃ o4 o6 o7 o8 o9, ρ = [some (.kl (ns.map .int)), some (.ref p), some (.ref m), some (.ref n), o4, some (.ref m5), o6, o7, o8, o9]) ∧ Kp [] M4 M' ∧ ∃ paN, TM M' m5 ⟨3, N.s, N.t, (N.ps.take i).map hP ++ N.ps.drop i, N.rs⟩ a5 b5 paN rb5 [(.inr "plan", .ref c)] ∧ paN.map (·.1) = pa5.map (·.1)) ?_ ?_ ?_ ⟨⟨_, _, _, _, _, rfl⟩, k6, pa5, by simpa using T6, rfl⟩
    · rintro i ρ M' ⟨_, _, paN, TN, e⟩
      have := TN.t.pl
      rw [show (paN.map fun x => D.ref x.1) = (paN.map (·.1)).map D.ref from by rw [List.map_map]; rfl, e, List.map_map] at this
      exact this
    · rintro ρ M7 ⟨⟨_, _, _, _, _, rfl⟩, k7, paN, TN, e⟩
      rw [List.length_map, T6.t.pz, List.take_of_length_le (by simp), List.drop_eq_nil_of_le (by simp), List.append_nil] at TN
      have g7 := N4.kp k7 (by simp) (by simp) (by simp)
      have vN : VN ⟨3, N.s, N.t, N.ps.map hP, N.rs⟩ := v0.clock (c := 3) (by decide) hP fun P hPm => ⟨rfl, rfl, rfl, rfl, by simp [hP], fun w hw => by rw [List.eq_of_mem_replicate hw]; exact mv00⟩
      walk_at "ml"
      refine x_notV ?_
      walk_at "ml"
      refine lmadeV TN vN fun M8 n8 p8 r8 k8 _ N8 => ?_
      refine l_eqN (g7.kp k8 (by simp) (by simp) (by simp)) N8 ok vN.ok fun M9 k9 => ?_
      have kall := k7.trans (k8.trans k9)
      rw [decide_eq_false (text_hours (by omega) rfl)]
      dsimp only
      rw [Bool.not_false, if_pos rfl]
      walk_at "ml"
      refine o_strO (N4.kp kall (by simp) (by simp) (by simp)) ok fun M10 k10 => ?_
      walk_at "ml"
      refine l_Ltext (T4.t.kp0 (kall.trans k10)) ok fun M11 k11 => ?_
      walk_at "ml"
      rw [decide_eq_true (rfl : textN N = textN N)]
    · rintro i d ρ M7 K2 hd ⟨⟨_, _, _, _, _, rfl⟩, k7, paN, TN, e⟩ hK2
      rw [List.getElem?_map] at hd
      cases hq : pa5[i]? with
      | none => rw [hq] at hd; cases hd
      | some x =>
      rw [hq] at hd
      cases hd
      have hil : i < N.ps.length := by
        have := (List.getElem?_eq_some_iff.mp hq).1
        have e6 := T6.t.pz
        simp only at e6
        omega
      obtain ⟨P, hP'⟩ : ∃ P, N.ps[i]? = some P := ⟨_, List.getElem?_eq_getElem hil⟩
      obtain ⟨y, hi⟩ : ∃ y, paN[i]? = some (x.1, y) := by
        have h1 : (paN.map (·.1))[i]? = some x.1 := by rw [e, List.getElem?_map, hq]; rfl
        rw [List.getElem?_map] at h1
        cases h2 : paN[i]? with
        | none => rw [h2] at h1; cases h1
        | some z =>
          rw [h2] at h1
          have h3 : z.1 = x.1 := by simpa using h1
          exact ⟨z.2, by rw [← h3]⟩
      have hPi : ((N.ps.take i).map hP ++ N.ps.drop i)[i]? = some P := by
        rw [List.getElem?_append_right (by simp; omega)]
        simp only [List.length_map, List.length_take]
        rw [List.getElem?_drop, show i + (i - min i N.ps.length) = i by omega]
        exact hP'
      obtain ⟨px, py⟩ := TN.t.pp i (x.1, y) P hi hPi
      dsimp only at px py
      unfold plL at px
      have hlt := TN.lt
      have hw := (hb.ps P (List.mem_of_getElem? hP')).wants
      have hwl : P.wants.length = N.h.toNat := by rw [hw]; simp
      walk_at "ml"
      rw [List.length_map]
      refine ⟨⟨by omega, by omega⟩, ?_⟩
      refine lc_ix (fun j acc M' => acc = (List.replicate j ((0, 0) : Int × Int)).map pD ∧ Kp [] M7 M') (fun _ _ _ _ => trivial) ?_ ?_ (by simp [rangeD]; omega) mnew ⟨rfl, .app⟩
      · rintro j d acc M8 K3 hd hacc ⟨rfl, k8⟩ hK3
        walk_at "ml"
        exact hK3 _ _ hacc ⟨by rw [List.replicate_succ', List.map_append]; rfl, k8.setNew (Nat.le_refl _)⟩
      rintro _ M8 g8 ⟨rfl, k8⟩
      have ez : (rangeD 0 (3 - (P.wants.length : Int)).toNat).length = 3 - N.h.toNat := by simp [rangeD]; omega
      rw [ez] at g8
      have py8 := k8.at_ _ _ (by simp) py
      have l8 := k8.len
      refine o_addL py8 g8 (by simp; omega) ?_
      have ew : P.wants.map pD ++ (List.replicate (3 - N.h.toNat) ((0, 0) : Int × Int)).map pD = (hP P).wants.map pD := by
        rw [← List.map_append, hw, List.replicate_append_replicate]
        show (List.replicate _ _).map pD = (List.replicate 3 _).map pD
        rw [show N.h.toNat + (3 - N.h.toNat) = 3 by omega]
      rw [ew]
      have g9 : (M8 ++ [O.lst ((hP P).wants.map pD)])[M8.length]? = some (.lst ((hP P).wants.map pD)) := mnew
      have k9 : Kp [] M7 (M8 ++ [O.lst ((hP P).wants.map pD)]) := k8.trans .app
      have T9 := TN.kp0 k9
      have px9 := k9.at_ _ _ (by simp) px
      generalize M8 ++ [O.lst ((hP P).wants.map pD)] = M9 at *
      walk_at "ml"
      refine o_setL px9 (j := 4) rfl ?_
      rw [show [D.str P.nm, omD P.room, omD P.kept, pD P.price, .ref y].set 4 (.ref M8.length) = plL (hP P) M8.length from rfl]
      have Tz := T9.setY (p' := hP P) hi hPi g9 fun z hz => by have := hlt z hz; omega
      have lx := hlt x.1 (by simp only [toldAt, List.append_assoc, List.mem_append]; exact .inr (.inl (List.mem_map.mpr ⟨_, List.mem_of_getElem? hi, rfl⟩)))
      have ox := TN.ord x.1 (by simp only [List.mem_append]; exact .inl (.inl (List.mem_map.mpr ⟨_, List.mem_of_getElem? hi, rfl⟩)))
      refine hK2 _ _ ⟨⟨_, _, _, _, _, rfl⟩, (k7.trans k9).setNew (by omega), paN.set i (x.1, M8.length), ?_, ?_⟩
      · have el : ((N.ps.take i).map hP ++ N.ps.drop i).set i (hP P) = (N.ps.take (i + 1)).map hP ++ N.ps.drop (i + 1) := by
          rw [List.set_append_right _ _ (by simp; omega)]
          simp only [List.length_map, List.length_take]
          rw [show i - min i N.ps.length = 0 by omega, List.drop_eq_getElem_cons hil]
          show (N.ps.take i).map hP ++ (hP P :: N.ps.drop (i + 1)) = _
          rw [List.take_succ, hP', List.map_append, List.append_assoc]
          rfl
        rw [← el]
        exact Tz
      · rw [List.map_set, ← e]
        refine List.ext_getElem? fun j => ?_
        by_cases hj : i = j
        · subst hj
          rw [List.getElem?_set_self (by have := (List.getElem?_eq_some_iff.mp hi).1; simpa using this), List.getElem?_map, hi]; rfl
        · rw [List.getElem?_set_ne hj]
  · rintro i x ρ M4 K hx ⟨⟨_, _, _, _, rfl⟩, F4, T4, pp4, rr4, N4⟩ hK
    obtain ⟨rfl, hi⟩ := rng_at hx
    have hi13 : i < 13 := by simpa using hi
    walk_at "ml"
    refine lchanged hi13 F4 ⟨pm, qm⟩ T4 ex_plan hb hn1 fun N' m' a' b' pa' rb' M5 v' k5 lm' F5 T5' => ?_
    have T5 := T4.kp k5 (by simp; omega)
    have N5 := N4.fd F4 k5
    walk_at "ml"
    refine lmadeV T5' v' fun M6 n' p' r' k6 ln' N6' => ?_
    have N6 := N5.kp k6 (by simp) (by simp) (by simp)
    have T6 := T5.kp0 k6
    have T6' := T5'.kp0 k6
    have F6 := F5.kp k6 (by simp) (by simp)
    walk_at "ml"
    refine l_Ltext T6.t ok fun M7 k7 => ?_
    walk_at "ml"
    refine l_Ltext (T6'.t.kp0 k7) v'.ok fun M8 k8 => ?_
    have k78 := k7.trans k8
    walk_at "ml"
    refine l_eqN (N6.kp k78 (by simp) (by simp) (by simp)) (N6'.kp k78 (by simp) (by simp) (by simp)) ok v'.ok fun M9 k9 => ?_
    have k79 := k78.trans k9
    walk_at "mq"
    refine ne_same (see_fine rfl) (see_fine rfl) ?_
    walk_at "ml"
    refine l_eqN (N6'.kp k79 (by simp) (by simp) (by simp)) (N6.kp k79 (by simp) (by simp) (by simp)) v'.ok ok fun M10 k10 => ?_
    have kA := k79.trans k10
    rw [eq_sy (a := textN N') (b := textN N)]
    walk_at "mq"
    refine ne_same (see_fine rfl) (see_fine rfl) ?_
    walk_at "ml"
    show oEqO ccs "Net" w_Net_UeqU (fun ds _ => ds) (.ref n) (.ref n') M10 (notD _)
    refine l_eqN (N6.kp kA (by simp) (by simp) (by simp)) (N6'.kp kA (by simp) (by simp) (by simp)) ok v'.ok fun M11 k11 => ?_
    have kB := kA.trans k11
    unfold notD
    dsimp only
    walk_at "mq"
    refine eqB_fine rfl rfl ?_
    rw [show ∀ b : Bool, deq (.bl (!b)) (.bl b) = false from fun b => by cases b <;> rfl]
    have i11 := (N6'.kp kB (by simp) (by simp) (by simp)).ins
    walk_at "ml"
    refine l_twin (N6'.kp kB (by simp) (by simp) (by simp)) v'.init fun M12 n9 p9 r9 k12 _ N12 => ?_
    have kC := kB.trans k12
    walk_at "ml"
    refine l_eqN N12 (N6.kp kC (by simp) (by simp) (by simp)) v'.ok ok fun M13 k13 => ?_
    have kD := kC.trans k13
    rw [eq_sy (a := textN N') (b := textN N)]
    walk_at "mq"
    refine ne_same (see_fine rfl) (see_fine rfl) ?_
    walk_at "ml"
    refine o_strO (N6'.kp kD (by simp) (by simp) (by simp)) v'.ok fun M14 k14 => ?_
    walk_at "ml"
    refine l_Ltext (T6'.t.kp0 (kD.trans k14)) v'.ok fun M15 k15 => ?_
    have kE := (kD.trans k14).trans k15
    walk_at "ml"
    refine if_n (fun h => absurd rfl h) (fun _ => ?_)
    walk_at "ml"
    exact hK _ _ ⟨⟨_, _, _, _, rfl⟩, F6.kp kE (by simp) (by simp), T6.kp0 kE, _, _, N6.kp kE (by simp) (by simp) (by simp)⟩
end Prf

theorem PySem.Challenge.cw_dialweir_k83_nets_unlike_in_one_thing_holds : PySem.Challenge.rw_dialweir_k83_nets_unlike_in_one_thing.Holds :=
  Prf.cw_pre Prf.law_holds
