import PyProof.Rows.All
import Wide.All
import OpenK.AllK
import Wide.FinOn
import PyProof.EqAt
import PyProof.EqKinds
import PyProof.TupleCall
import KE.KStateDown
import HandS.ForMost
import HandS.ForExc
import HandS.More
import HandS.Wide
import HandS.Style
import HandS.TupAny
import HandS.IsInst
import HandS.Defaults
import HandS.Conv
import HandS.Steps
import HandS.Codes
import HandS.Head0
import HandS.Head1
import HandS.Head2
import HandS.HeadEnd
import HandS.HeadHook1
import HandS.HeadHook2
import HandS.ExcInit
import HandS.ExcField
import HandS.CallSlots
import HandS.TryMany
import HandS.HeadHook3
import HandS.HeadHook4
import KE.GoesEnum
import PyProof.Draws
import PyProof.EnumMake
import HandS.Comp
import HandS.Iter
import HandS.Zip
import HandS.ListItems
import HandS.ListEq
import HandS.Deep
import HandS.DictComp
import HandS.RaiseMore
import HandS.WordsDict
import HandS.FStr
import HandS.RaiseOp
import HandS.StrMore
import HandS.MakeKwOnly
import HandS.MakeKw
import HandS.Small
import HandS.RaiseFrom
import KE.KCallOwn
import HandS.DictTup
import PySem.Challenge.RW_dialweir_k03_fractions_written
set_option Elab.async false
set_option linter.all false
set_option maxRecDepth 100000
set_option maxHeartbeats 4000000
namespace DW
open PySem L2
/-! ### more operators -/
section
variable {X : Cx}
/-- // by any divisor but 0, of less than 9000 bits -/
def CDivX (_ j : Int) : Prop := j ≠ 0 ∧ j.natAbs.log2 < 9000
theorem op_fdivX : OpR X (binaryOp .FloorDiv) (rI CDivX fun i j => .int (i.fdiv j)) :=
  opI fun _ _ _ _ _ _ _ hc q => PyProof.Rows.floordiv_int hc.1 q (.inl (PyProof.noPylong_of_log2 hc.2))
end
theorem cdiv_of {i j : Int} (h : j ≠ 0) (h2 : j.natAbs < 2 ^ 8000) : CDivX i j := ⟨h, Nat.lt_of_lt_of_le (PySem.Flt.log2_lt_of (by decide) h2) (by decide)⟩
/-! ### heaps: what stays, but for the places S -/
def Fr (K : PySem.W.Frag) (S : List Addr) (H H' : Hp) : Prop := (∀ a o, a ∉ S → H a = some o → H' a = some o) ∧ ∀ a xs, SqT K H a xs → SqT K H' a xs
theorem Same.tup {K : PySem.W.Frag} {H H' : Hp} {a : Addr} {xs : List V} (e : Same H H') (h : SqT K H a xs) : SqT K H' a xs := by
  rcases h with (h | ⟨o, h⟩) | h
  · exact .inl (.inl (e _ _ h))
  · exact .inl (.inr ⟨o, e _ _ h⟩)
  · exact .inr h
section
variable {K : PySem.W.Frag} {S S' : List Addr} {H H' H1 H2 : Hp} {a p : Addr} {o u : HO} {xs : List V}
theorem Fr.of (e : Same H H') : Fr K [] H H' := ⟨fun a o _ h => e a o h, fun _ _ h => Same.tup e h⟩
theorem Fr.refl (H : Hp) : Fr K [] H H := ⟨fun _ _ _ h => h, fun _ _ h => h⟩
theorem Fr.rf : Fr K S H H := ⟨fun _ _ _ h => h, fun _ _ h => h⟩
theorem Fr.trans (a : Fr K S H H1) (b : Fr K S H1 H2) : Fr K S H H2 := ⟨fun c o n h => b.1 c o n (a.1 c o n h), fun c xs h => b.2 c xs (a.2 c xs h)⟩
theorem Fr.on (b : Fr K S H1 H2) (a : Fr K S H H1) : Fr K S H H2 := a.trans b
theorem Fr.sub (a : Fr K S H H1) (h : ∀ x, x ∈ S → x ∈ S') : Fr K S' H H1 := ⟨fun c o n => a.1 c o fun z => n (h c z), a.2⟩
theorem Fr.any (a : Fr K [] H H1) : Fr K S H H1 := a.sub (fun _ h => absurd h (by simp))
theorem Fr.same (a : Fr K [] H H1) : Same H H1 := fun c o h => a.1 c o (by simp) h
theorem Fr.new (h : H p = none) : Fr K S H (upd H p o) := (Fr.of (fun b o e => by rw [upd_ne (ne_of_none e h)]; exact e)).any
theorem Fr.get (e : Fr K S H H') (h : H a = some o) (n : a ∉ S) : H' a = some o := e.1 a o n h
theorem Fr.get0 (e : Fr K [] H H') (h : H a = some o) : H' a = some o := e.1 a o (by simp) h
/-- a list at p is written -/
theorem Fr.put {xs : List V} (h : H p = some (.lst xs)) : Fr K [p] H (upd H p o) := ⟨fun c u n e => by rw [upd_ne (fun z => n (by rw [z]; simp))]; exact e, fun c ys e => by
  rcases e with (e | ⟨q, e⟩) | e
  · exact .inl (.inl (by rw [upd_ne (fun z => by rw [z, h] at e; cases e)]; exact e))
  · exact .inl (.inr ⟨q, by rw [upd_ne (fun z => by rw [z, h] at e; cases e)]; exact e⟩)
  · exact .inr e⟩
/-- a list that the heap H did not know is written -/
theorem Fr.put0 {ys : List V} (e : Fr K S H H1) (n : H p = none) (h : H1 p = some (.lst ys)) : Fr K S H (upd H1 p o) :=
  ⟨fun c u n1 q => by rw [upd_ne (ne_of_none q n)]; exact e.1 c u n1 q, fun c zs q => (Fr.put (K := K) h).2 c zs (e.2 c zs q)⟩
end
/-! ### data of ints, texts, truths, None and tuples of these: they stay -/
mutual
inductive Tp (K : PySem.W.Frag) (H : Hp) : V → PyData → Prop
  | non : Tp K H .non .none
  | bl (b : Bool) : Tp K H (.bl b) (.bool b)
  | int (i : Int) : Tp K H (.int i) (.int i)
  | str (x : Str) : Tp K H (.str x) (.str x)
  | tup {a : Addr} {xs : List V} {ds : List PyData} : SqT K H a xs → TpAll K H xs ds → Tp K H (.ref a) (.tuple ds)
inductive TpAll (K : PySem.W.Frag) (H : Hp) : List V → List PyData → Prop
  | nil : TpAll K H [] []
  | cons {v : V} {vs : List V} {d : PyData} {ds : List PyData} : Tp K H v d → TpAll K H vs ds → TpAll K H (v :: vs) (d :: ds)
end
section
variable {K : PySem.W.Frag} {H H' : Hp}
mutual
theorem Tp.up {S : List Addr} (e : Fr K S H H') : ∀ {v : V} {d : PyData}, Tp K H v d → Tp K H' v d
  | _, _, .non => .non
  | _, _, .bl b => .bl b
  | _, _, .int i => .int i
  | _, _, .str x => .str x
  | _, _, .tup h a => .tup (e.2 _ _ h) (TpAll.up e a)
theorem TpAll.up {S : List Addr} (e : Fr K S H H') : ∀ {vs : List V} {ds : List PyData}, TpAll K H vs ds → TpAll K H' vs ds
  | _, _, .nil => .nil
  | _, _, .cons h a => .cons (Tp.up e h) (TpAll.up e a)
end
mutual
theorem Tp.dp : ∀ {v : V} {d : PyData}, Tp K H v d → Dp K H v d
  | _, _, .non => .non
  | _, _, .bl b => .bl b
  | _, _, .int i => .int i
  | _, _, .str x => .str x
  | _, _, .tup h a => .tup h (TpAll.dp a)
theorem TpAll.dp : ∀ {vs : List V} {ds : List PyData}, TpAll K H vs ds → DpAll K H vs ds
  | _, _, .nil => .nil
  | _, _, .cons h a => .cons (Tp.dp h) (TpAll.dp a)
end
theorem Tp.of_tup {v : V} {ds : List PyData} (h : Tp K H v (.tuple ds)) : ∃ a xs, v = .ref a ∧ SqT K H a xs ∧ TpAll K H xs ds := by
  cases h with
  | tup h a => exact ⟨_, _, rfl, h, a⟩
theorem TpAll.get {vs : List V} {ds : List PyData} (h : TpAll K H vs ds) : ∀ {i : Nat} {d : PyData}, ds[i]? = some d → ∃ v, vs[i]? = some v ∧ Tp K H v d := by
  induction ds generalizing vs with
  | nil => intro i d e; simp at e
  | cons d0 ds ih =>
    intro i d e
    cases h with
    | cons h1 h2 =>
      cases i with
      | zero =>
        simp only [List.getElem?_cons_zero, Option.some.injEq] at e
        subst e
        exact ⟨_, rfl, h1⟩
      | succ i => exact ih h2 e
theorem TpAll.len {vs : List V} {ds : List PyData} (h : TpAll K H vs ds) : vs.length = ds.length := by
  induction ds generalizing vs with
  | nil => cases h; rfl
  | cons d0 ds ih =>
    cases h with
    | cons h1 h2 => simp only [List.length_cons, ih h2]
end
abbrev mv (a b : Int) : PyData := .tuple [.int a, .int b]
/-! ### a def and its promise, by its name -/
structure Fn (P : Program) (w : World) (K : PySem.W.Frag) (mg : Str → Option Value) (base : Heap) (CX : CXT) (k : Nat) (x : Str) (ps : List Str) (dvs : List V) (sp : Sp) : Prop where
  ok : ∃ fd ds, FnOk P w K mg base CX k (He.ga K x) fd ps sp ∧ Vals dvs ds ∧ Binds K fd ps ds
  g : mg x = some (.ref (He.ga K x))
  kp : PySem.W.keepIn K (.ref (He.ga K x)) = true
theorem pe_fn {X : Cx} {CX : CXT} {k : Nat} {ps : List Str} {sp : Sp} {dvs : List V} {E : XK} {x : Str} {p pos : Pos} {e : Expr} {es : List Expr} {t : TA} (F : Fn X.prog X.w X.K X.mg X.base CX k x ps dvs sp) (hr : Room k X.A) (hg : Gl X x) (hx : Passes CX X E)
    (ha : PA X (e :: es) t) (hdb : (x == ("__debug__" : Str)) = false := by decide) (he : starEach (e :: es) X.env = (false, eval e X.env) :: starEach es X.env := by rfl) (hpl : (backTo pos (starEach es X.env)).any (·.1) = false := by rfl) :
    PE X (.Call (.Name x p) (e :: es) [] pos) (tCall sp dvs E t) := by
  obtain ⟨fd, ds, G, hd, hb⟩ := F.ok
  exact pe_call G hr hg F.g F.kp hb hd hx ha hdb he hpl
theorem pe_fn0 {X : Cx} {CX : CXT} {k : Nat} {ps : List Str} {sp : Sp} {dvs : List V} {E : XK} {x : Str} {p pos : Pos} (F : Fn X.prog X.w X.K X.mg X.base CX k x ps dvs sp) (hr : Room k X.A) (hg : Gl X x) (hx : Passes CX X E)
    (hdb : (x == ("__debug__" : Str)) = false := by decide) : PE X (.Call (.Name x p) [] [] pos) (tCall sp dvs E tNil) := by
  obtain ⟨fd, ds, G, hd, hb⟩ := F.ok
  exact pe_call0 G hr hg F.g F.kp hb hd hx hdb
/-! ### operators of several kinds of things -/
def rPlus (K : PySem.W.Frag) : R2 := fun x y H Q => rI0 (fun i j => .int (i + j)) x y H Q ∨ (∃ i j, x = .str i ∧ y = .str j ∧ i.length + j.length ≤ sizeLine ∧ Q (.str (i ++ j)) H) ∨ rCatA K x y H Q ∨ rCat x y H Q
theorem op_plus {X : Cx} : OpR X (binaryOp .Add) (rPlus X.K) := OpR.or op_add (OpR.or op_add_str (OpR.or op_catA op_cat))
def rEqq (K : PySem.W.Frag) : R2 := fun x y H Q => rEq x y H Q ∨ rEqD K x y H Q
theorem op_eqq {X : Cx} (hu : X.A.units + 64 < cLine) : OpR X (compareOp .Eq) (rEqq X.K) := OpR.or op_eq (op_eqD hu)
def rNee (K : PySem.W.Frag) : R2 := fun x y H Q => rNe x y H Q ∨ rNeD K x y H Q
theorem op_nee {X : Cx} (hu : X.A.units + 64 < cLine) : OpR X (compareOp .NotEq) (rNee X.K) := OpR.or op_ne (op_neD hu)
abbrev rIntLt : R2 := rI0 fun i j => .bl (decide (i < j))
abbrev rIntLe : R2 := rI0 fun i j => .bl (decide (i ≤ j))
abbrev rIntGt : R2 := rI0 fun i j => .bl (decide (j < i))
abbrev rIntGe : R2 := rI0 fun i j => .bl (decide (j ≤ i))
abbrev rIntSub : R2 := rI0 fun i j => .int (i - j)
abbrev rIntMul : R2 := rI CMul fun i j => .int (i * j)
abbrev rIntDiv : R2 := rI CDivX fun i j => .int (i.fdiv j)
abbrev rIntMod : R2 := rI (fun _ j => j ≠ 0) fun i j => .int (i.fmod j)
abbrev rIntPow : R2 := rI CPow fun i j => .int (i ^ j.toNat)
abbrev rIntNeg : V → Hp → VK → Prop := rU fun i => .int (-i)
def rAbs : List V → Hp → VK → Prop := fun xs H Q => ∃ i, xs = [.int i] ∧ Q (.int (if i < 0 then -i else i)) H
def rMin2 : List V → Hp → VK → Prop := fun xs H Q => ∃ i j, xs = [.int i, .int j] ∧ Q (.int (if j < i then j else i)) H
def rMax2 : List V → Hp → VK → Prop := fun xs H Q => ∃ i j, xs = [.int i, .int j] ∧ Q (.int (if j > i then j else i)) H
def rInt1 : List V → Hp → VK → Prop := fun xs H Q => (∃ i, xs = [.int i] ∧ Q (.int i) H) ∨ ∃ k, xs = [.bl k] ∧ Q (.int (if k then 1 else 0)) H
def rListOf (K : PySem.W.Frag) : List V → Hp → VK → Prop := fun xs H Q => ∃ p ys, xs = [.ref p] ∧ (SqL K H p ys ∨ SqT K H p ys) ∧ ∀ l, H l = none → Q (.ref l) (upd H l (.lst ys))
def rTupleOf (K : PySem.W.Frag) : List V → Hp → VK → Prop := fun xs H Q => ∃ p ys, xs = [.ref p] ∧ ((SqL K H p ys ∧ ∀ l, H l = none → Q (.ref l) (upd H l (.tup ys))) ∨ (SqT K H p ys ∧ Q (.ref p) H))
def rStrInt : List V → Hp → VK → Prop := fun xs H Q => ∃ i, xs = [.int i] ∧ i.natAbs.log2 < 1920 ∧ Q (.str (toString i)) H
def rStrStr : List V → Hp → VK → Prop := fun xs H Q => ∃ a, xs = [.str a] ∧ Q (.str a) H
def rIntStr : List V → Hp → VK → Prop := fun xs H Q => ∃ a n, xs = [.str a] ∧ PySem.intText? a = some n ∧ a.length ≤ 640 ∧ Q (.int n) H
def rLenD : List V → Hp → VK → Prop := fun xs H Q => ∃ a kvs, xs = [V.ref a] ∧ H a = some (.dK kvs) ∧ Q (.int kvs.length) H
def rInTxt : R2 := fun x y H Q => ∃ i j, x = .str i ∧ y = .str j ∧ Q (.bl (!(Builtin.Str.occurrences j i 0 j.length 1).isEmpty)) H
def rNotInTxt : R2 := fun x y H Q => ∃ i j, x = .str i ∧ y = .str j ∧ Q (.bl (!(!(Builtin.Str.occurrences j i 0 j.length 1).isEmpty))) H
theorem pe_gint {X : Cx} {x : Str} {pos : Pos} {i : Int} (hg : Gl X x) (h : ∃ t, X.mg x = some (.int i t)) (hdb : (x == ("__debug__" : Str)) = false := by decide) : PE X (.Name x pos) (tC (.int i)) := by
  obtain ⟨t, h⟩ := h
  exact pe_glob hg h ⟨_, rfl⟩ hdb
theorem pe_gstr {X : Cx} {x z : Str} {pos : Pos} (hg : Gl X x) (h : ∃ t, X.mg x = some (.str z t)) (hdb : (x == ("__debug__" : Str)) = false := by decide) : PE X (.Name x pos) (tC (.str z)) := by
  obtain ⟨t, h⟩ := h
  exact pe_glob hg h ⟨_, rfl⟩ hdb
end DW
namespace DW
open PySem L2
/-! ### a function read off a class and called: C.m(e, ..) -/
structure ClsFn (K : PySem.W.Frag) (C f : Addr) (m : Str) : Prop where
  rd : PySem.W.readsIn K C (.type "type") = true
  ga : PySem.W.specialIn K (.ref C) "__getattribute__" = some (some (.builtin "type.__getattribute__"))
  at_ : PySem.W.findCls K (.ref C) (.type "type") m = some (.val (.ref f))
  kp : PySem.W.keepIn K (.ref f) = true
theorem pe_clsfn {X : Cx} {CX : CXT} {k : Nat} {C f : Addr} {fd : FuncData} {ps : List Str} {sp : Sp} {E : XK} {x m : Str} {p1 p2 pos : Pos} {e : Expr} {es : List Expr} {t : TA} {pl : Sem Bool}
    (cf : ClsFn X.K C f m) (F : FnOk X.prog X.w X.K X.mg X.base CX k f fd ps sp) (hb : Binds X.K fd ps []) (hr : Room k X.A) (hg : Gl X x) (hm : X.mg x = some (.ref C)) (hx : Passes CX X E) (ha : PA X (e :: es) t)
    (hdb : (x == ("__debug__" : Str)) = false := by decide)
    (hc : eval (.Call (.Attribute (.Name x p1) m p2) (e :: es) [] pos) X.env = (do
      let ov ← eval (.Name x p1) X.env
      standAt p2.atName
      let (f, first) ← holding [ov] (getMethod ov m pl)
      callWith pos f first (backTo pos (starEach (e :: es) X.env)) (backToKw pos (keywordEach [] X.env))) := by rfl)
    (he : starEach (e :: es) X.env = (false, eval e X.env) :: starEach es X.env := by rfl) (hpl : (backTo pos (starEach es X.env)).any (·.1) = false := by rfl) :
    PE X (.Call (.Attribute (.Name x p1) m p2) (e :: es) [] pos) (tCall sp [] E t) := by
  refine ⟨fun pins s σ H Q I h => ?_⟩
  refine PySem.W.methodCall_KW (pl := pl) (ld_glob I hg hm ?_ hdb) hc
  refine PySem.W.method_cls I.kIn cf.ga (PySem.W.cls_value I.kIn cf.rd cf.at_ rfl ?_)
  have I' := I.tok (s.toks + 1)
  refine PySem.W.callWith_K (h₀ := X.base) I.ok.mod.kin cf.kp (thn (ha.run pos pins _ σ H _ I' h) fun us s1 ⟨vs, H1, I1, r, q⟩ => ⟨I1.kIn, ?_⟩) he hpl
  exact run_fn (dvs := []) F hr hb .nil hx I1 r q
/-! ### C(), C an own exception class whose __init__ takes no more than self -/
def tMkO0 (C : Addr) (sp : Sp) : St → Hp → XK → Prop := fun _ H Q => ∀ a, H a = none → sp [.ref a] (upd H a (exo a C none))
  (fun v H2 => v = .non ∧ ∃ (d : Addr) (fs : List (Str × V)), H2 a = some (exo a C (some d)) ∧ H2 d = some (exd d fs) ∧ H d = none ∧ Q (.ref C) (some d) (upd (del H2 a) d (.xd fs))) (fun _ _ _ => False)
theorem pmk_oex0 {X : Cx} {CX : CXT} {x : Str} {C fI : Addr} {k : Nat} {fd : FuncData} {ps : List Str} {sp : Sp} {p pos : Pos} (T : OexC X.K C) (iC : PySem.W.findIn X.K (.ref C) "__init__" = some (some (.ref fI))) (tI : PySem.W.typeIn X.K (.ref fI) = some (.type "function"))
    (F1 : FnOk X.prog X.w X.K X.mg X.base CX k fI fd ps sp) (hr : Room (k + 1) X.A) (hb : Binds X.K fd ps []) (hx : Passes CX X (fun _ _ _ => False)) (hg : Gl X x) (hm : X.mg x = some (.ref C)) (hdb : (x == ("__debug__" : Str)) = false := by decide) :
    PMk X (.Call (.Name x p) [] [] pos) (tMkO0 C sp) := by
  intro pins s σ H Q I q1
  obtain ⟨nm, q, N, bs, bm, sn, sub, ab, col, dd, k0, k1, k2, k3, k5, hC, hbm⟩ := T.cls
  refine wpAny_Call_Name_kw (ld_glob I hg hm ?_ hdb)
  refine PySem.W.callWith_K0 I.kIn T.kC ?_
  show wpAny _ _ (call (.ref C) []) _ _ _
  obtain ⟨hp, g, dr, tk, os⟩ := s
  have sz : hp.objs.size ≤ hp.objs.size + 1 := Nat.le_succ _
  have hq := q1 (hp.objs.size + 1) (I.hok.fresh sz)
  have kk : ∀ b o, hp.get? b = some o → ((hp.push (PySem.W.kdv_tup [])).push (PySem.HandSPX.excO C hp.objs.size)).get? b = some o := fun b o z => Heap.get?_push_of_some _ (Heap.get?_push_of_some _ z)
  have hget : ((hp.push (PySem.W.kdv_tup [])).push (PySem.HandSPX.excO C hp.objs.size)).get? (hp.objs.size + 1) = some (PySem.HandSPX.excO C hp.objs.size) := by heap_get
  have I2 : Inv X pins σ (upd H (hp.objs.size + 1) (exo (hp.objs.size + 1) C none)) ⟨(hp.push (PySem.W.kdv_tup [])).push (PySem.HandSPX.excO C hp.objs.size), g, dr, tk, os⟩ := I.laid kk sz (exo_ok hget)
  have r2 : Vals [V.ref (hp.objs.size + 1)] [Value.ref (hp.objs.size + 1)] := .cons rfl .nil
  have hl : ([Value.ref (hp.objs.size + 1)] ++ []).length = ps.length := by
    have z := F1.len _ _ _ _ hq
    simpa using z
  refine wpAny_call (PySem.HandSPX.call_own F.excBase_ValueError (fun Y => PySem.HandSPX.refsVE_contains Y bm hbm) (I.kIn _ _ hC) (PySem.W.looks_findIn I.kIn iC) (fun self => PySem.W.bind_fn I.kIn self tI) (by decide)
    (codeAny_mono (F1.run _ X.stack _ _ ⟨[Value.ref (hp.objs.size + 1)], []⟩ [Value.ref (hp.objs.size + 1)] _ _ (fun _ _ _ => False) (hr.make C [] []) (I2.env0.make C [] []) (hb _ [Value.ref (hp.objs.size + 1)] I2.kIn hl) r2 hq) fun r s' hq' => ?_))
  cases r with
  | error er => exact hx pins σ _ _ er s' I2 hq'
  | ok fl =>
    cases fl with
    | ret u =>
      obtain ⟨v, H2, os2, bare2, un2, hok2, rv, ev, d, fs, ea, ed, hd1, q2⟩ := hq'
      subst ev
      obtain ⟨h2, g2, d2, t2, os'⟩ := s'
      exact ⟨rv, mk_end (raises_own T.exC T.tyC) I sz kk un2 hok2 os2 bare2 ea ed hd1 q2⟩
    | next => exact False.elim hq'
    | brk => exact False.elim hq'
    | cont => exact False.elim hq'
/-! ### what the text says of an exception class, as a Bool -/
def oexB (K : PySem.W.Frag) (C : Addr) : Bool :=
  (match K.lookup C with
  | some ⟨.type c, _, .cls cd, sl⟩ => decide (c = "type") && (match cd.mro, sl.toList with
    | .ref C' :: bm, [_, _, _, _, some (.builtin n), _] => decide (C' = C) && (decide (n = "ValueError.__new__") && (!cd.hasDel && (cd.hasDict && PySem.HandSPX.refsVE bm)))
    | _, _ => false)
  | _ => false) && (decide (PySem.W.findIn K (.ref C) "__setattr__" = some (some (.builtin "object.__setattr__"))) && (decide (PySem.W.subIn K (.ref C) (.type "BaseException") = some true) && (decide (PySem.W.typeIn K (.ref C) = some (.type "type")) && PySem.W.keepIn K (.ref C))))
theorem oexB_ok {K : PySem.W.Frag} {C : Addr} (h : oexB K C = true) : OexC K C := by
  unfold oexB at h
  obtain ⟨h1, h⟩ := Bool.and_eq_true_iff.mp h
  obtain ⟨h2, h⟩ := Bool.and_eq_true_iff.mp h
  obtain ⟨h3, h⟩ := Bool.and_eq_true_iff.mp h
  obtain ⟨h4, h5⟩ := Bool.and_eq_true_iff.mp h
  refine ⟨?_, of_decide_eq_true h2, of_decide_eq_true h3, of_decide_eq_true h4, h5⟩
  cases e : K.lookup C with
  | none => rw [e] at h1; cases h1
  | some o =>
    obtain ⟨oc, od, dt, sl⟩ := o
    rw [e] at h1
    cases oc with
    | type c =>
      cases dt with
      | cls cd =>
        obtain ⟨g1, g2⟩ := Bool.and_eq_true_iff.mp h1
        have e1 := of_decide_eq_true g1
        subst e1
        obtain ⟨nm, bs, mro, ns, qn, hd, sn, sub, ab, col, del⟩ := cd
        obtain ⟨l⟩ := sl
        dsimp only at g2
        split at g2
        · rename_i C' bm k0 k1 k2 k3 n k5
          obtain ⟨a1, g2⟩ := Bool.and_eq_true_iff.mp g2
          obtain ⟨a2, g2⟩ := Bool.and_eq_true_iff.mp g2
          obtain ⟨a3, g2⟩ := Bool.and_eq_true_iff.mp g2
          obtain ⟨a4, a5⟩ := Bool.and_eq_true_iff.mp g2
          have b1 := of_decide_eq_true a1
          have b2 := of_decide_eq_true a2
          have b3 : del = false := by simpa using a3
          subst b1 b2 b3 a4
          exact ⟨_, _, _, _, _, _, _, _, _, _, _, _, _, _, _, rfl, a5⟩
        · cases g2
      | _ => cases h1
    | _ => cases dt <;> cases h1
def clsFnB (K : PySem.W.Frag) (C f : Addr) (m : Str) : Bool := PySem.W.readsIn K C (.type "type") && (decide (PySem.W.specialIn K (.ref C) "__getattribute__" = some (some (.builtin "type.__getattribute__"))) &&
  ((match PySem.W.findCls K (.ref C) (.type "type") m with | some (.val v) => decide (v = .ref f) | _ => false) && PySem.W.keepIn K (.ref f)))
theorem clsFnB_ok {K : PySem.W.Frag} {C f : Addr} {m : Str} (h : clsFnB K C f m = true) : ClsFn K C f m := by
  unfold clsFnB at h
  obtain ⟨h1, h⟩ := Bool.and_eq_true_iff.mp h
  obtain ⟨h2, h⟩ := Bool.and_eq_true_iff.mp h
  obtain ⟨h3, h4⟩ := Bool.and_eq_true_iff.mp h
  refine ⟨h1, of_decide_eq_true h2, ?_, h4⟩
  split at h3
  · rename_i v e
    rw [e, of_decide_eq_true h3]
  · cases h3
/-- all that is wanted of an exception class by its name; fs: the names of its fields -/
structure ExcX (K : PySem.W.Frag) (mg : Str → Option Value) (x : Str) (fs : List Str) : Prop where
  g : mg x = some (.ref (He.ga K x))
  oex : OexC K (He.ga K x)
  xf : XfC K (He.ga K x)
  no : ∀ f ∈ fs, PySem.W.findIn K (.ref (He.ga K x)) f = some none
  init : PySem.W.findIn K (.ref (He.ga K x)) "__init__" = some (some (.ref (He.ma K (He.ga K x) "__init__")))
  tI : PySem.W.typeIn K (.ref (He.ma K (He.ga K x) "__init__")) = some (.type "function")
  cf : ClsFn K (He.ga K x) (He.ma K (He.ga K x) "__init__") "__init__"
def excXB (K : PySem.W.Frag) (x : Str) (fs : List Str) : Bool := oexB K (He.ga K x) && (xfB K (He.ga K x) && (fs.all (fun f => decide (PySem.W.findIn K (.ref (He.ga K x)) f = some none)) &&
  (decide (PySem.W.findIn K (.ref (He.ga K x)) "__init__" = some (some (.ref (He.ma K (He.ga K x) "__init__")))) && (decide (PySem.W.typeIn K (.ref (He.ma K (He.ga K x) "__init__")) = some (.type "function")) && clsFnB K (He.ga K x) (He.ma K (He.ga K x) "__init__") "__init__"))))
theorem excXB_ok {K : PySem.W.Frag} {mg : Str → Option Value} {x : Str} {fs : List Str} (g : mg x = some (.ref (He.ga K x))) (h : excXB K x fs = true) : ExcX K mg x fs := by
  unfold excXB at h
  obtain ⟨h1, h⟩ := Bool.and_eq_true_iff.mp h
  obtain ⟨h2, h⟩ := Bool.and_eq_true_iff.mp h
  obtain ⟨h3, h⟩ := Bool.and_eq_true_iff.mp h
  obtain ⟨h4, h⟩ := Bool.and_eq_true_iff.mp h
  obtain ⟨h5, h6⟩ := Bool.and_eq_true_iff.mp h
  exact ⟨g, oexB_ok h1, xfB_ok h2, fun f hf => of_decide_eq_true (List.all_eq_true.mp h3 f hf), of_decide_eq_true h4, of_decide_eq_true h5, clsFnB_ok h6⟩
def veB (K : PySem.W.Frag) : Bool := match PySem.W.findCls K (.type "ValueError") (.type "type") "__init__" with | some (.val v) => decide (v = .builtin "ValueError.__init__") | _ => false
theorem veB_ok {K : PySem.W.Frag} (h : veB K = true) : PySem.W.findCls K (.type "ValueError") (.type "type") "__init__" = some (.val (.builtin "ValueError.__init__")) := by
  unfold veB at h
  split at h
  · rename_i v e
    rw [e, of_decide_eq_true h]
  · cases h
end DW
namespace DW
open PySem L2
/-! ### methods by class and name -/
structure FnM (P : Program) (w : World) (K : PySem.W.Frag) (mg : Str → Option Value) (base : Heap) (CX : CXT) (k : Nat) (x m : Str) (ps : List Str) (sp : Sp) : Prop where
  ok : ∃ fd, FnOk P w K mg base CX k (He.ma K (He.ga K x) m) fd ps sp ∧ Binds K fd ps []
section
variable {X : Cx} {CX : CXT} {k : Nat} {ps : List Str} {sp : Sp} {E : XK} {x : Str} {fs : List Str} {p p1 p2 pos : Pos} {e : Expr} {es : List Expr} {ta t : TA}
/-- C.__init__(self, ..) -/
theorem pe_init {pl : Sem Bool} (c : ExcX X.K X.mg x fs) (F : FnM X.prog X.w X.K X.mg X.base CX k x "__init__" ps sp) (hr : Room k X.A) (hg : Gl X x) (hx : Passes CX X E) (ha : PA X (e :: es) t) (hdb : (x == ("__debug__" : Str)) = false := by decide)
    (hc : eval (.Call (.Attribute (.Name x p1) "__init__" p2) (e :: es) [] pos) X.env = (do
      let ov ← eval (.Name x p1) X.env
      standAt p2.atName
      let (f, first) ← holding [ov] (getMethod ov "__init__" pl)
      callWith pos f first (backTo pos (starEach (e :: es) X.env)) (backToKw pos (keywordEach [] X.env))) := by rfl)
    (he : starEach (e :: es) X.env = (false, eval e X.env) :: starEach es X.env := by rfl) (hpl : (backTo pos (starEach es X.env)).any (·.1) = false := by rfl) :
    PE X (.Call (.Attribute (.Name x p1) "__init__" p2) (e :: es) [] pos) (tCall sp [] E t) := by
  obtain ⟨fd, G, hb⟩ := F.ok
  exact pe_clsfn (pl := pl) c.cf G hb hr hg c.g hx ha hdb hc he hpl
theorem pmk_x0 (c : ExcX X.K X.mg x fs) (F : FnM X.prog X.w X.K X.mg X.base CX0 k x "__init__" ps sp) (hr : Room (k + 1) X.A) (hg : Gl X x) (hdb : (x == ("__debug__" : Str)) = false := by decide) : PMk X (.Call (.Name x p) [] [] pos) (tMkO0 (He.ga X.K x) sp) := by
  obtain ⟨fd, G, hb⟩ := F.ok
  exact pmk_oex0 c.oex c.init c.tI G hr hb pass0 hg c.g hdb
theorem pmk_x (c : ExcX X.K X.mg x fs) (F : FnM X.prog X.w X.K X.mg X.base CX0 k x "__init__" ps sp) (hr : Room (k + 1) X.A) (hg : Gl X x) (ha : PA X (e :: es) ta) (hdb : (x == ("__debug__" : Str)) = false := by decide)
    (he : starEach (e :: es) X.env = (false, eval e X.env) :: starEach es X.env := by rfl) (hpl : (backTo pos (starEach es X.env)).any (·.1) = false := by rfl) : PMk X (.Call (.Name x p) (e :: es) [] pos) (tMkO (He.ga X.K x) sp [] ta) := by
  obtain ⟨fd, G, hb⟩ := F.ok
  exact pmk_oex c.oex c.init c.tI G hr hb .nil pass0 hg c.g ha hdb he hpl
theorem pe_fnS {ps : List Str} {dvs : List V} {ES : St → XK} (F : Fn X.prog X.w X.K X.mg X.base CX k x ps dvs sp) (hr : Room k X.A) (hg : Gl X x) (hx : ∀ σ, PassesAt CX X σ (ES σ)) (ha : PA X (e :: es) t)
    (hdb : (x == ("__debug__" : Str)) = false := by decide) (he : starEach (e :: es) X.env = (false, eval e X.env) :: starEach es X.env := by rfl) (hpl : (backTo pos (starEach es X.env)).any (·.1) = false := by rfl) :
    PE X (.Call (.Name x p) (e :: es) [] pos) (tCallSD sp dvs ES t) := by
  obtain ⟨fd, ds, G, hd, hb⟩ := F.ok
  exact pe_callSD G hr hg F.g F.kp hb hd hx ha hdb he hpl
end
/-- raise: the wish E -/
def tRaiseE (E : XK) (t : St → Hp → XK → Prop) : TS := fun _ σ H => t σ H fun cls d H' => E cls d H'
/-- raise in a try's body: the wish W -/
def tRaiseW (W : WX) (t : St → Hp → XK → Prop) : TS := fun _ σ H => t σ H fun cls d H' => W cls d σ H'
/-- e.f in an except suite, whatever e's class -/
def tXfA (K : PySem.W.Frag) (a : Addr) (cls : Value) (d : Option Addr) (f : Str) (te : TE) : TE := fun σ H Q => ∃ C, cls = .ref C ∧ XfC K C ∧ PySem.W.findIn K (.ref C) f = some none ∧ tXf a cls d C f te σ H Q
theorem pe_xfA {X : Cx} {a : Addr} {oe : Obj} {cls : Value} {d : Option Addr} {pn : List (Addr × Obj)} {e : Expr} {te : TE} {pos : Pos} {n : Str} (hz : Zc cls d oe) (hf : ∃ vs, oe.data = .fields vs) (he : PE (X.suite a ((a, oe) :: pn)) e te)
    (hb : attributeBase e n X.env (eval e X.env) = eval e X.env := by rfl) : PE (X.suite a ((a, oe) :: pn)) (.Attribute e n pos) (tXfA X.K a cls d n te) :=
  ⟨fun pins s σ H Q I ⟨_, _, T, hno, h⟩ => (pe_xf T hno hz hf he hb).run pins s σ H Q I h⟩
/-! ### steps -/
section
variable {K : PySem.W.Frag} {σ : St} {H H' : Hp} {Q : VK} {N B C : St → Hp → Prop} {R : VK} {sp : Sp} {dvs : List V} {ES : St → XK} {tr : TA} {te : TE} {E : XK} {W : WX} {tm : St → Hp → XK → Prop} {QX : XK} {x : Str} {fs : List Str} {mg : Str → Option Value}
theorem d_callS (h : tr σ H fun vs H1 => sp (vs ++ dvs) H1 Q (ES σ)) : tCallSD sp dvs ES tr σ H Q := h
theorem s_raiseE (h : tm σ H E) : tRaiseE E tm ⟨N, R, B, C⟩ σ H := h
theorem s_raiseW (h : tm σ H fun cls d H' => W cls d σ H') : tRaiseW W tm ⟨N, R, B, C⟩ σ H := h
/-- what an exception's __init__ promises: its fields -/
def spInitAt (K : PySem.W.Frag) (a : Addr) (H : Hp) (Q : VK) (fl : List (Str × V)) : Prop := ∃ C, H a = some (exo a C none) ∧ OexC K C ∧ (∀ f ∈ fl.map (·.1), PySem.W.findIn K (.ref C) f = some none) ∧
  ∀ dx, H dx = none → dx ≠ a → Q .non (upd (upd H dx (exd dx fl)) a (exo a C (some dx)))
theorem mk_heap {H : Hp} {a d : Addr} {o o1 o2 o3 : HO} (ha : H a = none) (hd : d ≠ a) : upd (del (upd (upd (upd H a o) d o1) a o2) a) d o3 = upd H d o3 := by
  funext b
  by_cases h1 : b = d
  · subst h1; rw [upd_same, upd_same]
  · rw [upd_ne h1, upd_ne h1]
    by_cases h2 : b = a
    · subst h2; rw [del_same, ha]
    · rw [del_ne h2, upd_ne h2, upd_ne h1, upd_ne h2]
/-- X() is made and raised -/
theorem mk0_of (c : ExcX K mg x fs) {fl : List (Str × V)} (hsp : ∀ a H1 Q1 E1, spInitAt K a H1 Q1 fl → sp [.ref a] H1 Q1 E1) (hfl : ∀ f ∈ fl.map (·.1), f ∈ fs) (q : ∀ d H', H d = none → Fr K [] H H' → H' d = some (.xd fl) → QX (.ref (He.ga K x)) (some d) H') : tMkO0 (He.ga K x) sp σ H QX := by
  intro a ha
  refine hsp a _ _ _ ⟨_, upd_same, c.oex, fun f hf => c.no f (hfl f hf), fun dx hdx hne => ⟨rfl, dx, fl, upd_same, ?_, ?_, ?_⟩⟩
  · rw [upd_ne hne, upd_same]
  · rw [upd_ne hne] at hdx; exact hdx
  · rw [upd_ne hne] at hdx
    rw [mk_heap ha hne]
    exact q dx _ hdx (Fr.new hdx) upd_same
/-- X(v, ..) -/
theorem mk_of (c : ExcX K mg x fs) {fl : List (Str × V)} {vs : List V} (hsp : ∀ a H1 Q1 E1, spInitAt K a H1 Q1 fl → sp (.ref a :: vs) H1 Q1 E1) (hl : vs.length ≤ 1000) (hfl : ∀ f ∈ fl.map (·.1), f ∈ fs) (q : ∀ d H', H d = none → Fr K [] H H' → H' d = some (.xd fl) → QX (.ref (He.ga K x)) (some d) H') :
    vs.length ≤ 1000 ∧ ∀ a, H a = none → sp (.ref a :: (vs ++ [])) (upd H a (exo a (He.ga K x) none))
      (fun v H2 => v = .non ∧ ∃ (d : Addr) (fl : List (Str × V)), H2 a = some (exo a (He.ga K x) (some d)) ∧ H2 d = some (exd d fl) ∧ H d = none ∧ QX (.ref (He.ga K x)) (some d) (upd (del H2 a) d (.xd fl))) (fun _ _ _ => False) := by
  refine ⟨hl, fun a ha => ?_⟩
  rw [List.append_nil]
  refine hsp a _ _ _ ⟨_, upd_same, c.oex, fun f hf => c.no f (hfl f hf), fun dx hdx hne => ⟨rfl, dx, fl, upd_same, ?_, ?_, ?_⟩⟩
  · rw [upd_ne hne, upd_same]
  · rw [upd_ne hne] at hdx; exact hdx
  · rw [upd_ne hne] at hdx
    rw [mk_heap ha hne]
    exact q dx _ hdx (Fr.new hdx) upd_same
end
end DW
namespace DW
def allT : List Bool → Bool
  | [] => true
  | b :: r => b && allT r
theorem allT_get : ∀ {l : List Bool}, allT l = true → ∀ (i : Nat) {b : Bool}, l[i]? = some b → b = true
  | [], _, i, _, e => by simp at e
  | c :: r, h, 0, b, e => by
    obtain ⟨h1, _⟩ := Bool.and_eq_true_iff.mp (show (c && allT r) = true from h)
    have e2 : c = b := Option.some.inj e
    rw [← e2]; exact h1
  | c :: r, h, i + 1, b, e => allT_get (Bool.and_eq_true_iff.mp (show (c && allT r) = true from h)).2 i (show r[i]? = some b from e)
end DW
namespace DW
open PySem L2
/-- try: .. except c as (slot i): .. , nothing else is let out -/
def tTry (K : PySem.W.Frag) (c : Value) (i : Nat) (tb : WX → TS) (ts : Addr → Value → Option Addr → TS) : TS := fun D σ H => tb (wAs K c i ts (fun _ _ _ _ => False) D) D σ H
section
variable {K : PySem.W.Frag} {σ : St} {H H' : Hp} {Q : VK} {N B C : St → Hp → Prop} {R : VK} {c cls : Value} {i : Nat} {tb : WX → TS} {ts : Addr → Value → Option Addr → TS} {Wout : WX} {d : Option Addr} {x f : Str} {fs : List Str} {mg : Str → Option Value} {v : V} {fl : List (Str × V)} {a dd : Addr}
theorem s_try (h : tb (wAs K c i ts (fun _ _ _ _ => False) ⟨N, R, B, C⟩) ⟨N, R, B, C⟩ σ H) : tTry K c i tb ts ⟨N, R, B, C⟩ σ H := h
theorem w_caught (em : PySem.W.exmOne K cls c = some true) (h : ∀ a, H a = none → ts a cls d ⟨fun σ' H' => N (σ'.set i none) H', R, fun σ' H' => B (σ'.set i none) H', fun σ' H' => C (σ'.set i none) H'⟩ (σ.set i (some (.ref a))) H) : WE (wAs K c i ts Wout ⟨N, R, B, C⟩) σ cls d H :=
  ⟨true, em, fun _ => h, fun z => nomatch z⟩
theorem d_xf (c : ExcX K mg x fs) (hf : f ∈ fs) (hs : σ[i]? = some (some (.ref a))) (hd : H dd = some (.xd fl)) (hl : fl.lookup f = some v) (q : Q v H) : tXfA K a (.ref (He.ga K x)) (some dd) f (tVar i) σ H Q :=
  ⟨_, rfl, c.xf, c.no f hf, _, hs, rfl, rfl, dd, fl, v, rfl, hd, hl, q⟩
end
end DW
/-! ### the head's facts: defs, globals, and Bools of one's own; the part of the heap holds the statics too -/
namespace DW
open PySem L2
/-- the classes and their dicts first: they are looked up most -/
def asE (g : Addr → Option Obj) (n : Nat) : List Addr :=
  let base := (List.range n).reverse
  let cs := base.filter fun a => match g a with | some ⟨_, _, .cls _, _⟩ => true | _ => false
  mainGlobals :: cs ++ (cs.filterMap fun a => match g a with | some ⟨_, _, .cls cd, _⟩ => some cd.ns | _ => none) ++ base
abbrev AlE : Type := He.AlD × Bool
def obsK (fa : List He.Fa) (fn : List He.DefD) (ex : PySem.W.Frag → Bool) (K : PySem.W.Frag) : AlE := (He.obsD fa fn K, ex K)
def obsE (n : Nat) (fa : List He.Fa) (fn : List He.DefD) (ex : PySem.W.Frag → Bool) (g : Addr → Option Obj) : AlE := obsK fa fn ex (He.frG g (asE g n))
structure SaysE (fa : List He.Fa) (fn : List He.DefD) (ex : PySem.W.Frag → Bool) (K : PySem.W.Frag) : Prop where
  d : He.SaysD fa fn K
  more : ex K = true
def hookE (n : Nat) (fa : List He.Fa) (fn : List He.DefD) (ex : PySem.W.Frag → Bool) : PySem.W.Hook where
  α := AlE
  obs := fun s => obsE n fa fn ex s.heap.get?
  val := fun _ => (He.valD fn, true)
  says := fun _ h => ∃ K : PySem.W.Frag, K.In h ∧ SaysE fa fn ex K
  of := fun _ _ e => ⟨_, He.frG_in, ⟨congrArg (fun z : AlE => z.1) e, congrArg (fun z : AlE => z.2) e⟩⟩
  keeps := fun _ _ _ ⟨K, hK, c⟩ k => ⟨K, PySem.W.Frag.In.keeps hK k, c⟩
theorem obsE_eq {n : Nat} {fa : List He.Fa} {fn : List He.DefD} {ex : PySem.W.Frag → Bool} {g : Addr → Option Obj} {s : Shared} (h : ∀ a, g a = s.heap.get? a) : obsE n fa fn ex g = (hookE n fa fn ex).obs s := by
  have e : g = s.heap.get? := funext h
  rw [e]
  rfl
end DW
namespace DW
open PySem PySem.Spec PyProof.Rows L2
open Sem (wp)
/-! ### enumerate(tuple) -/
set_option maxHeartbeats 1000000 in
theorem meets_enum_new1 {v : Value} {o : Obj} {H : Heap → Prop} (B : Begins v o H) :
    Meets (Builtin.«enumerate.__new__» ⟨[.type "enumerate", v], []⟩) (fun _ R s => H s.heap ∧
      R (.ok (.ret (.ref (s.heap.push o).objs.size))) { s with heap := (s.heap.push o).push { cls := .type "enumerate", data := .fields #[.none, .bool false, .ref s.heap.objs.size, rawInt 0, .none, .none] } }) :=
  .of_wp fun prog w A R s h => by
    obtain ⟨hp, g, d, tk, os⟩ := s; obtain ⟨h1, h⟩ := h
    have hsub := sub_enumerate
    have q1 : ∀ {A' : Around} {E : Value → Shared → Prop} {Q : Value → Shared → Prop}, Q (.ref hp.objs.size) ⟨hp.push o, g, d, tk, os⟩ → wpAny (model prog w) A' (pyIter v) Q E ⟨hp, g, d, tk, os⟩ :=
      fun q => B.iter prog w _ _ ⟨hp, g, d, tk, os⟩ _ h1 q
    wp_walk using q1
    refine wpAny_stack_any fun st => wpAny_pure ?_
    split
    · rename_i c _ _ _ _ _
      cases (c == Value.type "enumerate")
      · wp_walk using q1
        exact ⟨_, rfl, h⟩
      · wp_walk using q1
        exact ⟨_, rfl, h⟩
    · wp_walk using q1
      exact ⟨_, rfl, h⟩
theorem call_enum1 {prog : Program} {w : World} {A : Around} {E : Value → Shared → Prop} {s : Shared} {v : Value} {o : Obj} {H : Heap → Prop} {Q : Value → Shared → Prop} (B : Begins v o H) (h1 : H s.heap)
    (h : ∀ h', IsEnum h' (s.heap.objs.size + 1) s.heap.objs.size 0 .none → h'.get? s.heap.objs.size = some o → h'.objs.size = s.heap.objs.size + 2 →
      (∀ b o, s.heap.get? b = some o → h'.get? b = some o) → Q (.ref (s.heap.objs.size + 1)) { s with heap := h' }) :
    wpAny (model prog w) A (call (.type "enumerate") [v]) Q E s := by
  refine callType_new F.called_enumerate (by decide) (F.typeCall_enumerate_1 _) (F.newCall_enumerate_1 _) (fun obj => F.args_object_init_2 obj _) F.entry_enumerate_new
    (meets_enum_new1 B) ⟨h1, ?_⟩
  have hz : (s.heap.push o).objs.size = s.heap.objs.size + 1 := Heap.size_push ..
  show _ ∧ _
  rw [hz]
  have he : IsEnum ((s.heap.push o).push { cls := .type "enumerate", data := .fields #[.none, .bool false, .ref s.heap.objs.size, rawInt 0, .none, .none] }) (s.heap.objs.size + 1) s.heap.objs.size 0 .none := by
    have := Heap.get?_push_size (s.heap.push o) (o := { cls := .type "enumerate", data := .fields #[.none, .bool false, .ref s.heap.objs.size, rawInt 0, .none, .none] }) rfl
    rw [hz] at this; exact this
  refine ⟨⟨_, he, rfl⟩, h _ he (Heap.get?_push_of_some _ (Heap.get?_push_size _ B.free)) (by rw [Heap.size_push, hz]) fun b o x => Heap.get?_push_of_some _ (Heap.get?_push_of_some _ x)⟩
/-- the tuple at a as it stands, each item in a new pair -/
def IteT (K : PySem.W.Frag) (a : Addr) : It :=
  ⟨fun i H => ∃ (xs : List V) (x : V), SqT K H a xs ∧ xs[i]? = some x, fun i H v H' => ∃ T x, v = .ref T ∧ H T = none ∧ H' = upd H T (.tup [.int (i : Nat), x]) ∧ ∀ xs, SqT K H a xs → xs[i]? = some x, fun i H => ∃ xs : List V, SqT K H a xs ∧ xs.length = i⟩
theorem tup_ne_iter {h : Heap} {a it : Addr} {its : Array Value} {i : Nat} (p : h.IsTuple a its) (q : h.IsTupleIter it a i) : a ≠ it := by
  rintro rfl
  obtain ⟨o, ho, hc, _⟩ := p
  obtain ⟨o', ho', hc', _⟩ := q
  rw [ho] at ho'
  cases ho'
  rw [hc] at hc'
  simp at hc'
theorem tup_ne_enum {h : Heap} {a e it : Addr} {its : Array Value} {c : Int} {old : Value} (p : h.IsTuple a its) (q : IsEnum h e it c old) : e ≠ a := by
  rintro rfl
  obtain ⟨o, ho, hc, _⟩ := p
  have q' : h.get? e = _ := q
  rw [ho] at q'
  cases q'
  simp at hc
theorem turn_enumT {P : Program} {w : World} {K : PySem.W.Frag} {elts : List Expr} {kk : Nat} {tpos : Pos} (a e it : Addr) :
    Turn P w K (.Tuple elts kk tpos) (IteT K a) [e, it] e (fun i h => (∃ old, IsEnum h e it ((i : Nat) : Int) old) ∧ h.IsTupleIter it a i ∧ e ≠ it) where
  mem := by simp
  obj := fun i h st b hb => by
    obtain ⟨⟨old, he⟩, ⟨o, ho, hc, hd⟩, _⟩ := st
    have e' : b = e ∨ b = it := by simpa using hb
    rcases e' with z | z
    · rw [z]; exact ⟨_, he, fun v q => nomatch q⟩
    · rw [z]; exact ⟨o, ho, fun v q => by rw [hd] at q; cases q⟩
  keep := fun i h h' st k => let ⟨⟨old, he⟩, hi, hne⟩ := st; ⟨⟨old, k e (by simp) _ he⟩, hi.at fun o q => k it (by simp) o q, hne⟩
  item := by
    intro X hP hw hK hc i pins s σ H E I hf st hg
    subst hP hw hK
    obtain ⟨⟨old, he⟩, hit, hne⟩ := st
    obtain ⟨xs, x, hq, hx⟩ := hg
    obtain ⟨its, rv, p, hz⟩ := I.tuple hq
    obtain ⟨u, hu, ru⟩ := rv.get hx
    have hel : e < s.heap.objs.size := Heap.lt_size he
    have hil : it < s.heap.objs.size := by obtain ⟨_, q, _⟩ := hit; exact Heap.lt_size q
    have pt : s.heap.IsTuple a its.toArray := p
    have hai := tup_ne_iter pt hit
    have hea := tup_ne_enum pt he
    have hlt : i < its.toArray.size := by simpa using (List.getElem?_eq_some_iff.mp hu).1
    refine wpAny_pyNext_enum_itemD (Draws.tuple (A := X.A.in1) (I.ok.hd hc) it a hai its.toArray) he ⟨hit, pt⟩ hlt hne (by simp [hne, hea]) fun u' h' tk hu' ho hst hT hsz hk => ?_
    have eu : u' = u := by
      have h1 : its[i]? = some u' := by simpa using hu'
      rw [hu] at h1
      cases h1
      rfl
    subst eu
    refine ⟨_, rfl, wpAny_letOwnedTupleGo_enum (s := { s with heap := h', toks := tk + 1 }) ho fun h'' he' sb => ?_⟩
    have hT2 : h''.get? s.heap.objs.size = some { cls := .type "tuple", data := .seq #[.int i tk, u'] } := (sb.2 _ (Nat.ne_of_gt hel)).trans hT
    have new : ObjOk X.prog X.w (upd H s.heap.objs.size (.tup [.int (i : Nat), x])) h'' s.heap.objs.size (.tup [.int (i : Nat), x]) :=
      ⟨by show 2 ≤ sizeLine; decide, [.int i tk, u'], .cons ⟨_, rfl⟩ (.cons ru .nil), ⟨_, hT2, rfl, _, rfl⟩⟩
    have I1 : Inv X pins σ (upd H s.heap.objs.size (.tup [.int (i : Nat), x])) { s with heap := h'', toks := tk + 1 } :=
      I.turnedNew (ch := [e, it]) (fun b ob hb q => (sb.2 b (fun z => hb (by simp [z]))).trans (hk b ob (fun z => hb (by simp [z])) (fun z => hb (by simp [z])) q)) hf (Nat.le_refl _) new
    refine ⟨.ref s.heap.objs.size, _, I1, rfl, ⟨_, x, rfl, I.hok.fresh (Nat.le_refl _), rfl, fun ys hy => by rw [I.tuple_inj hy hq]; exact hx⟩, ⟨⟨u', ?_⟩, hst.1.at fun o q => (sb.2 it (Ne.symm hne)).trans q, hne⟩, fun b hb => ?_⟩
    · have e1 : ((i + 1 : Nat) : Int) = (i : Int) + 1 := by omega
      rw [e1]; exact he'
    · have hb' : b < s.heap.objs.size := by
        have e' : b = e ∨ b = it := by simpa using hb
        rcases e' with z | z
        · rw [z]; exact hel
        · rw [z]; exact hil
      rw [upd_ne (Nat.ne_of_lt hb')]
      exact (hf b hb).1
  done := by
    intro X hP hw hK hc i pins s σ H E I hf st hg
    subst hP hw hK
    obtain ⟨⟨old, he⟩, hit, hne⟩ := st
    obtain ⟨xs, hq, hx⟩ := hg
    obtain ⟨its, rv, p, hz⟩ := I.tuple hq
    obtain ⟨f0, f1, f2, f3, f4, f5⟩ := hf it (by simp)
    have pt : s.heap.IsTuple a its.toArray := p
    have hl := rv.length
    have hn : i = its.toArray.size := by rw [List.size_toArray]; omega
    subst hn
    exact wpAny_pyNext_enum_endD (Draws.tuple (A := X.A.in1) (I.ok.hd hc) it a (tup_ne_iter pt hit) its.toArray) he ⟨hit, pt⟩ fun h' eb => ⟨rfl, I.turned (t' := s.toks) (fun b o hb q => eb b o hb q) f0 f1 f3 f4 f5⟩
  self := fun A i s Q E st h => let ⟨⟨_, he⟩, _⟩ := st; wpAny_pyIter_enum he h
def iEnumT (K : PySem.W.Frag) (ta : TA) : TI := fun σ H R => ta σ H fun vs H1 => ∃ a xs, vs = [.ref a] ∧ SqT K H1 a xs ∧ R (IteT K a) H1
theorem pi_enumT {X : Cx} {e : Expr} {ta : TA} {p pos tpos : Pos} {elts : List Expr} {kk : Nat} (hg : Gl X "enumerate") (hm : X.mg "enumerate" = none) (ha : PA X [e] ta) (hs : starEach [e] X.env = [(false, eval e X.env)] := by rfl) :
    PI X (.Tuple elts kk tpos) (.Call (.Name "enumerate" p) [e] [] pos) (iEnumT X.K ta) := by
  refine ⟨fun pins s σ H R I h => ?_⟩
  refine Call_ (ld_blt I hg hm boot_enumerate (PyProof.Rows.callWith_type1 (thn (ha.run pos pins s σ H _ I h) fun us s1 ⟨vs, H1, I1, r1, q1⟩ => ?_) hs rfl))
  obtain ⟨a, xs, ex, hq, q⟩ := q1
  subst ex
  cases r1 with
  | cons r rr =>
    cases rr
    cases r
    obtain ⟨its, rv, p', hz⟩ := I1.tuple hq
    refine call_enum1 (begins_tuple a its.toArray) (show s1.heap.IsTuple a its.toArray from p') fun h' he hit hsz hk => wpAny_pyIter_enum he ?_
    have I2 : Inv X pins σ H1 { s1 with heap := h' } := I1.kept (t' := s1.toks) hk
    refine ⟨s1.heap.objs.size + 1, [s1.heap.objs.size + 1, s1.heap.objs.size], _, _, H1, rfl, I2, turn_enumT a (s1.heap.objs.size + 1) s1.heap.objs.size, ⟨⟨.none, he⟩, ⟨_, hit, rfl, rfl⟩, Nat.succ_ne_self _⟩, fun b hb => ?_, q⟩
    have e' : b = s1.heap.objs.size + 1 ∨ b = s1.heap.objs.size := by simpa using hb
    have hle : s1.heap.objs.size ≤ b := by
      rcases e' with z | z
      · rw [z]; exact Nat.le_add_right _ _
      · rw [z]; exact Nat.le_refl _
    exact I1.fpOk hle (I1.hok.fresh hle)
end DW
namespace MVX
open PySem PySem.W PySem.Spec PySem.Calls PyProof.Rows
section
variable {M : Model} {K : Frag}
theorem exm_tup5 {c1 c2 c3 c4 c5 cls : Value} {tp e : Addr} {b : Bool} {h : Heap} (X : K.In h) (LT : Looks M h (typeOf (.ref e)) cls) (hp : h.get? tp = some { cls := .type "tuple", data := .seq [c1, c2, c3, c4, c5].toArray }) (hx : exmAny K cls [c1, c2, c3, c4, c5] = some b) :
    Looks M h (excMatches (.ref e) (.ref tp)) b := by
  intro A Q E s k₀ q
  obtain ⟨hh, g, d, tk, os⟩ := s
  have k : ∀ b o, h.get? b = some o → hh.get? b = some o := k₀
  have LT0 : Looks M h (isInstance (.ref tp) (.type "tuple")) true := ((Looks.ld hp).andThen .now).andThen (Looks.of_pure isSubtype_tuple_tuple)
  obtain ⟨b1, d1, x1, y1, z1⟩ := exmAny_cons hx
  obtain ⟨e1, S1⟩ := exm_cls (M := M) X x1
  have e1 := e1.keeps k
  have S1 := S1.keeps k
  obtain ⟨b2, d2, x2, y2, z2⟩ := exmAny_cons y1
  obtain ⟨e2, S2⟩ := exm_cls (M := M) X x2
  have e2 := e2.keeps k
  have S2 := S2.keeps k
  obtain ⟨b3, d3, x3, y3, z3⟩ := exmAny_cons y2
  obtain ⟨e3, S3⟩ := exm_cls (M := M) X x3
  have e3 := e3.keeps k
  have S3 := S3.keeps k
  obtain ⟨b4, d4, x4, y4, z4⟩ := exmAny_cons y3
  obtain ⟨e4, S4⟩ := exm_cls (M := M) X x4
  have e4 := e4.keeps k
  have S4 := S4.keeps k
  obtain ⟨b5, d5, x5, y5, z5⟩ := exmAny_cons y4
  obtain ⟨e5, S5⟩ := exm_cls (M := M) X x5
  have e5 := e5.keeps k
  have S5 := S5.keeps k
  have w5 : some false = some d5 := y5
  cases w5
  have LT := LT.keeps k
  have LT0 := LT0.keeps k
  have hp' := k _ _ hp
  subst z1 z2 z3 z4 z5
  unfold excMatches
  refine wpAny_bind (LT0.at ?_)
  dsimp only
  rw [if_pos rfl]
  first
    | refine wpAny_bind (wpAny_seqItems hp' rfl ?_)
    | refine wpAny_bind (wpAny_bind (wpAny_seqItems hp' rfl (wpAny_pure ?_)))
  dsimp only [Option.getD_some, Option.getD]
  cases b1 <;> cases b2 <;> cases b3 <;> cases b4 <;> cases b5 <;> ((repeat (first | simp only [List.forIn_cons, List.forIn_nil, Bool.not_true, Bool.false_eq_true, if_false, if_true] | lk)); exact q)
end
end MVX
namespace MV
open PySem PySem.Spec PyProof.Rows L2
/-! ### mirror values, objects, the mirror heap -/
inductive D where
  | non
  | bl (b : Bool)
  | int (i : Int)
  | str (x : Str)
  | tup (ds : List D)
  | ref (n : Nat)
  | ty (n : String)
  | g (x : Str)
  | exn (a dd : Addr) (c : Str) (ns : List Str) (ds : List D)
  | kl (ds : List D)
/-- lst: a list; frz: a list that is only read; dct, dtt: a dict with keys of ints and texts, of tuples of these (lk: a loop walks it); ins: an instance -/
inductive O where
  | lst (ds : List D)
  | frz (ds : List D)
  | dct (lk : Bool) (kvs : List (Key × D))
  | dtt (lk : Bool) (kvs : List (List Key × D))
  | ins (c : Str) (fs : List (Str × D))
abbrev Mem := List O
abbrev Ev := List (Option D)
structure Exn where
  c : Str
  ns : List Str
  ds : List D
/-! ### what the mirror stands for -/
/-- a list that is never written: the script -/
def RdL (K : PySem.W.Frag) (H : Hp) (a : Addr) (xs : List V) : Prop := (∃ ob, H a = some (.frz ob (.lst xs))) ∨
  ∃ (o : Obj) (its : Array Value) (n : Nat), K.lookup a = some o ∧ o.cls = .type "list" ∧ o.dict = none ∧ o.data = .seq its n ∧ its.size ≤ sizeLine ∧ Vals xs its.toList
theorem RdL.sq {K : PySem.W.Frag} {H : Hp} {a : Addr} {xs : List V} (h : RdL K H a xs) : SqL K H a xs := by
  rcases h with h | h
  · exact .inl (.inr h)
  · exact .inr h
/-- a tuple that begins with a text (keys of dicts do): no written one -/
def hdS : List D → Bool
  | .str _ :: _ => true
  | _ => false
def Tq (K : PySem.W.Frag) (H : Hp) (a : Addr) (ds : List D) (xs : List V) : Prop := SqT K H a xs ∧ (hdS ds = true → H a = some (.tup xs))
mutual
inductive Rel (K : PySem.W.Frag) (as : List Addr) (H : Hp) : D → V → Prop
  | non : Rel K as H .non .non
  | bl (b : Bool) : Rel K as H (.bl b) (.bl b)
  | int (i : Int) : Rel K as H (.int i) (.int i)
  | str (x : Str) : Rel K as H (.str x) (.str x)
  | tup {a : Addr} {xs : List V} {ds : List D} : Tq K H a ds xs → RelL K as H ds xs → Rel K as H (.tup ds) (.ref a)
  | ref {n : Nat} {a : Addr} : as[n]? = some a → Rel K as H (.ref n) (.ref a)
  | ty (n : String) : Rel K as H (.ty n) (.ty n)
  | g (x : Str) : Rel K as H (.g x) (.ref (He.ga K x))
  | exn {a dd : Addr} {c : Str} {ns : List Str} {ds : List D} {xs : List V} : H dd = some (.xd (ns.zip xs)) → RelL K as H ds xs → Rel K as H (.exn a dd c ns ds) (.ref a)
  | kl {a : Addr} {xs : List V} {ds : List D} : RdL K H a xs → RelL K as H ds xs → Rel K as H (.kl ds) (.ref a)
inductive RelL (K : PySem.W.Frag) (as : List Addr) (H : Hp) : List D → List V → Prop
  | nil : RelL K as H [] []
  | cons {d : D} {ds : List D} {v : V} {vs : List V} : Rel K as H d v → RelL K as H ds vs → RelL K as H (d :: ds) (v :: vs)
end
structure Ext (K : PySem.W.Frag) (as : List Addr) (H : Hp) (as' : List Addr) (H' : Hp) : Prop where
  pre : as <+: as'
  tup : ∀ a xs, SqT K H a xs → SqT K H' a xs
  xd : ∀ a fs, H a = some (.xd fs) → H' a = some (.xd fs)
  frz : ∀ a ob u, H a = some (.frz ob u) → H' a = some (.frz ob u)
  tp : ∀ a xs, H a = some (.tup xs) → H' a = some (.tup xs)
section
variable {K : PySem.W.Frag} {as as' as2 : List Addr} {H H' H2 : Hp}
theorem Ext.refl : Ext K as H as H := ⟨List.prefix_refl _, fun _ _ h => h, fun _ _ h => h, fun _ _ _ h => h, fun _ _ h => h⟩
theorem Ext.trans (a : Ext K as H as' H') (b : Ext K as' H' as2 H2) : Ext K as H as2 H2 :=
  ⟨a.pre.trans b.pre, fun c xs h => b.tup c xs (a.tup c xs h), fun c fs h => b.xd c fs (a.xd c fs h), fun c o u h => b.frz c o u (a.frz c o u h), fun c xs h => b.tp c xs (a.tp c xs h)⟩
theorem Tq.up {a : Addr} {ds : List D} {xs : List V} (e : Ext K as H as' H') (h : Tq K H a ds xs) : Tq K H' a ds xs := ⟨e.tup _ _ h.1, fun q => e.tp _ _ (h.2 q)⟩
theorem Tq.new {p : Addr} {ds : List D} {xs : List V} : Tq K (upd H p (.tup xs)) p ds xs := ⟨SqT.of upd_same, fun _ => upd_same⟩
theorem pre_get {n : Nat} {a : Addr} (p : as <+: as') (h : as[n]? = some a) : as'[n]? = some a := by
  obtain ⟨t, rfl⟩ := p
  obtain ⟨hn, _⟩ := List.getElem?_eq_some_iff.mp h
  rw [List.getElem?_append_left hn]; exact h
theorem RdL.up (e : Ext K as H as' H') {a : Addr} {xs : List V} (h : RdL K H a xs) : RdL K H' a xs := by
  rcases h with ⟨ob, h⟩ | h
  · exact .inl ⟨ob, e.frz _ _ _ h⟩
  · exact .inr h
mutual
theorem Rel.up (e : Ext K as H as' H') : ∀ {d : D} {v : V}, Rel K as H d v → Rel K as' H' d v
  | _, _, .non => .non
  | _, _, .bl b => .bl b
  | _, _, .int i => .int i
  | _, _, .str x => .str x
  | _, _, .tup h r => .tup (h.up e) (RelL.up e r)
  | _, _, .ref h => .ref (pre_get e.pre h)
  | _, _, .ty n => .ty n
  | _, _, .g x => .g x
  | _, _, .exn h r => .exn (e.xd _ _ h) (RelL.up e r)
  | _, _, .kl h r => .kl (RdL.up e h) (RelL.up e r)
theorem RelL.up (e : Ext K as H as' H') : ∀ {ds : List D} {vs : List V}, RelL K as H ds vs → RelL K as' H' ds vs
  | _, _, .nil => .nil
  | _, _, .cons h r => .cons (Rel.up e h) (RelL.up e r)
end
theorem RelL.len : ∀ {ds : List D} {vs : List V}, RelL K as H ds vs → ds.length = vs.length
  | _, _, .nil => rfl
  | _, _, .cons _ r => by simp only [List.length_cons, RelL.len r]
theorem RelL.get {d : D} : ∀ {ds : List D} {vs : List V} {i : Nat}, RelL K as H ds vs → ds[i]? = some d → ∃ v, vs[i]? = some v ∧ Rel K as H d v
  | _, _, _, .nil, e => by simp at e
  | _, _, 0, .cons h _, e => by
    simp only [List.getElem?_cons_zero, Option.some.injEq] at e
    subst e; exact ⟨_, rfl, h⟩
  | _, _, i + 1, .cons _ r, e => by
    simp only [List.getElem?_cons_succ] at e ⊢
    exact RelL.get r e
theorem RelL.getV {v : V} : ∀ {ds : List D} {vs : List V} {i : Nat}, RelL K as H ds vs → vs[i]? = some v → ∃ d, ds[i]? = some d ∧ Rel K as H d v
  | _, _, _, .nil, e => by simp at e
  | _, _, 0, .cons h _, e => by
    simp only [List.getElem?_cons_zero, Option.some.injEq] at e
    subst e; exact ⟨_, rfl, h⟩
  | _, _, i + 1, .cons _ r, e => by
    simp only [List.getElem?_cons_succ] at e ⊢
    exact RelL.getV r e
theorem RelL.app : ∀ {ds es : List D} {vs ws : List V}, RelL K as H ds vs → RelL K as H es ws → RelL K as H (ds ++ es) (vs ++ ws)
  | _, _, _, _, .nil, s => s
  | _, _, _, _, .cons h r, s => .cons h (RelL.app r s)
theorem RelL.take (n : Nat) : ∀ {ds : List D} {vs : List V}, RelL K as H ds vs → RelL K as H (ds.take n) (vs.take n)
  | _, _, .nil => by simp only [List.take_nil]; exact .nil
  | _, _, .cons h r => by
    cases n with
    | zero => exact .nil
    | succ n => simp only [List.take_succ_cons]; exact .cons h (RelL.take n r)
theorem RelL.drop (n : Nat) : ∀ {ds : List D} {vs : List V}, RelL K as H ds vs → RelL K as H (ds.drop n) (vs.drop n)
  | _, _, .nil => by simp only [List.drop_nil]; exact .nil
  | _, _, .cons h r => by
    cases n with
    | zero => exact .cons h r
    | succ n => simp only [List.drop_succ_cons]; exact RelL.drop n r
theorem RelL.set {d : D} {v : V} (h : Rel K as H d v) : ∀ {ds : List D} {vs : List V} (i : Nat), RelL K as H ds vs → RelL K as H (ds.set i d) (vs.set i v)
  | _, _, _, .nil => by simp only [List.set_nil]; exact .nil
  | _, _, 0, .cons _ r => .cons h r
  | _, _, i + 1, .cons q r => .cons q (RelL.set h i r)
theorem RelL.rev : ∀ {ds : List D} {vs : List V}, RelL K as H ds vs → RelL K as H ds.reverse vs.reverse
  | _, _, .nil => .nil
  | _, _, .cons h r => by
    rw [List.reverse_cons, List.reverse_cons]
    exact RelL.app (RelL.rev r) (.cons h .nil)
end
/-- pairs of a name or a key and a value -/
def KVR (K : PySem.W.Frag) (as : List Addr) (H : Hp) {κ : Type} (l : List (κ × D)) (m : List (κ × V)) : Prop := Paired (fun (p : κ × D) (q : κ × V) => p.1 = q.1 ∧ Rel K as H p.2 q.2) l m
def OR (K : PySem.W.Frag) (as : List Addr) (H : Hp) (o : O) (a : Addr) : Prop := match o with
  | .lst ds => ∃ xs, H a = some (.lst xs) ∧ RelL K as H ds xs
  | .frz ds => ∃ ob xs, H a = some (.frz ob (.lst xs)) ∧ RelL K as H ds xs
  | .dct lk kvs => ∃ ks, KVR K as H kvs ks ∧ match lk with
    | true => ∃ ob, H a = some (.frz ob (.dK ks))
    | false => H a = some (.dK ks)
  | .dtt lk kvs => ∃ ks, KVR K as H kvs ks ∧ match lk with
    | true => ∃ ob, H a = some (.frz ob (.dT ks))
    | false => H a = some (.dT ks)
  | .ins c fs => ∃ dx ys, H a = some (.ins (He.ga K c) dx ys) ∧ KVR K as H fs ys
structure RepM (K : PySem.W.Frag) (as : List Addr) (H : Hp) (M : Mem) : Prop where
  len : as.length = M.length
  nd : as.Nodup
  ob : ∀ (n : Nat) (a : Addr) (o : O), as[n]? = some a → M[n]? = some o → OR K as H o a
section
variable {K : PySem.W.Frag} {as as' : List Addr} {H H' : Hp} {M : Mem} {κ : Type}
theorem KVR.up (e : Ext K as H as' H') {l : List (κ × D)} {m : List (κ × V)} (h : KVR K as H l m) : KVR K as' H' l m := Paired.mapP h fun _ _ q => ⟨q.1, q.2.up e⟩
theorem KVR.len {l : List (κ × D)} {m : List (κ × V)} (h : KVR K as H l m) : l.length = m.length := Paired.length h
theorem OR.up {o : O} {a : Addr} (e : Ext K as H as' H') (s : H' a = H a) (h : OR K as H o a) : OR K as' H' o a := by
  cases o with
  | lst ds => obtain ⟨xs, h1, h2⟩ := h; exact ⟨xs, s.trans h1, h2.up e⟩
  | frz ds => obtain ⟨ob, xs, h1, h2⟩ := h; exact ⟨ob, xs, s.trans h1, h2.up e⟩
  | dct lk kvs =>
    obtain ⟨ks, h1, h2⟩ := h
    refine ⟨ks, h1.up e, ?_⟩
    cases lk with
    | true => obtain ⟨ob, h2⟩ := h2; exact ⟨ob, s.trans h2⟩
    | false => exact s.trans h2
  | dtt lk kvs =>
    obtain ⟨ks, h1, h2⟩ := h
    refine ⟨ks, h1.up e, ?_⟩
    cases lk with
    | true => obtain ⟨ob, h2⟩ := h2; exact ⟨ob, s.trans h2⟩
    | false => exact s.trans h2
  | ins c fs => obtain ⟨dx, ys, h1, h2⟩ := h; exact ⟨dx, ys, s.trans h1, h2.up e⟩
theorem OR.there {o : O} {a : Addr} (h : OR K as H o a) : ∃ u, H a = some u ∧ (∀ xs, u ≠ .tup xs) ∧ ∀ fs, u ≠ .xd fs := by
  cases o with
  | lst ds => obtain ⟨xs, h1, _⟩ := h; exact ⟨_, h1, (fun _ z => nomatch z), (fun _ z => nomatch z)⟩
  | frz ds => obtain ⟨ob, xs, h1, _⟩ := h; exact ⟨_, h1, (fun _ z => nomatch z), (fun _ z => nomatch z)⟩
  | dct lk kvs =>
    obtain ⟨ks, _, h2⟩ := h
    cases lk with
    | true => obtain ⟨ob, h2⟩ := h2; exact ⟨_, h2, (fun _ z => nomatch z), (fun _ z => nomatch z)⟩
    | false => exact ⟨_, h2, (fun _ z => nomatch z), (fun _ z => nomatch z)⟩
  | dtt lk kvs =>
    obtain ⟨ks, _, h2⟩ := h
    cases lk with
    | true => obtain ⟨ob, h2⟩ := h2; exact ⟨_, h2, (fun _ z => nomatch z), (fun _ z => nomatch z)⟩
    | false => exact ⟨_, h2, (fun _ z => nomatch z), (fun _ z => nomatch z)⟩
  | ins c fs => obtain ⟨dx, ys, h1, _⟩ := h; exact ⟨_, h1, (fun _ z => nomatch z), (fun _ z => nomatch z)⟩
theorem RepM.at_ (r : RepM K as H M) {n : Nat} {o : O} (h : M[n]? = some o) : ∃ a, as[n]? = some a ∧ OR K as H o a := by
  obtain ⟨hn, _⟩ := List.getElem?_eq_some_iff.mp h
  have : n < as.length := by rw [r.len]; exact hn
  exact ⟨as[n], List.getElem?_eq_getElem this, r.ob n _ o (List.getElem?_eq_getElem this) h⟩
theorem RepM.some_ (r : RepM K as H M) {n : Nat} {a : Addr} (h : as[n]? = some a) : ∃ u, H a = some u ∧ (∀ xs, u ≠ .tup xs) ∧ ∀ fs, u ≠ .xd fs := by
  obtain ⟨hn, _⟩ := List.getElem?_eq_some_iff.mp h
  have hm : n < M.length := by rw [← r.len]; exact hn
  exact (r.ob n a _ h (List.getElem?_eq_getElem hm)).there
/-- a new thing at p -/
theorem ext_new {p : Addr} {o : HO} (hp : H p = none) : Ext K as H as (upd H p o) :=
  ⟨List.prefix_refl _, fun a xs h => DW.Same.tup (fun b u e => by rw [upd_ne (ne_of_none e hp)]; exact e) h, fun a fs h => by rw [upd_ne (ne_of_none h hp)]; exact h, fun a o u h => by rw [upd_ne (ne_of_none h hp)]; exact h, fun a xs h => by rw [upd_ne (ne_of_none h hp)]; exact h⟩
theorem ext_app {l : List Addr} : Ext K as H (as ++ l) H := ⟨List.prefix_append _ _, fun _ _ h => h, fun _ _ h => h, fun _ _ _ h => h, fun _ _ h => h⟩
theorem RepM.laid {p : Addr} {o : HO} (r : RepM K as H M) (hp : H p = none) : RepM K as (upd H p o) M :=
  ⟨r.len, r.nd, fun n a u h1 h2 => (r.ob n a u h1 h2).up (ext_new hp) (by
    obtain ⟨w, hw, _⟩ := r.some_ h1
    rw [upd_ne (ne_of_none hw hp)])⟩
theorem RepM.new {p : Addr} {o : O} {u : HO} (r : RepM K as H M) (hp : H p = none) (ho : OR K (as ++ [p]) (upd H p u) o p) : RepM K (as ++ [p]) (upd H p u) (M ++ [o]) := by
  have hn : p ∉ as := fun z => by
    obtain ⟨n, hn, e⟩ := List.getElem_of_mem z
    obtain ⟨w, hw, _⟩ := r.some_ (n := n) (a := p) (by rw [List.getElem?_eq_getElem hn, e])
    rw [hw] at hp; cases hp
  refine ⟨by simp [r.len], ?_, fun n a q h1 h2 => ?_⟩
  · rw [List.nodup_append]
    exact ⟨r.nd, by simp, fun a ha b hb => by simp at hb; subst hb; exact fun z => hn (z ▸ ha)⟩
  · by_cases hl : n < as.length
    · rw [List.getElem?_append_left hl] at h1
      rw [List.getElem?_append_left (by rw [← r.len]; exact hl)] at h2
      refine (r.ob n a q h1 h2).up ((ext_new hp).trans ext_app) ?_
      obtain ⟨w, hw, _⟩ := r.some_ h1
      rw [upd_ne (ne_of_none hw hp)]
    · obtain ⟨h3, _⟩ := List.getElem?_eq_some_iff.mp h1
      have h4 : n = as.length := by simp at h3; omega
      subst h4
      rw [List.getElem?_append_right (Nat.le_refl _)] at h1
      rw [r.len, List.getElem?_append_right (Nat.le_refl _)] at h2
      simp at h1 h2
      subst h1 h2
      exact ho
theorem ext_put {n : Nat} {a : Addr} {u : HO} (r : RepM K as H M) (h : as[n]? = some a) (hz : ∀ ob w, H a ≠ some (.frz ob w)) : Ext K as H as (upd H a u) := by
  obtain ⟨w, hw, nt, nx⟩ := r.some_ h
  refine ⟨List.prefix_refl _, fun b xs q => ?_, fun b fs q => ?_, fun b ob w q => ?_, fun b xs q => ?_⟩
  · rcases q with (q | ⟨o, q⟩) | q
    · exact .inl (.inl (by rw [upd_ne (fun z => by rw [z, hw] at q; exact nt _ (Option.some.inj q))]; exact q))
    · exact .inl (.inr ⟨o, by rw [upd_ne (fun z => by rw [z] at q; exact hz _ _ q)]; exact q⟩)
    · exact .inr q
  · rw [upd_ne (fun z => by rw [z, hw] at q; exact nx _ (Option.some.inj q))]; exact q
  · rw [upd_ne (fun z => by rw [z] at q; exact hz _ _ q)]; exact q
  · rw [upd_ne (fun z => by rw [z, hw] at q; exact nt _ (Option.some.inj q))]; exact q
/-- the thing at a is written -/
theorem RepM.put {n : Nat} {a : Addr} {o : O} {u : HO} (r : RepM K as H M) (h : as[n]? = some a) (hz : ∀ ob w, H a ≠ some (.frz ob w)) (ho : OR K as (upd H a u) o a) : RepM K as (upd H a u) (M.set n o) := by
  refine ⟨by rw [List.length_set]; exact r.len, r.nd, fun m b q h1 h2 => ?_⟩
  by_cases hm : m = n
  · subst hm
    obtain ⟨hn, _⟩ := List.getElem?_eq_some_iff.mp h
    rw [List.getElem?_set_self (by rw [← r.len]; exact hn)] at h2
    cases h2
    rw [h] at h1
    cases h1
    exact ho
  · rw [List.getElem?_set_ne (Ne.symm hm)] at h2
    refine (r.ob m b q h1 h2).up (ext_put r h hz) ?_
    refine upd_ne fun z => hm ?_
    subst z
    obtain ⟨l1, e1⟩ := List.getElem?_eq_some_iff.mp h1
    obtain ⟨l2, e2⟩ := List.getElem?_eq_some_iff.mp h
    exact (List.getElem_inj r.nd).mp (e1.trans e2.symm)
end
/-! ### slots -/
def RelS (K : PySem.W.Frag) (as : List Addr) (H : Hp) (ρ : Ev) (σ : L2.St) : Prop := ρ.length = σ.length ∧ ∀ (i : Nat) (d : D), ρ[i]? = some (some d) → ∃ v, σ[i]? = some (some v) ∧ Rel K as H d v
def RelX (K : PySem.W.Frag) (as : List Addr) (H : Hp) (x : Exn) (cls : Value) (d : Option Addr) : Prop :=
  cls = .ref (He.ga K x.c) ∧ ∃ dd xs, d = some dd ∧ H dd = some (.xd (x.ns.zip xs)) ∧ RelL K as H x.ds xs
section
variable {K : PySem.W.Frag} {as as' : List Addr} {H H' : Hp} {ρ : Ev} {σ : L2.St}
theorem RelS.up (e : Ext K as H as' H') (r : RelS K as H ρ σ) : RelS K as' H' ρ σ := ⟨r.1, fun i d h => let ⟨v, h1, h2⟩ := r.2 i d h; ⟨v, h1, h2.up e⟩⟩
theorem RelS.set {i : Nat} {d : D} {v : V} (r : RelS K as H ρ σ) (h : Rel K as H d v) : RelS K as H (ρ.set i (some d)) (σ.set i (some v)) := by
  refine ⟨by simp [r.1], fun j e q => ?_⟩
  by_cases hj : i = j
  · subst hj
    by_cases hl : i < ρ.length
    · rw [List.getElem?_set_self hl] at q
      cases q
      exact ⟨v, List.getElem?_set_self (by rw [← r.1]; exact hl), h⟩
    · rw [List.getElem?_eq_none_iff.mpr (by simp; omega)] at q; cases q
  · rw [List.getElem?_set_ne hj] at q
    obtain ⟨w, h1, h2⟩ := r.2 j e q
    exact ⟨w, by rw [List.getElem?_set_ne hj]; exact h1, h2⟩
theorem RelS.unset {i : Nat} (r : RelS K as H ρ σ) : RelS K as H (ρ.set i none) (σ.set i none) := by
  refine ⟨by simp [r.1], fun j e q => ?_⟩
  by_cases hj : i = j
  · subst hj
    by_cases hl : i < ρ.length
    · rw [List.getElem?_set_self hl] at q; cases q
    · rw [List.getElem?_eq_none_iff.mpr (by simp; omega)] at q; cases q
  · rw [List.getElem?_set_ne hj] at q
    obtain ⟨w, h1, h2⟩ := r.2 j e q
    exact ⟨w, by rw [List.getElem?_set_ne hj]; exact h1, h2⟩
end
end MV
namespace MV
open PySem PySem.Spec PyProof.Rows L2
/-! ### readings over the mirror, and what they say of HandS's readings -/
abbrev DK := D → Mem → Prop
abbrev XM := Exn → Mem → Prop
abbrev ME := Ev → Mem → DK → XM → Prop
abbrev MT := Ev → Mem → (Bool → Mem → Prop) → XM → Prop
abbrev MA := Ev → Mem → (List D → Mem → Prop) → XM → Prop
structure Nd where
  nx : Ev → Mem → Prop
  rt : DK
  bk : Ev → Mem → Prop
  ct : Ev → Mem → Prop
  ex : Exn → Ev → Mem → Prop
abbrev MS := Nd → Ev → Mem → Prop
def LQ (K : PySem.W.Frag) (as : List Addr) (H : Hp) (Q : VK) : DK := fun d M' => ∀ as' H' v, Ext K as H as' H' → RepM K as' H' M' → Rel K as' H' d v → Q v H'
def LT (K : PySem.W.Frag) (as : List Addr) (H : Hp) (Q : Bool → Hp → Prop) : Bool → Mem → Prop := fun b M' => ∀ as' H', Ext K as H as' H' → RepM K as' H' M' → Q b H'
def LA (K : PySem.W.Frag) (as : List Addr) (H : Hp) (Q : List V → Hp → Prop) : List D → Mem → Prop := fun ds M' => ∀ as' H' vs, Ext K as H as' H' → RepM K as' H' M' → RelL K as' H' ds vs → Q vs H'
def LX (K : PySem.W.Frag) (as : List Addr) (H : Hp) (W : XK) : XM := fun x M' => ∀ as' H' cls d, Ext K as H as' H' → RepM K as' H' M' → RelX K as' H' x cls d → W cls d H'
def LS (K : PySem.W.Frag) (as : List Addr) (H : Hp) (N : L2.St → Hp → Prop) : Ev → Mem → Prop := fun ρ M' => ∀ as' H' σ, Ext K as H as' H' → RepM K as' H' M' → RelS K as' H' ρ σ → N σ H'
def LXS (K : PySem.W.Frag) (as : List Addr) (H : Hp) (W : WX) : Exn → Ev → Mem → Prop := fun x ρ M' => ∀ as' H' σ cls d, Ext K as H as' H' → RepM K as' H' M' → RelS K as' H' ρ σ → RelX K as' H' x cls d → W cls d σ H'
section
variable {K : PySem.W.Frag} {as as' : List Addr} {H H' : Hp} {Q : VK} {d : D} {M : Mem}
theorem LQ.mono (h : LQ K as H Q d M) (e : Ext K as H as' H') : LQ K as' H' Q d M := fun as2 H2 v e2 r q => h as2 H2 v (e.trans e2) r q
theorem LT.mono {Q : Bool → Hp → Prop} {b : Bool} (h : LT K as H Q b M) (e : Ext K as H as' H') : LT K as' H' Q b M := fun as2 H2 e2 r => h as2 H2 (e.trans e2) r
theorem LA.mono {Q : List V → Hp → Prop} {ds : List D} (h : LA K as H Q ds M) (e : Ext K as H as' H') : LA K as' H' Q ds M := fun as2 H2 v e2 r q => h as2 H2 v (e.trans e2) r q
theorem LX.mono {W : XK} {x : Exn} (h : LX K as H W x M) (e : Ext K as H as' H') : LX K as' H' W x M := fun as2 H2 c d e2 r q => h as2 H2 c d (e.trans e2) r q
theorem LS.mono {N : L2.St → Hp → Prop} {ρ : Ev} (h : LS K as H N ρ M) (e : Ext K as H as' H') : LS K as' H' N ρ M := fun as2 H2 c e2 r q => h as2 H2 c (e.trans e2) r q
theorem LXS.mono {W : WX} {x : Exn} {ρ : Ev} (h : LXS K as H W x ρ M) (e : Ext K as H as' H') : LXS K as' H' W x ρ M := fun as2 H2 c d y e2 r q => h as2 H2 c d y (e.trans e2) r q
end
def lf (K : PySem.W.Frag) (W : WX) (m : ME) : TE := fun σ H Q => ∃ as M ρ Q' X', RepM K as H M ∧ RelS K as H ρ σ ∧ m ρ M Q' X' ∧ (∀ d M', Q' d M' → LQ K as H Q d M') ∧ ∀ x M', X' x M' → LX K as H (fun c d H => W c d σ H) x M'
def lfT (K : PySem.W.Frag) (W : WX) (m : MT) : TT := fun σ H Q => ∃ as M ρ Q' X', RepM K as H M ∧ RelS K as H ρ σ ∧ m ρ M Q' X' ∧ (∀ d M', Q' d M' → LT K as H Q d M') ∧ ∀ x M', X' x M' → LX K as H (fun c d H => W c d σ H) x M'
def lfA (K : PySem.W.Frag) (W : WX) (m : MA) : TA := fun σ H Q => ∃ as M ρ Q' X', RepM K as H M ∧ RelS K as H ρ σ ∧ m ρ M Q' X' ∧ (∀ d M', Q' d M' → LA K as H Q d M') ∧ ∀ x M', X' x M' → LX K as H (fun c d H => W c d σ H) x M'
/-- ends of the mirror that are as good as D's -/
structure NdOk (K : PySem.W.Frag) (W : WX) (as : List Addr) (H : Hp) (E : Nd) (D : Ends) : Prop where
  nx : ∀ ρ M, E.nx ρ M → LS K as H D.nx ρ M
  rt : ∀ d M, E.rt d M → LQ K as H D.rt d M
  bk : ∀ ρ M, E.bk ρ M → LS K as H D.bk ρ M
  ct : ∀ ρ M, E.ct ρ M → LS K as H D.ct ρ M
  ex : ∀ x ρ M, E.ex x ρ M → LXS K as H W x ρ M
theorem NdOk.mono {K : PySem.W.Frag} {W : WX} {as as' : List Addr} {H H' : Hp} {E : Nd} {D : Ends} (h : NdOk K W as H E D) (e : Ext K as H as' H') : NdOk K W as' H' E D :=
  ⟨fun _ _ q => (h.nx _ _ q).mono e, fun _ _ q => (h.rt _ _ q).mono e, fun _ _ q => (h.bk _ _ q).mono e, fun _ _ q => (h.ct _ _ q).mono e, fun _ _ _ q => (h.ex _ _ _ q).mono e⟩
def lfS (K : PySem.W.Frag) (W : WX) (m : MS) : TS := fun D σ H => ∃ as M ρ E, RepM K as H M ∧ RelS K as H ρ σ ∧ m E ρ M ∧ NdOk K W as H E D
/-! the judgements -/
abbrev QE (X : Cx) (W : WX) (e : Expr) (m : ME) : Prop := PE X e (lf X.K W m)
abbrev QT (X : Cx) (W : WX) (e : Expr) (m : MT) : Prop := PT X e (lfT X.K W m)
abbrev QW (X : Cx) (W : WX) (e : Expr) (m : MT) : Prop := PW X e (lfT X.K W m)
abbrev QA (X : Cx) (W : WX) (es : List Expr) (m : MA) : Prop := PA X es (lfA X.K W m)
abbrev QS (X : Cx) (W : WX) (st : Stmt) (m : MS) : Prop := PS X st (lfS X.K W m)
abbrev QSs (X : Cx) (W : WX) (sts : List Stmt) (m : MS) : Prop := PSs X sts (lfS X.K W m)
section
variable {X : Cx} {e : Expr} {es : List Expr} {st : Stmt} {sts : List Stmt}
theorem PEi {t t' : TE} (h : PE X e t) (i : ∀ σ H Q, t' σ H Q → t σ H Q) : PE X e t' := ⟨fun pins s σ H Q I q => h.run pins s σ H Q I (i σ H Q q)⟩
theorem PTi {t t' : TT} (h : PT X e t) (i : ∀ σ H Q, t' σ H Q → t σ H Q) : PT X e t' := ⟨fun pins s σ H Q I q => h.run pins s σ H Q I (i σ H Q q)⟩
theorem PWi {t t' : TT} (h : PW X e t) (i : ∀ σ H Q, t' σ H Q → t σ H Q) : PW X e t' := ⟨fun wh pins s σ H Q I q => h.run wh pins s σ H Q I (i σ H Q q)⟩
theorem PAi {t t' : TA} (h : PA X es t) (i : ∀ σ H Q, t' σ H Q → t σ H Q) : PA X es t' := ⟨fun pos pins s σ H Q I q => h.run pos pins s σ H Q I (i σ H Q q)⟩
theorem PSi {t t' : TS} (h : PS X st t) (i : ∀ D σ H, t' D σ H → t D σ H) : PS X st t' := ⟨fun pins s σ H D I q => h.run pins s σ H D I (i D σ H q)⟩
theorem PSsi {t t' : TS} (h : PSs X sts t) (i : ∀ D σ H, t' D σ H → t D σ H) : PSs X sts t' := ⟨fun pins s σ H D I q => h.run pins s σ H D I (i D σ H q)⟩
end
/-! ### chaining: the reading ta, then what is done with its value -/
section
variable {K : PySem.W.Frag} {W : WX} {as : List Addr} {H : Hp} {M : Mem} {ρ : Ev} {σ : L2.St} {X' : XM}
/-- a value has come: go on -/
theorem lf_bind {m : ME} {k : DK} {Q : VK} (r : RepM K as H M) (rs : RelS K as H ρ σ) (h : m ρ M k X') (hx : ∀ x M', X' x M' → LX K as H (fun c d H => W c d σ H) x M')
    (hk : ∀ d M' as' H' v, k d M' → Ext K as H as' H' → RepM K as' H' M' → RelS K as' H' ρ σ → Rel K as' H' d v → Q v H') : lf K W m σ H Q :=
  ⟨as, M, ρ, k, X', r, rs, h, fun d M' q as' H' v e r' q' => hk d M' as' H' v q e r' (rs.up e) q', hx⟩
theorem lfT_bind {m : MT} {k : Bool → Mem → Prop} {Q : Bool → Hp → Prop} (r : RepM K as H M) (rs : RelS K as H ρ σ) (h : m ρ M k X') (hx : ∀ x M', X' x M' → LX K as H (fun c d H => W c d σ H) x M')
    (hk : ∀ b M' as' H', k b M' → Ext K as H as' H' → RepM K as' H' M' → RelS K as' H' ρ σ → Q b H') : lfT K W m σ H Q :=
  ⟨as, M, ρ, k, X', r, rs, h, fun d M' q as' H' e r' => hk d M' as' H' q e r' (rs.up e), hx⟩
theorem lfA_bind {m : MA} {k : List D → Mem → Prop} {Q : List V → Hp → Prop} (r : RepM K as H M) (rs : RelS K as H ρ σ) (h : m ρ M k X') (hx : ∀ x M', X' x M' → LX K as H (fun c d H => W c d σ H) x M')
    (hk : ∀ ds M' as' H' vs, k ds M' → Ext K as H as' H' → RepM K as' H' M' → RelS K as' H' ρ σ → RelL K as' H' ds vs → Q vs H') : lfA K W m σ H Q :=
  ⟨as, M, ρ, k, X', r, rs, h, fun d M' q as' H' v e r' q' => hk d M' as' H' v q e r' (rs.up e) q', hx⟩
end
/-! ### names and constants -/
section
variable {X : Cx} {W : WX} {pos : Pos}
def mVar (i : Nat) : ME := fun ρ M Q _ => match ρ[i]? with | some (some d) => Q d M | _ => False
def mC (d : D) : ME := fun _ M Q _ => Q d M
theorem qe_var {i : Nat} {x : Str} (hN : X.N[i]? = some x) (hv : Vis X.env.scope x) (hd : (x == ("__debug__" : Str)) = false := by decide) (hcd : (x == ("__classdict__" : Str)) = false := by decide) : QE X W (.Name x pos) (mVar i) :=
  PEi (pe_var hN hv hd hcd) fun σ H Q ⟨as, M, ρ, Q', X', r, rs, h, hq, hx⟩ => by
    unfold mVar at h
    split at h
    · rename_i d e
      obtain ⟨v, e2, rv⟩ := rs.2 i d e
      exact ⟨v, e2, hq d M h as H v .refl r rv⟩
    · exact h.elim
theorem lf_c {K : PySem.W.Frag} {d : D} {v : V} (hr : ∀ as H, Rel K as H d v) (σ : L2.St) (H : Hp) (Q : VK) (h : lf K W (mC d) σ H Q) : tC v σ H Q := by
  obtain ⟨as, M, ρ, Q', X', r, rs, h, hq, hx⟩ := h
  exact hq d M h as H v .refl r (hr as H)
theorem qe_int {i : Int} {j : Nat} : QE X W (.Constant (.int i) j pos) (mC (.int i)) := PEi pe_int (lf_c fun _ _ => .int i)
theorem qe_bl {b : Bool} {j : Nat} : QE X W (.Constant (.bool b) j pos) (mC (.bl b)) := PEi pe_bl (lf_c fun _ _ => .bl b)
theorem qe_non {j : Nat} : QE X W (.Constant .none j pos) (mC .non) := PEi pe_non (lf_c fun _ _ => .non)
theorem qe_str {x : Str} {j : Nat} : QE X W (.Constant (.str x) j pos) (mC (.str x)) := PEi pe_str (lf_c fun _ _ => .str x)
/-- a def or a class of the module -/
theorem qe_g {x : Str} (hg : Gl X x) (hm : X.mg x = some (.ref (He.ga X.K x))) (hd : (x == ("__debug__" : Str)) = false := by decide) : QE X W (.Name x pos) (mC (.g x)) := PEi (pe_glob (v := .ref (He.ga X.K x)) hg hm rfl hd) (lf_c fun _ _ => .g x)
theorem qe_ty {x : Str} {n : String} (hg : Gl X x) (hm : X.mg x = none) (hv : bootBuiltins x = some (.type n)) (hn : x ≠ "__name__" := by decide) (hd : (x == ("__debug__" : Str)) = false := by decide) : QE X W (.Name x pos) (mC (.ty n)) := PEi (pe_bltn (v := .ty n) hg hm hv rfl hn hd) (lf_c fun _ _ => .ty n)
theorem qe_gint {x : Str} {i : Int} (hg : Gl X x) (h : ∃ t, X.mg x = some (.int i t)) (hd : (x == ("__debug__" : Str)) = false := by decide) : QE X W (.Name x pos) (mC (.int i)) := PEi (DW.pe_gint hg h hd) (lf_c fun _ _ => .int i)
theorem qe_gstr {x z : Str} (hg : Gl X x) (h : ∃ t, X.mg x = some (.str z t)) (hd : (x == ("__debug__" : Str)) = false := by decide) : QE X W (.Name x pos) (mC (.str z)) := PEi (DW.pe_gstr hg h hd) (lf_c fun _ _ => .str z)
/-- a constant of the module by its datum -/
theorem qe_gdat {x : Str} {d : D} (hg : Gl X x) (hm : X.mg x = some (.ref (He.ga X.K x))) (hr : ∀ as H, Rel X.K as H d (.ref (He.ga X.K x))) (hd : (x == ("__debug__" : Str)) = false := by decide) : QE X W (.Name x pos) (mC d) := PEi (pe_glob (v := .ref (He.ga X.K x)) hg hm rfl hd) (lf_c hr)
end
/-! ### operators -/
abbrev OP := D → D → Mem → DK → Prop
abbrev OU := D → Mem → DK → Prop
abbrev OA := List D → Mem → DK → Prop
def SimO (K : PySem.W.Frag) (r : R2) (o : OP) : Prop := ∀ (as : List Addr) (H : Hp) (M : Mem) (dx dy : D) (x y : V) (k : DK) (Q : VK), RepM K as H M → Rel K as H dx x → Rel K as H dy y → o dx dy M k → (∀ d M', k d M' → LQ K as H Q d M') → r x y H Q
def SimU (K : PySem.W.Frag) (r : V → Hp → VK → Prop) (o : OU) : Prop := ∀ (as : List Addr) (H : Hp) (M : Mem) (dx : D) (x : V) (k : DK) (Q : VK), RepM K as H M → Rel K as H dx x → o dx M k → (∀ d M', k d M' → LQ K as H Q d M') → r x H Q
def SimA (K : PySem.W.Frag) (r : List V → Hp → VK → Prop) (o : OA) : Prop := ∀ (as : List Addr) (H : Hp) (M : Mem) (ds : List D) (vs : List V) (k : DK) (Q : VK), RepM K as H M → RelL K as H ds vs → o ds M k → (∀ d M', k d M' → LQ K as H Q d M') → r vs H Q
def mOp (o : OP) (ma mb : ME) : ME := fun ρ M Q X => ma ρ M (fun x M1 => mb ρ M1 (fun y M2 => o x y M2 Q) X) X
def mUn (o : OU) (ma : ME) : ME := fun ρ M Q X => ma ρ M (fun x M1 => o x M1 Q) X
def mCB (o : OA) (ma : MA) : ME := fun ρ M Q X => ma ρ M (fun xs M1 => o xs M1 Q) X
section
variable {K : PySem.W.Frag} {W : WX}
theorem lf_op {r : R2} {o : OP} {ma mb : ME} (hs : SimO K r o) (σ : L2.St) (H : Hp) (Q : VK) (h : lf K W (mOp o ma mb) σ H Q) : tOp r (lf K W ma) (lf K W mb) σ H Q := by
  obtain ⟨as, M, ρ, Q', X', rp, rs, h, hq, hx⟩ := h
  refine lf_bind rp rs h hx fun dx M1 as1 H1 x h1 e1 r1 rs1 rx => ?_
  refine lf_bind r1 rs1 h1 (fun x M' q => (hx x M' q).mono e1) fun dy M2 as2 H2 y h2 e2 r2 rs2 ry => ?_
  exact hs as2 H2 M2 dx dy x y Q' Q r2 (rx.up e2) ry h2 fun d M' q => (hq d M' q).mono (e1.trans e2)
theorem lf_un {r : V → Hp → VK → Prop} {o : OU} {ma : ME} (hs : SimU K r o) (σ : L2.St) (H : Hp) (Q : VK) (h : lf K W (mUn o ma) σ H Q) : tUn r (lf K W ma) σ H Q := by
  obtain ⟨as, M, ρ, Q', X', rp, rs, h, hq, hx⟩ := h
  refine lf_bind rp rs h hx fun dx M1 as1 H1 x h1 e1 r1 rs1 rx => ?_
  exact hs as1 H1 M1 dx x Q' Q r1 rx h1 fun d M' q => (hq d M' q).mono e1
theorem lf_cb {r : List V → Hp → VK → Prop} {o : OA} {ma : MA} (hs : SimA K r o) (σ : L2.St) (H : Hp) (Q : VK) (h : lf K W (mCB o ma) σ H Q) : tCB r (lfA K W ma) σ H Q := by
  obtain ⟨as, M, ρ, Q', X', rp, rs, h, hq, hx⟩ := h
  refine lfA_bind rp rs h hx fun ds M1 as1 H1 vs h1 e1 r1 rs1 rv => ?_
  exact hs as1 H1 M1 ds vs Q' Q r1 rv h1 fun d M' q => (hq d M' q).mono e1
theorem SimO.or {r r' : R2} {o o' : OP} (h : SimO K r o) (h' : SimO K r' o') : SimO K (fun x y H Q => r x y H Q ∨ r' x y H Q) (fun x y M Q => o x y M Q ∨ o' x y M Q) := fun as H M dx dy x y k Q rp rx ry q hk => by
  rcases q with q | q
  · exact .inl (h as H M dx dy x y k Q rp rx ry q hk)
  · exact .inr (h' as H M dx dy x y k Q rp rx ry q hk)
end
section
variable {X : Cx} {W : WX} {a b : Expr} {es : List Expr} {ma mb mc : ME} {pos : Pos}
theorem qe_op {op : Operator} {r : R2} {o : OP} (ho : OpR X (binaryOp op) r) (hs : SimO X.K r o) (ha : QE X W a ma) (hb : QE X W b mb) : QE X W (.BinOp a op b pos) (mOp o ma mb) := PEi (pe_op ho ha hb) (lf_op hs)
theorem qe_un {op : UnaryOp} {r : V → Hp → VK → Prop} {o : OU} (ho : UnR X (unaryOp op) r) (hs : SimU X.K r o) (ha : QE X W a ma) : QE X W (.UnaryOp op a pos) (mUn o ma) := PEi (pe_un ho ha) (lf_un hs)
theorem qe_cmp {op : CmpOp} {r : R2} {o : OP} (ho : OpR X (compareOp op) r) (hs : SimO X.K r o) (ha : QE X W a ma) (hb : QE X W b mb) (hm : behindInMarks op b = false) : QE X W (.Compare a [op] [b] pos) (mOp o ma mb) := PEi (pe_cmpR ho ha hb hm) (lf_op hs)
theorem qe_ix {r : R2} {o : OP} (hr : IxR X r) (hs : SimO X.K r o) (ha : QE X W a ma) (hb : QE X W b mb) (hp : PlainIx b) : QE X W (.Subscript a b pos) (mOp o ma mb) := PEi (pe_ix hr ha hb hp) (lf_op hs)
/-! arguments -/
def mNil : MA := fun _ M Q _ => Q [] M
def mCons (ma : ME) (mr : MA) : MA := fun ρ M Q X => ma ρ M (fun x M1 => mr ρ M1 (fun xs M2 => Q (x :: xs) M2) X) X
theorem qa_nil : QA X W [] mNil := PAi pa_nil fun σ H Q ⟨as, M, ρ, Q', X', r, rs, h, hq, hx⟩ => hq [] M h as H [] .refl r .nil
theorem qa_cons {mr : MA} (ha : QE X W a ma) (hr : QA X W es mr) (hs : starEach (a :: es) X.env = (false, eval a X.env) :: starEach es X.env := by rfl) : QA X W (a :: es) (mCons ma mr) :=
  PAi (pa_cons ha hr hs) fun σ H Q ⟨as, M, ρ, Q', X', r, rs, h, hq, hx⟩ => by
    refine lf_bind r rs h hx fun dx M1 as1 H1 x h1 e1 r1 rs1 rx => ?_
    refine lfA_bind r1 rs1 h1 (fun x M' q => (hx x M' q).mono e1) fun ds M2 as2 H2 vs h2 e2 r2 rs2 rv => ?_
    exact hq _ _ h2 as2 H2 _ (e1.trans e2) r2 (.cons (rx.up e2) rv)
/-! tuples and lists -/
def oTup : OA := fun ds M Q => ds.length ≤ 1000 ∧ Q (.tup ds) M
def oLst : OA := fun ds M Q => ds.length ≤ 1000 ∧ Q (.ref M.length) (M ++ [.lst ds])
theorem app_at {α : Type} {l : List α} {a : α} : (l ++ [a])[l.length]? = some a := by simp
theorem le_size {n : Nat} (h : n ≤ 1000) : n ≤ sizeLine := Nat.le_trans h (by decide)
/-- a new tuple is laid -/
theorem new_tup {K : PySem.W.Frag} {as : List Addr} {H : Hp} {M : Mem} {ds : List D} {xs : List V} {p : Addr} {k : DK} {Q : VK} (r : RepM K as H M) (rv : RelL K as H ds xs) (hp : H p = none) (h : k (.tup ds) M) (hk : ∀ d M', k d M' → LQ K as H Q d M') : Q (.ref p) (upd H p (.tup xs)) :=
  hk _ _ h as _ _ (ext_new hp) (r.laid hp) (.tup Tq.new (rv.up (ext_new hp)))
theorem new_obj {K : PySem.W.Frag} {as : List Addr} {H : Hp} {M : Mem} {o : O} {u : HO} {p : Addr} {k : DK} {Q : VK} (r : RepM K as H M) (hp : H p = none) (ho : OR K (as ++ [p]) (upd H p u) o p) (h : k (.ref M.length) (M ++ [o])) (hk : ∀ d M', k d M' → LQ K as H Q d M') : Q (.ref p) (upd H p u) :=
  hk _ _ h (as ++ [p]) _ _ ((ext_new hp).trans ext_app) (r.new hp ho) (.ref (by rw [← r.len]; exact app_at))
theorem new_lst {K : PySem.W.Frag} {as : List Addr} {H : Hp} {M : Mem} {ds : List D} {xs : List V} {p : Addr} {k : DK} {Q : VK} (r : RepM K as H M) (rv : RelL K as H ds xs) (hp : H p = none) (h : k (.ref M.length) (M ++ [.lst ds])) (hk : ∀ d M', k d M' → LQ K as H Q d M') : Q (.ref p) (upd H p (.lst xs)) :=
  new_obj (o := .lst ds) r hp ⟨xs, upd_same, rv.up ((ext_new hp).trans ext_app)⟩ h hk
theorem qe_tup {n : Nat} {ma : MA} (ha : QA X W es ma) : QE X W (.Tuple es n pos) (mCB oTup ma) := PEi (pe_tup ha) fun σ H Q ⟨as, M, ρ, Q', X', r, rs, h, hq, hx⟩ => by
  refine lfA_bind r rs h hx fun ds M1 as1 H1 vs h1 e1 r1 rs1 rv => ?_
  exact ⟨by rw [← rv.len]; exact le_size h1.1, fun p hp => new_tup r1 rv hp h1.2 fun d M' q => (hq d M' q).mono e1⟩
theorem qe_lst {ma : MA} (ha : QA X W es ma) : QE X W (.List es pos) (mCB oLst ma) := PEi (pe_lst ha) fun σ H Q ⟨as, M, ρ, Q', X', r, rs, h, hq, hx⟩ => by
  refine lfA_bind r rs h hx fun ds M1 as1 H1 vs h1 e1 r1 rs1 rv => ?_
  exact ⟨by rw [← rv.len]; exact le_size h1.1, fun p hp => new_lst r1 rv hp h1.2 fun d M' q => (hq d M' q).mono e1⟩
end
/-! ### tests -/
section
variable {X : Cx} {W : WX} {a b c : Expr} {rest : List Expr} {ma mb mc : ME} {ta tb tc : MT} {pos : Pos}
def mB (ma : ME) : MT := fun ρ M Q X => ma ρ M (fun x M1 => match x with | .bl k => Q k M1 | _ => False) X
def mAnd (t u : MT) : MT := fun ρ M Q X => t ρ M (fun k M1 => if k = true then u ρ M1 Q X else Q false M1) X
def mOr (t u : MT) : MT := fun ρ M Q X => t ρ M (fun k M1 => if k = true then Q true M1 else u ρ M1 Q X) X
def mNot (t : MT) : MT := fun ρ M Q X => t ρ M (fun k M1 => Q (!k) M1) X
theorem lfT_b {K : PySem.W.Frag} {σ : L2.St} {H : Hp} {Q : Bool → Hp → Prop} (h : lfT K W (mB ma) σ H Q) : tTest (lf K W ma) σ H Q := by
  obtain ⟨as, M, ρ, Q', X', r, rs, h, hq, hx⟩ := h
  refine lf_bind r rs h hx fun dx M1 as1 H1 x h1 e1 r1 rs1 rx => ?_
  cases rx with
  | bl k => exact ⟨k, rfl, hq k M1 h1 as1 H1 e1 r1⟩
  | _ => exact h1.elim
theorem qt_cmp {op : CmpOp} {r : R2} {o : OP} (ho : OpR X (compareOp op) r) (hs : SimO X.K r o) (ha : QE X W a ma) (hb : QE X W b mb) (hm : behindInMarks op b = false) : QT X W (.Compare a [op] [b] pos) (mB (mOp o ma mb)) :=
  PTi (pt_cmpR ho ha hb hm) fun σ H Q h => by
    have h2 := lfT_b h
    exact lf_op hs σ H _ h2
theorem qw_and1 (ha : QT X W a ta) : QW X W (.BoolOp .And [a] pos) ta := pw_and1 ha
theorem qw_or1 (ha : QT X W a ta) : QW X W (.BoolOp .Or [a] pos) ta := pw_or1 ha
theorem qw_and (ha : QT X W a ta) (hb : QW X W (.BoolOp .And (b :: rest) pos) tb) : QW X W (.BoolOp .And (a :: b :: rest) pos) (mAnd ta tb) := PWi (pw_and ha hb) fun σ H Q ⟨as, M, ρ, Q', X', r, rs, h, hq, hx⟩ => by
  refine lfT_bind r rs h hx fun k M1 as1 H1 h1 e1 r1 rs1 => ?_
  cases k with
  | true => exact ⟨as1, M1, ρ, Q', X', r1, rs1, h1, fun d M' q => (hq d M' q).mono e1, fun x M' q => (hx x M' q).mono e1⟩
  | false => exact hq false M1 h1 as1 H1 e1 r1
theorem qw_or (ha : QT X W a ta) (hb : QW X W (.BoolOp .Or (b :: rest) pos) tb) : QW X W (.BoolOp .Or (a :: b :: rest) pos) (mOr ta tb) := PWi (pw_or ha hb) fun σ H Q ⟨as, M, ρ, Q', X', r, rs, h, hq, hx⟩ => by
  refine lfT_bind r rs h hx fun k M1 as1 H1 h1 e1 r1 rs1 => ?_
  cases k with
  | true => exact hq true M1 h1 as1 H1 e1 r1
  | false => exact ⟨as1, M1, ρ, Q', X', r1, rs1, h1, fun d M' q => (hq d M' q).mono e1, fun x M' q => (hx x M' q).mono e1⟩
theorem qt_not (ha : QT X W a ta) : QT X W (.UnaryOp .Not a pos) (mNot ta) := PTi (pt_not ha) fun σ H Q ⟨as, M, ρ, Q', X', r, rs, h, hq, hx⟩ =>
  lfT_bind r rs h hx fun k M1 as1 H1 h1 e1 r1 _ => hq (!k) M1 h1 as1 H1 e1 r1
/-- a value's truth -/
def tru (x : D) (M : Mem) (Q : Bool → Mem → Prop) : Prop := match x with
  | .non => Q false M
  | .bl b => Q b M
  | .int i => Q (i != 0) M
  | .str y => y.length ≤ 16000000 ∧ Q ((y.length : Int) != 0) M
  | .tup ds => Q (!ds.isEmpty) M
  | .ref n => match M[n]? with
    | some (.lst ds) => Q (!ds.isEmpty) M
    | some (.dct false kvs) => Q (!kvs.isEmpty) M
    | _ => False
  | _ => False
def mTru (ma : ME) : MT := fun ρ M Q X => ma ρ M (fun x M1 => tru x M1 Q) X
theorem RelL.isEmpty {K : PySem.W.Frag} {as : List Addr} {H : Hp} {ds : List D} {vs : List V} (h : RelL K as H ds vs) : ds.isEmpty = vs.isEmpty := by cases h <;> rfl
theorem KVR.isEmpty {K : PySem.W.Frag} {as : List Addr} {H : Hp} {κ : Type} {ds : List (κ × D)} {vs : List (κ × V)} (h : KVR K as H ds vs) : ds.isEmpty = vs.isEmpty := by cases h <;> rfl
theorem tru_ok {K : PySem.W.Frag} {as : List Addr} {H : Hp} {M : Mem} {d : D} {x : V} {k : Bool → Mem → Prop} {Q : Bool → Hp → Prop} (rp : RepM K as H M) (rx : Rel K as H d x) (h : tru d M k) (hk : ∀ b M', k b M' → LT K as H Q b M') : ∃ b, TruV K x H b ∧ Q b H := by
  cases rx with
  | non => exact ⟨false, rfl, hk _ _ h as H .refl rp⟩
  | bl b => exact ⟨b, rfl, hk _ _ h as H .refl rp⟩
  | int i => exact ⟨_, rfl, hk _ _ h as H .refl rp⟩
  | str y => exact ⟨_, ⟨Nat.le_trans h.1 (by decide), rfl⟩, hk _ _ h.2 as H .refl rp⟩
  | tup hs hl => exact ⟨_, .inr (.inl ⟨_, hs.1, rfl⟩), by rw [← hl.isEmpty]; exact hk _ _ h as H .refl rp⟩
  | ref hn =>
    rename_i n a
    dsimp only [tru] at h
    split at h
    · rename_i ds e
      obtain ⟨a', ha, xs, h1, h2⟩ := rp.at_ e
      rw [hn] at ha; cases ha
      exact ⟨_, .inl ⟨xs, SqL.of h1, rfl⟩, by rw [← h2.isEmpty]; exact hk _ _ h as H .refl rp⟩
    · rename_i kvs e
      obtain ⟨a', ha, ks, h1, h2⟩ := rp.at_ e
      rw [hn] at ha; cases ha
      exact ⟨_, .inr (.inr ⟨ks, h2, rfl⟩), by rw [← h1.isEmpty]; exact hk _ _ h as H .refl rp⟩
    · exact h.elim
  | _ => exact h.elim
theorem qt_tru (ha : QE X W a ma) (he : ∀ whole, isTrue a X.env whole = (do let v ← whole; standAt a.pos; holding [v] (truthy v))) : QT X W a (mTru ma) := PTi (pt_truth ha he) fun σ H Q ⟨as, M, ρ, Q', X', r, rs, h, hq, hx⟩ => by
  refine lf_bind r rs h hx fun dx M1 as1 H1 x h1 e1 r1 rs1 rx => ?_
  exact tru_ok r1 rx h1 fun b M' q => (hq b M' q).mono e1
/-! values: and, or, not, chains, a if c else b -/
def mAndV (ma mb : ME) : ME := fun ρ M Q X => ma ρ M (fun x M1 => match x with | .bl k => if k = true then mb ρ M1 Q X else Q (.bl false) M1 | _ => False) X
def mOrV (ma mb : ME) : ME := fun ρ M Q X => ma ρ M (fun x M1 => match x with | .bl k => if k = true then Q (.bl true) M1 else mb ρ M1 Q X | _ => False) X
def mNotV (ma : ME) : ME := fun ρ M Q X => ma ρ M (fun x M1 => match x with | .bl k => Q (.bl (!k)) M1 | _ => False) X
def mIf (t : MT) (ma mb : ME) : ME := fun ρ M Q X => t ρ M (fun k M1 => if k = true then ma ρ M1 Q X else mb ρ M1 Q X) X
def mChain (o o' : OP) (ma mb mc : ME) : ME := fun ρ M Q X => ma ρ M (fun x M1 => mb ρ M1 (fun y M2 => o x y M2 fun z M3 => match z with | .bl k => if k = true then mc ρ M3 (fun w M4 => o' y w M4 Q) X else Q (.bl false) M3 | _ => False) X) X
theorem qe_one {op : BoolOp} (ha : QE X W a ma) : QE X W (.BoolOp op [a] pos) ma := pe_one ha
theorem qe_and (ha : QE X W a ma) (hb : QE X W (.BoolOp .And (b :: rest) pos) mb) : QE X W (.BoolOp .And (a :: b :: rest) pos) (mAndV ma mb) := PEi (pe_and ha hb) fun σ H Q ⟨as, M, ρ, Q', X', r, rs, h, hq, hx⟩ => by
  refine lf_bind r rs h hx fun dx M1 as1 H1 x h1 e1 r1 rs1 rx => ?_
  cases rx with
  | bl k =>
    refine ⟨k, rfl, ?_⟩
    cases k with
    | true => exact ⟨as1, M1, ρ, Q', X', r1, rs1, h1, fun d M' q => (hq d M' q).mono e1, fun x M' q => (hx x M' q).mono e1⟩
    | false => exact hq _ M1 h1 as1 H1 _ e1 r1 (.bl false)
  | _ => exact h1.elim
theorem qe_or (ha : QE X W a ma) (hb : QE X W (.BoolOp .Or (b :: rest) pos) mb) : QE X W (.BoolOp .Or (a :: b :: rest) pos) (mOrV ma mb) := PEi (pe_or ha hb) fun σ H Q ⟨as, M, ρ, Q', X', r, rs, h, hq, hx⟩ => by
  refine lf_bind r rs h hx fun dx M1 as1 H1 x h1 e1 r1 rs1 rx => ?_
  cases rx with
  | bl k =>
    refine ⟨k, rfl, ?_⟩
    cases k with
    | true => exact hq _ M1 h1 as1 H1 _ e1 r1 (.bl true)
    | false => exact ⟨as1, M1, ρ, Q', X', r1, rs1, h1, fun d M' q => (hq d M' q).mono e1, fun x M' q => (hx x M' q).mono e1⟩
  | _ => exact h1.elim
theorem qe_not (ha : QE X W a ma) : QE X W (.UnaryOp .Not a pos) (mNotV ma) := PEi (pe_not ha) fun σ H Q ⟨as, M, ρ, Q', X', r, rs, h, hq, hx⟩ => by
  refine lf_bind r rs h hx fun dx M1 as1 H1 x h1 e1 r1 rs1 rx => ?_
  cases rx with
  | bl k => exact ⟨k, rfl, hq _ M1 h1 as1 H1 _ e1 r1 (.bl (!k))⟩
  | _ => exact h1.elim
theorem qe_ifExp (hc : QT X W c tc) (ha : QE X W a ma) (hb : QE X W b mb) : QE X W (.IfExp c a b pos) (mIf tc ma mb) := PEi (pe_ifExp hc ha hb) fun σ H Q ⟨as, M, ρ, Q', X', r, rs, h, hq, hx⟩ => by
  refine lfT_bind r rs h hx fun k M1 as1 H1 h1 e1 r1 rs1 => ?_
  cases k with
  | true => exact ⟨as1, M1, ρ, Q', X', r1, rs1, h1, fun d M' q => (hq d M' q).mono e1, fun x M' q => (hx x M' q).mono e1⟩
  | false => exact ⟨as1, M1, ρ, Q', X', r1, rs1, h1, fun d M' q => (hq d M' q).mono e1, fun x M' q => (hx x M' q).mono e1⟩
theorem lf_chain {K : PySem.W.Frag} {r r' : R2} {o o' : OP} (hs : SimO K r o) (hs' : SimO K r' o') (σ : L2.St) (H : Hp) (Q : VK) (h : lf K W (mChain o o' ma mb mc) σ H Q) : tChain r r' (lf K W ma) (lf K W mb) (lf K W mc) σ H Q := by
  obtain ⟨as, M, ρ, Q', X', rp, rs, h, hq, hx⟩ := h
  refine lf_bind rp rs h hx fun dx M1 as1 H1 x h1 e1 r1 rs1 rx => ?_
  refine lf_bind r1 rs1 h1 (fun x M' q => (hx x M' q).mono e1) fun dy M2 as2 H2 y h2 e2 r2 rs2 ry => ?_
  refine hs as2 H2 M2 dx dy x y _ _ r2 (rx.up e2) ry h2 fun dz M3 q3 as3 H3 z e3 r3 rz => ?_
  cases rz with
  | bl k =>
    refine ⟨k, rfl, ?_⟩
    have e4 := (e1.trans e2).trans e3
    cases k with
    | true =>
      rw [if_pos rfl]
      refine lf_bind r3 (rs2.up e3) q3 (fun x M' q => (hx x M' q).mono e4) fun dw M4 as4 H4 w h4 e5 r4 rs4 rw' => ?_
      exact hs' as4 H4 M4 dy dw y w Q' Q r4 (ry.up (e3.trans e5)) rw' h4 fun d M' q => (hq d M' q).mono (e4.trans e5)
    | false =>
      rw [if_neg Bool.false_ne_true]
      exact hq _ M3 q3 as3 H3 _ e4 r3 (.bl false)
  | _ => exact q3.elim
theorem qe_chain {op op' : CmpOp} {r r' : R2} {o o' : OP} (ho : OpR X (compareOp op) r) (hs : SimO X.K r o) (ho' : OpR X (compareOp op') r') (hs' : SimO X.K r' o') (ha : QE X W a ma) (hb : QE X W b mb) (hc : QE X W c mc) (hm : lastMarks [op, op'] [b, c] = false := by with_unfolding_all rfl) :
    QE X W (.Compare a [op, op'] [b, c] pos) (mChain o o' ma mb mc) := PEi (pe_chain ho ho' ha hb hc hm) (lf_chain hs hs')
theorem qt_chain {op op' : CmpOp} {r r' : R2} {o o' : OP} (ho : OpR X (compareOp op) r) (hs : SimO X.K r o) (ho' : OpR X (compareOp op') r') (hs' : SimO X.K r' o') (ha : QE X W a ma) (hb : QE X W b mb) (hc : QE X W c mc) (hm : lastMarks [op, op'] [b, c] = false := by with_unfolding_all rfl) :
    QT X W (.Compare a [op, op'] [b, c] pos) (mB (mChain o o' ma mb mc)) := PTi (pt_chain ho ho' ha hb hc hm) fun σ H Q h => lf_chain hs hs' σ H _ (lfT_b h)
end
end MV
namespace MV
open PySem PySem.Spec PyProof.Rows L2
/-! ### data without objects: equality -/
mutual
def deq : D → D → Bool
  | .non, .non => true
  | .bl a, .bl b => a == b
  | .bl a, .int j => (if a then 1 else 0) == j
  | .int i, .bl b => i == (if b then 1 else 0)
  | .int i, .int j => i == j
  | .str x, .str y => x == y
  | .tup xs, .tup ys => deqL xs ys
  | _, _ => false
def deqL : List D → List D → Bool
  | [], [] => true
  | x :: xs, y :: ys => deq x y && deqL xs ys
  | _, _ => false
end
def fine : Nat → D → Bool
  | _, .non => true
  | _, .bl _ => true
  | _, .int _ => true
  | _, .str x => PyData.strOk x
  | k + 1, .tup ds => ds.all (fine k)
  | _, _ => false
mutual
def toPy : D → PyData
  | .non => .none
  | .bl b => .bool b
  | .int i => .int i
  | .str x => .str x
  | .tup ds => .tuple (toPyL ds)
  | _ => .none
def toPyL : List D → List PyData
  | [] => []
  | d :: ds => toPy d :: toPyL ds
end
section
variable {K : PySem.W.Frag} {as : List Addr} {H : Hp}
theorem fine_ok (k : Nat) : ∀ {d : D} {v : V}, fine k d = true → Rel K as H d v → Dp K H v (toPy d) ∧ (toPy d).canLay0 = true ∧ (toPy d).depth ≤ k := by
  induction k with
  | zero =>
    intro d v f r
    cases r with
    | non => exact ⟨.non, by simp [toPy, PyData.canLay0], by simp [toPy, PyData.depth]⟩
    | bl b => exact ⟨.bl b, by simp [toPy, PyData.canLay0], by simp [toPy, PyData.depth]⟩
    | int b => exact ⟨.int b, by simp [toPy, PyData.canLay0], by simp [toPy, PyData.depth]⟩
    | str b => exact ⟨.str b, by simp only [toPy, PyData.canLay0]; exact f, by simp [toPy, PyData.depth]⟩
    | _ => simp [fine] at f
  | succ k ih =>
    intro d v f r
    cases r with
    | non => exact ⟨.non, by simp [toPy, PyData.canLay0], by simp [toPy, PyData.depth]⟩
    | bl b => exact ⟨.bl b, by simp [toPy, PyData.canLay0], by simp [toPy, PyData.depth]⟩
    | int b => exact ⟨.int b, by simp [toPy, PyData.canLay0], by simp [toPy, PyData.depth]⟩
    | str b => exact ⟨.str b, by simp only [toPy, PyData.canLay0]; exact f, by simp [toPy, PyData.depth]⟩
    | tup hs hl =>
      rename_i a xs ds
      have key : ∀ (ds : List D) (xs : List V), RelL K as H ds xs → ds.all (fine k) = true → DpAll K H xs (toPyL ds) ∧ PyData.canLayAll0 (toPyL ds) = true ∧ PyData.depthAll (toPyL ds) ≤ k := by
        intro ds
        induction ds with
        | nil => intro xs h _; cases h; exact ⟨.nil, by simp [toPyL, PyData.canLayAll0], by simp [toPyL, PyData.depthAll]⟩
        | cons d ds ihd =>
          intro xs h f
          cases h with
          | cons h1 h2 =>
            simp only [List.all_cons, Bool.and_eq_true] at f
            obtain ⟨a1, a2, a3⟩ := ih f.1 h1
            obtain ⟨b1, b2, b3⟩ := ihd _ h2 f.2
            refine ⟨.cons a1 b1, by simp [toPyL, PyData.canLayAll0, a2, b2], ?_⟩
            simp only [toPyL, PyData.depthAll]
            omega
      obtain ⟨a1, a2, a3⟩ := key ds xs hl (by simpa [fine] using f)
      exact ⟨.tup hs.1 a1, by simp only [toPy, PyData.canLay0]; exact a2, by simp only [toPy, PyData.depth]; omega⟩
    | _ => simp [fine] at f
theorem fineL_ok (k : Nat) : ∀ {ds : List D} {xs : List V}, RelL K as H ds xs → ds.all (fine k) = true → DpAll K H xs (toPyL ds) ∧ PyData.canLayAll0 (toPyL ds) = true ∧ PyData.depthAll (toPyL ds) ≤ k
  | _, _, .nil, _ => ⟨.nil, by simp [toPyL, PyData.canLayAll0], by simp [toPyL, PyData.depthAll]⟩
  | _, _, .cons h1 h2, f => by
    simp only [List.all_cons, Bool.and_eq_true] at f
    obtain ⟨a1, a2, a3⟩ := fine_ok k f.1 h1
    obtain ⟨b1, b2, b3⟩ := fineL_ok k h2 f.2
    refine ⟨.cons a1 b1, by simp [toPyL, PyData.canLayAll0, a2, b2], ?_⟩
    simp only [toPyL, PyData.depthAll]
    omega
theorem shaped_of {p : PyData} {k : Nat} (h : p.canLay0 = true) (hd : p.depth ≤ k) (hk : k ≤ 64) : SeqAt.shaped p = true := by
  simp only [SeqAt.shaped, Bool.and_eq_true, decide_eq_true_eq]
  exact ⟨h, Nat.le_trans hd hk⟩
end
theorem eqv_deq (k : Nat) : ∀ {d e : D}, fine k d = true → fine k e = true → PyData.eqv (toPy d) (toPy e) = deq d e := by
  induction k with
  | zero =>
    intro d e f g
    cases d <;> cases e <;> first | (simp [fine] at f; done) | (simp [fine] at g; done) | simp [toPy, PyData.eqv, deq]
  | succ k ih =>
    intro d e f g
    cases d <;> cases e <;> first | (simp [fine] at f; done) | (simp [fine] at g; done) | skip
    case tup.tup ds es =>
      simp only [toPy, PyData.eqv, deq]
      simp only [fine] at f g
      revert es
      induction ds with
      | nil => intro es g; cases es <;> simp [toPyL, PyData.eqvAll, deqL]
      | cons d ds ihd =>
        intro es g
        cases es with
        | nil => simp [toPyL, PyData.eqvAll, deqL]
        | cons e es =>
          simp only [List.all_cons, Bool.and_eq_true] at f g
          simp only [toPyL, PyData.eqvAll, deqL]
          rw [ih f.1 g.1, ihd f.2 es g.2]
    all_goals simp [toPy, PyData.eqv, deq]
theorem eqv_deqL (k : Nat) : ∀ {ds es : List D}, ds.all (fine k) = true → es.all (fine k) = true → PyData.eqvAll (toPyL ds) (toPyL es) = deqL ds es
  | [], [], _, _ => by simp [toPyL, PyData.eqvAll, deqL]
  | [], _ :: _, _, _ => by simp [toPyL, PyData.eqvAll, deqL]
  | _ :: _, [], _, _ => by simp [toPyL, PyData.eqvAll, deqL]
  | d :: ds, e :: es, f, g => by
    simp only [List.all_cons, Bool.and_eq_true] at f g
    simp only [toPyL, PyData.eqvAll, deqL]
    rw [eqv_deq k f.1 g.1, eqv_deqL k f.2 g.2]

/-! ### operators -/
def okMul (i j : Int) : Prop := CMul i j ∨ CMulW i j
def okDiv (j : Int) : Prop := j ≠ 0 ∧ j.natAbs.log2 < 9000
def oAdd : OP := fun x y M Q => match x, y with
  | .int i, .int j => Q (.int (i + j)) M
  | .str a, .str b => a.length + b.length ≤ 16000000 ∧ Q (.str (a ++ b)) M
  | .tup a, .tup b => a.length + b.length ≤ 16000000 ∧ Q (.tup (a ++ b)) M
  | .ref m, .ref n => match M[m]?, M[n]? with
    | some (.lst a), some (.lst b) => a.length + b.length ≤ 16000000 ∧ Q (.ref M.length) (M ++ [.lst (a ++ b)])
    | _, _ => False
  | _, _ => False
def oSub : OP := fun x y M Q => match x, y with | .int i, .int j => Q (.int (i - j)) M | _, _ => False
def oMul : OP := fun x y M Q => match x, y with | .int i, .int j => okMul i j ∧ Q (.int (i * j)) M | _, _ => False
def oDiv : OP := fun x y M Q => match x, y with | .int i, .int j => okDiv j ∧ Q (.int (i.fdiv j)) M | _, _ => False
def oMod : OP := fun x y M Q => match x, y with | .int i, .int j => j ≠ 0 ∧ Q (.int (i.fmod j)) M | _, _ => False
def oPow : OP := fun x y M Q => match x, y with | .int i, .int j => CPow i j ∧ Q (.int (i ^ j.toNat)) M | _, _ => False
def oNeg : OU := fun x M Q => match x with | .int i => Q (.int (-i)) M | _ => False
def oLt : OP := fun x y M Q => match x, y with | .int i, .int j => Q (.bl (decide (i < j))) M | _, _ => False
def oLe : OP := fun x y M Q => match x, y with | .int i, .int j => Q (.bl (decide (i ≤ j))) M | _, _ => False
def oGt : OP := fun x y M Q => match x, y with | .int i, .int j => Q (.bl (decide (j < i))) M | _, _ => False
def oGe : OP := fun x y M Q => match x, y with | .int i, .int j => Q (.bl (decide (j ≤ i))) M | _, _ => False
mutual
/-- d, with all that it holds, is the plain data p -/
inductive See (M : Mem) : Nat → D → PyData → Prop
  | non (k : Nat) : See M k .non .none
  | bl (k : Nat) (b : Bool) : See M k (.bl b) (.bool b)
  | int (k : Nat) (i : Int) : See M k (.int i) (.int i)
  | str (k : Nat) {x : Str} : PyData.strOk x = true → See M k (.str x) (.str x)
  | tup {k : Nat} {ds : List D} {ps : List PyData} : SeeL M k ds ps → See M (k + 1) (.tup ds) (.tuple ps)
  | lst {k n : Nat} {ds : List D} {ps : List PyData} : M[n]? = some (.lst ds) → SeeL M k ds ps → See M (k + 1) (.ref n) (.list ps)
inductive SeeL (M : Mem) : Nat → List D → List PyData → Prop
  | nil {k : Nat} : SeeL M k [] []
  | cons {k : Nat} {d : D} {ds : List D} {p : PyData} {ps : List PyData} : See M k d p → SeeL M k ds ps → SeeL M k (d :: ds) (p :: ps)
end
/-- x == y (of all that can be seen as plain data) -/
def oEqB (x y : D) (M : Mem) (k : Bool → Prop) : Prop := match x, y with
  | .str a, .str b => k (decide (a = b))
  | .int i, .int j => k (decide (i = j))
  | x, y => ∃ p q, See M 20 x p ∧ See M 20 y q ∧ k (PyData.eqv p q)
def oEq : OP := fun x y M Q => oEqB x y M fun b => Q (.bl b) M
def oNe : OP := fun x y M Q => oEqB x y M fun b => Q (.bl (!b)) M
def oIsN : OU := fun x M Q => Q (.bl (match x with | .non => true | _ => false)) M
def oNotN : OU := fun x M Q => Q (.bl (match x with | .non => false | _ => true)) M
section
variable {K : PySem.W.Frag}
theorem at_lst {as : List Addr} {H : Hp} {M : Mem} {n : Nat} {a : Addr} {ds : List D} (rp : RepM K as H M) (hn : as[n]? = some a) (e : M[n]? = some (.lst ds)) : ∃ xs, H a = some (.lst xs) ∧ RelL K as H ds xs := by
  obtain ⟨a', ha, xs, h1, h2⟩ := rp.at_ e
  rw [hn] at ha; cases ha
  exact ⟨xs, h1, h2⟩
theorem sim_i0 {f : Int → Int → Int} {o : OP} (ho : ∀ x y M Q, o x y M Q → ∃ i j, x = .int i ∧ y = .int j ∧ Q (.int (f i j)) M) : SimO K (rI0 fun i j => .int (f i j)) o := fun as H M dx dy x y k Q rp rx ry h hk => by
  obtain ⟨i, j, rfl, rfl, q⟩ := ho _ _ _ _ h
  cases rx; cases ry
  exact ⟨i, j, rfl, rfl, hk _ _ q as H _ .refl rp (.int _)⟩
theorem sim_b0 {f : Int → Int → Bool} {o : OP} (ho : ∀ x y M Q, o x y M Q → ∃ i j, x = .int i ∧ y = .int j ∧ Q (.bl (f i j)) M) : SimO K (rI0 fun i j => .bl (f i j)) o := fun as H M dx dy x y k Q rp rx ry h hk => by
  obtain ⟨i, j, rfl, rfl, q⟩ := ho _ _ _ _ h
  cases rx; cases ry
  exact ⟨i, j, rfl, rfl, hk _ _ q as H _ .refl rp (.bl _)⟩
theorem sim_i {C : Int → Int → Prop} {f : Int → Int → Int} {o : OP} (ho : ∀ x y M Q, o x y M Q → ∃ i j, x = .int i ∧ y = .int j ∧ C i j ∧ Q (.int (f i j)) M) : SimO K (rI C fun i j => .int (f i j)) o := fun as H M dx dy x y k Q rp rx ry h hk => by
  obtain ⟨i, j, rfl, rfl, c, q⟩ := ho _ _ _ _ h
  cases rx; cases ry
  exact ⟨i, j, rfl, rfl, c, hk _ _ q as H _ .refl rp (.int _)⟩
theorem sim_sub : SimO K (rI0 fun i j => .int (i - j)) oSub := sim_i0 fun x y M Q h => by
  cases x <;> cases y <;> first | exact h.elim | exact ⟨_, _, rfl, rfl, h⟩
theorem sim_mod : SimO K (rI (fun _ j => j ≠ 0) fun i j => .int (i.fmod j)) oMod := sim_i fun x y M Q h => by
  cases x <;> cases y <;> first | exact h.elim | exact ⟨_, _, rfl, rfl, h⟩
theorem sim_div : SimO K (rI DW.CDivX fun i j => .int (i.fdiv j)) oDiv := sim_i fun x y M Q h => by
  cases x <;> cases y <;> first | exact h.elim | exact ⟨_, _, rfl, rfl, h⟩
theorem sim_pow : SimO K (rI CPow fun i j => .int (i ^ j.toNat)) oPow := sim_i fun x y M Q h => by
  cases x <;> cases y <;> first | exact h.elim | exact ⟨_, _, rfl, rfl, h⟩
theorem sim_lt : SimO K (rI0 fun i j => .bl (decide (i < j))) oLt := sim_b0 fun x y M Q h => by
  cases x <;> cases y <;> first | exact h.elim | exact ⟨_, _, rfl, rfl, h⟩
theorem sim_le : SimO K (rI0 fun i j => .bl (decide (i ≤ j))) oLe := sim_b0 fun x y M Q h => by
  cases x <;> cases y <;> first | exact h.elim | exact ⟨_, _, rfl, rfl, h⟩
theorem sim_gt : SimO K (rI0 fun i j => .bl (decide (j < i))) oGt := sim_b0 fun x y M Q h => by
  cases x <;> cases y <;> first | exact h.elim | exact ⟨_, _, rfl, rfl, h⟩
theorem sim_ge : SimO K (rI0 fun i j => .bl (decide (j ≤ i))) oGe := sim_b0 fun x y M Q h => by
  cases x <;> cases y <;> first | exact h.elim | exact ⟨_, _, rfl, rfl, h⟩
def rMulA : R2 := fun x y H Q => rI CMul (fun i j => .int (i * j)) x y H Q ∨ rI CMulW (fun i j => .int (i * j)) x y H Q
theorem op_mulA {X : Cx} : OpR X (binaryOp .Mult) rMulA := OpR.or op_mul op_mulW
theorem sim_mul : SimO K rMulA oMul := fun as H M dx dy x y k Q rp rx ry h hk => by
  cases dx <;> cases dy <;> first | exact h.elim | skip
  cases rx; cases ry
  rcases h.1 with c | c
  · exact .inl ⟨_, _, rfl, rfl, c, hk _ _ h.2 as H _ .refl rp (.int _)⟩
  · exact .inr ⟨_, _, rfl, rfl, c, hk _ _ h.2 as H _ .refl rp (.int _)⟩
theorem sim_neg : SimU K (rU fun i => .int (-i)) oNeg := fun as H M dx x k Q rp rx h hk => by
  cases dx <;> first | exact h.elim | skip
  cases rx
  exact ⟨_, rfl, hk _ _ h as H _ .refl rp (.int _)⟩
theorem RelL.nil_iff {as : List Addr} {H : Hp} {ds : List D} {vs : List V} (h : RelL K as H ds vs) : vs = [] ↔ ds = [] := by cases h <;> simp
theorem sim_add : SimO K (DW.rPlus K) oAdd := fun as H M dx dy x y k Q rp rx ry h hk => by
  cases rx with
  | int i =>
    cases ry with
    | int j => exact .inl ⟨i, j, rfl, rfl, hk _ _ h as H _ .refl rp (.int _)⟩
    | _ => exact h.elim
  | str a =>
    cases ry with
    | str b => exact .inr (.inl ⟨a, b, rfl, rfl, Nat.le_trans h.1 (by decide), hk _ _ h.2 as H _ .refl rp (.str _)⟩)
    | _ => exact h.elim
  | tup hs hl =>
    cases ry with
    | tup hs2 hl2 =>
      refine .inr (.inr (.inl ⟨_, _, _, _, rfl, rfl, hs.1, hs2.1, ?_, fun z => ?_, fun _ z => ?_, fun _ _ p hp => ?_⟩))
      · rw [← hl.len, ← hl2.len]; exact Nat.le_trans h.1 (by decide)
      · subst z
        cases hl
        exact hk _ _ h.2 as H _ .refl rp (.tup hs2 hl2)
      · subst z
        cases hl2
        exact hk _ _ h.2 as H _ .refl rp (by rw [List.append_nil]; exact .tup hs hl)
      · exact new_tup rp (hl.app hl2) hp h.2 hk
    | _ => exact h.elim
  | ref hn =>
    cases ry with
    | ref hm =>
      dsimp only [oAdd] at h
      split at h
      · rename_i a b e1 e2
        obtain ⟨xs, h1, h2⟩ := at_lst rp hn e1
        obtain ⟨ys, h3, h4⟩ := at_lst rp hm e2
        refine .inr (.inr (.inr ⟨_, _, xs, ys, rfl, rfl, h1, h3, ?_, fun p hp => new_lst rp (h2.app h4) hp h.2 hk⟩))
        rw [← h2.len, ← h4.len]; exact Nat.le_trans h.1 (by decide)
      · exact h.elim
    | _ => exact h.elim
  | _ => cases ry <;> exact h.elim
end
end MV
namespace MV
open PySem PySem.Spec PyProof.Rows L2
section
variable {K : PySem.W.Frag} {as : List Addr} {H : Hp} {M : Mem}
/-! ### == -/
theorem fine_str {k : Nat} {x : Str} : fine k (.str x) = PyData.strOk x := by cases k <;> rfl
theorem dat_ok {d : D} {v : V} (f : fine 20 d = true) (r : Rel K as H d v) : Dp K H v (toPy d) ∧ SeqAt.shaped (toPy d) = true :=
  let ⟨a, b, c⟩ := fine_ok 20 f r; ⟨a, shaped_of b c (by decide)⟩
theorem datL_ok {ds : List D} {xs : List V} {a : Addr} (h : H a = some (.lst xs)) (f : ds.all (fine 20) = true) (r : RelL K as H ds xs) : Dp K H (.ref a) (.list (toPyL ds)) ∧ SeqAt.shaped (.list (toPyL ds)) = true := by
  obtain ⟨h1, h2, h3⟩ := fineL_ok 20 r f
  exact ⟨.lst (SqL.of h) h1, shaped_of (k := 21) (by simp only [PyData.canLay0]; exact h2) (by simp only [PyData.depth]; omega) (by decide)⟩
mutual
theorem See.ok (rp : RepM K as H M) : ∀ {k : Nat} {d : D} {p : PyData} {v : V}, See M k d p → Rel K as H d v → Dp K H v p ∧ p.canLay0 = true ∧ p.depth ≤ k
  | _, _, _, _, .non _, .non => ⟨.non, by simp [PyData.canLay0], by simp [PyData.depth]⟩
  | _, _, _, _, .bl _ b, .bl _ => ⟨.bl b, by simp [PyData.canLay0], by simp [PyData.depth]⟩
  | _, _, _, _, .int _ b, .int _ => ⟨.int b, by simp [PyData.canLay0], by simp [PyData.depth]⟩
  | _, _, _, _, .str _ f, .str _ => ⟨.str _, by simp only [PyData.canLay0]; exact f, by simp [PyData.depth]⟩
  | _, _, _, _, .tup l, .tup hs hl => by
    obtain ⟨a1, a2, a3⟩ := SeeL.ok rp l hl
    exact ⟨.tup hs.1 a1, by simp only [PyData.canLay0]; exact a2, by simp only [PyData.depth]; omega⟩
  | _, _, _, _, .lst e l, .ref hn => by
    obtain ⟨xs, h1, h2⟩ := at_lst rp hn e
    obtain ⟨a1, a2, a3⟩ := SeeL.ok rp l h2
    exact ⟨.lst (SqL.of h1) a1, by simp only [PyData.canLay0]; exact a2, by simp only [PyData.depth]; omega⟩
theorem SeeL.ok (rp : RepM K as H M) : ∀ {k : Nat} {ds : List D} {ps : List PyData} {vs : List V}, SeeL M k ds ps → RelL K as H ds vs → DpAll K H vs ps ∧ PyData.canLayAll0 ps = true ∧ PyData.depthAll ps ≤ k
  | _, _, _, _, .nil, .nil => ⟨.nil, by simp [PyData.canLayAll0], by simp [PyData.depthAll]⟩
  | _, _, _, _, .cons a b, .cons h1 h2 => by
    obtain ⟨a1, a2, a3⟩ := See.ok rp a h1
    obtain ⟨b1, b2, b3⟩ := SeeL.ok rp b h2
    refine ⟨.cons a1 b1, by simp [PyData.canLayAll0, a2, b2], ?_⟩
    simp only [PyData.depthAll]
    omega
end
theorem eqB_ok {dx dy : D} {x y : V} {k : Bool → Prop} (rp : RepM K as H M) (rx : Rel K as H dx x) (ry : Rel K as H dy y) (h : oEqB dx dy M k) :
    (scal x y = true ∧ k (decide (x = y))) ∨ ∃ d e, Dp K H x d ∧ Dp K H y e ∧ SeqAt.shaped d = true ∧ SeqAt.shaped e = true ∧ k (PyData.eqv d e) := by
  unfold oEqB at h
  split at h
  · rename_i a b
    cases rx
    cases ry
    refine .inl ⟨rfl, ?_⟩
    have e : decide ((V.str a) = V.str b) = decide (a = b) := by simp
    rw [e]; exact h
  · rename_i a b
    cases rx
    cases ry
    · refine .inr ⟨.int a, .int b, .int a, .int b, by simp [SeqAt.shaped, PyData.canLay0, PyData.depth], by simp [SeqAt.shaped, PyData.canLay0, PyData.depth], ?_⟩
      simp only [PyData.eqv]
      have e : (a == b) = decide (a = b) := rfl
      rw [e]; exact h
  · obtain ⟨p, q, s1, s2, h⟩ := h
    obtain ⟨a1, a2, a3⟩ := s1.ok rp rx
    obtain ⟨b1, b2, b3⟩ := s2.ok rp ry
    exact .inr ⟨p, q, a1, b1, shaped_of a2 a3 (by decide), shaped_of b2 b3 (by decide), h⟩
theorem sim_eq : SimO K (DW.rEqq K) oEq := fun as H M dx dy x y k Q rp rx ry h hk => by
  rcases eqB_ok rp rx ry h with ⟨s, q⟩ | ⟨d, e, h1, h2, h3, h4, q⟩
  · exact .inl ⟨s, hk _ _ q as H _ .refl rp (.bl _)⟩
  · exact .inr ⟨d, e, h1, h2, h3, h4, hk _ _ q as H _ .refl rp (.bl _)⟩
theorem sim_ne : SimO K (DW.rNee K) oNe := fun as H M dx dy x y k Q rp rx ry h hk => by
  rcases eqB_ok rp rx ry h with ⟨s, q⟩ | ⟨d, e, h1, h2, h3, h4, q⟩
  · exact .inl ⟨s, hk _ _ q as H _ .refl rp (.bl _)⟩
  · exact .inr ⟨d, e, h1, h2, h3, h4, hk _ _ q as H _ .refl rp (.bl _)⟩
end
/-! ### is None -/
def oIs : OP := fun x y M Q => match y with | .non => oIsN x M Q | _ => False
def oIsNot : OP := fun x y M Q => match y with | .non => oNotN x M Q | _ => False
section
variable {K : PySem.W.Frag}
theorem sim_is : SimO K rIsN oIs := fun as H M dx dy x y k Q rp rx ry h hk => by
  cases ry <;> first | exact h.elim | skip
  refine ⟨rfl, ?_⟩
  cases rx <;> exact hk _ _ h as H _ .refl rp (.bl _)
theorem sim_isnot : SimO K rNotN oIsNot := fun as H M dx dy x y k Q rp rx ry h hk => by
  cases ry <;> first | exact h.elim | skip
  refine ⟨rfl, ?_⟩
  cases rx <;> exact hk _ _ h as H _ .refl rp (.bl _)
end
/-! ### dicts -/
def keyOf : D → Option Key
  | .int i => some (.inl i)
  | .str x => some (.inr x)
  | _ => none
def dget {κ : Type} [DecidableEq κ] (kvs : List (κ × D)) (k : κ) : Option D := (kvs.find? fun kv => decide (kv.1 = k)).map (·.2)
def dput {κ : Type} [DecidableEq κ] (kvs : List (κ × D)) (k : κ) (v : D) : List (κ × D) := if (kvs.any fun kv => decide (kv.1 = k)) then kvs.map (fun kv => if kv.1 = k then (kv.1, v) else kv) else kvs ++ [(k, v)]
def ddrop {κ : Type} [DecidableEq κ] (kvs : List (κ × D)) (k : κ) : List (κ × D) := kvs.filter fun kv => decide (kv.1 ≠ k)
section
variable {K : PySem.W.Frag} {as : List Addr} {H : Hp} {M : Mem} {κ : Type} [DecidableEq κ]
theorem KVR.get {l : List (κ × D)} {m : List (κ × V)} (h : KVR K as H l m) (k : κ) : (dget l k = none ∧ valV m k = none) ∨ ∃ d v, dget l k = some d ∧ valV m k = some v ∧ Rel K as H d v := by
  induction h with
  | nil => exact .inl ⟨rfl, rfl⟩
  | cons h t ih =>
    rename_i p q l m
    obtain ⟨h1, h2⟩ := h
    by_cases e : q.1 = k
    · refine .inr ⟨p.2, q.2, ?_, valV_pos e, h2⟩
      simp [dget, List.find?_cons, h1, e]
    · have e2 : ¬ p.1 = k := by rw [h1]; exact e
      have e3 : dget (p :: l) k = dget l k := by simp [dget, List.find?_cons, e2]
      rw [e3, valV_neg e]; exact ih
theorem KVR.any {l : List (κ × D)} {m : List (κ × V)} (h : KVR K as H l m) (k : κ) : (l.any fun kv => decide (kv.1 = k)) = m.any fun kv => decide (kv.1 = k) := by
  induction h with
  | nil => rfl
  | cons h t ih => simp only [List.any_cons, h.1, ih]
theorem KVR.put {l : List (κ × D)} {m : List (κ × V)} (h : KVR K as H l m) (k : κ) {d : D} {v : V} (r : Rel K as H d v) : KVR K as H (dput l k d) (putK m k v) := by
  unfold dput putK
  rw [h.any k]
  split
  · rename_i hx; clear hx
    induction h with
    | nil => exact .nil
    | cons h t ih =>
      rename_i p q l m
      simp only [List.map_cons]
      refine .cons ?_ ih
      rw [h.1]
      split
      · exact ⟨rfl, r⟩
      · exact h
  · exact Paired.snoc h ⟨rfl, r⟩
theorem KVR.drop {l : List (κ × D)} {m : List (κ × V)} (h : KVR K as H l m) (k : κ) : KVR K as H (ddrop l k) (dropK m k) := by
  unfold ddrop dropK
  induction h with
  | nil => exact .nil
  | cons h t ih =>
    rename_i p q l m
    simp only [List.filter_cons, h.1]
    split
    · exact .cons h ih
    · exact ih
theorem keyOf_ok {d : D} {v : V} {k : Key} (r : Rel K as H d v) (e : keyOf d = some k) : v = kV k := by
  cases r <;> simp [keyOf] at e <;> subst e <;> rfl
/-- the dict at n, read -/
theorem at_dct {n : Nat} {a : Addr} {lk : Bool} {kvs : List (Key × D)} (rp : RepM K as H M) (hn : as[n]? = some a) (e : M[n]? = some (.dct lk kvs)) : ∃ ks, KVR K as H kvs ks ∧ Rd H a (.dK ks) := by
  obtain ⟨a', ha, ks, h1, h2⟩ := rp.at_ e
  rw [hn] at ha; cases ha
  cases lk with
  | true => obtain ⟨ob, h2⟩ := h2; exact ⟨ks, h1, .inr ⟨ob, h2⟩⟩
  | false => exact ⟨ks, h1, .inl h2⟩
theorem at_frz {n : Nat} {a : Addr} {ds : List D} (rp : RepM K as H M) (hn : as[n]? = some a) (e : M[n]? = some (.frz ds)) : ∃ ob xs, H a = some (.frz ob (.lst xs)) ∧ RelL K as H ds xs := by
  obtain ⟨a', ha, ob, xs, h1, h2⟩ := rp.at_ e
  rw [hn] at ha; cases ha
  exact ⟨ob, xs, h1, h2⟩
end
/-! ### in -/
def flat : D → Bool
  | .non => true
  | .bl _ => true
  | .int _ => true
  | .str _ => true
  | _ => false
def inOk (x : D) (ds : List D) : Prop := ((flat x && ds.all flat) || (fine 20 x && ds.all (fine 20))) = true
def oInB (x y : D) (M : Mem) (k : Bool → Prop) : Prop := match y with
  | .str z => match x with
    | .str c => match c.cps.toList with
      | [c] => k (decide (c ∈ z.cps.toList))
      | _ => False
    | _ => False
  | .tup ds => (flat x && ds.all flat) = true ∧ k (ds.any fun e => deq e x)
  | .ref n => match M[n]? with
    | some (.lst ds) => inOk x ds ∧ k (ds.any fun e => deq e x)
    | some (.dct _ kvs) => match keyOf x with
      | some q => k (dget kvs q).isSome
      | none => False
    | _ => False
  | _ => False
def oIn : OP := fun x y M Q => oInB x y M fun b => Q (.bl b) M
def oNotIn : OP := fun x y M Q => oInB x y M fun b => Q (.bl (!b)) M
def rDIn : R2 := fun y x H Q => ∃ a o, x = .ref a ∧ DGet H a y o ∧ Q (.bl o.isSome) H
def rDNotIn : R2 := fun y x H Q => ∃ a o, x = .ref a ∧ DGet H a y o ∧ Q (.bl (!o.isSome)) H
def rInA (K : PySem.W.Frag) : R2 := fun x y H Q => rInS x y H Q ∨ rIn K false x y H Q ∨ rInD K x y H Q ∨ rDIn x y H Q
def rNotInA (K : PySem.W.Frag) : R2 := fun x y H Q => rNotInS x y H Q ∨ rIn K true x y H Q ∨ rNotInD K x y H Q ∨ rDNotIn x y H Q
section
variable {X : Cx}
theorem op_din (hu : X.A.units + 1 < cLine) : OpR X (compareOp .In) rDIn := fun pins s σ H x y v u Q I rx ry h => by
  obtain ⟨a, o, rfl, g, q⟩ := h
  obtain rfl : u = Value.ref a := ry
  exact d_in hu I g rx fun s3 I3 => ⟨.bl o.isSome, H, I3, rfl, q⟩
theorem op_dnotin (hu : X.A.units + 1 < cLine) : OpR X (compareOp .NotIn) rDNotIn := fun pins s σ H x y v u Q I rx ry h => by
  obtain ⟨a, o, rfl, g, q⟩ := h
  obtain rfl : u = Value.ref a := ry
  exact d_notIn hu I g rx fun s3 I3 => ⟨.bl (!o.isSome), H, I3, rfl, q⟩
theorem op_inA (hu : X.A.units + 65 < cLine) : OpR X (compareOp .In) (rInA X.K) := OpR.or op_inS (OpR.or op_in_seq (OpR.or (op_inD hu) (op_din (by omega))))
theorem op_notInA (hu : X.A.units + 65 < cLine) : OpR X (compareOp .NotIn) (rNotInA X.K) := OpR.or op_notInS (OpR.or op_notIn_seq (OpR.or (op_notInD hu) (op_dnotin (by omega))))
end
section
variable {K : PySem.W.Frag} {as : List Addr} {H : Hp} {M : Mem}
theorem flat_ok {d : D} {v : V} (r : Rel K as H d v) (f : flat d = true) : flatV v = true := by
  cases r <;> first | rfl | (simp [flat] at f)
theorem eqV_deq {d e : D} {v w : V} (r : Rel K as H d v) (s : Rel K as H e w) (f : flat d = true) (g : flat e = true) : eqV v w = deq d e := by
  cases r <;> first | (simp [flat] at f; done) | skip
  all_goals (cases s <;> first | (simp [flat] at g; done) | simp [eqV, deq])
theorem inV_any {e : D} {w : V} (s : Rel K as H e w) (g : flat e = true) : ∀ {ds : List D} {vs : List V}, RelL K as H ds vs → ds.all flat = true → inV w vs = ds.any (fun d => deq d e) ∧ vs.all flatV = true
  | _, _, .nil, _ => ⟨rfl, rfl⟩
  | _, _, .cons h r, f => by
    simp only [List.all_cons, Bool.and_eq_true] at f
    obtain ⟨h1, h2⟩ := inV_any s g r f.2
    simp only [inV, List.any_cons] at h1 ⊢
    rw [h1, eqV_deq h s f.1 g]
    exact ⟨rfl, by simp [flat_ok h f.1, h2]⟩
theorem any_eqv {e : D} (g : fine 20 e = true) : ∀ {ds : List D}, ds.all (fine 20) = true → ((toPyL ds).any fun z => PyData.eqv z (toPy e)) = ds.any fun d => deq d e
  | [], _ => by simp [toPyL]
  | d :: ds, f => by
    simp only [List.all_cons, Bool.and_eq_true] at f
    simp only [toPyL, List.any_cons, eqv_deq 20 f.1 g, any_eqv g f.2]
theorem inB_ok {neg : Bool} {dx dy : D} {x y : V} {k : Bool → Prop} (rp : RepM K as H M) (rx : Rel K as H dx x) (ry : Rel K as H dy y) (h : oInB dx dy M k) :
    (∃ (c : Nat) (z : Str), x = .str ⟨#[c]⟩ ∧ y = .str z ∧ k (decide (c ∈ z.cps.toList))) ∨
    (∃ p xs, y = .ref p ∧ (SqL K H p xs ∨ SqT K H p xs) ∧ flatV x = true ∧ xs.all flatV = true ∧ k (inV x xs)) ∨
    (∃ d ds, Dp K H x d ∧ Dp K H y (.list ds) ∧ SeqAt.shaped d = true ∧ SeqAt.shaped (.list ds) = true ∧ k (ds.any fun z => PyData.eqv z d)) ∨
    ∃ a o, y = .ref a ∧ DGet H a x o ∧ k o.isSome := by
  cases ry with
  | str z =>
    cases rx <;> first | exact h.elim | skip
    rename_i c
    dsimp only [oInB] at h
    split at h
    · rename_i c0 e
      refine .inl ⟨c0, z, ?_, rfl, h⟩
      obtain ⟨⟨l⟩⟩ := c
      have e2 : l = [c0] := e
      subst e2
      rfl
    · exact h.elim
  | tup hs hl =>
    obtain ⟨f, q⟩ := h
    simp only [Bool.and_eq_true] at f
    obtain ⟨h1, h2⟩ := inV_any rx f.1 hl f.2
    exact .inr (.inl ⟨_, _, rfl, .inr hs.1, flat_ok rx f.1, h2, by rw [h1]; exact q⟩)
  | ref hn =>
    dsimp only [oInB] at h
    split at h
    · rename_i ds e
      obtain ⟨xs, h1, h2⟩ := at_lst rp hn e
      obtain ⟨f, q⟩ := h
      rcases Bool.or_eq_true_iff.mp f with f | f
      · simp only [Bool.and_eq_true] at f
        obtain ⟨h3, h4⟩ := inV_any rx f.1 h2 f.2
        exact .inr (.inl ⟨_, _, rfl, .inl (SqL.of h1), flat_ok rx f.1, h4, by rw [h3]; exact q⟩)
      · simp only [Bool.and_eq_true] at f
        obtain ⟨a1, a2⟩ := dat_ok f.1 rx
        obtain ⟨b1, b2⟩ := datL_ok h1 f.2 h2
        exact .inr (.inr (.inl ⟨_, _, a1, b1, a2, b2, by rw [any_eqv f.1 f.2]; exact q⟩))
    · rename_i lk kvs e
      split at h
      · rename_i q0 eq
        obtain ⟨ks, h1, h2⟩ := at_dct rp hn e
        refine .inr (.inr (.inr ⟨_, valV ks q0, rfl, .inl ⟨ks, q0, h2, keyOf_ok rx eq, rfl⟩, ?_⟩))
        rcases h1.get q0 with ⟨g1, g2⟩ | ⟨d, v, g1, g2, _⟩
        · rw [g2]; rw [g1] at h; exact h
        · rw [g2]; rw [g1] at h; exact h
      · exact h.elim
    · exact h.elim
  | _ => exact h.elim
theorem sim_in : SimO K (rInA K) oIn := fun as H M dx dy x y k Q rp rx ry h hk => by
  have fin : ∀ b, k (.bl b) M → Q (.bl b) H := fun b q => hk _ _ q as H _ .refl rp (.bl _)
  rcases inB_ok (neg := false) rp rx ry h with ⟨c, z, h1, h2, q⟩ | ⟨p, xs, h1, h2, h3, h4, q⟩ | ⟨d, ds, h1, h2, h3, h4, q⟩ | ⟨a, o, h1, h2, q⟩
  · exact .inl ⟨c, z, h1, h2, fin _ q⟩
  · exact .inr (.inl ⟨p, xs, h1, h2, h3, h4, fin _ q⟩)
  · exact .inr (.inr (.inl ⟨d, ds, h1, h2, h3, h4, fin _ q⟩))
  · exact .inr (.inr (.inr ⟨a, o, h1, h2, fin _ q⟩))
theorem sim_notin : SimO K (rNotInA K) oNotIn := fun as H M dx dy x y k Q rp rx ry h hk => by
  have fin : ∀ b, k (.bl b) M → Q (.bl b) H := fun b q => hk _ _ q as H _ .refl rp (.bl _)
  rcases inB_ok (neg := false) rp rx ry h with ⟨c, z, h1, h2, q⟩ | ⟨p, xs, h1, h2, h3, h4, q⟩ | ⟨d, ds, h1, h2, h3, h4, q⟩ | ⟨a, o, h1, h2, q⟩
  · exact .inl ⟨c, z, h1, h2, fin _ q⟩
  · exact .inr (.inl ⟨p, xs, h1, h2, h3, h4, fin _ q⟩)
  · exact .inr (.inr (.inl ⟨d, ds, h1, h2, h3, h4, fin _ q⟩))
  · exact .inr (.inr (.inr ⟨a, o, h1, h2, fin _ q⟩))
end
/-! ### x[i] -/
def oIx : OP := fun x y M Q => match x with
  | .tup ds => match y with
    | .int i => match atI ds i with | some d => Q d M | none => False
    | _ => False
  | .str z => match y with
    | .int i => z.length ≤ 16000000 ∧ match atI z.cps.toList i with | some c => Q (.str ⟨#[c]⟩) M | none => False
    | _ => False
  | .ref n => match M[n]? with
    | some (.lst ds) => match y with
      | .int i => match atI ds i with | some d => Q d M | none => False
      | _ => False
    | some (.frz ds) => match y with
      | .int i => match atI ds i with | some d => Q d M | none => False
      | _ => False
    | some (.dct _ kvs) => match keyOf y with
      | some q => match dget kvs q with | some d => Q d M | none => False
      | none => False
    | _ => False
  | _ => False
def rIxD : R2 := fun x y H Q => ∃ a v, x = .ref a ∧ DGet H a y (some v) ∧ Q v H
theorem ix_dict {X : Cx} (hu : X.A.units + 1 < cLine) : IxR X rIxD := by
  intro value slice pins s σ H x y v u Q I rx ry h hs
  obtain ⟨a, w, rfl, g, q⟩ := h
  obtain rfl : v = Value.ref a := rx
  have hT := dict_typeIs I g
  unfold subscriptTail
  refine wpAny_bind ?_
  rw [getitemInPython_of_ne hT.not_modules]
  refine wpAny_bind (wpAny_specialOf hT PySem.F.slot_dict_getitem.lookup ?_)
  have fin : wpAny (model X.prog X.w) X.A (subscripted slice false (.ref a) u) (fun r s₃ => wpAny (model X.prog X.w) X.A (letTemporaryGo value (.ref a) r >>= fun _ => pure r) (EP X pins σ Q) X.xe s₃) X.xe s := by
    rw [hs]
    exact wpAny_operating (wpAny_mono (d_getItem hu I g ry fun w' s3 I3 rw' => (⟨w, H, I3, rw', q⟩ : EP X pins σ Q w' s3)) (fun r s₃ h₃ => wpAny_bind (wpAny_letTemporaryGo (wpAny_pure h₃))) fun _ _ x => x)
  first
    | exact wpAny_pure (wpAny_bind fin)
    | exact wpAny_bind (wpAny_pure (wpAny_bind fin))
    | exact wpAny_bind fin
def rIxA (K : PySem.W.Frag) : R2 := fun x y H Q => rIx K x y H Q ∨ rIxD x y H Q
theorem ix_any {X : Cx} (hu : X.A.units + 1 < cLine) : IxR X (rIxA X.K) := IxR.or ix_seq (ix_dict hu)
section
variable {K : PySem.W.Frag} {as : List Addr} {H : Hp} {M : Mem}
theorem atI_rel {ds : List D} {vs : List V} {i : Int} {d : D} (r : RelL K as H ds vs) (e : atI ds i = some d) : ∃ v, atI vs i = some v ∧ Rel K as H d v := by
  unfold atI at e ⊢
  rw [← r.len]
  cases h : ixN ds.length i with
  | none => rw [h] at e; cases e
  | some j =>
    rw [h] at e
    exact r.get (show ds[j]? = some d from e)
theorem sim_ix : SimO K (rIxA K) oIx := fun as H M dx dy x y k Q rp rx ry h hk => by
  cases rx with
  | tup hs hl =>
    cases ry <;> first | exact h.elim | skip
    rename_i i
    dsimp only [oIx] at h
    split at h
    · rename_i d e
      obtain ⟨v, e2, rv⟩ := atI_rel hl e
      exact .inl (.inr (.inl ⟨_, _, i, v, rfl, rfl, hs.1, e2, hk _ _ h as H _ .refl rp rv⟩))
    · exact h.elim
  | str z =>
    cases ry <;> first | exact h.elim | skip
    rename_i i
    obtain ⟨hz, h⟩ := h
    split at h
    · rename_i c e
      exact .inl (.inr (.inr ⟨z, i, c, rfl, rfl, Nat.le_trans hz (by decide), e, hk _ _ h as H _ .refl rp (.str _)⟩))
    · exact h.elim
  | ref hn =>
    dsimp only [oIx] at h
    split at h
    · rename_i ds e
      cases ry <;> first | exact h.elim | skip
      rename_i i
      dsimp only at h
      split at h
      · rename_i d e1
        obtain ⟨xs, h1, h2⟩ := at_lst rp hn e
        obtain ⟨v, e2, rv⟩ := atI_rel h2 e1
        exact .inl (.inl ⟨_, xs, i, v, rfl, rfl, SqL.of h1, e2, hk _ _ h as H _ .refl rp rv⟩)
      · exact h.elim
    · rename_i ds e
      cases ry <;> first | exact h.elim | skip
      rename_i i
      dsimp only at h
      split at h
      · rename_i d e1
        obtain ⟨ob, xs, h1, h2⟩ := at_frz rp hn e
        obtain ⟨v, e2, rv⟩ := atI_rel h2 e1
        exact .inl (.inl ⟨_, xs, i, v, rfl, rfl, .inl (.inr ⟨ob, h1⟩), e2, hk _ _ h as H _ .refl rp rv⟩)
      · exact h.elim
    · rename_i lk kvs e
      split at h
      · rename_i q0 eq
        split at h
        · rename_i d e1
          obtain ⟨ks, h1, h2⟩ := at_dct rp hn e
          rcases h1.get q0 with ⟨g1, g2⟩ | ⟨d', v, g1, g2, rv⟩
          · rw [g1] at e1; cases e1
          · rw [g1] at e1; cases e1
            exact .inr ⟨_, v, rfl, .inl ⟨ks, q0, h2, keyOf_ok ry eq, g2.symm⟩, hk _ _ h as H _ .refl rp rv⟩
        · exact h.elim
      · exact h.elim
    · exact h.elim
  | _ => exact h.elim
end
end MV
namespace MV
open PySem PySem.Spec PyProof.Rows L2
/-! ### slices -/
abbrev MO := Ev → Mem → (Option Int → Mem → Prop) → XM → Prop
def lfO (K : PySem.W.Frag) (W : WX) (m : MO) : TO := fun σ H Q => ∃ as M ρ Q' X', RepM K as H M ∧ RelS K as H ρ σ ∧ m ρ M Q' X' ∧ (∀ d M', Q' d M' → ∀ as' H', Ext K as H as' H' → RepM K as' H' M' → Q d H') ∧ ∀ x M', X' x M' → LX K as H (fun c d H => W c d σ H) x M'
abbrev QO (X : Cx) (W : WX) (e : Option Expr) (m : MO) : Prop := PO X e (lfO X.K W m)
def mNoPart : MO := fun _ M Q _ => Q none M
def mPart (m : ME) : MO := fun ρ M Q X => m ρ M (fun x M1 => match x with | .int i => Q (some i) M1 | _ => False) X
def cutD {α : Type} (xs : List α) (lo hi : Option Int) : List α := (xs.drop (HT.sIx xs.length 0 lo)).take (HT.sIx xs.length xs.length hi - HT.sIx xs.length 0 lo)
def oSl (x : D) (lo hi : Option Int) (M : Mem) (Q : DK) : Prop := match x with
  | .str z => z.length ≤ 16000000 ∧ Q (.str (cutS z lo hi)) M
  | .tup ds => Q (.tup (cutD ds lo hi)) M
  | .kl ds => Q (.ref M.length) (M ++ [.lst (cutD ds lo hi)])
  | .ref n => match M[n]? with
    | some (.lst ds) => Q (.ref M.length) (M ++ [.lst (cutD ds lo hi)])
    | some (.frz ds) => Q (.ref M.length) (M ++ [.lst (cutD ds lo hi)])
    | _ => False
  | _ => False
def mSl (me : ME) (ml mh : MO) : ME := fun ρ M Q X => me ρ M (fun x M1 => ml ρ M1 (fun l M2 => mh ρ M2 (fun h M3 => oSl x l h M3 Q) X) X) X
def rSlAll (K : PySem.W.Frag) : V → Option Int → Option Int → Hp → VK → Prop := fun x lo hi H Q => rSlS x lo hi H Q ∨ rSlA K x lo hi H Q ∨ rSlL K x lo hi H Q
section
variable {X : Cx} {W : WX} {e : Expr} {lo hi : Option Expr} {me : ME} {ml mh : MO} {pos p2 : Pos}
theorem po_imp {t t' : TO} {o : Option Expr} (h : PO X o t) (i : ∀ σ H Q, t' σ H Q → t σ H Q) : PO X o t' := ⟨fun pins s σ H Q I q => h.run pins s σ H Q I (i σ H Q q)⟩
theorem qo_none : QO X W none mNoPart := po_imp po_none fun σ H Q ⟨as, M, ρ, Q', X', r, rs, h, hq, hx⟩ => hq _ _ h as H .refl r
theorem qo_some (he : QE X W e me) : QO X W (some e) (mPart me) := po_imp (po_some he) fun σ H Q ⟨as, M, ρ, Q', X', r, rs, h, hq, hx⟩ => by
  refine lf_bind r rs h hx fun dx M1 as1 H1 x h1 e1 r1 rs1 rx => ?_
  cases rx <;> first | exact h1.elim | skip
  exact ⟨_, rfl, hq _ _ h1 as1 H1 e1 r1⟩
theorem SlR_or {r r' : V → Option Int → Option Int → Hp → VK → Prop} (h : SlR X r) (h' : SlR X r') : SlR X (fun x lo hi H Q => r x lo hi H Q ∨ r' x lo hi H Q) := by
  intro pins s σ H x v vl vu lo hi sl Q I rx hs pl pu q
  rcases q with q | q
  · exact h pins s σ H x v vl vu lo hi sl Q I rx hs pl pu q
  · exact h' pins s σ H x v vl vu lo hi sl Q I rx hs pl pu q
theorem cut_rel {K : PySem.W.Frag} {as : List Addr} {H : Hp} {ds : List D} {vs : List V} (r : RelL K as H ds vs) (lo hi : Option Int) : RelL K as H (cutD ds lo hi) (cutV vs lo hi) := by
  unfold cutD cutV
  rw [← r.len]
  exact (r.drop _).take _
theorem cut_whole {α : Type} {xs : List α} {lo hi : Option Int} (h : HT.sIx xs.length 0 lo = 0 ∧ HT.sIx xs.length xs.length hi = xs.length) : cutD xs lo hi = xs := by
  unfold cutD; rw [h.1, h.2]; simp
theorem sim_sl {K : PySem.W.Frag} {as : List Addr} {H : Hp} {M : Mem} {dx : D} {x : V} {lo hi : Option Int} {k : DK} {Q : VK} (rp : RepM K as H M) (rx : Rel K as H dx x) (h : oSl dx lo hi M k) (hk : ∀ d M', k d M' → LQ K as H Q d M') : rSlAll K x lo hi H Q := by
  cases rx with
  | str z => exact .inl ⟨z, rfl, Nat.le_trans h.1 (by decide), hk _ _ h.2 as H _ .refl rp (.str _)⟩
  | tup hs hl =>
    refine .inr (.inl ⟨_, _, rfl, hs.1, fun w => ?_, fun _ p hp => new_tup rp (cut_rel hl lo hi) hp h hk⟩)
    refine hk _ _ h as H _ .refl rp ?_
    rw [← hl.len] at w
    rw [cut_whole w]
    exact .tup hs hl
  | kl hs hl => exact .inr (.inr ⟨_, _, rfl, hs.sq, fun p hp => new_lst rp (cut_rel hl lo hi) hp h hk⟩)
  | ref hn =>
    dsimp only [oSl] at h
    split at h
    · rename_i ds e
      obtain ⟨xs, h1, h2⟩ := at_lst rp hn e
      exact .inr (.inr ⟨_, xs, rfl, SqL.of h1, fun p hp => new_lst rp (cut_rel h2 lo hi) hp h hk⟩)
    · rename_i ds e
      obtain ⟨ob, xs, h1, h2⟩ := at_frz rp hn e
      exact .inr (.inr ⟨_, xs, rfl, .inl (.inr ⟨ob, h1⟩), fun p hp => new_lst rp (cut_rel h2 lo hi) hp h hk⟩)
    · exact h.elim
  | _ => exact h.elim
theorem qe_slice (he : QE X W e me) (hl : QO X W lo ml) (hh : QO X W hi mh) : QE X W (.Subscript e (.Slice lo hi none p2) pos) (mSl me ml mh) :=
  PEi (pe_slice (r := rSlAll X.K) (SlR_or sl_str (SlR_or sl_tupA sl_list)) he hl hh) fun σ H Q ⟨as, M, ρ, Q', X', r, rs, h, hq, hx⟩ => by
    refine lf_bind r rs h hx fun dx M1 as1 H1 x h1 e1 r1 rs1 rx => ?_
    refine ⟨as1, M1, ρ, _, X', r1, rs1, h1, fun l M2 h2 as2 H2 e2 r2 => ?_, fun x M' q => (hx x M' q).mono e1⟩
    refine ⟨as2, M2, ρ, _, X', r2, rs1.up e2, h2, fun h M3 h3 as3 H3 e3 r3 => ?_, fun x M' q => (hx x M' q).mono (e1.trans e2)⟩
    exact sim_sl r3 (rx.up (e2.trans e3)) h3 fun d M' q => (hq d M' q).mono ((e1.trans e2).trans e3)
end
/-! ### built-in functions -/
def oLen : OA := fun xs M Q => match xs with
  | [.str z] => z.length ≤ 16000000 ∧ Q (.int z.length) M
  | [.tup ds] => Q (.int ds.length) M
  | [.ref n] => match M[n]? with
    | some (.lst ds) => Q (.int ds.length) M
    | some (.frz ds) => Q (.int ds.length) M
    | some (.dct _ kvs) => Q (.int kvs.length) M
    | _ => False
  | _ => False
def oAbs : OA := fun xs M Q => match xs with | [.int i] => Q (.int (if i < 0 then -i else i)) M | _ => False
def oMin2 : OA := fun xs M Q => match xs with | [.int i, .int j] => Q (.int (if j < i then j else i)) M | _ => False
def oMax2 : OA := fun xs M Q => match xs with | [.int i, .int j] => Q (.int (if j > i then j else i)) M | _ => False
def oInt1 : OA := fun xs M Q => match xs with
  | [.int i] => Q (.int i) M
  | [.bl k] => Q (.int (if k then 1 else 0)) M
  | [.str a] => match PySem.intText? a with | some n => a.length ≤ 640 ∧ Q (.int n) M | none => False
  | _ => False
def oStr1 : OA := fun xs M Q => match xs with
  | [.int i] => i.natAbs.log2 < 1920 ∧ Q (.str (toString i)) M
  | [.str a] => Q (.str a) M
  | _ => False
def kD : Key → D
  | .inl i => .int i
  | .inr x => .str x
def oList1 : OA := fun xs M Q => match xs with
  | [.tup ds] => Q (.ref M.length) (M ++ [.lst ds])
  | [.ref n] => match M[n]? with
    | some (.lst ds) => Q (.ref M.length) (M ++ [.lst ds])
    | some (.frz ds) => Q (.ref M.length) (M ++ [.lst ds])
    | some (.dct false kvs) => Q (.ref M.length) (M ++ [.lst (kvs.map fun kv => kD kv.1)])
    | _ => False
  | _ => False
def oTuple1 : OA := fun xs M Q => match xs with
  | [.tup ds] => Q (.tup ds) M
  | [.ref n] => match M[n]? with
    | some (.lst ds) => Q (.tup ds) M
    | some (.frz ds) => Q (.tup ds) M
    | _ => False
  | _ => False
def oDict1 : OA := fun xs M Q => match xs with
  | [.ref n] => match M[n]? with
    | some (.dct _ kvs) => Q (.ref M.length) (M ++ [.dct false kvs])
    | _ => False
  | _ => False
def rLenA (K : PySem.W.Frag) : List V → Hp → VK → Prop := fun xs H Q => (∃ x n, xs = [x] ∧ LenV K x H n ∧ Q (.int n) H) ∨ ∃ a kvs, xs = [V.ref a] ∧ Rd H a (.dK kvs) ∧ Q (.int kvs.length) H
theorem CallR_or {X : Cx} {f : Value} {r r' : List V → Hp → VK → Prop} (h : CallR X f r) (h' : CallR X f r') : CallR X f (fun xs H Q => r xs H Q ∨ r' xs H Q) := by
  intro pins s σ H xs us Q I r q
  rcases q with q | q
  · exact h pins s σ H xs us Q I r q
  · exact h' pins s σ H xs us Q I r q
section
variable {X : Cx} {K : PySem.W.Frag}
theorem call_lenR : CallR X (.builtin "len") (fun xs H Q => ∃ a kvs, xs = [V.ref a] ∧ Rd H a (.dK kvs) ∧ Q (.int kvs.length) H) := by
  intro pins s σ H xs us Q I r h
  obtain ⟨a, kvs, rfl, e, q⟩ := h
  obtain ⟨u, rfl, rx⟩ := vals1 r
  cases rx
  exact d_len I e fun t s' I' => ⟨.int _, H, I', ⟨_, rfl⟩, q⟩
theorem call_lenA : CallR X (.builtin "len") (rLenA X.K) := CallR_or call_len call_lenR
theorem RelL.one {as : List Addr} {H : Hp} {d : D} {vs : List V} (h : RelL K as H [d] vs) : ∃ v, vs = [v] ∧ Rel K as H d v := by
  cases h with
  | cons h r => cases r; exact ⟨_, rfl, h⟩
theorem RelL.two {as : List Addr} {H : Hp} {d e : D} {vs : List V} (h : RelL K as H [d, e] vs) : ∃ v w, vs = [v, w] ∧ Rel K as H d v ∧ Rel K as H e w := by
  cases h with
  | cons h r => obtain ⟨w, rfl, h2⟩ := r.one; exact ⟨_, _, rfl, h, h2⟩
theorem sim_len : SimA K (rLenA K) oLen := fun as H M ds vs k Q rp rv h hk => by
  unfold oLen at h
  split at h
  · obtain ⟨v, rfl, rx⟩ := rv.one
    cases rx
    exact .inl ⟨_, _, rfl, ⟨Nat.le_trans h.1 (by decide), rfl⟩, hk _ _ h.2 as H _ .refl rp (.int _)⟩
  · obtain ⟨v, rfl, rx⟩ := rv.one
    cases rx with
    | tup hs hl => exact .inl ⟨_, _, rfl, .inr ⟨_, hs.1, rfl⟩, by rw [← hl.len]; exact hk _ _ h as H _ .refl rp (.int _)⟩
  · obtain ⟨v, rfl, rx⟩ := rv.one
    cases rx with
    | ref hn =>
      split at h
      · rename_i ds e
        obtain ⟨xs, h1, h2⟩ := at_lst rp hn e
        exact .inl ⟨_, _, rfl, .inl ⟨_, SqL.of h1, rfl⟩, by rw [← h2.len]; exact hk _ _ h as H _ .refl rp (.int _)⟩
      · rename_i ds e
        obtain ⟨ob, xs, h1, h2⟩ := at_frz rp hn e
        exact .inl ⟨_, _, rfl, .inl ⟨_, .inl (.inr ⟨ob, h1⟩), rfl⟩, by rw [← h2.len]; exact hk _ _ h as H _ .refl rp (.int _)⟩
      · rename_i lk kvs e
        obtain ⟨ks, h1, h2⟩ := at_dct rp hn e
        exact .inr ⟨_, ks, rfl, h2, by rw [← h1.len]; exact hk _ _ h as H _ .refl rp (.int _)⟩
      · exact h.elim
  · exact h.elim
theorem sim_abs : SimA K DW.rAbs oAbs := fun as H M ds vs k Q rp rv h hk => by
  unfold oAbs at h
  split at h
  · obtain ⟨v, rfl, rx⟩ := rv.one
    cases rx
    exact ⟨_, rfl, hk _ _ h as H _ .refl rp (.int _)⟩
  · exact h.elim
theorem sim_min2 : SimA K DW.rMin2 oMin2 := fun as H M ds vs k Q rp rv h hk => by
  unfold oMin2 at h
  split at h
  · obtain ⟨v, w, rfl, rx, ry⟩ := rv.two
    cases rx; cases ry
    exact ⟨_, _, rfl, hk _ _ h as H _ .refl rp (.int _)⟩
  · exact h.elim
theorem sim_max2 : SimA K DW.rMax2 oMax2 := fun as H M ds vs k Q rp rv h hk => by
  unfold oMax2 at h
  split at h
  · obtain ⟨v, w, rfl, rx, ry⟩ := rv.two
    cases rx; cases ry
    exact ⟨_, _, rfl, hk _ _ h as H _ .refl rp (.int _)⟩
  · exact h.elim
def rIntA : List V → Hp → VK → Prop := fun xs H Q => DW.rInt1 xs H Q ∨ DW.rIntStr xs H Q
theorem call_intA : CallR X (.type "int") rIntA := CallR_or call_int1 call_int_str
theorem sim_int : SimA K rIntA oInt1 := fun as H M ds vs k Q rp rv h hk => by
  unfold oInt1 at h
  split at h
  · obtain ⟨v, rfl, rx⟩ := rv.one
    cases rx
    exact .inl (.inl ⟨_, rfl, hk _ _ h as H _ .refl rp (.int _)⟩)
  · obtain ⟨v, rfl, rx⟩ := rv.one
    cases rx
    exact .inl (.inr ⟨_, rfl, hk _ _ h as H _ .refl rp (.int _)⟩)
  · obtain ⟨v, rfl, rx⟩ := rv.one
    cases rx
    split at h
    · rename_i n e
      exact .inr ⟨_, n, rfl, e, h.1, hk _ _ h.2 as H _ .refl rp (.int _)⟩
    · exact h.elim
  · exact h.elim
def rStrA : List V → Hp → VK → Prop := fun xs H Q => DW.rStrInt xs H Q ∨ DW.rStrStr xs H Q
theorem call_strA : CallR X (.type "str") rStrA := CallR_or call_str_int SkE.call_str_str
theorem sim_str : SimA K rStrA oStr1 := fun as H M ds vs k Q rp rv h hk => by
  unfold oStr1 at h
  split at h
  · obtain ⟨v, rfl, rx⟩ := rv.one
    cases rx
    exact .inl ⟨_, rfl, h.1, hk _ _ h.2 as H _ .refl rp (.str _)⟩
  · obtain ⟨v, rfl, rx⟩ := rv.one
    cases rx
    exact .inr ⟨_, rfl, hk _ _ h as H _ .refl rp (.str _)⟩
  · exact h.elim
theorem kD_rel {as : List Addr} {H : Hp} (k : Key) : Rel K as H (kD k) (kV k) := by
  cases k with
  | inl i => exact .int i
  | inr x => exact .str x
theorem KVR.keys {as : List Addr} {H : Hp} {l : List (Key × D)} {m : List (Key × V)} (h : KVR K as H l m) : RelL K as H (l.map fun kv => kD kv.1) (m.map fun kv => kV kv.1) := by
  induction h with
  | nil => exact .nil
  | cons h t ih =>
    simp only [List.map_cons]
    rw [h.1]
    exact .cons (kD_rel _) ih
theorem KVR.vals {κ : Type} {as : List Addr} {H : Hp} {l : List (κ × D)} {m : List (κ × V)} (h : KVR K as H l m) : RelL K as H (l.map (·.2)) (m.map (·.2)) := by
  induction h with
  | nil => exact .nil
  | cons h t ih => exact .cons h.2 ih
def rListA (K : PySem.W.Frag) : List V → Hp → VK → Prop := fun xs H Q => DW.rListOf K xs H Q ∨ rListD xs H Q
theorem sim_list : SimA K (rListA K) oList1 := fun as H M ds vs k Q rp rv h hk => by
  unfold oList1 at h
  split at h
  · obtain ⟨v, rfl, rx⟩ := rv.one
    cases rx with
    | tup hs hl => exact .inl ⟨_, _, rfl, .inr hs.1, fun p hp => new_lst rp hl hp h hk⟩
  · obtain ⟨v, rfl, rx⟩ := rv.one
    cases rx with
    | ref hn =>
      split at h
      · rename_i ds e
        obtain ⟨xs, h1, h2⟩ := at_lst rp hn e
        exact .inl ⟨_, _, rfl, .inl (SqL.of h1), fun p hp => new_lst rp h2 hp h hk⟩
      · rename_i ds e
        obtain ⟨ob, xs, h1, h2⟩ := at_frz rp hn e
        exact .inl ⟨_, _, rfl, .inl (.inl (.inr ⟨ob, h1⟩)), fun p hp => new_lst rp h2 hp h hk⟩
      · rename_i kvs e
        obtain ⟨a', ha, ks, h1, h2⟩ := rp.at_ e
        rw [hn] at ha; cases ha
        exact .inr ⟨_, ks, rfl, h2, fun p hp => new_lst rp h1.keys hp h hk⟩
      · exact h.elim
  · exact h.elim
theorem sim_tuple : SimA K (DW.rTupleOf K) oTuple1 := fun as H M ds vs k Q rp rv h hk => by
  unfold oTuple1 at h
  split at h
  · obtain ⟨v, rfl, rx⟩ := rv.one
    cases rx with
    | tup hs hl => exact ⟨_, _, rfl, .inr ⟨hs.1, hk _ _ h as H _ .refl rp (.tup hs hl)⟩⟩
  · obtain ⟨v, rfl, rx⟩ := rv.one
    cases rx with
    | ref hn =>
      split at h
      · rename_i ds e
        obtain ⟨xs, h1, h2⟩ := at_lst rp hn e
        exact ⟨_, _, rfl, .inl ⟨SqL.of h1, fun p hp => new_tup rp h2 hp h hk⟩⟩
      · rename_i ds e
        obtain ⟨ob, xs, h1, h2⟩ := at_frz rp hn e
        exact ⟨_, _, rfl, .inl ⟨.inl (.inr ⟨ob, h1⟩), fun p hp => new_tup rp h2 hp h hk⟩⟩
      · exact h.elim
  · exact h.elim
def rDictD : List V → Hp → VK → Prop := fun xs H Q => ∃ (a : Addr) (kvs : List (Key × V)), xs = [.ref a] ∧ Rd H a (.dK kvs) ∧ ∀ p, H p = none → Q (.ref p) (upd H p (.dK kvs))
theorem sim_dict : SimA K rDictD oDict1 := fun as H M ds vs k Q rp rv h hk => by
  unfold oDict1 at h
  split at h
  · obtain ⟨v, rfl, rx⟩ := rv.one
    cases rx with
    | ref hn =>
      split at h
      · rename_i lk kvs e
        obtain ⟨ks, h1, h2⟩ := at_dct rp hn e
        exact ⟨_, ks, rfl, h2, fun p hp => new_obj (o := .dct false kvs) rp hp ⟨ks, h1.up ((ext_new hp).trans ext_app), upd_same⟩ h hk⟩
      · exact h.elim
  · exact h.elim
end
section
variable {X : Cx} {W : WX} {e : Expr} {es : List Expr} {ma : MA} {p pos : Pos} {x : Str}
theorem qe_callB {id : String} {r : List V → Hp → VK → Prop} {o : OA} (hc : CallR X (.builtin id) r) (hs : SimA X.K r o) (hg : Gl X x) (hm : X.mg x = none) (hv : bootBuiltins x = some (.builtin id)) (ha : QA X W (e :: es) ma) (hn : x ≠ "__name__" := by decide) (hdb : (x == ("__debug__" : Str)) = false := by decide)
    (he : starEach (e :: es) X.env = (false, eval e X.env) :: starEach es X.env := by rfl) (hpl : (backTo pos (starEach es X.env)).any (·.1) = false := by rfl) : QE X W (.Call (.Name x p) (e :: es) [] pos) (mCB o ma) :=
  PEi (pe_callB hc hg hm hv ha hn hdb he hpl) (lf_cb hs)
theorem qe_callTy {T : String} {r : List V → Hp → VK → Prop} {o : OA} (hc : CallR X (.type T) r) (hs : SimA X.K r o) (hg : Gl X x) (hm : X.mg x = none) (hv : bootBuiltins x = some (.type T)) (ha : QA X W (e :: es) ma) (hn : x ≠ "__name__" := by decide) (hdb : (x == ("__debug__" : Str)) = false := by decide)
    (he : starEach (e :: es) X.env = (false, eval e X.env) :: starEach es X.env := by rfl) (hpl : (backTo pos (starEach es X.env)).any (·.1) = false := by rfl) : QE X W (.Call (.Name x p) (e :: es) [] pos) (mCB o ma) :=
  PEi (pe_callTy hc hg hm hv ha hn hdb he hpl) (lf_cb hs)
end
end MV
namespace MV
open PySem PySem.Spec PyProof.Rows L2
/-! ### blocks and small statements -/
def mNext : MS := fun E ρ M => E.nx ρ M
def mBreak : MS := fun E ρ M => E.bk ρ M
def mCont : MS := fun E ρ M => E.ct ρ M
def mRetN : MS := fun E _ M => E.rt .non M
def mSeq (a b : MS) : MS := fun E ρ M => a ⟨fun ρ' M' => b E ρ' M', E.rt, E.bk, E.ct, E.ex⟩ ρ M
def mDrop (m : ME) : MS := fun E ρ M => m ρ M (fun _ M1 => E.nx ρ M1) (fun x M1 => E.ex x ρ M1)
def mRet (m : ME) : MS := fun E ρ M => m ρ M E.rt (fun x M1 => E.ex x ρ M1)
def mIfS (t : MT) (a b : MS) : MS := fun E ρ M => t ρ M (fun k M1 => if k = true then a E ρ M1 else b E ρ M1) (fun x M1 => E.ex x ρ M1)
section
variable {X : Cx} {W : WX} {st : Stmt} {rest a b : List Stmt} {m n : MS} {e c : Expr} {me : ME} {mt : MT} {pos : Pos}
theorem exS {K : PySem.W.Frag} {as : List Addr} {H : Hp} {E : Nd} {D : Ends} {ρ : Ev} {σ : L2.St} (hE : NdOk K W as H E D) (rs : RelS K as H ρ σ) : ∀ x M', E.ex x ρ M' → LX K as H (fun c d H => W c d σ H) x M' :=
  fun x M' q as' H' c d e r' rx => hE.ex x ρ M' q as' H' σ c d e r' (rs.up e) rx
theorem qss_nil : QSs X W [] mNext := PSsi pss_nil fun D σ H ⟨as, M, ρ, E, r, rs, h, hE⟩ => hE.nx _ _ h as H σ .refl r rs
theorem qss_cons (h1 : QS X W st m) (h2 : QSs X W rest n) : QSs X W (st :: rest) (mSeq m n) := PSsi (pss_cons h1 h2) fun D σ H ⟨as, M, ρ, E, r, rs, h, hE⟩ =>
  ⟨as, M, ρ, _, r, rs, h, ⟨fun ρ' M' q as' H' σ' e' r' rs' => ⟨as', M', ρ', E, r', rs', q, hE.mono e'⟩, hE.rt, hE.bk, hE.ct, hE.ex⟩⟩
theorem qss_one (h1 : QS X W st m) : QSs X W [st] m := pss_one h1
theorem qs_pass : QS X W (.Pass pos) mNext := PSi ps_pass fun D σ H ⟨as, M, ρ, E, r, rs, h, hE⟩ => hE.nx _ _ h as H σ .refl r rs
theorem qs_break : QS X W (.Break pos) mBreak := PSi ps_break fun D σ H ⟨as, M, ρ, E, r, rs, h, hE⟩ => hE.bk _ _ h as H σ .refl r rs
theorem qs_cont : QS X W (.Continue pos) mCont := PSi ps_continue fun D σ H ⟨as, M, ρ, E, r, rs, h, hE⟩ => hE.ct _ _ h as H σ .refl r rs
theorem qs_expr (he : QE X W e me) (hs : swapsWith e none pos.line X.env = pure false := by rfl) : QS X W (.Expr e pos) (mDrop me) := PSi (ps_expr he hs) fun D σ H ⟨as, M, ρ, E, r, rs, h, hE⟩ =>
  lf_bind r rs h (exS hE rs) fun d M1 as1 H1 v h1 e1 r1 rs1 rv => hE.nx _ _ h1 as1 H1 σ e1 r1 rs1
theorem qs_doc {x : Str} {j : Nat} {pos' : Pos} : QS X W (.Expr (.Constant (.str x) j pos) pos') mNext := PSi ps_doc fun D σ H ⟨as, M, ρ, E, r, rs, h, hE⟩ => hE.nx _ _ h as H σ .refl r rs
theorem qs_ret (he : QE X W e me) : QS X W (.Return (some e) pos) (mRet me) := PSi (ps_ret he) fun D σ H ⟨as, M, ρ, E, r, rs, h, hE⟩ =>
  lf_bind r rs h (exS hE rs) fun d M1 as1 H1 v h1 e1 r1 rs1 rv => hE.rt _ _ h1 as1 H1 v e1 r1 rv
theorem qs_retN : QS X W (.Return none pos) mRetN := PSi ps_retN fun D σ H ⟨as, M, ρ, E, r, rs, h, hE⟩ => hE.rt _ _ h as H _ .refl r .non
theorem qs_if (hc : QT X W c mt) (ha : QSs X W a m) (hb : QSs X W b n) : QS X W (.If c a b pos) (mIfS mt m n) := PSi (ps_if hc ha hb) fun D σ H ⟨as, M, ρ, E, r, rs, h, hE⟩ => by
  refine lfT_bind r rs h (exS hE rs) fun k M1 as1 H1 h1 e1 r1 rs1 => ?_
  cases k with
  | true => exact ⟨as1, M1, ρ, E, r1, rs1, h1, hE.mono e1⟩
  | false => exact ⟨as1, M1, ρ, E, r1, rs1, h1, hE.mono e1⟩
end
/-! ### targets: names, and tuples of targets -/
mutual
inductive Tg where
  | nm (i : Nat)
  | tp (n : Nat) (l : Tgs)
inductive Tgs where
  | nil
  | cons (t : Tg) (l : Tgs)
end
abbrev MG := D → Ev → Mem → (Ev → Prop) → Prop
abbrev MGs := List D → Ev → Mem → (Ev → Prop) → Prop
mutual
/-- HandS's reading of a target -/
def Tg.rd (K : PySem.W.Frag) : Tg → TG
  | .nm i => gName i
  | .tp n l => fun v σ H Q => gTup K n (l.rd K) v σ H Q ∨ gLst K n (l.rd K) v σ H Q
def Tgs.rd (K : PySem.W.Frag) : Tgs → TGs
  | .nil => gNil
  | .cons t l => gCons (t.rd K) (l.rd K)
end
mutual
/-- the mirror's -/
def Tg.mg : Tg → MG
  | .nm i => fun d ρ _ N => N (ρ.set i (some d))
  | .tp n l => fun d ρ M N => match d with
    | .tup ds => ds.length = n ∧ l.mg ds ρ M N
    | .ref a => match M[a]? with
      | some (.lst ds) => ds.length = n ∧ l.mg ds ρ M N
      | _ => False
    | _ => False
def Tgs.mg : Tgs → MGs
  | .nil => fun ds ρ _ N => match ds with | [] => N ρ | _ => False
  | .cons t l => fun ds ρ M N => match ds with | d :: r => t.mg d ρ M fun ρ' => l.mg r ρ' M N | _ => False
end
mutual
def Tg.slots : Tg → List Nat
  | .nm i => [i]
  | .tp _ l => l.slots
def Tgs.slots : Tgs → List Nat
  | .nil => []
  | .cons t l => t.slots ++ l.slots
end
mutual
theorem Tg.sim {K : PySem.W.Frag} : ∀ (T : Tg) {as : List Addr} {H : Hp} {M : Mem} {ρ : Ev} {σ : L2.St} {d : D} {v : V} {N : Ev → Prop} {Q : L2.St → Hp → Prop}, RepM K as H M → RelS K as H ρ σ → Rel K as H d v → T.mg d ρ M N →
    (∀ ρ' σ', N ρ' → RelS K as H ρ' σ' → Q σ' H) → T.rd K v σ H Q
  | .nm i, as, H, M, ρ, σ, d, v, N, Q, r, rs, rd, h, hq => by
    simp only [Tg.mg] at h
    simp only [Tg.rd]
    exact hq _ _ h (rs.set rd)
  | .tp n l, as, H, M, ρ, σ, d, v, N, Q, r, rs, rd, h, hq => by
    simp only [Tg.mg] at h
    simp only [Tg.rd]
    cases rd with
    | tup hs hl => exact .inl ⟨_, _, rfl, hs.1, by rw [← hl.len]; exact h.1, Tgs.sim l r rs hl h.2 hq⟩
    | ref ha =>
      dsimp only at h
      split at h
      · rename_i ds e
        obtain ⟨xs, h1, h2⟩ := at_lst r ha e
        exact .inr ⟨_, xs, rfl, SqL.of h1, by rw [← h2.len]; exact h.1, Tgs.sim l r rs h2 h.2 hq⟩
      · exact h.elim
    | _ => exact h.elim
theorem Tgs.sim {K : PySem.W.Frag} : ∀ (T : Tgs) {as : List Addr} {H : Hp} {M : Mem} {ρ : Ev} {σ : L2.St} {ds : List D} {vs : List V} {N : Ev → Prop} {Q : L2.St → Hp → Prop}, RepM K as H M → RelS K as H ρ σ → RelL K as H ds vs → T.mg ds ρ M N →
    (∀ ρ' σ', N ρ' → RelS K as H ρ' σ' → Q σ' H) → T.rd K vs σ H Q
  | .nil, as, H, M, ρ, σ, ds, vs, N, Q, r, rs, rd, h, hq => by
    simp only [Tgs.mg] at h
    simp only [Tgs.rd]
    cases rd with
    | nil => exact ⟨rfl, hq _ _ h rs⟩
    | cons _ _ => exact h.elim
  | .cons t l, as, H, M, ρ, σ, ds, vs, N, Q, r, rs, rd, h, hq => by
    simp only [Tgs.mg] at h
    simp only [Tgs.rd]
    cases rd with
    | nil => exact h.elim
    | cons rd rr => exact ⟨_, _, rfl, Tg.sim t r rs rd h fun ρ' σ' h' rs' => Tgs.sim l r rs' rr h' hq⟩
end
theorem set_set_comm {α : Type} (l : List α) {i j : Nat} (a b : α) (h : i ≠ j) : (l.set i a).set j b = (l.set j b).set i a := by
  apply List.ext_getElem?
  intro k
  simp only [List.getElem?_set]
  split <;> split <;> simp_all
theorem wipe_set {σ : L2.St} {i : Nat} {v : Option V} : ∀ {vs : List Nat}, i ∈ vs → wipe (σ.set i v) vs = wipe σ vs
  | w :: vs, h => by
    show (wipe (σ.set i v) vs).set w none = (wipe σ vs).set w none
    by_cases e : i ∈ vs
    · rw [wipe_set e]
    · have hw : i = w := by
        rcases List.mem_cons.mp h with z | z
        · exact z
        · exact absurd z e
      subst hw
      have key : ∀ vs : List Nat, i ∉ vs → wipe (σ.set i v) vs = (wipe σ vs).set i v := by
        intro vs
        induction vs with
        | nil => intro _; rfl
        | cons u vs ih =>
          intro hn
          show (wipe (σ.set i v) vs).set u none = ((wipe σ vs).set u none).set i v
          rw [ih (fun z => hn (List.mem_cons_of_mem _ z)), set_set_comm _ _ _ (fun z => hn (by rw [z]; exact List.mem_cons_self))]
      rw [key vs e, List.set_set]
mutual
/-- only the slots vs are stored -/
theorem Tg.keep {K : PySem.W.Frag} {vs : List Nat} : ∀ (T : Tg), (∀ i ∈ T.slots, i ∈ vs) → ∀ {v : V} {σ : L2.St} {H : Hp} {Q Q' : L2.St → Hp → Prop}, (∀ σ2 H2, wipe σ2 vs = wipe σ vs → Q σ2 H2 → Q' σ2 H2) → T.rd K v σ H Q → T.rd K v σ H Q'
  | .nm i, hi, v, σ, H, Q, Q', im, h => by
    simp only [Tg.rd] at h ⊢
    exact im _ _ (wipe_set (hi i (by simp [Tg.slots]))) h
  | .tp n l, hi, v, σ, H, Q, Q', im, h => by
    simp only [Tg.rd] at h ⊢
    have hi' : ∀ i ∈ l.slots, i ∈ vs := fun i z => hi i (by simpa [Tg.slots] using z)
    rcases h with ⟨a, xs, e, hs, hl, h⟩ | ⟨a, xs, e, hs, hl, h⟩
    · exact .inl ⟨a, xs, e, hs, hl, Tgs.keep l hi' im h⟩
    · exact .inr ⟨a, xs, e, hs, hl, Tgs.keep l hi' im h⟩
theorem Tgs.keep {K : PySem.W.Frag} {vs : List Nat} : ∀ (T : Tgs), (∀ i ∈ T.slots, i ∈ vs) → ∀ {v : List V} {σ : L2.St} {H : Hp} {Q Q' : L2.St → Hp → Prop}, (∀ σ2 H2, wipe σ2 vs = wipe σ vs → Q σ2 H2 → Q' σ2 H2) → T.rd K v σ H Q → T.rd K v σ H Q'
  | .nil, hi, v, σ, H, Q, Q', im, h => by
    simp only [Tgs.rd] at h ⊢
    exact ⟨h.1, im _ _ rfl h.2⟩
  | .cons t l, hi, v, σ, H, Q, Q', im, h => by
    simp only [Tgs.rd] at h ⊢
    obtain ⟨w, ws, e, h⟩ := h
    refine ⟨w, ws, e, Tg.keep t (fun i z => hi i (by simp [Tgs.slots, z])) (fun σ1 H1 e1 q => ?_) h⟩
    exact Tgs.keep l (fun i z => hi i (by simp [Tgs.slots, z])) (fun σ2 H2 e2 q2 => im _ _ (e2.trans e1) q2) q
end
section
variable {X : Cx} {W : WX} {pos : Pos}
def QG (X : Cx) (tg : Expr) (T : Tg) : Prop := PG X tg (T.rd X.K)
def QGs (X : Cx) (tgs : List Expr) (T : Tgs) : Prop := PGs X tgs (T.rd X.K)
theorem qg_name {i : Nat} {x : Str} (hN : X.N.Nodup) (hi : X.N[i]? = some x) (hx : Loc X.env.scope x) (hf : X.fn x = true ∨ X.env.scope.names.lookup x = some .local := by first | exact .inl rfl | exact .inr rfl | assumption) : QG X (.Name x pos) (.nm i) := by
  have h := pg_name (pos := pos) hN hi hx hf
  unfold QG; simp only [Tg.rd]; exact h
theorem qgs_nil : QGs X [] .nil := by
  unfold QGs; simp only [Tgs.rd]; exact pgs_nil
theorem qgs_cons {e : Expr} {es : List Expr} {t : Tg} {l : Tgs} (h1 : QG X e t) (h2 : QGs X es l) (hs : (assignEach (e :: es) X.env).map (·.2) = assign e X.env :: (assignEach es X.env).map (·.2) := by rfl) : QGs X (e :: es) (.cons t l) := by
  unfold QGs; simp only [Tgs.rd]; exact pgs_cons h1 h2 hs
theorem PG_or {tg : Expr} {t u : TG} (h : PG X tg t) (h' : PG X tg u) : PG X tg (fun v σ H Q => t v σ H Q ∨ u v σ H Q) := ⟨fun pins s σ H v w Q I r q => by
  rcases q with q | q
  · exact h.run pins s σ H v w Q I r q
  · exact h'.run pins s σ H v w Q I r q⟩
theorem qg_tup {es : List Expr} {k : Nat} {l : Tgs} {n : Nat} (hc : X.calm = true) (h : QGs X es l) (hn : (assignEach es X.env).length = n := by rfl) (hst : (assignEach es X.env).findIdx? (·.1) = none := by rfl) : QG X (.Tuple es k pos) (.tp n l) := by
  unfold QG; simp only [Tg.rd]; exact PG_or (pg_tup hc h hn hst) (pg_lst hc h hn hst)
/-! assignments -/
variable {e : Expr} {me : ME}
def mSet (i : Nat) (m : ME) : MS := fun E ρ M => m ρ M (fun d M1 => E.nx (ρ.set i (some d)) M1) (fun x M1 => E.ex x ρ M1)
def mAsg (m : ME) (T : Tg) : MS := fun E ρ M => m ρ M (fun d M1 => T.mg d ρ M1 fun ρ' => E.nx ρ' M1) (fun x M1 => E.ex x ρ M1)
theorem qs_set {i : Nat} {x : Str} {pos' : Pos} (hN : X.N.Nodup) (hi : X.N[i]? = some x) (hx : Loc X.env.scope x) (he : QE X W e me) (hs : swapsWith e (some (.Name x pos')) pos.line X.env = pure false := by rfl) (hf : X.fn x = true ∨ X.env.scope.names.lookup x = some .local := by first | exact .inl rfl | exact .inr rfl | assumption) :
    QS X W (.Assign [.Name x pos'] e pos) (mSet i me) := PSi (ps_set hN hi hx he hs hf) fun D σ H ⟨as, M, ρ, E, r, rs, h, hE⟩ =>
  lf_bind r rs h (exS hE rs) fun d M1 as1 H1 v h1 e1 r1 rs1 rv => hE.nx _ _ h1 as1 H1 _ e1 r1 (rs1.set rv)
theorem qs_asg {tg : Expr} {T : Tg} (he : QE X W e me) (hg : QG X tg T) (hs : swapsWithSole [tg] e pos.line X.env = pure false := by rfl) (hw : swappedStores [tg] e X.env = pure none := by rfl)
    (h1 : (assignEach [tg] X.env).map (·.2) = [assign tg X.env] := by rfl) : QS X W (.Assign [tg] e pos) (mAsg me T) := by
  refine PSi (ps_asg he hg hs hw h1) fun D σ H ⟨as, M, ρ, E, r, rs, h, hE⟩ => ?_
  exact lf_bind r rs h (exS hE rs) fun d M1 as1 H1 v h1 e1 r1 rs1 rv => T.sim r1 rs1 rv h1 fun ρ' σ' q rs' => hE.nx _ _ q as1 H1 _ e1 r1 rs'
def mPar (i j : Nat) (ma : MA) : MS := fun E ρ M => ma ρ M (fun ds M1 => match ds with | [d, e] => E.nx ((ρ.set i (some d)).set j (some e)) M1 | _ => False) (fun x M1 => E.ex x ρ M1)
theorem qs_par {i j : Nat} {x y : Str} {a b : Expr} {ma : MA} {px py pt : Pos} {kt k2 pt2} (hc : X.calm = true) (hN : X.N.Nodup) (hi : X.N[i]? = some x) (hj : X.N[j]? = some y) (hij : i ≠ j)
    (hx : X.env.scope.names.lookup x = some .local) (hy : X.env.scope.names.lookup y = some .local) (ha : QA X W [a, b] ma)
    (hw : swappedStores [.Tuple [.Name x px, .Name y py] kt pt] (.Tuple [a, b] k2 pt2) X.env = pure (some [x, y]))
    (hs : swapsWithSole [.Tuple [.Name x px, .Name y py] kt pt] (.Tuple [a, b] k2 pt2) pos.line X.env = pure false := by rfl) :
    QS X W (.Assign [.Tuple [.Name x px, .Name y py] kt pt] (.Tuple [a, b] k2 pt2) pos) (mPar i j ma) := PSi (ps_par hc hN hi hj hij hx hy ha hw hs) fun D σ H ⟨as, M, ρ, E, r, rs, h, hE⟩ => by
  refine lfA_bind r rs h (exS hE rs) fun ds M1 as1 H1 vs h1 e1 r1 rs1 rv => ?_
  split at h1
  · obtain ⟨v, w, rfl, r2, r3⟩ := rv.two
    exact ⟨v, w, rfl, hE.nx _ _ h1 as1 H1 _ e1 r1 ((rs1.set r2).set r3)⟩
  · exact h1.elim
/-! x += e -/
def mAug (i : Nat) (o : OP) (m : ME) : MS := fun E ρ M => match ρ[i]? with
  | some (some x) => m ρ M (fun y M1 => o x y M1 fun z M2 => E.nx (ρ.set i (some z)) M2) (fun x M1 => E.ex x ρ M1)
  | _ => False
theorem qs_aug {i : Nat} {x : Str} {op : Operator} {ti : TIp} {o : OP} {pos' : Pos} (hN : X.N.Nodup) (hi : X.N[i]? = some x) (hx : Loc X.env.scope x) (he : QE X W e me) (ho : PIp X op ti) (hsim : SimO X.K ti o) (hf : X.fn x = true ∨ X.env.scope.names.lookup x = some .local := by first | exact .inl rfl | exact .inr rfl | assumption) :
    QS X W (.AugAssign (.Name x pos') op e pos) (mAug i o me) := PSi (ps_aug hN hi hx he ho hf) fun D σ H ⟨as, M, ρ, E, r, rs, h, hE⟩ => by
  unfold mAug at h
  split at h
  · rename_i d0 e0
    obtain ⟨v0, e2, rv0⟩ := rs.2 i d0 e0
    refine ⟨v0, e2, lf_bind r rs h (exS hE rs) fun d M1 as1 H1 v h1 e1 r1 rs1 rv => ?_⟩
    exact hsim as1 H1 M1 _ _ _ _ _ _ r1 (rv0.up e1) rv h1 fun d2 M2 q as2 H2 v2 e3 r3 rv3 => hE.nx _ _ q as2 H2 _ (e1.trans e3) r3 ((rs1.up e3).set rv3)
  · exact h.elim
theorem sim_ipadd {K : PySem.W.Frag} : SimO K (ipI fun i j => i + j) (fun x y M Q => match x, y with | .int i, .int j => Q (.int (i + j)) M | _, _ => False) := fun as H M dx dy x y k Q rp rx ry h hk => by
  cases dx <;> cases dy <;> first | exact h.elim | skip
  cases rx; cases ry
  exact ⟨_, _, rfl, rfl, hk _ _ h as H _ .refl rp (.int _)⟩
def oAddI : OP := fun x y M Q => match x, y with | .int i, .int j => Q (.int (i + j)) M | _, _ => False
/-! o[i] = v -/
def oSetIx (o i v : D) (M : Mem) (N : Mem → Prop) : Prop := match o with
  | .ref n => match M[n]? with
    | some (.lst ds) => match i with
      | .int k => match ixN ds.length k with
        | some j => N (M.set n (.lst (ds.set j v)))
        | none => False
      | _ => False
    | some (.dct false kvs) => match keyOf i with
      | some q => kvs.length < 16000000 ∧ N (M.set n (.dct false (dput kvs q v)))
      | none => False
    | _ => False
  | _ => False
def mSetIx (mv mo mi : ME) : MS := fun E ρ M => mv ρ M (fun v M1 => mo ρ M1 (fun o M2 => mi ρ M2 (fun i M3 => oSetIx o i v M3 fun M4 => E.nx ρ M4) (fun x M3 => E.ex x ρ M3)) (fun x M2 => E.ex x ρ M2)) (fun x M1 => E.ex x ρ M1)
def rSetD : TSet := fun o y v H Q => ∃ a H', o = .ref a ∧ DPut H a y v H' ∧ Q H'
theorem set_dict (hu : X.A.units + 1 < cLine) : PSet X rSetD := fun pins s σ H o i v ov iv u Q I ro ri rv h => by
  obtain ⟨a, H', rfl, g, q⟩ := h
  obtain rfl : ov = Value.ref a := ro
  exact d_setItem hu I g ri rv fun s4 I4 => ⟨H', I4, q⟩
theorem PSet_or {t u : TSet} (h : PSet X t) (h' : PSet X u) : PSet X (fun o i v H Q => t o i v H Q ∨ u o i v H Q) := fun pins s σ H o i v ov iv w Q I ro ri rv q => by
  rcases q with q | q
  · exact h pins s σ H o i v ov iv w Q I ro ri rv q
  · exact h' pins s σ H o i v ov iv w Q I ro ri rv q
theorem nfrz_lst {H : Hp} {a : Addr} {xs : List V} (h : H a = some (.lst xs)) : ∀ ob w, H a ≠ some (.frz ob w) := fun ob w z => by rw [h] at z; cases z
theorem nfrz_dK {H : Hp} {a : Addr} {xs : List (Key × V)} (h : H a = some (.dK xs)) : ∀ ob w, H a ≠ some (.frz ob w) := fun ob w z => by rw [h] at z; cases z
theorem nfrz_ins {H : Hp} {a C dx : Addr} {xs : List (Str × V)} (h : H a = some (.ins C dx xs)) : ∀ ob w, H a ≠ some (.frz ob w) := fun ob w z => by rw [h] at z; cases z
/-- a list is written -/
theorem put_lst {K : PySem.W.Frag} {as : List Addr} {H : Hp} {M : Mem} {n : Nat} {a : Addr} {xs ys : List V} {ds : List D} (rp : RepM K as H M) (hn : as[n]? = some a) (h1 : H a = some (.lst xs)) (r : RelL K as H ds ys) :
    Ext K as H as (upd H a (.lst ys)) ∧ RepM K as (upd H a (.lst ys)) (M.set n (.lst ds)) :=
  have e := ext_put (u := .lst ys) rp hn (nfrz_lst h1)
  ⟨e, rp.put hn (nfrz_lst h1) ⟨ys, upd_same, r.up e⟩⟩
theorem put_dct {K : PySem.W.Frag} {as : List Addr} {H : Hp} {M : Mem} {n : Nat} {a : Addr} {xs ys : List (Key × V)} {ds : List (Key × D)} (rp : RepM K as H M) (hn : as[n]? = some a) (h1 : H a = some (.dK xs)) (r : KVR K as H ds ys) :
    Ext K as H as (upd H a (.dK ys)) ∧ RepM K as (upd H a (.dK ys)) (M.set n (.dct false ds)) :=
  have e := ext_put (u := .dK ys) rp hn (nfrz_dK h1)
  ⟨e, rp.put hn (nfrz_dK h1) ⟨ys, r.up e, upd_same⟩⟩
theorem at_dK {K : PySem.W.Frag} {as : List Addr} {H : Hp} {M : Mem} {n : Nat} {a : Addr} {kvs : List (Key × D)} (rp : RepM K as H M) (hn : as[n]? = some a) (e : M[n]? = some (.dct false kvs)) : ∃ ks, KVR K as H kvs ks ∧ H a = some (.dK ks) := by
  obtain ⟨a', ha, ks, h1, h2⟩ := rp.at_ e
  rw [hn] at ha; cases ha
  exact ⟨ks, h1, h2⟩
theorem setIx_ok {K : PySem.W.Frag} {as : List Addr} {H : Hp} {M : Mem} {o i v : D} {vo vi vv : V} {N : Mem → Prop} {Q : Hp → Prop} (rp : RepM K as H M) (ro : Rel K as H o vo) (ri : Rel K as H i vi) (rv : Rel K as H v vv) (h : oSetIx o i v M N)
    (hq : ∀ M' H', N M' → Ext K as H as H' → RepM K as H' M' → Q H') : rSetL vo vi vv H Q ∨ rSetD vo vi vv H Q := by
  cases ro <;> first | exact h.elim | skip
  rename_i n a hn
  dsimp only [oSetIx] at h
  split at h
  · rename_i ds e
    cases ri <;> first | exact h.elim | skip
    rename_i k
    dsimp only at h
    split at h
    · rename_i j ej
      obtain ⟨xs, h1, h2⟩ := at_lst rp hn e
      obtain ⟨e1, r1⟩ := put_lst rp hn h1 (h2.set rv j)
      exact .inl ⟨a, xs, k, j, rfl, rfl, h1, by rw [← h2.len]; exact ej, hq _ _ h e1 r1⟩
    · exact h.elim
  · rename_i kvs e
    split at h
    · rename_i q0 eq
      obtain ⟨ks, h1, h2⟩ := at_dK rp hn e
      obtain ⟨e1, r1⟩ := put_dct rp hn h2 (h1.put q0 rv)
      refine .inr ⟨a, _, rfl, .inl ⟨ks, q0, h2, keyOf_ok ri eq, ?_, rfl⟩, hq _ _ h.2 e1 r1⟩
      rw [← h1.len]; exact Nat.lt_of_lt_of_le h.1 (by decide)
    · exact h.elim
  · exact h.elim
theorem qs_setIx {o i : Expr} {mo mi : ME} {pos' : Pos} (hu : X.A.units + 1 < cLine) (he : QE X W e me) (ho : QE X W o mo) (hi : QE X W i mi)
    (ha : ∀ v, assign (.Subscript o i pos') X.env v = (do
      let ov ← holding [v] (eval o X.env)
      let iv ← holding [v, ov] (eval i X.env)
      standAt pos'
      holding [v, ov, iv] (setItem ov iv v)
      release [v, ov, iv] []) := by intro _; rfl)
    (hs : swapsWithSole [.Subscript o i pos'] e pos.line X.env = pure false := by rfl) (hw : swappedStores [.Subscript o i pos'] e X.env = pure none := by rfl)
    (h1 : (assignEach [.Subscript o i pos'] X.env).map (·.2) = [assign (.Subscript o i pos') X.env] := by rfl) : QS X W (.Assign [.Subscript o i pos'] e pos) (mSetIx me mo mi) :=
  PSi (ps_asg he (pg_sub ho hi (PSet_or set_list (set_dict hu)) ha) hs hw h1) fun D σ H ⟨as, M, ρ, E, r, rs, h, hE⟩ => by
    refine lf_bind r rs h (exS hE rs) fun v M1 as1 H1 vv h1 e1 r1 rs1 rv => ?_
    refine lf_bind r1 rs1 h1 (fun x M' q => (exS hE rs x M' q).mono e1) fun o M2 as2 H2 vo h2 e2 r2 rs2 ro => ?_
    refine lf_bind r2 rs2 h2 (fun x M' q => (exS hE rs x M' q).mono (e1.trans e2)) fun i M3 as3 H3 vi h3 e3 r3 rs3 ri => ?_
    exact setIx_ok r3 (ro.up e3) ri (rv.up (e2.trans e3)) h3 fun M' H' q e4 r4 => hE.nx _ _ q as3 H' _ (((e1.trans e2).trans e3).trans e4) r4 (rs3.up e4)
end
end MV
namespace MV
open PySem PySem.Spec PyProof.Rows L2
/-! ### what is walked -/
abbrev MI := Ev → Mem → (List D → (Mem → Prop) → Mem → Prop) → XM → Prop
/-- J walks the items while guard stands -/
def ItOk (K : PySem.W.Frag) (as : List Addr) (H : Hp) (J : It) (items : List D) (guard : Mem → Prop) : Prop := ∀ (as' : List Addr) (H' : Hp) (M' : Mem) (i : Nat), Ext K as H as' H' → RepM K as' H' M' → guard M' →
  (i = items.length → J.stop i H') ∧ ∀ d, items[i]? = some d → J.go i H' ∧ ∀ x H2, J.yld i H' x H2 → Ext K as' H' as' H2 ∧ RepM K as' H2 M' ∧ Rel K as' H2 d x
def lfI (K : PySem.W.Frag) (W : WX) (m : MI) : TI := fun σ H R => ∃ as M ρ k X', RepM K as H M ∧ RelS K as H ρ σ ∧ m ρ M k X' ∧
  (∀ items guard M' as' H' J, k items guard M' → Ext K as H as' H' → RepM K as' H' M' → ItOk K as' H' J items guard → R J H') ∧ ∀ x M', X' x M' → LX K as H (fun c d H => W c d σ H) x M'
abbrev QI (X : Cx) (W : WX) (tg iter : Expr) (m : MI) : Prop := PI X tg iter (lfI X.K W m)
theorem PIi {X : Cx} {tg e : Expr} {t t' : TI} (h : PI X tg e t) (i : ∀ σ H R, t' σ H R → t σ H R) : PI X tg e t' := ⟨fun pins s σ H R I q => h.run pins s σ H R I (i σ H R q)⟩
/-! for -/
def mForL (guard : Mem → Prop) (T : Tg) (b : MS) (E : Nd) : List D → Ev → Mem → Prop
  | [], ρ, M => guard M ∧ E.nx ρ M
  | d :: ds, ρ, M => guard M ∧ T.mg d ρ M fun ρ1 => b ⟨fun ρ2 M2 => mForL guard T b E ds ρ2 M2, E.rt, E.nx, fun ρ2 M2 => mForL guard T b E ds ρ2 M2, E.ex⟩ ρ1 M
def mFor (mi : MI) (T : Tg) (b : MS) : MS := fun E ρ M => mi ρ M (fun items guard M1 => mForL guard T b E items ρ M1) (fun x M1 => E.ex x ρ M1)
theorem drop_cons {α : Type} {l : List α} {i : Nat} (h : i < l.length) : l.drop i = l[i] :: l.drop (i + 1) := List.drop_eq_getElem_cons h
section
variable {X : Cx} {W : WX} {tg iter : Expr} {body : List Stmt} {mi : MI} {T : Tg} {mb : MS} {pos : Pos}
theorem qs_for (hp : PassesOwn (model X.prog X.w) X.A X.env X.xe) (hc : X.calm = true) (hi : QI X W tg iter mi) (hg : QG X tg T) (hb : QSs X W body mb) (hs : ∀ x, foldedSetIterable iter X.env x = pure x := by intro _; rfl) :
    QS X W (.For tg iter body [] pos) (mFor mi T mb) := PSi (ps_for hp hc hi hg hb hs) fun D σ H ⟨as, M, ρ, E, r, rs, h, hE⟩ => by
  refine ⟨as, M, ρ, _, _, r, rs, h, fun items guard M1 as1 H1 J h1 e1 r1 ok => ?_, exS hE rs⟩
  refine ⟨fun i m σ' H' => ∃ as' M' ρ', Ext X.K as1 H1 as' H' ∧ RepM X.K as' H' M' ∧ RelS X.K as' H' ρ' σ' ∧ i + m = items.length ∧ mForL guard T mb E (items.drop i) ρ' M', ⟨items.length, as1, M1, ρ, .refl, r1, rs.up e1, by simp, h1⟩, ?_⟩
  rintro i m σ' H' ⟨as', M', ρ', e', r', rs', hm, h'⟩
  by_cases hl : i < items.length
  · right
    rw [drop_cons hl] at h'
    obtain ⟨hgd, h'⟩ := h'
    obtain ⟨_, ok2⟩ := ok as' H' M' i e' r' hgd
    obtain ⟨go, yld⟩ := ok2 _ (List.getElem?_eq_getElem hl)
    refine ⟨go, fun σ2 H2 => ∃ as2 M2 ρ2, Ext X.K as1 H1 as2 H2 ∧ RepM X.K as2 H2 M2 ∧ RelS X.K as2 H2 ρ2 σ2 ∧ mForL guard T mb E (items.drop (i + 1)) ρ2 M2, fun σ2 H2 ⟨as2, M2, ρ2, a, b, c, d⟩ => ⟨m - 1, by omega, as2, M2, ρ2, a, b, c, by omega, d⟩, fun x H2 y => ?_⟩
    obtain ⟨e2, r2, rx⟩ := yld x H2 y
    refine T.sim r2 (rs'.up e2) rx h' fun ρ3 σ3 h3 rs3 => ?_
    have e3 := e'.trans e2
    exact ⟨as', M', ρ3, _, r2, rs3, h3, ⟨fun ρ4 M4 q as4 H4 σ4 e4 r4 rs4 => ⟨as4, M4, ρ4, e3.trans e4, r4, rs4, q⟩, (hE.mono (e1.trans e3)).rt, (hE.mono (e1.trans e3)).nx, fun ρ4 M4 q as4 H4 σ4 e4 r4 rs4 => ⟨as4, M4, ρ4, e3.trans e4, r4, rs4, q⟩, (hE.mono (e1.trans e3)).ex⟩⟩
  · left
    have hi' : i = items.length := by omega
    rw [List.drop_eq_nil_of_le (by omega)] at h'
    exact ⟨(ok as' H' M' i e' r' h'.1).1 hi', hE.nx _ _ h'.2 as' H' σ' (e1.trans e') r' rs'⟩
/-! while -/
def mWhile (c : MT) (b : MS) : MS := fun E ρ M => ∃ I : Nat → Ev → Mem → Prop, (∃ m, I m ρ M) ∧ ∀ m ρ M, I m ρ M →
  c ρ M (fun k M1 => if k = true then ∃ N : Ev → Mem → Prop, (∀ ρ' M', N ρ' M' → ∃ m', m' < m ∧ I m' ρ' M') ∧ b ⟨N, E.rt, E.nx, N, E.ex⟩ ρ M1 else E.nx ρ M1) (fun x M1 => E.ex x ρ M1)
theorem qs_while {c : Expr} {mc : MT} (hp : PassesOwn (model X.prog X.w) X.A X.env X.xe) (hc : QT X W c mc) (hb : QSs X W body mb) : QS X W (.While c body [] pos) (mWhile mc mb) := PSi (ps_while hp hc hb) fun D σ H ⟨as, M, ρ, E, r, rs, h, hE⟩ => by
  obtain ⟨I, ⟨m0, i0⟩, hI⟩ := h
  refine ⟨fun m σ' H' => ∃ as' M' ρ', Ext X.K as H as' H' ∧ RepM X.K as' H' M' ∧ RelS X.K as' H' ρ' σ' ∧ I m ρ' M', ⟨m0, as, M, ρ, .refl, r, rs, i0⟩, ?_⟩
  rintro m σ' H' ⟨as', M', ρ', e', r', rs', h'⟩
  refine lfT_bind r' rs' (hI m ρ' M' h') (exS (hE.mono e') rs') fun k M1 as1 H1 h1 e1 r1 rs1 => ?_
  cases k with
  | true =>
    rw [if_pos rfl] at h1 ⊢
    obtain ⟨N, hN, h1⟩ := h1
    have e2 := e'.trans e1
    refine ⟨fun σ2 H2 => ∃ as2 M2 ρ2, Ext X.K as H as2 H2 ∧ RepM X.K as2 H2 M2 ∧ RelS X.K as2 H2 ρ2 σ2 ∧ N ρ2 M2, fun σ2 H2 ⟨as2, M2, ρ2, a, b, c, d⟩ => ?_, ?_⟩
    · obtain ⟨m', hm, hI'⟩ := hN ρ2 M2 d
      exact ⟨m', hm, as2, M2, ρ2, a, b, c, hI'⟩
    · exact ⟨as1, M1, ρ', _, r1, rs1, h1, ⟨fun ρ4 M4 q as4 H4 σ4 e4 r4 rs4 => ⟨as4, M4, ρ4, e2.trans e4, r4, rs4, q⟩, (hE.mono e2).rt, (hE.mono e2).nx, fun ρ4 M4 q as4 H4 σ4 e4 r4 rs4 => ⟨as4, M4, ρ4, e2.trans e4, r4, rs4, q⟩, (hE.mono e2).ex⟩⟩
  | false =>
    rw [if_neg Bool.false_ne_true] at h1 ⊢
    exact hE.nx _ _ h1 as1 H1 _ (e'.trans e1) r1 rs1
end
/-! ### list, tuple, text, the keys of a locked dict -/
def mISeq (me : ME) : MI := fun ρ M k X => me ρ M (fun x M1 => match x with
  | .tup ds => k ds (fun _ => True) M1
  | .str z => k (z.cps.toList.map fun c => .str ⟨#[c]⟩) (fun _ => True) M1
  | .ref n => match M1[n]? with
    | some (.lst ds) => k ds (fun M => M[n]? = some (.lst ds)) M1
    | some (.frz ds) => k ds (fun M => M[n]? = some (.frz ds)) M1
    | some (.dct true kvs) => k (kvs.map fun kv => kD kv.1) (fun M => M[n]? = some (.dct true kvs)) M1
    | _ => False
  | _ => False) X
def iSeqA (K : PySem.W.Frag) (tl : TE) : TI := fun σ H R => tl σ H fun x H1 =>
  (∃ a, x = .ref a ∧ (∃ xs, SqL K H1 a xs) ∧ R (Itl K a) H1) ∨ (∃ a, x = .ref a ∧ (∃ xs, SqT K H1 a xs) ∧ R (Itt K a) H1) ∨ (∃ z, x = .str z ∧ R (Its z) H1) ∨
  ∃ d o kvs, x = .ref d ∧ H1 d = some (.frz o (.dK kvs)) ∧ R (Itk d o kvs) H1
section
variable {X : Cx} {W : WX} {tg e e2 : Expr} {me : ME} {pos : Pos}
theorem pi_seqA {tl : TE} (hl : PE X e tl) : PI X tg e (iSeqA X.K tl) := by
  refine ⟨fun pins s σ H R I h => ?_⟩
  refine thn (hl.run pins s σ H _ I h) fun v s1 ⟨x, H1, I1, r1, q1⟩ => ?_
  rcases q1 with ⟨a, e, ⟨xs, hq⟩, q⟩ | ⟨a, e, ⟨xs, hq⟩, q⟩ | ⟨z, e, q⟩ | ⟨d, o, kvs, e, hd, q⟩
  · subst e
    cases r1
    obtain ⟨its, rv, p, hz⟩ := I1.list hq
    refine wpAny_pyIter_list p.isList ?_
    refine ⟨s1.heap.objs.size, [s1.heap.objs.size], _, _, H1, rfl, I1.kept (t' := s1.toks) fun b o e => Heap.get?_push_of_some _ e, turn_list a _, ⟨_, Heap.get?_push_size _ rfl, rfl, rfl⟩, fun b hb => ?_, q⟩
    have e : b = s1.heap.objs.size := by simpa using hb
    subst e
    exact I1.fpOk (Nat.le_refl _) (I1.hok.fresh (Nat.le_refl _))
  · subst e
    cases r1
    obtain ⟨its, rv, p, hz⟩ := I1.tuple hq
    refine wpAny_pyIter_tuple (show s1.heap.IsTuple a its.toArray from p) ?_
    refine ⟨s1.heap.objs.size, [s1.heap.objs.size], _, _, H1, rfl, I1.kept (t' := s1.toks) fun b o e => Heap.get?_push_of_some _ e, turn_tuple a _, ⟨_, Heap.get?_push_size _ rfl, rfl, rfl⟩, fun b hb => ?_, q⟩
    have e : b = s1.heap.objs.size := by simpa using hb
    subst e
    exact I1.fpOk (Nat.le_refl _) (I1.hok.fresh (Nat.le_refl _))
  · subst e
    obtain ⟨t, rfl⟩ := r1
    cases ha : z.cps.all (· < 128)
    · exact wpAny_pyIter_wide ha (pi_one (tk := s1.toks) I1 _ (turn_str _ z t "str_iterator" (.inr rfl)) ⟨_, Heap.get?_push_size _ rfl, rfl, rfl⟩ q)
    · exact wpAny_pyIter_ascii ha (pi_one (tk := s1.toks) I1 _ (turn_str _ z t "str_ascii_iterator" (.inl rfl)) ⟨_, Heap.get?_push_size _ rfl, rfl, rfl⟩ q)
  · subst e
    obtain rfl : v = Value.ref d := r1
    obtain ⟨hs, hgd, hx, es, ep, vs, hdt, hsz, kv, hm⟩ := I1.frzK hd
    refine iter_keys hs hgd hx hdt (pi_one (tk := s1.toks) I1 _ (turn_keys _ hdt) ⟨_, Heap.get?_push_size _ rfl, rfl, ?_⟩ q)
    rw [hsz] <;> rfl
theorem itok_lst {K : PySem.W.Frag} {as : List Addr} {H : Hp} {n : Nat} {a : Addr} {ds : List D} (hn : as[n]? = some a) : ItOk K as H (Itl K a) ds (fun M => M[n]? = some (.lst ds)) := fun as' H' M' i e r g => by
  obtain ⟨xs, h1, h2⟩ := at_lst r (pre_get e.pre hn) g
  refine ⟨fun hi => ⟨xs, SqL.of h1, by rw [← h2.len]; omega⟩, fun d hd => ?_⟩
  obtain ⟨v, hv, rv⟩ := h2.get hd
  refine ⟨⟨xs, v, SqL.of h1, hv⟩, fun x H2 ⟨e2, y⟩ => ?_⟩
  have e3 := y xs (SqL.of h1)
  rw [hv] at e3; cases e3
  subst e2
  exact ⟨.refl, r, rv⟩
theorem itok_frz {K : PySem.W.Frag} {as : List Addr} {H : Hp} {n : Nat} {a : Addr} {ds : List D} (hn : as[n]? = some a) : ItOk K as H (Itl K a) ds (fun M => M[n]? = some (.frz ds)) := fun as' H' M' i e r g => by
  obtain ⟨ob, xs, h1, h2⟩ := at_frz r (pre_get e.pre hn) g
  refine ⟨fun hi => ⟨xs, .inl (.inr ⟨ob, h1⟩), by rw [← h2.len]; omega⟩, fun d hd => ?_⟩
  obtain ⟨v, hv, rv⟩ := h2.get hd
  refine ⟨⟨xs, v, .inl (.inr ⟨ob, h1⟩), hv⟩, fun x H2 ⟨e2, y⟩ => ?_⟩
  have e3 := y xs (.inl (.inr ⟨ob, h1⟩))
  rw [hv] at e3; cases e3
  subst e2
  exact ⟨.refl, r, rv⟩
theorem itok_tup {K : PySem.W.Frag} {as : List Addr} {H : Hp} {a : Addr} {ds : List D} {xs : List V} (hs : SqT K H a xs) (hl : RelL K as H ds xs) : ItOk K as H (Itt K a) ds (fun _ => True) := fun as' H' M' i e r g => by
  have h1 := e.tup _ _ hs
  have h2 := hl.up e
  refine ⟨fun hi => ⟨xs, h1, by rw [← h2.len]; omega⟩, fun d hd => ?_⟩
  obtain ⟨v, hv, rv⟩ := h2.get hd
  refine ⟨⟨xs, v, h1, hv⟩, fun x H2 ⟨e2, y⟩ => ?_⟩
  have e3 := y xs h1
  rw [hv] at e3; cases e3
  subst e2
  exact ⟨.refl, r, rv⟩
theorem itok_str {K : PySem.W.Frag} {as : List Addr} {H : Hp} {z : Str} : ItOk K as H (Its z) (z.cps.toList.map fun c => .str ⟨#[c]⟩) (fun _ => True) := fun as' H' M' i e r g => by
  refine ⟨fun hi => ?_, fun d hd => ?_⟩
  · simp at hi
    show z.cps.size ≤ i
    omega
  · rw [List.getElem?_map] at hd
    cases hc : z.cps.toList[i]? with
    | none => rw [hc] at hd; cases hd
    | some c =>
      rw [hc] at hd
      simp only [Option.map_some, Option.some.injEq] at hd
      have hc2 : z.cps[i]? = some c := by rw [← hc]; simp
      refine ⟨(Array.getElem?_eq_some_iff.mp hc2).1, fun x H2 ⟨e2, c', hc', hx⟩ => ?_⟩
      rw [hc2] at hc'; cases hc'
      subst e2 hx hd
      exact ⟨.refl, r, .str _⟩
theorem itok_keys {K : PySem.W.Frag} {as : List Addr} {H : Hp} {n : Nat} {a : Addr} {o : Obj} {kvs : List (Key × D)} {ks : List (Key × V)} (h2 : H a = some (.frz o (.dK ks))) (h1 : KVR K as H kvs ks) : ItOk K as H (Itk a o ks) (kvs.map fun kv => kD kv.1) (fun M => M[n]? = some (.dct true kvs)) := fun as' H' M' i e r g => by
  have h3 := e.frz _ _ _ h2
  have h4 := (h1.up e)
  refine ⟨fun hi => ⟨h3, by rw [← h4.len]; simp at hi; omega⟩, fun d hd => ?_⟩
  obtain ⟨v, hv, rv⟩ := h4.keys.get hd
  rw [List.getElem?_map] at hv
  cases hk : ks[i]? with
  | none => rw [hk] at hv; cases hv
  | some kv =>
    rw [hk] at hv
    simp only [Option.map_some, Option.some.injEq] at hv
    refine ⟨⟨h3, (List.getElem?_eq_some_iff.mp hk).1⟩, fun x H2 ⟨e2, k', v', hk', hx⟩ => ?_⟩
    rw [hk] at hk'; cases hk'
    subst e2 hx hv
    exact ⟨.refl, r, rv⟩
theorem qi_seq (he : QE X W e me) : QI X W tg e (mISeq me) := PIi (pi_seqA he) fun σ H R ⟨as, M, ρ, k, X', r, rs, h, hq, hx⟩ => by
  refine lf_bind r rs h hx fun d M1 as1 H1 v h1 e1 r1 rs1 rv => ?_
  cases rv with
  | tup hs hl => exact .inr (.inl ⟨_, rfl, ⟨_, hs.1⟩, hq _ _ M1 as1 H1 _ h1 e1 r1 (itok_tup hs.1 hl)⟩)
  | str z => exact .inr (.inr (.inl ⟨z, rfl, hq _ _ M1 as1 H1 _ h1 e1 r1 itok_str⟩))
  | ref hn =>
    dsimp only at h1
    split at h1
    · rename_i ds e2
      obtain ⟨xs, h2, h3⟩ := at_lst r1 hn e2
      exact .inl ⟨_, rfl, ⟨xs, SqL.of h2⟩, hq _ _ M1 as1 H1 _ h1 e1 r1 (itok_lst hn)⟩
    · rename_i ds e2
      obtain ⟨ob, xs, h2, h3⟩ := at_frz r1 hn e2
      exact .inl ⟨_, rfl, ⟨xs, .inl (.inr ⟨ob, h2⟩)⟩, hq _ _ M1 as1 H1 _ h1 e1 r1 (itok_frz hn)⟩
    · rename_i kvs e2
      obtain ⟨a', ha, ks, h2, ob, h3⟩ := r1.at_ e2
      rw [hn] at ha; cases ha
      exact .inr (.inr (.inr ⟨_, ob, ks, rfl, h3, hq _ _ M1 as1 H1 _ h1 e1 r1 (itok_keys h3 h2)⟩))
    · exact h1.elim
  | _ => exact h1.elim
/-! ranges -/
def rangeD (lo : Int) (n : Nat) : List D := (List.range n).map fun i => .int (lo + (i : Nat))
def mIRng1 (ma : MA) : MI := fun ρ M k X => ma ρ M (fun ds M1 => match ds with | [.int j] => (-(2 ^ 62) ≤ j ∧ j < 2 ^ 62) ∧ k (rangeD 0 j.toNat) (fun _ => True) M1 | _ => False) X
def mIRng2 (ma : MA) : MI := fun ρ M k X => ma ρ M (fun ds M1 => match ds with | [.int i, .int j] => (-(2 ^ 62) ≤ i ∧ i < 2 ^ 62 ∧ -(2 ^ 62) ≤ j ∧ j < 2 ^ 62) ∧ k (rangeD i (j - i).toNat) (fun _ => True) M1 | _ => False) X
theorem itok_rng {K : PySem.W.Frag} {as : List Addr} {H : Hp} {lo : Int} {n : Nat} : ItOk K as H (Itr lo n) (rangeD lo n) (fun _ => True) := fun as' H' M' i e r g => by
  refine ⟨fun hi => ?_, fun d hd => ?_⟩
  · simp [rangeD] at hi
    show n ≤ i
    omega
  · have hl : i < n := by
      have := (List.getElem?_eq_some_iff.mp hd).1
      simpa [rangeD] using this
    refine ⟨hl, fun x H2 ⟨e2, hx⟩ => ?_⟩
    subst e2 hx
    simp only [rangeD, List.getElem?_map, List.getElem?_range hl, Option.map_some, Option.some.injEq] at hd
    subst hd
    exact ⟨.refl, r, .int _⟩
theorem qi_range1 {ma : MA} {p : Pos} (hg : Gl X "range") (hm : X.mg "range" = none) (ha : QA X W [e] ma) (hs : starEach [e] X.env = [(false, eval e X.env)] := by rfl) : QI X W tg (.Call (.Name "range" p) [e] [] pos) (mIRng1 ma) :=
  PIi (pi_range1 hg hm ha hs) fun σ H R ⟨as, M, ρ, k, X', r, rs, h, hq, hx⟩ => by
    refine lfA_bind r rs h hx fun ds M1 as1 H1 vs h1 e1 r1 rs1 rv => ?_
    split at h1
    · obtain ⟨v, rfl, rx⟩ := rv.one
      cases rx
      exact ⟨_, rfl, h1.1.1, h1.1.2, hq _ _ M1 as1 H1 _ h1.2 e1 r1 itok_rng⟩
    · exact h1.elim
theorem qi_range2 {ma : MA} {p : Pos} (hg : Gl X "range") (hm : X.mg "range" = none) (ha : QA X W [e, e2] ma) (hs : starEach [e, e2] X.env = [(false, eval e X.env), (false, eval e2 X.env)] := by rfl) (hs2 : starEach [e2] X.env = [(false, eval e2 X.env)] := by rfl) : QI X W tg (.Call (.Name "range" p) [e, e2] [] pos) (mIRng2 ma) :=
  PIi (pi_range2 hg hm ha hs hs2) fun σ H R ⟨as, M, ρ, k, X', r, rs, h, hq, hx⟩ => by
    refine lfA_bind r rs h hx fun ds M1 as1 H1 vs h1 e1 r1 rs1 rv => ?_
    split at h1
    · obtain ⟨v, w, rfl, rx, ry⟩ := rv.two
      cases rx; cases ry
      exact ⟨_, _, rfl, h1.1, hq _ _ M1 as1 H1 _ h1.2 e1 r1 itok_rng⟩
    · exact h1.elim
/-! enumerate -/
def enumD (ds : List D) : List D := ds.mapIdx fun i d => .tup [.int (i : Nat), d]
def mIEnumL (ma : MA) : MI := fun ρ M k X => ma ρ M (fun ds M1 => match ds with
  | [.ref n] => match M1[n]? with
    | some (.lst ds) => k (enumD ds) (fun M => M[n]? = some (.lst ds)) M1
    | _ => False
  | _ => False) X
def mIEnumT (ma : MA) : MI := fun ρ M k X => ma ρ M (fun ds M1 => match ds with
  | [.tup ds] => k (enumD ds) (fun _ => True) M1
  | _ => False) X
theorem enumD_get {ds : List D} {i : Nat} {d : D} (h : (enumD ds)[i]? = some d) : ∃ d0, ds[i]? = some d0 ∧ d = .tup [.int (i : Nat), d0] := by
  simp only [enumD, List.getElem?_mapIdx] at h
  cases e : ds[i]? with
  | none => rw [e] at h; cases h
  | some d0 => rw [e] at h; simp at h; exact ⟨d0, rfl, h.symm⟩
theorem new_pair {K : PySem.W.Frag} {as : List Addr} {H : Hp} {M : Mem} {T : Addr} {d1 d2 : D} {v1 v2 : V} (r : RepM K as H M) (hT : H T = none) (r1 : Rel K as H d1 v1) (r2 : Rel K as H d2 v2) :
    Ext K as H as (upd H T (.tup [v1, v2])) ∧ RepM K as (upd H T (.tup [v1, v2])) M ∧ Rel K as (upd H T (.tup [v1, v2])) (.tup [d1, d2]) (.ref T) :=
  ⟨ext_new hT, r.laid hT, .tup Tq.new (.cons (r1.up (ext_new hT)) (.cons (r2.up (ext_new hT)) .nil))⟩
theorem qi_enumL {ma : MA} {p tpos : Pos} {elts : List Expr} {kk : Nat} (hg : Gl X "enumerate") (hm : X.mg "enumerate" = none) (ha : QA X W [e] ma) (hs : starEach [e] X.env = [(false, eval e X.env)] := by rfl) : QI X W (.Tuple elts kk tpos) (.Call (.Name "enumerate" p) [e] [] pos) (mIEnumL ma) :=
  PIi (pi_enum hg hm ha hs) fun σ H R ⟨as, M, ρ, k, X', r, rs, h, hq, hx⟩ => by
    refine lfA_bind r rs h hx fun ds M1 as1 H1 vs h1 e1 r1 rs1 rv => ?_
    split at h1
    · obtain ⟨v, rfl, rx⟩ := rv.one
      cases rx with
      | ref hn =>
        split at h1
        · rename_i ds e2
          obtain ⟨xs, h2, h3⟩ := at_lst r1 hn e2
          refine ⟨_, xs, rfl, SqL.of h2, hq _ _ M1 as1 H1 _ h1 e1 r1 fun as' H' M' i e r g => ?_⟩
          obtain ⟨ys, h4, h5⟩ := at_lst r (pre_get e.pre hn) g
          refine ⟨fun hi => ⟨ys, SqL.of h4, by rw [← h5.len]; simp [enumD] at hi; omega⟩, fun d hd => ?_⟩
          obtain ⟨d0, hd0, rfl⟩ := enumD_get hd
          obtain ⟨v, hv, rv⟩ := h5.get hd0
          refine ⟨⟨ys, v, SqL.of h4, hv⟩, fun x H2 ⟨T, w, ex, hT, eH, y⟩ => ?_⟩
          have e3 := y ys (SqL.of h4)
          rw [hv] at e3; cases e3
          subst ex eH
          exact new_pair r hT (.int _) rv
        · exact h1.elim
    · exact h1.elim
theorem qi_enumT {ma : MA} {p tpos : Pos} {elts : List Expr} {kk : Nat} (hg : Gl X "enumerate") (hm : X.mg "enumerate" = none) (ha : QA X W [e] ma) (hs : starEach [e] X.env = [(false, eval e X.env)] := by rfl) : QI X W (.Tuple elts kk tpos) (.Call (.Name "enumerate" p) [e] [] pos) (mIEnumT ma) :=
  PIi (DW.pi_enumT hg hm ha hs) fun σ H R ⟨as, M, ρ, k, X', r, rs, h, hq, hx⟩ => by
    refine lfA_bind r rs h hx fun ds M1 as1 H1 vs h1 e1 r1 rs1 rv => ?_
    split at h1
    · rename_i ds0
      obtain ⟨v, rfl, rx⟩ := rv.one
      cases rx with
      | tup hs hl =>
        refine ⟨_, _, rfl, hs.1, hq _ _ M1 as1 H1 _ h1 e1 r1 fun as' H' M' i e r g => ?_⟩
        have h4 := e.tup _ _ hs.1
        have h5 := hl.up e
        refine ⟨fun hi => ⟨_, h4, by rw [← h5.len]; simp [enumD] at hi; omega⟩, fun d hd => ?_⟩
        obtain ⟨d0, hd0, rfl⟩ := enumD_get hd
        obtain ⟨v, hv, rv⟩ := h5.get hd0
        refine ⟨⟨_, v, h4, hv⟩, fun x H2 ⟨T, w, ex, hT, eH, y⟩ => ?_⟩
        have e3 := y _ h4
        rw [hv] at e3; cases e3
        subst ex eH
        exact new_pair r hT (.int _) rv
    · exact h1.elim
/-! zip of two lists -/
def zipD (xs ys : List D) : List D := (xs.zip ys).map fun p => .tup [p.1, p.2]
def mIZip (ma : MA) : MI := fun ρ M k X => ma ρ M (fun ds M1 => match ds with
  | [.ref m, .ref n] => match M1[m]?, M1[n]? with
    | some (.lst xs), some (.lst ys) => k (zipD xs ys) (fun M => M[m]? = some (.lst xs) ∧ M[n]? = some (.lst ys)) M1
    | _, _ => False
  | _ => False) X
theorem zipD_get {xs ys : List D} {i : Nat} {d : D} (h : (zipD xs ys)[i]? = some d) : ∃ a b, xs[i]? = some a ∧ ys[i]? = some b ∧ d = .tup [a, b] := by
  simp only [zipD, List.getElem?_map] at h
  cases e : (xs.zip ys)[i]? with
  | none => rw [e] at h; cases h
  | some p =>
    rw [e] at h
    obtain ⟨h1, h2⟩ := List.getElem?_zip_eq_some.mp e
    simp at h
    exact ⟨p.1, p.2, h1, h2, h.symm⟩
theorem qi_zip {ma : MA} {p tpos : Pos} {elts : List Expr} {kk : Nat} (hg : Gl X "zip") (hm : X.mg "zip" = none) (ha : QA X W [e, e2] ma)
    (hs : starEach [e, e2] X.env = (false, eval e X.env) :: starEach [e2] X.env := by rfl) (hpl : (backTo pos (starEach [e2] X.env)).any (·.1) = false := by rfl) : QI X W (.Tuple elts kk tpos) (.Call (.Name "zip" p) [e, e2] [] pos) (mIZip ma) :=
  PIi (pi_zip hg hm ha hs hpl) fun σ H R ⟨as, M, ρ, k, X', r, rs, h, hq, hx⟩ => by
    refine lfA_bind r rs h hx fun ds M1 as1 H1 vs h1 e1 r1 rs1 rv => ?_
    split at h1
    · obtain ⟨v, w, rfl, rx, ry⟩ := rv.two
      cases rx with
      | ref hm' =>
        cases ry with
        | ref hn =>
          split at h1
          · rename_i xs ys ex ey
            obtain ⟨as_, h2, h3⟩ := at_lst r1 hm' ex
            obtain ⟨bs, h4, h5⟩ := at_lst r1 hn ey
            refine ⟨_, _, as_, bs, rfl, SqL.of h2, SqL.of h4, hq _ _ M1 as1 H1 _ h1 e1 r1 fun as' H' M' i e r g => ?_⟩
            obtain ⟨us, h6, h7⟩ := at_lst r (pre_get e.pre hm') g.1
            obtain ⟨ws, h8, h9⟩ := at_lst r (pre_get e.pre hn) g.2
            refine ⟨fun hi => ⟨us, ws, SqL.of h6, SqL.of h8, ?_⟩, fun d hd => ?_⟩
            · simp [zipD] at hi
              rw [← h7.len, ← h9.len]; omega
            · obtain ⟨a, b, ha, hb, rfl⟩ := zipD_get hd
              obtain ⟨va, hva, ra⟩ := h7.get ha
              obtain ⟨vb, hvb, rb⟩ := h9.get hb
              refine ⟨⟨us, ws, va, vb, SqL.of h6, SqL.of h8, hva, hvb⟩, fun x H2 ⟨T, y1, y2, ex, hT, eH, z1, z2⟩ => ?_⟩
              have e3 := z1 us (SqL.of h6)
              have e4 := z2 ws (SqL.of h8)
              rw [hva] at e3; rw [hvb] at e4; cases e3; cases e4
              subst ex eH
              exact new_pair r hT ra rb
          · exact h1.elim
    · exact h1.elim
/-! a locked dict's items and values -/
def mIItems (me : ME) : MI := fun ρ M k X => me ρ M (fun x M1 => match x with
  | .ref n => match M1[n]? with
    | some (.dct true kvs) => k (kvs.map fun kv => .tup [kD kv.1, kv.2]) (fun M => M[n]? = some (.dct true kvs)) M1
    | _ => False
  | _ => False) X
def mIVals (me : ME) : MI := fun ρ M k X => me ρ M (fun x M1 => match x with
  | .ref n => match M1[n]? with
    | some (.dct true kvs) => k (kvs.map (·.2)) (fun M => M[n]? = some (.dct true kvs)) M1
    | _ => False
  | _ => False) X
theorem qi_items {tpos apos cpos : Pos} {elts : List Expr} {kk : Nat} (he : QE X W e me) (hbase : attributeBase e "items" X.env (eval e X.env) = eval e X.env := by rfl) (hline : (apos.endLine == cpos.line) = true := by rfl) : QI X W (.Tuple elts kk tpos) (.Call (.Attribute e "items" apos) [] [] cpos) (mIItems me) :=
  PIi (pi_items he hbase hline) fun σ H R ⟨as, M, ρ, k, X', r, rs, h, hq, hx⟩ => by
    refine lf_bind r rs h hx fun d M1 as1 H1 v h1 e1 r1 rs1 rv => ?_
    cases rv <;> first | exact h1.elim | skip
    rename_i n a hn
    dsimp only at h1
    split at h1
    · rename_i kvs e2
      obtain ⟨a', ha, ks, h2, ob, h3⟩ := r1.at_ e2
      rw [hn] at ha; cases ha
      refine ⟨_, ob, ks, rfl, h3, hq _ _ M1 as1 H1 _ h1 e1 r1 fun as' H' M' i e r g => ?_⟩
      have h4 := e.frz _ _ _ h3
      have h5 := h2.up e
      refine ⟨fun hi => ⟨h4, by rw [← h5.len]; simp at hi; omega⟩, fun d hd => ?_⟩
      rw [List.getElem?_map] at hd
      cases hk : kvs[i]? with
      | none => rw [hk] at hd; cases hd
      | some kv =>
        rw [hk] at hd
        simp only [Option.map_some, Option.some.injEq] at hd
        have hl : i < ks.length := by rw [← h5.len]; exact (List.getElem?_eq_some_iff.mp hk).1
        obtain ⟨v, hv, rv⟩ := h5.vals.get (i := i) (d := kv.2) (by rw [List.getElem?_map, hk]; rfl)
        obtain ⟨w, hw, rw'⟩ := h5.keys.get (i := i) (d := kD kv.1) (by rw [List.getElem?_map, hk]; rfl)
        refine ⟨⟨h4, hl⟩, fun x H2 ⟨T, k', v', hk', ex, hT, eH⟩ => ?_⟩
        rw [List.getElem?_map, hk'] at hv hw
        cases hv; cases hw
        subst ex eH hd
        exact new_pair r hT rw' rv
    · exact h1.elim
theorem qi_vals {apos cpos : Pos} (he : QE X W e me) (hbase : attributeBase e "values" X.env (eval e X.env) = eval e X.env := by rfl) (hline : (apos.endLine == cpos.line) = true := by rfl) : QI X W tg (.Call (.Attribute e "values" apos) [] [] cpos) (mIVals me) :=
  PIi (pi_values he hbase hline) fun σ H R ⟨as, M, ρ, k, X', r, rs, h, hq, hx⟩ => by
    refine lf_bind r rs h hx fun d M1 as1 H1 v h1 e1 r1 rs1 rv => ?_
    cases rv <;> first | exact h1.elim | skip
    rename_i n a hn
    dsimp only at h1
    split at h1
    · rename_i kvs e2
      obtain ⟨a', ha, ks, h2, ob, h3⟩ := r1.at_ e2
      rw [hn] at ha; cases ha
      refine ⟨_, ob, ks, rfl, h3, hq _ _ M1 as1 H1 _ h1 e1 r1 fun as' H' M' i e r g => ?_⟩
      have h4 := e.frz _ _ _ h3
      have h5 := h2.up e
      refine ⟨fun hi => ⟨h4, by rw [← h5.len]; simp at hi; omega⟩, fun d hd => ?_⟩
      obtain ⟨v, hv, rv⟩ := h5.vals.get hd
      have hl : i < ks.length := by
        have := (List.getElem?_eq_some_iff.mp hv).1
        simpa using this
      refine ⟨⟨h4, hl⟩, fun x H2 ⟨e2, k', hk'⟩ => ?_⟩
      rw [List.getElem?_map, hk'] at hv
      cases hv
      subst e2
      exact ⟨.refl, r, rv⟩
    · exact h1.elim
end
end MV
namespace MV
open PySem PySem.Spec PyProof.Rows L2
/-! ### a dict is locked while a loop walks it -/
def mLock (m : MS) : MS := fun E ρ M => ∃ n kvs, M[n]? = some (.dct false kvs) ∧ m ⟨fun ρ' M' => M'[n]? = some (.dct true kvs) ∧ E.nx ρ' (M'.set n (.dct false kvs)), fun d M' => M'[n]? = some (.dct true kvs) ∧ E.rt d (M'.set n (.dct false kvs)),
  fun ρ' M' => M'[n]? = some (.dct true kvs) ∧ E.bk ρ' (M'.set n (.dct false kvs)), fun ρ' M' => M'[n]? = some (.dct true kvs) ∧ E.ct ρ' (M'.set n (.dct false kvs)), fun x ρ' M' => M'[n]? = some (.dct true kvs) ∧ E.ex x ρ' (M'.set n (.dct false kvs))⟩ ρ (M.set n (.dct true kvs))
def mLockE (m : ME) : ME := fun ρ M Q X => ∃ n kvs, M[n]? = some (.dct false kvs) ∧ m ρ (M.set n (.dct true kvs)) (fun d M' => M'[n]? = some (.dct true kvs) ∧ Q d (M'.set n (.dct false kvs))) (fun x M' => M'[n]? = some (.dct true kvs) ∧ X x (M'.set n (.dct false kvs)))
mutual
theorem Rel.up0 {K : PySem.W.Frag} {as : List Addr} {H H' : Hp} (t : ∀ b ds xs, Tq K H b ds xs → Tq K H' b ds xs) (x : ∀ b fs, H b = some (.xd fs) → H' b = some (.xd fs)) (z : ∀ b xs, RdL K H b xs → RdL K H' b xs) : ∀ {d : D} {v : V}, Rel K as H d v → Rel K as H' d v
  | _, _, .non => .non
  | _, _, .bl b => .bl b
  | _, _, .int i => .int i
  | _, _, .str s => .str s
  | _, _, .tup h r => .tup (t _ _ _ h) (RelL.up0 t x z r)
  | _, _, .ref h => .ref h
  | _, _, .ty n => .ty n
  | _, _, .g s => .g s
  | _, _, .exn h r => .exn (x _ _ h) (RelL.up0 t x z r)
  | _, _, .kl h r => .kl (z _ _ h) (RelL.up0 t x z r)
theorem RelL.up0 {K : PySem.W.Frag} {as : List Addr} {H H' : Hp} (t : ∀ b ds xs, Tq K H b ds xs → Tq K H' b ds xs) (x : ∀ b fs, H b = some (.xd fs) → H' b = some (.xd fs)) (z : ∀ b xs, RdL K H b xs → RdL K H' b xs) : ∀ {ds : List D} {vs : List V}, RelL K as H ds vs → RelL K as H' ds vs
  | _, _, .nil => .nil
  | _, _, .cons h r => .cons (Rel.up0 t x z h) (RelL.up0 t x z r)
end
section
variable {X : Cx} {W : WX} {st : Stmt} {e : Expr}
/-- behind the lock: the same, unlocked -/
theorem rdl_unl {K : PySem.W.Frag} {H' : Hp} {a : Addr} {ob : Obj} {ks : List (Key × V)} (hz : H' a = some (.frz ob (.dK ks))) : ∀ b xs, RdL K H' b xs → RdL K (upd H' a (.dK ks)) b xs := fun b xs q => by
  rcases q with ⟨o, q⟩ | q
  · exact .inl ⟨o, by rw [upd_ne (fun z => by rw [z, hz] at q; cases q)]; exact q⟩
  · exact .inr q
theorem tq_unl {K : PySem.W.Frag} {H' : Hp} {a : Addr} {ob : Obj} {ks : List (Key × V)} (hz : H' a = some (.frz ob (.dK ks))) : ∀ b ds xs, Tq K H' b ds xs → Tq K (upd H' a (.dK ks)) b ds xs := fun b ds xs q => by
  refine ⟨?_, fun z => by rw [upd_ne (fun z2 => by have q2 := q.2 z; rw [z2, hz] at q2; cases q2)]; exact q.2 z⟩
  have q := q.1
  rcases q with (q | ⟨o, q⟩) | q
  · exact .inl (.inl (by rw [upd_ne (fun z => by rw [z, hz] at q; cases q)]; exact q))
  · exact .inl (.inr ⟨o, by rw [upd_ne (fun z => by rw [z, hz] at q; cases q)]; exact q⟩)
  · exact .inr q
theorem unlock_ok {K : PySem.W.Frag} {as as' : List Addr} {H H' : Hp} {M' : Mem} {n : Nat} {a : Addr} {ob : Obj} {kvs : List (Key × D)} {ks : List (Key × V)} (hn : as[n]? = some a) (h0 : H a = some (.dK ks)) (hk : KVR K as H kvs ks)
    (e1 : Ext K as H as (upd H a (.frz ob (.dK ks)))) (e : Ext K as (upd H a (.frz ob (.dK ks))) as' H') (r : RepM K as' H' M') : H' a = some (.frz ob (.dK ks)) ∧ Ext K as H as' (upd H' a (.dK ks)) ∧ RepM K as' (upd H' a (.dK ks)) (M'.set n (.dct false kvs)) := by
  have hz : H' a = some (.frz ob (.dK ks)) := e.frz _ _ _ upd_same
  have hn' := pre_get e.pre hn
  have e3 := e1.trans e
  have sqt : ∀ b xs, SqT K H' b xs → SqT K (upd H' a (.dK ks)) b xs := fun b xs q => by
    rcases q with (q | ⟨o, q⟩) | q
    · exact .inl (.inl (by rw [upd_ne (fun z => by rw [z, hz] at q; cases q)]; exact q))
    · exact .inl (.inr ⟨o, by rw [upd_ne (fun z => by rw [z, hz] at q; cases q)]; exact q⟩)
    · exact .inr q
  have tpt : ∀ b xs, H' b = some (.tup xs) → upd H' a (.dK ks) b = some (.tup xs) := fun b xs q => by rw [upd_ne (fun z => by rw [z, hz] at q; cases q)]; exact q
  have tqt : ∀ b ds xs, Tq K H' b ds xs → Tq K (upd H' a (.dK ks)) b ds xs := fun b ds xs q => ⟨sqt b xs q.1, fun z => tpt b xs (q.2 z)⟩
  have xdt : ∀ b fs, H' b = some (.xd fs) → upd H' a (.dK ks) b = some (.xd fs) := fun b fs q => by rw [upd_ne (fun z => by rw [z, hz] at q; cases q)]; exact q
  have ext : Ext K as H as' (upd H' a (.dK ks)) := ⟨e3.pre, fun b xs q => sqt b xs (e3.tup b xs q), fun b fs q => xdt b fs (e3.xd b fs q), fun b o u q => by
    rw [upd_ne (fun z => by rw [z, h0] at q; cases q)]; exact e3.frz b o u q, fun b xs q => tpt b xs (e3.tp b xs q)⟩
  refine ⟨hz, ext, ⟨by rw [List.length_set]; exact r.len, r.nd, fun m b q h1 h2 => ?_⟩⟩
  by_cases hm : m = n
  · subst hm
    obtain ⟨hl, _⟩ := List.getElem?_eq_some_iff.mp hn'
    rw [List.getElem?_set_self (by rw [← r.len]; exact hl)] at h2
    cases h2
    rw [hn'] at h1
    cases h1
    exact ⟨ks, hk.up ext, upd_same⟩
  · rw [List.getElem?_set_ne (Ne.symm hm)] at h2
    have ne : b ≠ a := fun z => hm (by
      subst z
      obtain ⟨l1, e1⟩ := List.getElem?_eq_some_iff.mp h1
      obtain ⟨l2, e2⟩ := List.getElem?_eq_some_iff.mp hn'
      exact (List.getElem_inj r.nd).mp (e1.trans e2.symm))
    -- what stands there stays
    have q0 := r.ob m b q h1 h2
    have same : upd H' a (.dK ks) b = H' b := upd_ne ne
    have relL : ∀ {d v}, RelL K as' H' d v → RelL K as' (upd H' a (.dK ks)) d v := fun r => RelL.up0 tqt xdt (rdl_unl hz) r
    have kvr : ∀ {κ : Type} {l : List (κ × D)} {m : List (κ × V)}, KVR K as' H' l m → KVR K as' (upd H' a (.dK ks)) l m := fun h => Paired.mapP h fun _ _ q => ⟨q.1, Rel.up0 tqt xdt (rdl_unl hz) q.2⟩
    · cases q with
      | lst ds => obtain ⟨xs, h1, h2⟩ := q0; exact ⟨xs, same.trans h1, relL h2⟩
      | frz ds => obtain ⟨o, xs, h1, h2⟩ := q0; exact ⟨o, xs, same.trans h1, relL h2⟩
      | dct lk kvs =>
        obtain ⟨ks2, h1, h2⟩ := q0
        refine ⟨ks2, kvr h1, ?_⟩
        cases lk with
        | true => obtain ⟨o, h2⟩ := h2; exact ⟨o, same.trans h2⟩
        | false => exact same.trans h2
      | dtt lk kvs =>
        obtain ⟨ks2, h1, h2⟩ := q0
        refine ⟨ks2, kvr h1, ?_⟩
        cases lk with
        | true => obtain ⟨o, h2⟩ := h2; exact ⟨o, same.trans h2⟩
        | false => exact same.trans h2
      | ins c fs => obtain ⟨dx, ys, h1, h2⟩ := q0; exact ⟨dx, ys, same.trans h1, kvr h2⟩
theorem takes_lock {W' : WX} (tk : Takes X W) {d : Addr} {ob : Obj} {u : HO} (hn : ∀ o' u', X.H_0 d ≠ some (.frz o' u')) (hw : ∀ c dd σ H, W' c dd σ H → H d = some (.frz ob u) ∧ W c dd σ (upd H d u)) : Takes X W' := fun v s' ⟨a, B, sI, pins, σ, H, cls, dd, e, I, nb, up, sky, na, os, ag, w⟩ => by
  obtain ⟨h1, h2⟩ := hw _ _ _ _ w
  exact tk v s' ⟨a, B, sI, pins, σ, upd H d u, cls, dd, e, I.unlock h1 hn, nb, up, sky, by rw [upd_ne (fun z => by rw [z, h1] at na; cases na)]; exact na, os, ag, h2⟩
theorem qs_lock {m : MS} (tk : Takes X W) (h : ∀ W', Takes X W' → QS X W' st m) : QS X W st (mLock m) := by
  refine ⟨fun pins s σ H D I hw => ?_⟩
  obtain ⟨as, M, ρ, E, r, rs, ⟨n, kvs, em, hm⟩, hE⟩ := hw
  obtain ⟨a, ha, ks, hk, h0⟩ := r.at_ em
  have mu : Mut (some (HO.dK ks)) := True.intro
  obtain ⟨od, I1⟩ := I.lock h0 mu
  have nf := I.nofrz h0 mu
  have e1 : Ext X.K as H as (upd H a (.frz od (.dK ks))) := ext_put r ha (nfrz_dK h0)
  have r1 : RepM X.K as (upd H a (.frz od (.dK ks))) (M.set n (.dct true kvs)) := r.put ha (nfrz_dK h0) ⟨ks, hk.up e1, od, upd_same⟩
  have un : ∀ {as' H' M'}, Ext X.K as (upd H a (.frz od (.dK ks))) as' H' → RepM X.K as' H' M' → H' a = some (.frz od (.dK ks)) ∧ Ext X.K as H as' (upd H' a (.dK ks)) ∧ RepM X.K as' (upd H' a (.dK ks)) (M'.set n (.dct false kvs)) := fun {as' H' M'} e r' => unlock_ok ha h0 hk e1 e r'
  have rsU : ∀ {as' H' ρ' σ'}, H' a = some (.frz od (.dK ks)) → RelS X.K as' H' ρ' σ' → RelS X.K as' (upd H' a (.dK ks)) ρ' σ' := fun {as' H' ρ' σ'} hz q => ⟨q.1, fun i d e => let ⟨v, h1, h2⟩ := q.2 i d e; ⟨v, h1, Rel.up0 (tq_unl hz) (fun b fs q => by rw [upd_ne (fun z => by rw [z, hz] at q; cases q)]; exact q) (rdl_unl hz) h2⟩⟩
  have rdU : ∀ {as' H' d v}, H' a = some (.frz od (.dK ks)) → Rel X.K as' H' d v → Rel X.K as' (upd H' a (.dK ks)) d v := fun {as' H' d v} hz q => Rel.up0 (tq_unl hz) (fun b fs q => by rw [upd_ne (fun z => by rw [z, hz] at q; cases q)]; exact q) (rdl_unl hz) q
  have rxU : ∀ {as' H' x c d}, H' a = some (.frz od (.dK ks)) → RelX X.K as' H' x c d → RelX X.K as' (upd H' a (.dK ks)) x c d := fun {as' H' x c d} hz ⟨h1, dd, xs, h2, h3, h4⟩ =>
    ⟨h1, dd, xs, h2, by rw [upd_ne (fun z => by rw [z, hz] at h3; cases h3)]; exact h3, RelL.up0 (tq_unl hz) (fun b fs q => by rw [upd_ne (fun z => by rw [z, hz] at q; cases q)]; exact q) (rdl_unl hz) h4⟩
  let W' : WX := fun c dd σ' H' => H' a = some (.frz od (.dK ks)) ∧ W c dd σ' (upd H' a (.dK ks))
  have tk' : Takes X W' := takes_lock tk nf fun _ _ _ _ q => q
  let D' : Ends := ⟨fun σ' H' => H' a = some (.frz od (.dK ks)) ∧ D.nx σ' (upd H' a (.dK ks)), fun v H' => H' a = some (.frz od (.dK ks)) ∧ D.rt v (upd H' a (.dK ks)), fun σ' H' => H' a = some (.frz od (.dK ks)) ∧ D.bk σ' (upd H' a (.dK ks)), fun σ' H' => H' a = some (.frz od (.dK ks)) ∧ D.ct σ' (upd H' a (.dK ks))⟩
  have nd : NdOk X.K W' as (upd H a (.frz od (.dK ks))) ⟨fun ρ' M' => M'[n]? = some (.dct true kvs) ∧ E.nx ρ' (M'.set n (.dct false kvs)), fun d M' => M'[n]? = some (.dct true kvs) ∧ E.rt d (M'.set n (.dct false kvs)),
      fun ρ' M' => M'[n]? = some (.dct true kvs) ∧ E.bk ρ' (M'.set n (.dct false kvs)), fun ρ' M' => M'[n]? = some (.dct true kvs) ∧ E.ct ρ' (M'.set n (.dct false kvs)), fun x ρ' M' => M'[n]? = some (.dct true kvs) ∧ E.ex x ρ' (M'.set n (.dct false kvs))⟩ D' := by
    refine ⟨fun ρ' M' q as' H' σ' e r' rs' => ?_, fun d M' q as' H' v e r' rv => ?_, fun ρ' M' q as' H' σ' e r' rs' => ?_, fun ρ' M' q as' H' σ' e r' rs' => ?_, fun x ρ' M' q as' H' σ' c dd e r' rs' rx => ?_⟩
    · obtain ⟨hz, e2, r2⟩ := un e r'
      exact ⟨hz, hE.nx _ _ q.2 as' _ σ' e2 r2 (rsU hz rs')⟩
    · obtain ⟨hz, e2, r2⟩ := un e r'
      exact ⟨hz, hE.rt _ _ q.2 as' _ v e2 r2 (rdU hz rv)⟩
    · obtain ⟨hz, e2, r2⟩ := un e r'
      exact ⟨hz, hE.bk _ _ q.2 as' _ σ' e2 r2 (rsU hz rs')⟩
    · obtain ⟨hz, e2, r2⟩ := un e r'
      exact ⟨hz, hE.ct _ _ q.2 as' _ σ' e2 r2 (rsU hz rs')⟩
    · obtain ⟨hz, e2, r2⟩ := un e r'
      exact ⟨hz, hE.ex _ _ _ q.2 as' _ σ' c dd e2 r2 (rsU hz rs') (rxU hz rx)⟩
  refine thn ((h W' tk').run pins s σ _ D' I1 ⟨as, M.set n (.dct true kvs), ρ, _, r1, rs.up e1, hm, nd⟩) fun f s1 q => ?_
  cases f with
  | next => obtain ⟨σ', H', I2, e, q⟩ := q; exact ⟨σ', _, I2.unlock e nf, q⟩
  | brk => obtain ⟨σ', H', I2, e, q⟩ := q; exact ⟨σ', _, I2.unlock e nf, q⟩
  | cont => obtain ⟨σ', H', I2, e, q⟩ := q; exact ⟨σ', _, I2.unlock e nf, q⟩
  | ret v => obtain ⟨x, σ', H', I2, r, e, q⟩ := q; exact ⟨x, σ', _, I2.unlock e nf, r, q⟩
theorem qe_lock {m : ME} (tk : Takes X W) (h : ∀ W', Takes X W' → QE X W' e m) : QE X W e (mLockE m) := by
  refine ⟨fun pins s σ H Q I hw => ?_⟩
  obtain ⟨as, M, ρ, Q', X', r, rs, ⟨n, kvs, em, hm⟩, hq, hx⟩ := hw
  obtain ⟨a, ha, ks, hk, h0⟩ := r.at_ em
  have mu : Mut (some (HO.dK ks)) := True.intro
  obtain ⟨od, I1⟩ := I.lock h0 mu
  have nf := I.nofrz h0 mu
  have e1 : Ext X.K as H as (upd H a (.frz od (.dK ks))) := ext_put r ha (nfrz_dK h0)
  have r1 : RepM X.K as (upd H a (.frz od (.dK ks))) (M.set n (.dct true kvs)) := r.put ha (nfrz_dK h0) ⟨ks, hk.up e1, od, upd_same⟩
  have un : ∀ {as' H' M'}, Ext X.K as (upd H a (.frz od (.dK ks))) as' H' → RepM X.K as' H' M' → H' a = some (.frz od (.dK ks)) ∧ Ext X.K as H as' (upd H' a (.dK ks)) ∧ RepM X.K as' (upd H' a (.dK ks)) (M'.set n (.dct false kvs)) := fun {as' H' M'} e r' => unlock_ok ha h0 hk e1 e r'
  have t0 : ∀ {H'}, H' a = some (.frz od (.dK ks)) → ∀ b xs, SqT X.K H' b xs → SqT X.K (upd H' a (.dK ks)) b xs := fun {H'} hz b xs q => by
      rcases q with (q | ⟨o, q⟩) | q
      · exact .inl (.inl (by rw [upd_ne (fun z => by rw [z, hz] at q; cases q)]; exact q))
      · exact .inl (.inr ⟨o, by rw [upd_ne (fun z => by rw [z, hz] at q; cases q)]; exact q⟩)
      · exact .inr q
  have t1 : ∀ {H'}, H' a = some (.frz od (.dK ks)) → ∀ b ds xs, Tq X.K H' b ds xs → Tq X.K (upd H' a (.dK ks)) b ds xs := fun {H'} hz b ds xs q => ⟨t0 hz b xs q.1, fun z => by rw [upd_ne (fun z2 => by have q2 := q.2 z; rw [z2, hz] at q2; cases q2)]; exact q.2 z⟩
  have t2 : ∀ {H'}, H' a = some (.frz od (.dK ks)) → ∀ b fs, H' b = some (.xd fs) → upd H' a (.dK ks) b = some (.xd fs) := fun {H'} hz b fs q => by rw [upd_ne (fun z => by rw [z, hz] at q; cases q)]; exact q
  let W' : WX := fun c dd σ' H' => H' a = some (.frz od (.dK ks)) ∧ W c dd σ' (upd H' a (.dK ks))
  have tk' : Takes X W' := takes_lock tk nf fun _ _ _ _ q => q
  refine thn ((h W' tk').run pins s σ _ (fun v H' => H' a = some (.frz od (.dK ks)) ∧ Q v (upd H' a (.dK ks))) I1 ⟨as, M.set n (.dct true kvs), ρ, _, _, r1, rs.up e1, hm, fun d M' q as' H' v e r' rv => ?_, fun x M' q as' H' c dd e r' rx => ?_⟩) fun v s1 ⟨x, H1, I2, r, e2, q⟩ => ?_
  · obtain ⟨hz, e2, r2⟩ := un e r'
    exact ⟨hz, hq _ _ q.2 as' _ v e2 r2 (Rel.up0 (t1 hz) (t2 hz) (rdl_unl hz) rv)⟩
  · obtain ⟨hz, e2, r2⟩ := un e r'
    obtain ⟨g1, dd', xs, g2, g3, g4⟩ := rx
    exact ⟨hz, hx _ _ q.2 as' _ c dd e2 r2 ⟨g1, dd', xs, g2, t2 hz _ _ g3, RelL.up0 (t1 hz) (t2 hz) (rdl_unl hz) g4⟩⟩
  · exact ⟨x, _, I2.unlock e2 nf, r, q⟩
end
end MV
namespace MV
open PySem PySem.Spec PyProof.Rows L2
/-! ### list comprehensions -/
def wipeE (ρ : Ev) : List Nat → Ev
  | [] => ρ
  | v :: vs => (wipeE ρ vs).set v none
def mYes : MT := fun _ M Q _ => Q true M
def noX : XM := fun _ _ => False
def mLcL (guard : Mem → Prop) (T : Tg) (tt : MT) (me : ME) (ρ : Ev) (n : Nat) (Q : Mem → Prop) : List D → Mem → Prop
  | [], M => guard M ∧ Q M
  | d :: ds, M => guard M ∧ T.mg d ρ M fun ρ2 => tt ρ2 M (fun b M3 => if b = true then me ρ2 M3 (fun y M4 => match M4[n]? with
      | some (.lst acc) => acc.length < 16000000 ∧ mLcL guard T tt me ρ n Q ds (M4.set n (.lst (acc ++ [y])))
      | _ => False) noX else mLcL guard T tt me ρ n Q ds M3) noX
def mLc (mi : MI) (T : Tg) (tt : MT) (me : ME) (vs : List Nat) : ME := fun ρ M Q X => mi ρ M (fun items guard M1 => mLcL guard T tt me (wipeE ρ vs) M1.length (fun M2 => Q (.ref M1.length) M2) items (M1 ++ [.lst []])) X
abbrev W0 : WX := fun _ _ _ _ => False
section
variable {K : PySem.W.Frag} {as : List Addr} {H : Hp} {M : Mem}
theorem RelS.wipe {ρ : Ev} {σ : L2.St} (r : RelS K as H ρ σ) : ∀ vs : List Nat, RelS K as H (wipeE ρ vs) (L2.wipe σ vs)
  | [] => r
  | v :: vs => (RelS.wipe r vs).unset
theorem noX_ok {σ : L2.St} : ∀ x M', noX x M' → LX K as H (fun c d H => W0 c d σ H) x M' := fun _ _ h => h.elim
theorem lf_lc {W : WX} {mi : MI} {T : Tg} {tt : MT} {me : ME} {vs : List Nat} (hT : ∀ i ∈ T.slots, i ∈ vs) {σ : L2.St} {H : Hp} {Q : VK} (h : lf K W (mLc mi T tt me vs) σ H Q) : tLc (lfI K W mi) (T.rd K) (lfT K W0 tt) (lf K W0 me) vs σ H Q := by
  obtain ⟨as, M, ρ, Q', X', r, rs, h, hq, hx⟩ := h
  refine ⟨as, M, ρ, _, X', r, rs, h, fun items guard M1 as1 H1 J h1 e1 r1 ok D hD => ?_, hx⟩
  have rD : RepM K (as1 ++ [D]) (upd H1 D (.lst [])) (M1 ++ [.lst []]) := r1.new (o := .lst []) hD ⟨[], upd_same, .nil⟩
  have eD : Ext K as1 H1 (as1 ++ [D]) (upd H1 D (.lst [])) := (ext_new hD).trans ext_app
  have nD : (as1 ++ [D])[M1.length]? = some D := by rw [← r1.len]; exact app_at
  refine ⟨fun i m H' => ∃ as' M', Ext K (as1 ++ [D]) (upd H1 D (.lst [])) as' H' ∧ RepM K as' H' M' ∧ i + m = items.length ∧ mLcL guard T tt me (wipeE ρ vs) M1.length (fun M2 => Q' (.ref M1.length) M2) (items.drop i) M', ⟨items.length, _, _, .refl, rD, by simp, h1⟩, ?_⟩
  rintro i m H' ⟨as', M', e', r', hm, h'⟩
  have e2 := eD.trans e'
  have nD' := pre_get e'.pre nD
  by_cases hl : i < items.length
  · right
    rw [drop_cons hl] at h'
    obtain ⟨hgd, h'⟩ := h'
    obtain ⟨_, ok2⟩ := ok as' H' M' i e2 r' hgd
    obtain ⟨go, yld⟩ := ok2 _ (List.getElem?_eq_getElem hl)
    refine ⟨go, fun H2 => ∃ as2 M2, Ext K (as1 ++ [D]) (upd H1 D (.lst [])) as2 H2 ∧ RepM K as2 H2 M2 ∧ mLcL guard T tt me (wipeE ρ vs) M1.length (fun M2 => Q' (.ref M1.length) M2) (items.drop (i + 1)) M2, fun H2 ⟨as2, M2, a, b, c⟩ => ⟨m - 1, by omega, as2, M2, a, b, by omega, c⟩, fun x H2 y => ?_⟩
    obtain ⟨e3, r3, rx⟩ := yld x H2 y
    have e4 := e'.trans e3
    have rs3 : RelS K as' H2 (wipeE ρ vs) (L2.wipe σ vs) := (rs.up (e1.trans (e2.trans e3))).wipe vs
    refine T.keep hT (fun σ2 H2' ew q => ⟨?_, q⟩) (T.sim r3 rs3 rx h' fun ρ4 σ4 h4 rs4 => ?_)
    · rw [ew]
      have : ∀ (vs : List Nat) (τ : L2.St), L2.wipe (L2.wipe τ vs) vs = L2.wipe τ vs := fun vs τ => by
        apply List.ext_getElem?
        intro j
        by_cases hj : j ∈ vs
        · have key : ∀ (us : List Nat) (τ : L2.St), j ∈ us → (L2.wipe τ us)[j]? = (if j < τ.length then some none else none) := fun us τ hj => by
            induction us with
            | nil => cases hj
            | cons u us ih =>
              show ((L2.wipe τ us).set u none)[j]? = _
              by_cases hu : u = j
              · subst hu
                by_cases hl : u < τ.length
                · rw [List.getElem?_set_self (by rw [wipe_length]; exact hl), if_pos hl]
                · rw [List.getElem?_eq_none_iff.mpr (by rw [List.length_set, wipe_length]; omega), if_neg hl]
              · rw [List.getElem?_set_ne hu]
                exact ih (by rcases List.mem_cons.mp hj with z | z; exact absurd z.symm hu; exact z)
          rw [key vs _ hj, key vs _ hj, wipe_length]
        · rw [wipe_out hj]
      exact this vs σ
    · refine lfT_bind r3 rs4 h4 noX_ok fun b M3 as3 H3 h5 e5 r5 rs5 => ?_
      cases b with
      | true =>
        rw [if_pos rfl] at h5 ⊢
        refine lf_bind r5 rs5 h5 noX_ok fun dy M4 as4 H4 y h6 e6 r6 rs6 ry => ?_
        split at h6
        · rename_i acc ea
          have n4 := pre_get (e4.trans (e5.trans e6)).pre nD
          obtain ⟨ys, g1, g2⟩ := at_lst r6 n4 ea
          obtain ⟨e7, r7⟩ := put_lst r6 n4 g1 (g2.app (.cons ry .nil))
          exact ⟨ys, g1, by rw [← g2.len]; exact Nat.lt_of_lt_of_le h6.1 (by decide), as4, _, (e4.trans (e5.trans e6)).trans e7, r7, h6.2⟩
        · exact h6.elim
      | false =>
        rw [if_neg Bool.false_ne_true] at h5 ⊢
        exact ⟨as3, M3, e4.trans e5, r5, h5⟩
  · left
    have hi' : i = items.length := by omega
    rw [List.drop_eq_nil_of_le (by omega)] at h'
    exact ⟨(ok as' H' M' i e2 r' h'.1).1 hi', hq _ _ h'.2 as' H' _ (e1.trans e2) r' (.ref nD')⟩
end
section
variable {X : Cx} {W : WX} {elt tg iter : Expr} {ifs : List Expr} {scope : Scope} {own : List (Str × Nat)} {pos spos : Pos} {mi : MI} {T : Tg} {tt : MT} {me : ME}
abbrev QTs (X : Cx) (W : WX) (ifs : List Expr) (m : MT) : Prop := PTs X ifs (lfT X.K W m)
theorem qts_nil : QTs X W [] mYes := ⟨fun pins s σ H Q I ⟨as, M, ρ, Q', X', r, rs, h, hq, hx⟩ => pts_nil.run pins s σ H Q I (hq true M h as H .refl r)⟩
theorem qts_one {c : Expr} {m : MT} (h : QT X W c m) : QTs X W [c] m := pts_one h
theorem qe_lc (hc : X.calm = true) (hN : X.N.Nodup) (hi : QI X W tg iter mi) (ok : BlkOk X.N X.env.scope scope own)
    (hg : ∀ (s : Shared) (H : Hp) (C : Addr) (cl : List (Str × Addr)) (fp : List Addr), QG (X.blk s H scope (compEnvC scope cl C X.env) fp) tg T) (ht : ∀ (s : Shared) (H : Hp) (C : Addr) (cl : List (Str × Addr)) (fp : List Addr), QTs (X.blk s H scope (compEnvC scope cl C X.env) fp) W0 ifs tt)
    (he : ∀ (s : Shared) (H : Hp) (C : Addr) (cl : List (Str × Addr)) (fp : List Addr), QE (X.blk s H scope (compEnvC scope cl C X.env) fp) W0 elt me) (hT : ∀ i ∈ T.slots, i ∈ own.map (·.2)) (hs : ∀ x, foldedSetIterable iter X.env x = pure x := by intro _; rfl) :
    QE X W (.ListComp elt [⟨tg, iter, ifs, 0⟩] scope pos) (mLc mi T tt me (own.map (·.2))) := PEi (pe_lc (g := T.rd X.K) (tt := lfT X.K W0 tt) (te := lf X.K W0 me) hc hN hi ok hg ht he hs) fun σ H Q h => lf_lc hT h
theorem qs_setLc {i : Nat} {y : Str} {py : Pos} (hc : X.calm = true) (hN : X.N.Nodup) (hy : X.N[i]? = some y) (hyl : X.env.scope.names.lookup y = some .local)
    (hsw : swapsWith (.ListComp elt [⟨tg, iter, ifs, 0⟩] scope pos) (some (.Name y py)) spos.line X.env = pure true) (hi : QI X W tg iter mi) (ok : BlkOk X.N X.env.scope scope own)
    (hg : ∀ (s : Shared) (H : Hp) (C : Addr) (cl : List (Str × Addr)) (fp : List Addr), QG (X.blk s H scope (compEnvC scope cl C X.env) fp) tg T) (ht : ∀ (s : Shared) (H : Hp) (C : Addr) (cl : List (Str × Addr)) (fp : List Addr), QTs (X.blk s H scope (compEnvC scope cl C X.env) fp) W0 ifs tt)
    (he : ∀ (s : Shared) (H : Hp) (C : Addr) (cl : List (Str × Addr)) (fp : List Addr), QE (X.blk s H scope (compEnvC scope cl C X.env) fp) W0 elt me) (hT : ∀ i ∈ T.slots, i ∈ own.map (·.2)) (hs : ∀ x, foldedSetIterable iter X.env x = pure x := by intro _; rfl) :
    QS X W (.Assign [.Name y py] (.ListComp elt [⟨tg, iter, ifs, 0⟩] scope pos) spos) (mSet i (mLc mi T tt me (own.map (·.2)))) := PSi (ps_setLc (g := T.rd X.K) (tt := lfT X.K W0 tt) (te := lf X.K W0 me) hc hN hy hyl hsw hi ok hg ht he hs) fun D σ H ⟨as, M, ρ, E, r, rs, h, hE⟩ => by
  have h : mLc mi T tt me (own.map (·.2)) ρ M (fun d M1 => E.nx (ρ.set i (some d)) M1) (fun x M1 => E.ex x ρ M1) := h
  exact lf_lc hT (lf_bind (k := fun d M1 => E.nx (ρ.set i (some d)) M1) (X' := fun x M1 => E.ex x ρ M1) r rs h (exS hE rs) fun d M1 as1 H1 v h1 e1 r1 rs1 rv => hE.nx _ _ h1 as1 H1 _ e1 r1 (rs1.set rv))
end
/-! ### attributes of instances -/
def putD (f : Str) (y : D) : List (Str × D) → List (Str × D)
  | [] => [(f, y)]
  | (g, z) :: r => if g = f then (g, y) :: r else (g, z) :: putD f y r
/-- what is known of the classes by their names; fs: the names of fields and of methods that are asked -/
structure ClsN (K : PySem.W.Frag) (cs : List Str) (fs : List Str) : Prop where
  cls : ∀ c ∈ cs, Cls K (He.ga K c)
  no : ∀ c ∈ cs, ∀ f ∈ fs, NoAttr K (He.ga K c) f
def mFld (cs : List Str) (ma : ME) (f : Str) : ME := fun ρ M Q X => ma ρ M (fun x M1 => match x with
  | .ref n => match M1[n]? with
    | some (.ins c fs) => c ∈ cs ∧ match fs.lookup f with
      | some d => Q d M1
      | none => False
    | _ => False
  | _ => False) X
def mSetFld (cs : List Str) (ma mv : ME) (f : Str) : MS := fun E ρ M => mv ρ M (fun y M1 => ma ρ M1 (fun x M2 => match x with
  | .ref n => match M2[n]? with
    | some (.ins c fs) => c ∈ cs ∧ fs.length < 100 ∧ E.nx ρ (M2.set n (.ins c (putD f y fs)))
    | _ => False
  | _ => False) (fun x M2 => E.ex x ρ M2)) (fun x M1 => E.ex x ρ M1)
section
variable {K : PySem.W.Frag} {as : List Addr} {H : Hp} {M : Mem}
theorem KVR.look {l : List (Str × D)} {m : List (Str × V)} (h : KVR K as H l m) (f : Str) : (l.lookup f = none ∧ m.lookup f = none) ∨ ∃ d v, l.lookup f = some d ∧ m.lookup f = some v ∧ Rel K as H d v := by
  induction h with
  | nil => exact .inl ⟨rfl, rfl⟩
  | cons h t ih =>
    rename_i p q l m
    obtain ⟨h1, h2⟩ := h
    obtain ⟨p1, p2⟩ := p
    obtain ⟨q1, q2⟩ := q
    cases h1
    simp only [List.lookup_cons]
    cases e : (f == p1) with
    | true => exact .inr ⟨p2, q2, rfl, rfl, h2⟩
    | false => exact ih
theorem putF_eq (f : Str) (y : V) : ∀ l : List (Str × V), putF f y l = match l with | [] => [(f, y)] | (g, z) :: r => if g = f then (g, y) :: r else (g, z) :: putF f y r
  | [] => by simp [putF]
  | (g, z) :: r => by simp [putF]
theorem KVR.putF {l : List (Str × D)} {m : List (Str × V)} (h : KVR K as H l m) (f : Str) {d : D} {v : V} (r : Rel K as H d v) : KVR K as H (putD f d l) (L2.putF f v m) := by
  induction h with
  | nil => rw [putF_eq]; exact .cons ⟨rfl, r⟩ .nil
  | cons h t ih =>
    rename_i p q l m
    obtain ⟨h1, h2⟩ := h
    obtain ⟨p1, p2⟩ := p
    obtain ⟨q1, q2⟩ := q
    cases h1
    rw [putF_eq]
    simp only [putD]
    split
    · exact .cons ⟨rfl, r⟩ t
    · exact .cons ⟨rfl, h2⟩ ih
theorem at_ins {n : Nat} {a : Addr} {c : Str} {fs : List (Str × D)} (rp : RepM K as H M) (hn : as[n]? = some a) (e : M[n]? = some (.ins c fs)) : ∃ dx ys, H a = some (.ins (He.ga K c) dx ys) ∧ KVR K as H fs ys := by
  obtain ⟨a', ha, dx, ys, h1, h2⟩ := rp.at_ e
  rw [hn] at ha; cases ha
  exact ⟨dx, ys, h1, h2⟩
end
section
variable {X : Cx} {W : WX} {o e value : Expr} {f : Str} {pos pos' apos cpos : Pos} {ma mv : ME} {cs : List Str} {all : List Str} {es : List Expr}
theorem qe_fld (c : ClsN X.K cs all) (hf : f ∈ all) (he : QE X W e ma) (hb : attributeBase e f X.env (eval e X.env) = eval e X.env := by rfl) : QE X W (.Attribute e f pos) (mFld cs ma f) := PEi (pe_fld he hb) fun σ H Q ⟨as, M, ρ, Q', X', r, rs, h, hq, hx⟩ => by
  refine lf_bind r rs h hx fun d M1 as1 H1 v h1 e1 r1 rs1 rv => ?_
  cases rv <;> first | exact h1.elim | skip
  rename_i n a hn
  dsimp only at h1
  split at h1
  · rename_i cc fs em
    obtain ⟨hc, h1⟩ := h1
    obtain ⟨dx, ys, g1, g2⟩ := at_ins r1 hn em
    rcases g2.look f with ⟨l1, l2⟩ | ⟨d, v, l1, l2, rv⟩
    · rw [l1] at h1; exact h1.elim
    · rw [l1] at h1
      exact ⟨_, _, dx, ys, v, rfl, g1, c.cls cc hc, c.no cc hc f hf, l2, hq _ _ h1 as1 H1 _ e1 r1 rv⟩
  · exact h1.elim
theorem qs_fld (c : ClsN X.K cs all) (hf : f ∈ all) (ha : QE X W o ma) (hv : QE X W value mv) (hs : swapsWith value (some (.Attribute o f pos')) pos.line X.env = pure false := by rfl) : QS X W (.Assign [.Attribute o f pos'] value pos) (mSetFld cs ma mv f) := PSi (ps_fld ha hv hs) fun D σ H ⟨as, M, ρ, E, r, rs, h, hE⟩ => by
  refine lf_bind r rs h (exS hE rs) fun y M1 as1 H1 vy h1 e1 r1 rs1 ry => ?_
  refine lf_bind r1 rs1 h1 (fun x M' q => (exS hE rs x M' q).mono e1) fun x M2 as2 H2 v h2 e2 r2 rs2 rv => ?_
  cases rv <;> first | exact h2.elim | skip
  rename_i n a hn
  dsimp only at h2
  split at h2
  · rename_i cc fs em
    obtain ⟨hc, hl, h2⟩ := h2
    obtain ⟨dx, ys, g1, g2⟩ := at_ins r2 hn em
    refine ⟨_, _, dx, ys, rfl, g1, c.cls cc hc, c.no cc hc f hf, by rw [← g2.len]; omega, ?_⟩
    have e3 := ext_put (u := .ins (He.ga X.K cc) dx (L2.putF f vy ys)) r2 hn (nfrz_ins g1)
    have r3 : RepM X.K as2 _ (M2.set n (.ins cc (putD f y fs))) := r2.put hn (nfrz_ins g1) ⟨dx, _, upd_same, (g2.putF f (ry.up e2)).up e3⟩
    exact hE.nx _ _ h2 as2 _ σ ((e1.trans e2).trans e3) r3 (rs2.up e3)
  · exact h2.elim
/-! ### methods of lists and texts -/
abbrev OM := D → List D → Mem → DK → Prop
def isT (T : String) (x : D) (M : Mem) : Prop := match x with
  | .str _ => T = "str"
  | .ref n => T = "list" ∧ match M[n]? with | some (.lst _) => True | _ => False
  | _ => False
def mBM (T : String) (r : OM) (mo : ME) (ma : MA) : ME := fun ρ M Q X => mo ρ M (fun x M1 => isT T x M1 ∧ ma ρ M1 (fun xs M2 => r x xs M2 Q) X) X
def SimM (K : PySem.W.Frag) (r : V → List V → Hp → VK → Prop) (o : OM) : Prop := ∀ (as : List Addr) (H : Hp) (M : Mem) (dx : D) (ds : List D) (x : V) (vs : List V) (k : DK) (Q : VK), RepM K as H M → Rel K as H dx x → RelL K as H ds vs → o dx ds M k → (∀ d M', k d M' → LQ K as H Q d M') → r x vs H Q
theorem isT_ok {K : PySem.W.Frag} {as : List Addr} {H : Hp} {M : Mem} {T : String} {d : D} {x : V} (rp : RepM K as H M) (rx : Rel K as H d x) (h : isT T d M) : tyV K T x H := by
  cases rx <;> first | exact h.elim | skip
  · exact h
  · rename_i n a hn
    obtain ⟨h1, h2⟩ := h
    split at h2
    · rename_i ds e
      obtain ⟨xs, g1, g2⟩ := at_lst rp hn e
      exact .inl ⟨h1, xs, SqL.of g1⟩
    · exact h2.elim
theorem qe_bm {T id : String} {name : Str} {r : V → List V → Hp → VK → Prop} {rm : OM} {mo : ME} {mar : MA} (pa : PlainAttrs T) (slot : Slot T name id) (hty : typeOf (.builtin id) = pure (.type "method_descriptor")) (hm : MtR X id r) (hs : SimM X.K r rm) (ho : QE X W o mo) (ha : QA X W (e :: es) mar)
    (hbase : attributeBase o name X.env (eval o X.env) = eval o X.env := by rfl)
    (hfew : ((backTo cpos (starEach (e :: es) X.env)).all (fun x => !x.1) && (backToKw cpos (keywordEach [] X.env)).all (fun x => x.1.isSome)
      && decide ((e :: es).length + ([] : List Keyword).length + (if ([] : List Keyword).isEmpty then 0 else 1) < 30)) = true := by rfl)
    (hline : (apos.endLine == cpos.line) = true := by rfl) (hst : starEach (e :: es) X.env = (false, eval e X.env) :: starEach es X.env := by rfl) (hplain : (backTo cpos (starEach es X.env)).any (·.1) = false := by rfl) :
    QE X W (.Call (.Attribute o name apos) (e :: es) [] cpos) (mBM T rm mo mar) := PEi (pe_bm pa slot hty hm ho ha hbase hfew hline hst hplain) fun σ H Q ⟨as, M, ρ, Q', X', r, rs, h, hq, hx⟩ => by
  refine lf_bind r rs h hx fun d M1 as1 H1 v h1 e1 r1 rs1 rv => ⟨isT_ok r1 rv h1.1, ?_⟩
  refine lfA_bind r1 rs1 h1.2 (fun x M' q => (hx x M' q).mono e1) fun ds M2 as2 H2 vs h2 e2 r2 rs2 rvs => ?_
  exact hs as2 H2 M2 d ds v vs Q' Q r2 (rv.up e2) rvs h2 fun d M' q => (hq d M' q).mono (e1.trans e2)
theorem qe_bm0 {T id : String} {name : Str} {r : V → List V → Hp → VK → Prop} {rm : OM} {mo : ME} (pa : PlainAttrs T) (slot : Slot T name id) (hty : typeOf (.builtin id) = pure (.type "method_descriptor")) (hm : MtR X id r) (hs : SimM X.K r rm) (ho : QE X W o mo)
    (hbase : attributeBase o name X.env (eval o X.env) = eval o X.env := by rfl) (hline : (apos.endLine == cpos.line) = true := by rfl) :
    QE X W (.Call (.Attribute o name apos) [] [] cpos) (mBM T rm mo mNil) := PEi (pe_bm0 pa slot hty hm ho hbase hline) fun σ H Q ⟨as, M, ρ, Q', X', r, rs, h, hq, hx⟩ =>
  lf_bind r rs h hx fun d M1 as1 H1 v h1 e1 r1 rs1 rv => ⟨isT_ok r1 rv h1.1, hs as1 H1 M1 d [] v [] Q' Q r1 rv .nil h1.2 fun d M' q => (hq d M' q).mono e1⟩
end
def omAppend : OM := fun x ds M Q => match x, ds with
  | .ref n, [d] => match M[n]? with
    | some (.lst l) => l.length < 16000000 ∧ Q .non (M.set n (.lst (l ++ [d])))
    | _ => False
  | _, _ => False
def omExtend : OM := fun x ds M Q => match x, ds with
  | .ref n, [.ref m] => match M[n]?, M[m]? with
    | some (.lst l), some (.lst k) => l.length + k.length ≤ 16000000 ∧ Q .non (M.set n (.lst (l ++ k)))
    | _, _ => False
  | _, _ => False
def omPop : OM := fun x ds M Q => match x, ds with
  | .ref n, [] => match M[n]? with
    | some (.lst l) => match l[l.length - 1]? with
      | some d => Q d (M.set n (.lst l.dropLast))
      | none => False
    | _ => False
  | _, _ => False
def omClear : OM := fun x ds M Q => match x, ds with
  | .ref n, [] => match M[n]? with
    | some (.lst _) => Q .non (M.set n (.lst []))
    | _ => False
  | _, _ => False
def strsOf : List D → Option (List Str)
  | [] => some []
  | .str x :: r => (strsOf r).map (x :: ·)
  | _ => none
def omJoin : OM := fun x ds M Q => match x, ds with
  | .str a, [.ref n] => match M[n]? with
    | some (.lst l) => match strsOf l with
      | some ys => (ys.map (·.length)).sum + ys.length * a.length ≤ 16777216 ∧ Q (.str (Txt.join a ys)) M
      | none => False
    | _ => False
  | _, _ => False
def omSplit : OM := fun x ds M Q => match x, ds with
  | .str a, [.str b] => (b.length == 0) = false ∧ a.length ≤ 16000000 ∧ Q (.ref M.length) (M ++ [.lst ((Txt.split a b).map .str)])
  | _, _ => False
def omPartition : OM := fun x ds M Q => match x, ds with
  | .str a, [.str b] => (b.length == 0) = false ∧ a.length ≤ 16000000 ∧ Q (.tup [.str (Txt.partition a b).1, .str (Txt.partition a b).2.1, .str (Txt.partition a b).2.2]) M
  | _, _ => False
def omRfind : OM := fun x ds M Q => match x, ds with
  | .str a, [.str b] => Q (.int (Txt.rfind a b)) M
  | _, _ => False
section
variable {K : PySem.W.Frag}
theorem sim_append : SimM K rAppend omAppend := fun as H M dx ds x vs k Q rp rx rv h hk => by
  unfold omAppend at h
  split at h
  · obtain ⟨v, rfl, r1⟩ := rv.one
    cases rx with
    | ref hn =>
      split at h
      · rename_i l e
        obtain ⟨xs, g1, g2⟩ := at_lst rp hn e
        obtain ⟨e7, r7⟩ := put_lst rp hn g1 (g2.app (.cons r1 .nil))
        exact ⟨_, xs, v, rfl, rfl, g1, by rw [← g2.len]; exact Nat.lt_of_lt_of_le h.1 (by decide), hk _ _ h.2 as _ _ e7 r7 .non⟩
      · exact h.elim
  · exact h.elim
theorem sim_extend : SimM K rExtend omExtend := fun as H M dx ds x vs k Q rp rx rv h hk => by
  unfold omExtend at h
  split at h
  · obtain ⟨v, rfl, r1⟩ := rv.one
    cases rx with
    | ref hn =>
      cases r1 with
      | ref hm =>
        split at h
        · rename_i l kk e1 e2
          obtain ⟨xs, g1, g2⟩ := at_lst rp hn e1
          obtain ⟨ys, g3, g4⟩ := at_lst rp hm e2
          obtain ⟨e7, r7⟩ := put_lst rp hn g1 (g2.app g4)
          exact ⟨_, _, xs, ys, rfl, rfl, g1, g3, by rw [← g2.len, ← g4.len]; exact Nat.le_trans h.1 (by decide), hk _ _ h.2 as _ _ e7 r7 .non⟩
        · exact h.elim
  · exact h.elim
theorem RelL.dropLast {as : List Addr} {H : Hp} : ∀ {ds : List D} {vs : List V}, RelL K as H ds vs → RelL K as H ds.dropLast vs.dropLast := fun {ds vs} r => by
  rw [List.dropLast_eq_take, List.dropLast_eq_take, ← r.len]
  exact r.take _
theorem sim_pop : SimM K rPop omPop := fun as H M dx ds x vs k Q rp rx rv h hk => by
  unfold omPop at h
  split at h
  · cases rv
    cases rx with
    | ref hn =>
      split at h
      · rename_i l e
        split at h
        · rename_i d ed
          obtain ⟨xs, g1, g2⟩ := at_lst rp hn e
          obtain ⟨v, ev, rd⟩ := g2.get ed
          obtain ⟨e7, r7⟩ := put_lst rp hn g1 g2.dropLast
          exact ⟨_, xs, v, rfl, rfl, g1, by rw [← g2.len]; exact ev, hk _ _ h as _ _ e7 r7 (rd.up e7)⟩
        · exact h.elim
      · exact h.elim
  · exact h.elim
theorem sim_clear : SimM K rClear omClear := fun as H M dx ds x vs k Q rp rx rv h hk => by
  unfold omClear at h
  split at h
  · cases rv
    cases rx with
    | ref hn =>
      split at h
      · rename_i l e
        obtain ⟨xs, g1, g2⟩ := at_lst rp hn e
        obtain ⟨e7, r7⟩ := put_lst (ys := []) (ds := []) rp hn g1 .nil
        exact ⟨_, xs, rfl, rfl, g1, hk _ _ h as _ _ e7 r7 .non⟩
      · exact h.elim
  · exact h.elim
theorem strsOf_ok {as : List Addr} {H : Hp} : ∀ {ds : List D} {vs : List V} {ys : List Str}, RelL K as H ds vs → strsOf ds = some ys → vs = ys.map V.str
  | _, _, _, .nil, e => by simp [strsOf] at e; subst e; rfl
  | _, _, _, .cons h r, e => by
    cases h <;> simp [strsOf] at e
    obtain ⟨zs, e1, rfl⟩ := e
    rw [strsOf_ok r e1]; rfl
def rJoin (K : PySem.W.Frag) : V → List V → Hp → VK → Prop := fun x xs H Q => ∃ a p, ∃ ys : List Str, x = .str a ∧ xs = [.ref p] ∧ (SqL K H p (ys.map V.str) ∨ SqT K H p (ys.map V.str)) ∧
    (ys.map (·.length)).sum + ys.length * a.length ≤ 16777216 ∧ Q (.str (Txt.join a ys)) H
theorem sim_join : SimM K (rJoin K) omJoin := fun as H M dx ds x vs k Q rp rx rv h hk => by
  unfold omJoin at h
  split at h
  · obtain ⟨v, rfl, r1⟩ := rv.one
    cases rx
    cases r1 with
    | ref hn =>
      split at h
      · rename_i l e
        split at h
        · rename_i ys ey
          obtain ⟨xs, g1, g2⟩ := at_lst rp hn e
          have e2 := strsOf_ok g2 ey
          subst e2
          exact ⟨_, _, ys, rfl, rfl, .inl (SqL.of g1), h.1, hk _ _ h.2 as H _ .refl rp (.str _)⟩
        · exact h.elim
      · exact h.elim
  · exact h.elim
def rSplit : V → List V → Hp → VK → Prop := fun x xs H Q => ∃ a b, x = .str a ∧ xs = [.str b] ∧ (b.length == 0) = false ∧ a.length + 2 ≤ sizeLine ∧ rNewStrs (Txt.split a b) H Q
theorem relL_strs {as : List Addr} {H : Hp} : ∀ ys : List Str, RelL K as H (ys.map .str) (ys.map V.str)
  | [] => .nil
  | y :: ys => .cons (.str y) (relL_strs ys)
theorem sim_split : SimM K rSplit omSplit := fun as H M dx ds x vs k Q rp rx rv h hk => by
  unfold omSplit at h
  split at h
  · obtain ⟨v, rfl, r1⟩ := rv.one
    cases rx
    cases r1
    exact ⟨_, _, rfl, rfl, h.1, Nat.le_trans (Nat.add_le_add_right h.2.1 2) (by decide), fun p hp => new_lst rp (relL_strs _) hp h.2.2 hk⟩
  · exact h.elim
def rPartition : V → List V → Hp → VK → Prop := fun x xs H Q => ∃ a b, x = .str a ∧ xs = [.str b] ∧ (b.length == 0) = false ∧ a.length ≤ sizeLine ∧
    ∀ p, H p = none → Q (.ref p) (upd H p (.tup [.str (Txt.partition a b).1, .str (Txt.partition a b).2.1, .str (Txt.partition a b).2.2]))
theorem sim_partition : SimM K rPartition omPartition := fun as H M dx ds x vs k Q rp rx rv h hk => by
  unfold omPartition at h
  split at h
  · obtain ⟨v, rfl, r1⟩ := rv.one
    cases rx
    cases r1
    exact ⟨_, _, rfl, rfl, h.1, Nat.le_trans h.2.1 (by decide), fun p hp => new_tup rp (.cons (.str _) (.cons (.str _) (.cons (.str _) .nil))) hp h.2.2 hk⟩
  · exact h.elim
def rRfind : V → List V → Hp → VK → Prop := fun x xs H Q => ∃ a b, x = .str a ∧ xs = [.str b] ∧ Q (.int (Txt.rfind a b)) H
theorem sim_rfind : SimM K rRfind omRfind := fun as H M dx ds x vs k Q rp rx rv h hk => by
  unfold omRfind at h
  split at h
  · obtain ⟨v, rfl, r1⟩ := rv.one
    cases rx
    cases r1
    exact ⟨_, _, rfl, rfl, hk _ _ h as H _ .refl rp (.int _)⟩
  · exact h.elim
end
/-! ### f-strings -/
def oFmt : OU := fun x M Q => match x with
  | .str y => y.length ≤ 16000000 ∧ Q (.str y) M
  | .int i => i.natAbs.log2 < 1920 ∧ Q (.str (toString i)) M
  | _ => False
def mJs : List ME → Str → Ev → Mem → DK → XM → Prop
  | [], acc, _, M, Q, _ => Q (.str acc) M
  | m :: ms, acc, ρ, M, Q, X => m ρ M (fun x M1 => match x with | .str y => (acc ++ y).length ≤ 16000000 ∧ mJs ms (acc ++ y) ρ M1 Q X | _ => False) X
inductive QJ (X : Cx) (W : WX) : List Expr → List ME → Prop where
  | nil : QJ X W [] []
  | cons {e : Expr} {m : ME} {es : List Expr} {ms : List ME} (h : QE X W e m) (r : QJ X W es ms) : QJ X W (e :: es) (m :: ms)
section
variable {X : Cx} {W : WX} {e : Expr} {me : ME} {pos : Pos}
theorem qe_fmt (he : QE X W e me) : QE X W (.FormattedValue e (-1) none pos) (mUn oFmt me) := PEi (pe_fmt he) fun σ H Q ⟨as, M, ρ, Q', X', r, rs, h, hq, hx⟩ => by
  refine lf_bind r rs h hx fun d M1 as1 H1 v h1 e1 r1 rs1 rv => ?_
  cases rv <;> first | exact h1.elim | skip
  · exact .inr ⟨_, rfl, h1.1, hq _ _ h1.2 as1 H1 _ e1 r1 (.str _)⟩
  · exact .inl ⟨_, rfl, Nat.le_trans h1.1 (by decide), hq _ _ h1.2 as1 H1 _ e1 r1 (.str _)⟩
theorem QJ.pj {es : List Expr} {ms : List ME} (h : QJ X W es ms) : PJ X es (ms.map (lf X.K W)) := by
  induction h with
  | nil => exact .nil
  | cons h r ih => exact .cons h ih
theorem js_ok {K : PySem.W.Frag} {ρ : Ev} {σ : L2.St} {Q : VK} {Q' : DK} {X' : XM} : ∀ (ms : List ME) (acc : Str) (as : List Addr) (H : Hp) (M : Mem), RepM K as H M → RelS K as H ρ σ → mJs ms acc ρ M Q' X' → (∀ d M', Q' d M' → LQ K as H Q d M') → (∀ x M', X' x M' → LX K as H (fun c d H => W c d σ H) x M') → tJs (ms.map (lf K W)) acc σ H fun out H1 => Q (.str out) H1
  | [], acc, as, H, M, r, rs, h, hq, hx => hq _ _ h as H _ .refl r (.str _)
  | m :: ms, acc, as, H, M, r, rs, h, hq, hx => lf_bind r rs h hx fun d M1 as1 H1 v h1 e1 r1 rs1 rv => by
    cases rv <;> first | exact h1.elim | skip
    exact ⟨_, rfl, Nat.le_trans h1.1 (by decide), js_ok ms _ as1 H1 M1 r1 rs1 h1.2 (fun d M' q => (hq d M' q).mono e1) fun x M' q => (hx x M' q).mono e1⟩
theorem qe_joined {v1 v2 : Expr} {rest : List Expr} {ms : List ME} (h : QJ X W (v1 :: v2 :: rest) ms) : QE X W (.JoinedStr (v1 :: v2 :: rest) pos) (mJs ms Str.empty) := PEi (pe_joined h.pj) fun σ H Q ⟨as, M, ρ, Q', X', r, rs, h, hq, hx⟩ => js_ok ms _ as H M r rs h hq hx
theorem qe_joined1 (he : QE X W e me) : QE X W (.JoinedStr [e] pos) me := pe_joined1 he
end
end MV
namespace MV
open PySem PySem.Spec PyProof.Rows L2
/-! ### a def by its mirror -/
abbrev WF := List D → Mem → DK → XM → Prop
/-- the promise: what the mirror says -/
def spM (K : PySem.W.Frag) (n : Nat) (w : WF) : Sp := fun vs H Q E => ∃ as M ds Q' X', vs.length = n ∧ RepM K as H M ∧ RelL K as H ds vs ∧ w ds M Q' X' ∧ (∀ d M', Q' d M' → LQ K as H Q d M') ∧ ∀ x M', X' x M' → LX K as H E x M'
/-- how a call of n positional values and keywords ks binds -/
structure DBn (K : PySem.W.Frag) (fd : FuncData) (ps : List Str) (n : Nat) (ks : List Str) (gD : List D → List D → List D) : Prop where
  ex : ∃ g gV, KBn K fd ps n ks g gV ∧ ∀ (as : List Addr) (H : Hp) (ds es : List D) (vs zs : List V), ds.length = n → es.length = ks.length → RelL K as H ds vs → RelL K as H es zs → RelL K as H (gD ds es) (gV vs zs)
structure Fn (P : Program) (w : World) (K : PySem.W.Frag) (mg : Str → Option Value) (base : Heap) (k : Nat) (f : Addr) (ps : List Str) (W : WF) (n : Nat) (ks : List Str) (gD : List D → List D → List D) : Prop where
  ok : ∃ fd, FnOk P w K mg base (L2.CX P w) k f fd ps (spM K ps.length W) ∧ DBn K fd ps n ks gD
  kp : PySem.W.keepIn K (.ref f) = true
/-! ### arguments of a call, positional and by keywords -/
abbrev TA2 := L2.St → Hp → (List V → List V → Hp → Prop) → Prop
abbrev MA2 := Ev → Mem → (List D → List D → Mem → Prop) → XM → Prop
def PCW (X : Cx) (es : List Expr) (kws : List Keyword) (ks : List Str) (pos : Pos) (t : TA2) : Prop := ∀ (f : Value) (first : List Value) (pins : List (Addr × Obj)) (s : Shared) (σ : L2.St) (H : Hp) (R : List V → List V → Hp → Prop) (Qv : Value → Shared → Prop), Inv X pins σ H s → PySem.W.keepIn X.K f = true → t σ H R →
  (∀ us ws vs zs H2 s2, Inv X pins σ H2 s2 → Vals vs us → Vals zs ws → R vs zs H2 → wpAny (model X.prog X.w) X.A (call f (first ++ us) (ks.zip ws)) Qv X.xe s2) →
  wpAny (model X.prog X.w) X.A (callWith pos f first (backTo pos (starEach es X.env)) (backToKw pos (keywordEach kws X.env))) Qv X.xe s
def lfA2 (K : PySem.W.Frag) (W : WX) (m : MA2) : TA2 := fun σ H R => ∃ as M ρ k X', RepM K as H M ∧ RelS K as H ρ σ ∧ m ρ M k X' ∧ (∀ ds es M' as' H' vs zs, k ds es M' → Ext K as H as' H' → RepM K as' H' M' → RelL K as' H' ds vs → RelL K as' H' es zs → R vs zs H') ∧ ∀ x M', X' x M' → LX K as H (fun c d H => W c d σ H) x M'
abbrev QCW (X : Cx) (W : WX) (es : List Expr) (kws : List Keyword) (ks : List Str) (pos : Pos) (m : MA2) : Prop := PCW X es kws ks pos (lfA2 X.K W m)
def mArgs0 : MA2 := fun _ M k _ => k [] [] M
def mArgsP (ma : MA) : MA2 := fun ρ M k X => ma ρ M (fun ds M1 => k ds [] M1) X
def mArgsK (mk : MA) : MA2 := fun ρ M k X => mk ρ M (fun es M1 => k [] es M1) X
def mArgsPK (ma mk : MA) : MA2 := fun ρ M k X => ma ρ M (fun ds M1 => mk ρ M1 (fun es M2 => k ds es M2) X) X
abbrev QK (X : Cx) (W : WX) (kws : List Keyword) (m : MA) : Prop := PK X kws (lfA X.K W m)
section
variable {X : Cx} {W : WX} {e : Expr} {es : List Expr} {kws : List Keyword} {ks : List Str} {pos : Pos} {ma mk : MA} {me : ME}
theorem qk_nil : QK X W [] mNil := ⟨fun pos pins s σ H Q I ⟨as, M, ρ, Q', X', r, rs, h, hq, hx⟩ => pk_nil.run pos pins s σ H Q I (hq [] M h as H [] .refl r .nil)⟩
theorem qk_cons {nm : Option Str} {kpos : Pos} (ha : QE X W e me) (hr : QK X W kws mk) : QK X W (⟨nm, e, kpos⟩ :: kws) (mCons me mk) := ⟨fun pos pins s σ H Q I ⟨as, M, ρ, Q', X', r, rs, h, hq, hx⟩ => (pk_cons ha hr).run pos pins s σ H Q I (by
    refine lf_bind r rs h hx fun dx M1 as1 H1 x h1 e1 r1 rs1 rx => ?_
    refine lfA_bind r1 rs1 h1 (fun x M' q => (hx x M' q).mono e1) fun ds M2 as2 H2 vs h2 e2 r2 rs2 rv => ?_
    exact hq _ _ h2 as2 H2 _ (e1.trans e2) r2 (.cons (rx.up e2) rv))⟩
theorem qcw0 : QCW X W [] [] [] pos mArgs0 := fun f first pins s σ H R Qv I kp ⟨as, M, ρ, k, X', r, rs, h, hq, hx⟩ hk =>
  PySem.W.callWith_K0 I.kIn kp (hk [] [] [] [] H s I .nil .nil (hq [] [] M as H [] [] h .refl r .nil .nil))
theorem qcwP (ha : QA X W (e :: es) ma) (he : starEach (e :: es) X.env = (false, eval e X.env) :: starEach es X.env := by rfl) (hpl : (backTo pos (starEach es X.env)).any (·.1) = false := by rfl) : QCW X W (e :: es) [] [] pos (mArgsP ma) := fun f first pins s σ H R Qv I kp ⟨as, M, ρ, k, X', r, rs, h, hq, hx⟩ hk =>
  PySem.W.callWith_K (h₀ := X.base) I.ok.mod.kin kp (thn (ha.run pos pins s σ H (fun vs H' => R vs [] H') I ⟨as, M, ρ, _, X', r, rs, h, fun ds M' q as' H' vs e r' rv => hq ds [] M' as' H' vs [] q e r' rv .nil, hx⟩) fun us s1 ⟨vs, H1, I1, rv, q⟩ => ⟨I1.kIn, hk us [] vs [] H1 s1 I1 rv .nil q⟩) he hpl
theorem qcwK (hkw : QK X W kws mk) (hall : (backToKw pos (keywordEach kws X.env)).all (·.1.isSome) = true := by kernel_rfl) (hks : (backToKw pos (keywordEach kws X.env)).filterMap (·.1) = ks := by kernel_rfl)
    (hpl : ((backTo pos (starEach [] X.env)).any (·.1) || (backToKw pos (keywordEach kws X.env)).any (·.1.isNone)) = false := by kernel_rfl) : QCW X W [] kws ks pos (mArgsK mk) := fun f first pins s σ H R Qv I kp ⟨as, M, ρ, k, X', r, rs, h, hq, hx⟩ hk =>
  PySem.W.callWith_KW0 (h₀ := X.base) I.ok.mod.kin kp hall (thn (hkw.run pos pins s σ H (fun zs H' => R [] zs H') I ⟨as, M, ρ, _, X', r, rs, h, fun ds M' q as' H' vs e r' rv => hq [] ds M' as' H' [] vs q e r' .nil rv, hx⟩) fun ws s1 ⟨zs, H1, I1, rz, q⟩ => ⟨I1.kIn, by rw [hks]; exact hk [] ws [] zs H1 s1 I1 .nil rz q⟩) hpl
theorem qcwPK (ha : QA X W (e :: es) ma) (hkw : QK X W kws mk) (hall : (backToKw pos (keywordEach kws X.env)).all (·.1.isSome) = true := by kernel_rfl) (hks : (backToKw pos (keywordEach kws X.env)).filterMap (·.1) = ks := by kernel_rfl)
    (he : starEach (e :: es) X.env = (false, eval e X.env) :: starEach es X.env := by rfl)
    (hpl : ((backTo pos (starEach (e :: es) X.env)).any (·.1) || (backToKw pos (keywordEach kws X.env)).any (·.1.isNone)) = false := by kernel_rfl) : QCW X W (e :: es) kws ks pos (mArgsPK ma mk) := fun f first pins s σ H R Qv I kp ⟨as, M, ρ, k, X', r, rs, h, hq, hx⟩ hk =>
  PySem.W.callWith_KW (h₀ := X.base) I.ok.mod.kin kp hall (thn (ha.run pos pins s σ H (fun vs H' => lfA X.K W mk σ H' fun zs H2 => R vs zs H2) I ⟨as, M, ρ, _, X', r, rs, h, fun ds M' q as' H' vs e r' rv =>
      ⟨as', M', ρ, _, X', r', rs.up e, q, fun es M2 q2 as2 H2 zs e2 r2 rz => hq ds es M2 as2 H2 vs zs q2 (e.trans e2) r2 (rv.up e2) rz, fun x M' q => (hx x M' q).mono e⟩, hx⟩) fun us s1 ⟨vs, H1, I1, rv, q⟩ =>
    thn (hkw.run pos pins s1 σ H1 _ I1 q) fun ws s2 ⟨zs, H2, I2, rz, q2⟩ => ⟨I2.kIn, by rw [hks]; exact hk us ws vs zs H2 s2 I2 rv rz q2⟩) hpl he
end
/-! ### calls -/
def mCall (w : WF) (n m : Nat) (gD : List D → List D → List D) (ma : MA2) : ME := fun ρ M Q X => ma ρ M (fun ds es M1 => (ds.length = n ∧ es.length = m) ∧ w (gD ds es) M1 Q X) X
def mMeth (c : Str) (mn : Str) (w : WF) (n m : Nat) (gD : List D → List D → List D) (mo : ME) (ma : MA2) : ME := fun ρ M Q X => mo ρ M (fun x M1 => match x with
  | .ref a => match M1[a]? with
    | some (.ins c' fs) => (c' = c ∧ fs.lookup mn = none) ∧ ma ρ M1 (fun ds es M2 => ((x :: ds).length = n ∧ es.length = m) ∧ w (gD (x :: ds) es) M2 Q X) X
    | _ => False
  | _ => False) X
def mMake (c : Str) (w : WF) (n m : Nat) (gD : List D → List D → List D) (ma : MA2) : ME := fun ρ M Q X => ma ρ M (fun ds es M1 => (ds.length + 1 = n ∧ es.length = m) ∧ w (gD (.ref M1.length :: ds) es) (M1 ++ [.ins c []]) (fun v M2 => match v with | .non => Q (.ref M1.length) M2 | _ => False) X) X
section
variable {X : Cx} {W : WX} {x m : Str} {es : List Expr} {kws : List Keyword} {ks ps : List Str} {p pos apos : Pos} {ma : MA2} {k n : Nat} {w : WF} {gD : List D → List D → List D} {f C : Addr} {o : Expr} {mo : ME}
theorem run_fnU {fd : FuncData} {sp : Sp} {E : XK} {g : List Value → List Value → List Value} {gV : List V → List V → List V} {pins : List (Addr × Obj)} {σ : L2.St} {H : Hp} {s : Shared} {Q : VK} {us ws : List Value} {vs zs : List V} (F : FnOk X.prog X.w X.K X.mg X.base (L2.CX X.prog X.w) k f fd ps sp) (hr : Room k X.A) (hb : KBn X.K fd ps n ks g gV) (hx : PassesAt (L2.CX X.prog X.w) X σ E)
    (I : Inv X pins σ H s) (r : Vals vs us) (rz : Vals zs ws) (l1 : vs.length = n) (l2 : zs.length = ks.length) (h : sp (gV vs zs) H Q E) : wpAny (model X.prog X.w) X.A (call (.ref f) us (ks.zip ws)) (EP X pins σ Q) X.xe s := by
  have r2 := hb.rel r rz
  refine wpAny_call (codeAny_mono (F.run X.A X.stack s H ⟨us, ks.zip ws⟩ (g us ws) (gV vs zs) Q E hr I.env0 (hb.to s us ws I.kIn (r.length.symm.trans l1) (rz.length.symm.trans l2)) r2 h) fun r s' hq => ?_)
  cases r with
  | error e => exact hx pins H s e s' I hq
  | ok fl =>
    cases fl with
    | ret u => exact I.after hq
    | next => exact False.elim hq
    | brk => exact False.elim hq
    | cont => exact False.elim hq
/-- the mirror's word as the promise -/
theorem spM_of {K : PySem.W.Frag} {as : List Addr} {H : Hp} {M : Mem} {ds : List D} {vs : List V} {N : Nat} {Q : VK} {E : XK} {k : DK} {X' : XM} (r : RepM K as H M) (rv : RelL K as H ds vs) (hl : vs.length = N) (h : w ds M k X') (hq : ∀ d M', k d M' → LQ K as H Q d M') (hx : ∀ x M', X' x M' → LX K as H E x M') : spM K N w vs H Q E := ⟨as, M, ds, k, X', hl, r, rv, h, hq, hx⟩
/-- f(..) -/
theorem qe_call (F : Fn X.prog X.w X.K X.mg X.base k f ps w n ks gD) (hr : Room k X.A) (hg : Gl X x) (hm : X.mg x = some (.ref f)) (tk : Takes X W) (ha : QCW X W es kws ks pos ma) (hgl : ∀ (ds es : List D), ds.length = n → es.length = ks.length → (gD ds es).length = ps.length) (hdb : (x == ("__debug__" : Str)) = false := by decide) :
    QE X W (.Call (.Name x p) es kws pos) (mCall w n ks.length gD ma) := by
  obtain ⟨⟨fd, G, ⟨g, gV, hb, hrel⟩⟩, kp⟩ := F
  refine ⟨fun pins s σ H Q I ⟨as, M, ρ, Q', X', r, rs, h, hq, hx⟩ => ?_⟩
  refine wpAny_Call_Name_kw (ld_glob I hg hm ?_ hdb)
  refine ha (.ref f) [] pins s σ H (fun vs zs H1 => (vs.length = n ∧ zs.length = ks.length) ∧ spM X.K ps.length w (gV vs zs) H1 Q (WE W σ)) _ I kp ⟨as, M, ρ, _, X', r, rs, h, fun ds es M1 as1 H1 vs zs q e1 r1 rv rz => ?_, hx⟩ fun us ws vs zs H2 s2 I2 rv rz q => ?_
  · obtain ⟨⟨l1, l2⟩, q⟩ := q
    have rg := hrel as1 H1 ds es vs zs l1 l2 rv rz
    exact ⟨⟨by rw [← rv.len]; exact l1, by rw [← rz.len]; exact l2⟩, spM_of r1 rg (by rw [← rg.len]; exact hgl ds es l1 l2) q (fun d M' q => (hq d M' q).mono e1) fun x M' q => (hx x M' q).mono e1⟩
  · exact run_fnU G hr hb (passAt tk σ) I2 rv rz q.1.1 q.1.2 q.2
/-- o.m(..) -/
theorem qe_meth {c : Str} {pl : Sem Bool} (he : QE X W o mo) (cl : Cls X.K (He.ga X.K c)) (hm : Meth X.K (He.ga X.K c) m f) (F : Fn X.prog X.w X.K X.mg X.base k f ps w n ks gD) (hr : Room k X.A) (tk : Takes X W) (ha : QCW X W es kws ks pos ma) (hgl : ∀ (ds es : List D), ds.length = n → es.length = ks.length → (gD ds es).length = ps.length)
    (ht : eval (.Call (.Attribute o m apos) es kws pos) X.env = (do
      let ov ← eval o X.env
      standAt apos.atName
      let (f, first) ← holding [ov] (getMethod ov m pl)
      callWith pos f first (backTo pos (starEach es X.env)) (backToKw pos (keywordEach kws X.env))) := by rfl) :
    QE X W (.Call (.Attribute o m apos) es kws pos) (mMeth c m w n ks.length gD mo ma) := by
  obtain ⟨⟨fd, G, ⟨g, gV, hb, hrel⟩⟩, kp⟩ := F
  refine ⟨fun pins s σ H Q I ⟨as, M, ρ, Q', X', r, rs, h, hq, hx⟩ => ?_⟩
  refine PySem.W.methodCall_KW (pl := pl) (thn (he.run pins s σ H (fun v H1 => ∃ a dx fs, v = .ref a ∧ H1 a = some (.ins (He.ga X.K c) dx fs) ∧ fs.lookup m = none ∧ lfA2 X.K W (fun ρ M k X => ma ρ M k X) σ H1 fun vs zs H2 => (vs.length + 1 = n ∧ zs.length = ks.length) ∧ spM X.K ps.length w (gV (.ref a :: vs) zs) H2 Q (WE W σ)) I ?_) fun u s1 ⟨v, H1, I1, rx, a, dx, fs, ex, ea, l, q⟩ => ?_) ht
  · refine lf_bind r rs h hx fun d M1 as1 H1 v h1 e1 r1 rs1 rv => ?_
    cases rv <;> first | exact h1.elim | skip
    rename_i nn a hn
    dsimp only at h1
    split at h1
    · rename_i c' fs em
      obtain ⟨⟨ec, el⟩, h1⟩ := h1
      subst ec
      obtain ⟨dx, ys, g1, g2⟩ := at_ins r1 hn em
      have l2 : ys.lookup m = none := by
        rcases g2.look m with ⟨_, z⟩ | ⟨d, v, z, _⟩
        · exact z
        · rw [z] at el; cases el
      refine ⟨a, dx, ys, rfl, g1, l2, as1, M1, ρ, _, X', r1, rs1, h1, fun ds es M2 as2 H2 vs zs q e2 r2 rv rz => ?_, fun x M' q => (hx x M' q).mono e1⟩
      obtain ⟨⟨l1, l3⟩, q⟩ := q
      have rv2 : RelL X.K as2 H2 (.ref nn :: ds) (.ref a :: vs) := .cons (.ref (pre_get e2.pre hn)) rv
      have rg := hrel as2 H2 _ es _ zs l1 l3 rv2 rz
      have e3 := e1.trans e2
      exact ⟨⟨by rw [← rv.len]; exact l1, by rw [← rz.len]; exact l3⟩, spM_of r2 rg (by rw [← rg.len]; exact hgl _ es l1 l3) q (fun d M' q => (hq d M' q).mono e3) fun x M' q => (hx x M' q).mono e3⟩
    · exact h1.elim
  · subst ex
    obtain rfl : u = Value.ref a := rx
    refine getmeth_ok I1 ea cl hm l ?_
    refine ha (.ref f) [.ref a] pins s1 σ H1 _ _ I1 kp q fun us ws vs zs H2 s2 I2 rv rz q => ?_
    exact run_fnU (us := .ref a :: us) (vs := .ref a :: vs) G hr hb (passAt tk σ) I2 (.cons rfl rv) rz q.1.1 q.1.2 q.2
/-- C(..) -/
theorem run_makeU {fd : FuncData} {sp : Sp} {E : XK} {g : List Value → List Value → List Value} {gV : List V → List V → List V} {pins : List (Addr × Obj)} {σ : L2.St} {H : Hp} {s : Shared} {Q : VK} {us ws : List Value} {vs zs : List V} (Mk' : Mk X.K C f) (F : FnOk X.prog X.w X.K X.mg X.base (L2.CX X.prog X.w) k f fd ps sp) (hr : Room (k + 1) X.A) (hb : KBn X.K fd ps n ks g gV) (hx : ∀ (pins : List (Addr × Obj)) (H : Hp) (s : Shared) (e : Value) (s' : Shared), Inv X pins σ H s → L2.CX X.prog X.w X.stack H s E e s' → X.xe e s')
    (I : Inv X pins σ H s) (r : Vals vs us) (rz : Vals zs ws) (l1 : vs.length + 1 = n) (l2 : zs.length = ks.length)
    (h : ∀ x dx, H x = none → H dx = none → dx ≠ x → sp (gV (.ref x :: vs) zs) (upd (upd H dx (.own x)) x (.ins C dx [])) (fun v H2 => v = .non ∧ Q (.ref x) H2) E) :
    wpAny (model X.prog X.w) X.A (call (.ref C) us (ks.zip ws)) (EP X pins σ Q) X.xe s := by
  have hq := h (s.heap.objs.size + 1) s.heap.objs.size (I.hok.fresh (Nat.le_succ _)) (I.hok.fresh (Nat.le_refl _)) (Nat.ne_of_lt (Nat.lt_succ_self _))
  have I2 := Inv.made (C := C) I
  have r1 : Vals (V.ref (s.heap.objs.size + 1) :: vs) (Value.ref (s.heap.objs.size + 1) :: us) := .cons rfl r
  have r2 := hb.rel r1 rz
  have n1 : (Value.ref (s.heap.objs.size + 1) :: us).length = n := by
    rw [List.length_cons, ← r.length, l1]
  refine wpAny_call (make_map (f := f) I.kIn Mk'.makes Mk'.init (beq_iff_eq.mp Mk'.fn) (codeAny_mono (F.run _ X.stack _ _ ⟨Value.ref (s.heap.objs.size + 1) :: us, ks.zip ws⟩ (g (Value.ref (s.heap.objs.size + 1) :: us) ws) _ _ E (hr.make C us (ks.zip ws))
    (I2.env0.make C us (ks.zip ws)) (hb.to _ (Value.ref (s.heap.objs.size + 1) :: us) ws I2.kIn n1 (rz.length.symm.trans l2)) r2 hq) fun r s' hq' => ?_))
  cases r with
  | error e => exact hx pins _ _ e s' I2 hq'
  | ok fl =>
    cases fl with
    | ret u =>
      obtain ⟨v, H', I3, rv, ev, q3⟩ := I2.after hq'
      subst ev
      exact ⟨rv, ⟨V.ref (s.heap.objs.size + 1), H', I3, rfl, q3⟩⟩
    | next => exact False.elim hq'
    | brk => exact False.elim hq'
    | cont => exact False.elim hq'
theorem qe_make (Mk' : Mk X.K (He.ga X.K x) f) (F : Fn X.prog X.w X.K X.mg X.base k f ps w n ks gD) (hr : Room (k + 1) X.A) (hg : Gl X x) (hm : X.mg x = some (.ref (He.ga X.K x))) (tk : Takes X W) (ha : QCW X W es kws ks pos ma) (hgl : ∀ (ds es : List D), ds.length = n → es.length = ks.length → (gD ds es).length = ps.length) (hdb : (x == ("__debug__" : Str)) = false := by decide) :
    QE X W (.Call (.Name x p) es kws pos) (mMake x w n ks.length gD ma) := by
  obtain ⟨⟨fd, G, ⟨g, gV, hb, hrel⟩⟩, _⟩ := F
  refine ⟨fun pins s σ H Q I ⟨as, M, ρ, Q', X', r, rs, h, hq, hx⟩ => ?_⟩
  refine wpAny_Call_Name_kw (ld_glob I hg hm ?_ hdb)
  refine ha (.ref (He.ga X.K x)) [] pins s σ H (fun vs zs H1 => (vs.length + 1 = n ∧ zs.length = ks.length) ∧ ∀ y dx, H1 y = none → H1 dx = none → dx ≠ y → spM X.K ps.length w (gV (.ref y :: vs) zs) (upd (upd H1 dx (.own y)) y (.ins (He.ga X.K x) dx [])) (fun v H2 => v = .non ∧ Q (.ref y) H2) (WE W σ)) _ I Mk'.kp ⟨as, M, ρ, _, X', r, rs, h, fun ds es M1 as1 H1 vs zs q e1 r1 rv rz => ?_, hx⟩ fun us ws vs zs H2 s2 I2 rv rz q => ?_
  · obtain ⟨⟨l1, l2⟩, q⟩ := q
    refine ⟨⟨by rw [← rv.len]; exact l1, by rw [← rz.len]; exact l2⟩, fun y dx hy hdx hne => ?_⟩
    have hy2 : upd H1 dx (.own y) y = none := by rw [upd_ne (Ne.symm hne)]; exact hy
    have e2 : Ext X.K as1 H1 (as1 ++ [y]) (upd (upd H1 dx (.own y)) y (.ins (He.ga X.K x) dx [])) := ((ext_new hdx).trans (ext_new hy2)).trans ext_app
    have r2 : RepM X.K (as1 ++ [y]) (upd (upd H1 dx (.own y)) y (.ins (He.ga X.K x) dx [])) (M1 ++ [.ins x []]) := (r1.laid hdx).new hy2 ⟨dx, [], upd_same, .nil⟩
    have ny : (as1 ++ [y])[M1.length]? = some y := by rw [← r1.len]; exact app_at
    have rv2 : RelL X.K (as1 ++ [y]) _ (.ref M1.length :: ds) (.ref y :: vs) := .cons (.ref ny) (rv.up e2)
    have l1' : (D.ref M1.length :: ds).length = n := l1
    have rg := hrel _ _ _ es _ zs l1' l2 rv2 (rz.up e2)
    have e3 := e1.trans e2
    refine spM_of r2 rg (by rw [← rg.len]; exact hgl _ es l1' l2) q (fun d M' q as' H' v e r' rd => ?_) fun x M' q => (hx x M' q).mono e3
    cases rd <;> first | exact q.elim | skip
    exact ⟨rfl, hq _ _ q as' H' _ (e3.trans e) r' (.ref (pre_get e.pre ny))⟩
  · exact run_makeU Mk' G hr hb (passAt tk σ) I2 rv rz q.1.1 q.1.2 q.2
end
/-! ### a def's body keeps its mirror's promise -/
def startE (N : List Str) (ds : List D) : Ev := ds.map some ++ List.replicate (N.length - ds.length) none
theorem RelL.start {K : PySem.W.Frag} {as : List Addr} {H : Hp} {ds : List D} {vs : List V} (N : List Str) (r : RelL K as H ds vs) : RelS K as H (startE N ds) (L2.start N vs) := by
  refine ⟨by simp [startE, L2.start, r.len], fun i d h => ?_⟩
  unfold startE at h
  unfold L2.start
  by_cases hl : i < ds.length
  · rw [List.getElem?_append_left (by simpa using hl), List.getElem?_map] at h
    cases e : ds[i]? with
    | none => rw [e] at h; cases h
    | some d0 =>
      rw [e] at h
      simp at h
      subst h
      obtain ⟨v, e2, rv⟩ := r.get e
      exact ⟨v, by rw [List.getElem?_append_left (by simpa [← r.len] using hl), List.getElem?_map, e2]; rfl, rv⟩
  · rw [List.getElem?_append_right (by simpa using hl), List.getElem?_replicate] at h
    split at h <;> cases h
/-- the mirror of a def by its body -/
def wOf (N : List Str) (m : MS) : WF := fun ds M Q X => m ⟨fun _ M' => Q .non M', Q, fun _ _ => False, fun _ _ => False, fun x _ M' => X x M'⟩ (startE N ds) M
theorem body_ok {K : PySem.W.Frag} {N : List Str} {m : MS} {n : Nat} {vs : List V} {H : Hp} {Q : VK} {E : XK} (h : spM K n (wOf N m) vs H Q E) : lfS K (fun c d _ H => E c d H) m { nx := fun _ H' => Q .non H', rt := Q } (L2.start N vs) H := by
  obtain ⟨as, M, ds, Q', X', hl, r, rv, h, hq, hx⟩ := h
  refine ⟨as, M, startE N ds, _, r, rv.start N, h, ⟨fun ρ M' q as' H' σ e r' _ => hq _ _ q as' H' _ e r' .non, hq, fun _ _ q => q.elim, fun _ _ q => q.elim, fun x ρ M' q as' H' σ c d e r' _ rx => hx _ _ q as' H' c d e r' rx⟩⟩
theorem spM_len {K : PySem.W.Frag} {n : Nat} {w : WF} (vs : List V) (H : Hp) (Q : VK) (E : XK) (h : spM K n w vs H Q E) : vs.length = n := let ⟨_, _, _, _, _, hl, _⟩ := h; hl
/-- the def: from the derivation of its body -/
theorem fn_ok {P : Program} {w : World} {K : PySem.W.Frag} {mg : Str → Option Value} {base : Heap} {x qual : Str} {params : Arguments} {body : List Stmt} {scope : Scope} {dvs : List V} {kws : List (Str × V)} {f : Addr} {fd : FuncData} {N ps : List Str} {k : Nat} {m : MS}
    (F : FunD K x qual params body scope dvs kws f fd) (S : FnScope N ps scope)
    (hb : ∀ (cdv : Value) (A : Around) (outer : List Env) (s : Shared) (H : Hp) (E : XK), Room k (A.deeper (envOfC qual scope s.heap.objs.size f cdv)) → Takes (cxOf (L2.CX P w) P w K mg base N qual scope f cdv A outer s H E) (fun c d _ H => E c d H) → PassesOwn (model P w) (A.deeper (envOfC qual scope s.heap.objs.size f cdv)) (envOfC qual scope s.heap.objs.size f cdv) (cxOf (L2.CX P w) P w K mg base N qual scope f cdv A outer s H E).xe →
      QSs (cxOf (L2.CX P w) P w K mg base N qual scope f cdv A outer s H E) (fun c d _ H => E c d H) body m) : FnOk P w K mg base (L2.CX P w) (k + 1) f fd ps (spM K ps.length (wOf N m)) :=
  F.ok S spM_len fun cdv A outer s H vs Q E hr h => ⟨_, hb cdv A outer s H E hr (takes_of rfl rfl rfl rfl) (passes_of rfl), body_ok h⟩
end MV
namespace MV
open PySem PySem.Spec PyProof.Rows L2
/-! ### except clauses: a class or a tuple of classes, with or without a name -/
/-- the test of a clause: the classes cs -/
def TyOk (X : Cx) (ty : Expr) (cs : List Value) : Prop := ∀ (a : Addr) (pn pins : List (Addr × Obj)) (s : Shared) (σ : L2.St) (H : Hp) (cls : Value) (b : Bool) (Q : Value → Shared → Prop) (E : Value → Shared → Prop), Inv (X.suite a pn) pins σ H s →
  PySem.W.Looks (model X.prog X.w) s.heap (typeOf (.ref a)) cls → PySem.W.exmAny X.K cls cs = some b →
  (∀ v h', (∀ c o, s.heap.get? c = some o → h'.get? c = some o) → PySem.W.Looks (model X.prog X.w) h' (excMatches (.ref a) v) b → Q v { s with heap := h' }) → wpAny (model X.prog X.w) (X.A.mark (some (.ref a))) (eval ty X.env) Q E s
theorem ld_name {X : Cx} {a : Addr} {pn pins : List (Addr × Obj)} {σ : L2.St} {H : Hp} {s : Shared} {x : Str} {c : Value} {np : Pos} {Q : Value → Shared → Prop} {E : Value → Shared → Prop} (hc : Names X x c) (I : Inv (X.suite a pn) pins σ H s) (h : Q c s) : wpAny (model X.prog X.w) (X.A.mark (some (.ref a))) (eval (.Name x np) X.env) Q E s := by
  obtain ⟨hg, hdbg, hm | ⟨hm, hv, hnn⟩⟩ := hc
  · exact ld_glob (X := X.suite a pn) I hg hm h hdbg
  · exact ld_blt (X := X.suite a pn) I hg hm hv h hnn hdbg
theorem ty_one {X : Cx} {x : Str} {c : Value} {np : Pos} (hc : Names X x c) : TyOk X (.Name x np) [c] := fun a pn pins s σ H cls b Q E I LT hb h => by
  obtain ⟨b1, d1, h1, h2, rfl⟩ := PySem.W.exmAny_cons hb
  cases h2
  rw [Bool.or_false] at h
  exact ld_name hc I (h c s.heap (fun _ _ q => q) (PySem.W.exm_one (M := model X.prog X.w) I.kIn LT h1))
theorem backTo_cons {pos : Pos} {t : Sem Value} {l : List (Bool × Sem Value)} : backTo pos ((false, t) :: l) = (false, t) :: backTo pos l := rfl
/-- names one behind the other leave the state as it is -/
theorem names_spliced {X : Cx} {a : Addr} {pn pins : List (Addr × Obj)} {σ : L2.St} {H : Hp} {s : Shared} {pos : Pos} {E : Value → Shared → Prop} (I : Inv (X.suite a pn) pins σ H s) : ∀ {xs : List (Str × Pos)} {cs : List Value}, Paired (fun (p : Str × Pos) (c : Value) => Names X p.1 c) xs cs → ∀ {Q : List Value → Shared → Prop}, Q cs s →
    wpAny (model X.prog X.w) (X.A.mark (some (.ref a))) (spliced (backTo pos (starEach (xs.map fun p => Expr.Name p.1 p.2) X.env))) Q E s
  | [], _, .nil, Q, h => Calls.spliced_nil h
  | (x, p) :: xs, _, .cons hc r, Q, h => by
    have he : starEach ((Expr.Name x p) :: (xs.map fun p => Expr.Name p.1 p.2)) X.env = (false, eval (.Name x p) X.env) :: starEach (xs.map fun p => Expr.Name p.1 p.2) X.env := by rfl
    rw [List.map_cons, he, backTo_cons]
    refine Calls.spliced_cons (ld_name hc I ?_)
    exact names_spliced I r h
theorem ty_tup {X : Cx} {xs : List (Str × Pos)} {cs : List Value} {k : Nat} {pos : Pos} (hc : Paired (fun (p : Str × Pos) (c : Value) => Names X p.1 c) xs cs) (hz : cs.length ≤ sizeLine)
    (hm : ∀ (h : Heap) (tp e : Addr) (cls : Value) (b : Bool), X.K.In h → PySem.W.Looks (model X.prog X.w) h (typeOf (.ref e)) cls → h.get? tp = some { cls := .type "tuple", data := .seq cs.toArray } → PySem.W.exmAny X.K cls cs = some b → PySem.W.Looks (model X.prog X.w) h (excMatches (.ref e) (.ref tp)) b) :
    TyOk X (.Tuple (xs.map fun p => Expr.Name p.1 p.2) k pos) cs := fun a pn pins s σ H cls b Q E I LT hb h => by
  refine wpAny_Tuple_spliced (names_spliced I hc ⟨hz, ?_⟩)
  have kp : ∀ c o, s.heap.get? c = some o → (s.heap.push { cls := .type "tuple", data := .seq cs.toArray }).get? c = some o := fun c o q => Heap.get?_push_of_some _ q
  exact h _ _ kp (hm _ _ a cls b (I.kIn.keeps kp) (LT.keeps kp) (Heap.get?_push_size _ rfl) hb)
theorem flying_keeps {B h h' : Heap} {l : List Env} {a : Addr} {Z : Obj → Prop} (k : ∀ b o, h.get? b = some o → h'.get? b = some o) (x : HandSPX.FlyingZ B l a Z h) : HandSPX.FlyingZ B l a Z h' := by
  obtain ⟨h1, h2, h3, oe, vs, T, oT, ts, g1, g2, g3, g4, g5, g6, g7, g8, g9⟩ := x
  exact ⟨fun b o q => k b o (h1 b o q), h2, PySem.Heap.FunFrames.of_keeps (fun b o q _ => ⟨o, k b o q, rfl⟩) h3, oe, vs, T, oT, ts, k _ _ g1, g2, g3, g4, g5, g6, k _ _ g7, g8, g9⟩
theorem upTo_keeps {h h' h2 : Heap} (x : h.UpToSlots h') (k : ∀ b o, h'.get? b = some o → h2.get? b = some o) : h.UpToSlots h2 := fun b o q hn => by
  obtain ⟨sl, e⟩ := x b o q hn
  exact ⟨sl, k _ _ e⟩
abbrev Clause := List Value × Option Nat × (Addr → Value → Option Addr → TS)
def endsAs (i : Nat) (D : Ends) : Ends := { nx := fun σ' H' => D.nx (σ'.set i none) H', rt := D.rt, bk := fun σ' H' => D.bk (σ'.set i none) H', ct := fun σ' H' => D.ct (σ'.set i none) H' }
def wManyA (K : PySem.W.Frag) (Wout : WX) (D : Ends) : List Clause → WX
  | [] => Wout
  | (cs, oi, ts) :: r => fun cls d σ H => ∃ b, PySem.W.exmAny K cls cs = some b ∧ (b = true → ∀ a, H a = none → match oi with
      | none => ts a cls d D σ H
      | some i => ts a cls d (endsAs i D) (σ.set i (some (.ref a))) H) ∧ (b = false → wManyA K Wout D r cls d σ H)
inductive HdA (X : Cx) : List ExceptHandler → List Clause → Prop
  | nil : HdA X [] []
  | one {ty : Expr} {cs : List Value} {ts : Addr → Value → Option Addr → TS} {b₀ : Stmt} {suite : List Stmt} {pos' : Pos} {hds : List ExceptHandler} {l : List Clause} (hc : TyOk X ty cs)
      (hsu : ∀ (a : Addr) (oe : Obj) (cls : Value) (d : Option Addr) (pn : List (Addr × Obj)), Zc cls d oe → (∃ vs, oe.data = .fields vs) → PSs (X.suite a ((a, oe) :: pn)) (b₀ :: suite) (ts a cls d)) (r : HdA X hds l) :
      HdA X (.ExceptHandler (some ty) none (b₀ :: suite) pos' :: hds) ((cs, none, ts) :: l)
  | as_ {ty : Expr} {n : Str} {i : Nat} {cs : List Value} {ts : Addr → Value → Option Addr → TS} {b₀ : Stmt} {suite : List Stmt} {pos' : Pos} {hds : List ExceptHandler} {l : List Clause} (hc : TyOk X ty cs) (hN : X.N.Nodup) (hi : X.N[i]? = some n) (hln : X.env.kindOf n = some .local)
      (hsu : ∀ (a : Addr) (oe : Obj) (cls : Value) (d : Option Addr) (pn : List (Addr × Obj)), Zc cls d oe → (∃ vs, oe.data = .fields vs) → PSs (X.suite a ((a, oe) :: pn)) (b₀ :: suite) (ts a cls d)) (r : HdA X hds l) :
      HdA X (.ExceptHandler (some ty) (some n) (b₀ :: suite) pos' :: hds) ((cs, some i, ts) :: l)
section
variable {X : Cx} {body : List Stmt} {h₀ : ExceptHandler} {hds : List ExceptHandler} {l : List Clause} {pos : Pos} {tb : WX → TS} {Wout : WX}
theorem ps_try_A (hs : X.stack = X.env :: X.outer) (hf : X.env.frame = some X.env.locals) (tk : Takes X Wout)
    (hb : ∀ (W : WX) (pn : List (Addr × Obj)) (xe : Value → Shared → Prop), Takes (X.tr pn xe) W → PassesOwn (model X.prog X.w) X.A X.env xe → PSs (X.tr pn xe) body (tb W))
    (hh : HdA X (h₀ :: hds) l) : PS X (.Try body (h₀ :: hds) [] [] pos) (fun D σ H => tb (wManyA X.K Wout D l) D σ H) := by
  refine ⟨fun pins s σ H D I h => ?_⟩
  have ok := I.ok
  have hfr : X.A.frames = some (X.env :: X.outer) := by rw [ok.frames, hs]
  refine wpAny_Try_except ?_
  refine wpAny_mono ((hb (wManyA X.K Wout D l) (X.pn ++ pins) (fun e s₁ => wpAny (model X.prog X.w) X.A (noteFrame e X.env) (fun _ s₂ => wpAny (model X.prog X.w) X.A (setFlight e none) (fun _ s₃ =>
    wpAny (model X.prog X.w) X.A (handleBy e X.env (h₀ :: hds)) (SP X pins D) X.xe s₃) X.xe s₂) X.xe s₁) (fun u s' xx => ?_) PassesOwn.looking).run [] s σ H D (I.toTry _) h) (fun f s1 hsp => ?_) (fun e s1 he => he)
  · obtain ⟨a, B, sI, pins', σ', H', cls, d, rfl, J', nb, up, sky, na, os, ag, w⟩ := xx
    have J : Inv X pins σ' H' sI := J'.ofTry ok
    have sky' : Sky B (X.env :: X.outer) a (Zc cls d) X.env.locals s'.heap := by rw [← hs]; exact sky
    show wpAny (model X.prog X.w) X.A (noteFrame (.ref a) X.env) _ _ _
    refine Sky.land Zc.steady hfr hf sky' fun h3 fl3 up3 => ?_
    have notFr : ∀ {h : Heap} {o : Obj} {vs : Array Value}, h.FunFrames B (X.env :: X.outer) → h.get? a = some o → o.data = .fields vs → a ∉ frs (X.env :: X.outer) := fun {h o vs} ff e dd hm => by
      obtain ⟨_, o', e', hnf⟩ := ff.mem hm
      rw [e] at e'; cases e'
      exact hnf _ dd
    have nLF : ∀ {h : Heap}, HandSPX.FlyingZ B (X.env :: X.outer) a (Zc cls d) h → a ≠ X.env.locals ∧ a ∉ X.fs := fun {h} fl => by
      obtain ⟨oe3, vs3, he3, hz3, hd3⟩ := fl.there
      have nfr := notFr fl.2.2.1 he3 hd3
      refine ⟨fun z => nfr (List.mem_filterMap.mpr ⟨X.env, List.mem_cons_self, by rw [hf, z]⟩), fun hm => ?_⟩
      obtain ⟨e, he, q⟩ := List.mem_filterMap.mp hm
      exact nfr (List.mem_filterMap.mpr ⟨e, List.mem_cons_of_mem _ he, q⟩)
    have go : ∀ {hds' : List ExceptHandler} {l' : List Clause}, HdA X hds' l' → wManyA X.K Wout D l' cls d σ' H' → ∀ h3 : Heap, HandSPX.FlyingZ B (X.env :: X.outer) a (Zc cls d) h3 → sI.heap.UpToSlots h3 →
        wpAny (model X.prog X.w) X.A (handleBy (.ref a) X.env hds') (SP X pins D) X.xe { s' with heap := h3 } := by
      intro hds' l' hk
      induction hk with
      | nil =>
        intro w h3 fl3 up3
        refine wpAny_handleBy_nil ?_
        obtain ⟨k1, k2, k3, oe, vs, T, oT, ts', he, hz, hd, h1, hr⟩ := id fl3
        unfold PySem.passOn
        refine wpAny_bind (wpAny_field he hd h1 ?_)
        rw [if_neg (show ¬ ((Value.ref T == Value.none) = true) from by simp)]
        have fin : wpAny (model X.prog X.w) X.A (setFlight (.ref a) X.env.frame) (fun _ s4 => wpAny (model X.prog X.w) X.A (throw (.ref a) : Sem Flow) (SP X pins D) X.xe s4) X.xe { s' with heap := h3 } := by
          rw [hf]
          refine HandSPX.setFlight_upZ fl3 fun h4 hh4 up4 => wpAny_throw (tk _ _ ?_)
          exact ⟨a, B, sI, pins, σ', H', cls, d, rfl, J, nb, up3.trans up4, .inr (.inr (by rw [hs]; exact hh4)), na, os, ag, w⟩
        first
          | exact wpAny_bind (wpAny_pure (wpAny_bind fin))
          | exact wpAny_bind fin
      | one hc hsu r ih =>
        rename_i ty cs ts b₀ suite pos' hds2 l2
        intro w h3 fl3 up3
        obtain ⟨b, hb1, hyes, hno⟩ := w
        have J3 : Inv X pins σ' H' { s' with heap := h3 } := J.landed nb fl3.1 up3 os ag
        obtain ⟨oe3, vs3, he3, hz3, hd3⟩ := fl3.there
        obtain ⟨nL, nF⟩ := nLF fl3
        have S3 := J3.suite he3 hd3 na nL nF
        refine wpAny_handleBy_cons (codeAny_handlers_test ?_) (by intro q; cases q)
        have LT : PySem.W.Looks (model X.prog X.w) h3 (typeOf (.ref a)) cls := fun A Q E s k q => wpAny_typeOf_ref (k _ _ he3) (by rw [hz3.1]; exact q)
        refine hc a _ _ { s' with heap := h3 } σ' H' cls b _ _ S3 LT hb1 fun v h4 k4 LM => LM.here ?_
        have fl4 := flying_keeps k4 fl3
        have up4 := upTo_keeps up3 k4
        cases b with
        | true =>
          refine codeAny_handlers_suite ?_
          refine HandSPX.lands_againZ fl4 fun h5 fl5 up5 => ?_
          have J5 : Inv X pins σ' H' { s' with heap := h5 } := J.landed nb fl5.1 (up4.trans up5) os ag
          obtain ⟨oe5, vs5, he5, hz5, hd5⟩ := fl5.there
          have S5 := J5.suite he5 hd5 na nL nF
          refine wpAny_mono ((hsu a oe5 cls d (X.pn ++ pins) hz5 ⟨_, hd5⟩).run [] _ _ H' _ S5 (hyes rfl a na)) (fun f s6 hsp => ?_) (fun _ _ z => False.elim z)
          cases f with
          | next =>
            obtain ⟨σ6, H6, S6, q6⟩ := hsp
            exact ⟨_, _, S6.unsuite ok, q6⟩
          | brk =>
            obtain ⟨σ6, H6, S6, q6⟩ := hsp
            exact ⟨_, _, S6.unsuite ok, q6⟩
          | cont =>
            obtain ⟨σ6, H6, S6, q6⟩ := hsp
            exact ⟨_, _, S6.unsuite ok, q6⟩
          | ret u =>
            obtain ⟨v6, σ6, H6, S6, r6, q6⟩ := hsp
            exact ⟨_, _, _, S6.unsuite ok, r6, q6⟩
        | false =>
          show wpAny _ X.A (handleBy (.ref a) X.env hds2) _ _ _
          exact ih (hno rfl) h4 fl4 up4
      | as_ hc hN hi hln hsu r ih =>
        rename_i ty n i cs ts b₀ suite pos' hds2 l2
        intro w h3 fl3 up3
        obtain ⟨b, hb1, hyes, hno⟩ := w
        have J3 : Inv X pins σ' H' { s' with heap := h3 } := J.landed nb fl3.1 up3 os ag
        obtain ⟨oe3, vs3, he3, hz3, hd3⟩ := fl3.there
        obtain ⟨nL, nF⟩ := nLF fl3
        have S3 := J3.suite he3 hd3 na nL nF
        refine wpAny_handleBy_cons (codeAny_handlers_test ?_) (by intro q; cases q)
        have LT : PySem.W.Looks (model X.prog X.w) h3 (typeOf (.ref a)) cls := fun A Q E s k q => wpAny_typeOf_ref (k _ _ he3) (by rw [hz3.1]; exact q)
        refine hc a _ _ { s' with heap := h3 } σ' H' cls b _ _ S3 LT hb1 fun v h4 k4 LM => LM.here ?_
        have fl4 := flying_keeps k4 fl3
        have up4 := upTo_keeps up3 k4
        cases b with
        | true =>
          refine codeAny_handlers_suite_as ?_
          refine HandSPX.lands_againZ fl4 fun h5 fl5 up5 => ?_
          have J5 : Inv X pins σ' H' { s' with heap := h5 } := J.landed nb fl5.1 (up4.trans up5) os ag
          obtain ⟨oe5, vs5, he5, hz5, hd5⟩ := fl5.there
          have S5 := J5.suite he5 hd5 na nL nF
          refine store_ok (X := X.suite a ((a, oe5) :: (X.pn ++ pins))) (v := .ref a) S5 hN hi (.inl hln) rfl (fun s6 S6 => ?_) (.inr hln)
          refine wpAny_mono ((hsu a oe5 cls d (X.pn ++ pins) hz5 ⟨_, hd5⟩).run [] s6 _ H' _ S6 (hyes rfl a na)) (fun f s7 hsp => ?_) (fun _ _ z => False.elim z)
          have end_ : ∀ {σ6 : L2.St} {H6 : Hp} {Q : Shared → Prop}, Inv (X.suite a ((a, oe5) :: (X.pn ++ pins))) [] σ6 H6 s7 → (∀ s8, Inv X pins (σ6.set i none) H6 s8 → Q s8) →
              wpAny (model X.prog X.w) X.A (do bindName X.env n .none; unbindBehindTheSuite X.env n pos') (fun _ s8 => Q s8) X.xe s7 := fun {σ6 H6 Q} S6 hq => gone_ok (S6.unsuite ok) hN hi hln hq
          cases f with
          | next =>
            obtain ⟨σ6, H6, S6, q6⟩ := hsp
            exact end_ S6 fun s7 J7 => ⟨_, _, J7, q6⟩
          | brk =>
            obtain ⟨σ6, H6, S6, q6⟩ := hsp
            exact end_ S6 fun s7 J7 => ⟨_, _, J7, q6⟩
          | cont =>
            obtain ⟨σ6, H6, S6, q6⟩ := hsp
            exact end_ S6 fun s7 J7 => ⟨_, _, J7, q6⟩
          | ret u =>
            obtain ⟨v6, σ6, H6, S6, r6, q6⟩ := hsp
            exact end_ S6 fun s7 J7 => ⟨_, _, _, J7, r6, q6⟩
        | false =>
          show wpAny _ X.A (handleBy (.ref a) X.env hds2) _ _ _
          exact ih (hno rfl) h4 fl4 up4
    exact go hh w h3 fl3 (up.trans up3)
  · cases f with
    | next =>
      obtain ⟨σ', H', J', q⟩ := hsp
      exact wpAny_execs_nil ⟨σ', H', J'.ofTry ok, q⟩
    | brk =>
      obtain ⟨σ', H', J', q⟩ := hsp
      exact ⟨σ', H', J'.ofTry ok, q⟩
    | cont =>
      obtain ⟨σ', H', J', q⟩ := hsp
      exact ⟨σ', H', J'.ofTry ok, q⟩
    | ret u =>
      obtain ⟨v, σ', H', J', r, q⟩ := hsp
      exact ⟨v, σ', H', J'.ofTry ok, r, q⟩
end
/-! ### the mirror of try: clauses by the classes' names -/
/-- a clause: the names of its classes, the slot of its name, its suite by the exception's addresses and class -/
structure MCl where
  cs : List Str
  i : Option Nat
  s : Addr → Addr → Str → MS
/-- sub x y: whether the class x is a subclass of y (of the program's exceptions) -/
def ndAs (i : Nat) (E : Nd) : Nd := ⟨fun ρ M => E.nx (ρ.set i none) M, E.rt, fun ρ M => E.bk (ρ.set i none) M, fun ρ M => E.ct (ρ.set i none) M, E.ex⟩
def mCatch (sub : Str → Str → Option Bool) (E : Nd) : List MCl → Exn → Ev → Mem → Prop
  | [], x, ρ, M => E.ex x ρ M
  | c :: r, x, ρ, M => (∀ y ∈ c.cs, (sub x.c y).isSome = true) ∧ if (c.cs.any fun y => sub x.c y == some true) = true then (∀ a dd, match c.i with
      | none => c.s a dd x.c ⟨E.nx, E.rt, E.bk, E.ct, fun _ _ _ => False⟩ ρ M
      | some i => c.s a dd x.c ⟨(ndAs i E).nx, E.rt, (ndAs i E).bk, (ndAs i E).ct, fun _ _ _ => False⟩ (ρ.set i (some (.exn a dd x.c x.ns x.ds))) M) else mCatch sub E r x ρ M
def mTry (sub : Str → Str → Option Bool) (b : MS) (cl : List MCl) : MS := fun E ρ M => b ⟨E.nx, E.rt, E.bk, E.ct, mCatch sub E cl⟩ ρ M
/-- e.f of the caught exception -/
def mXf (a dd : Addr) (c : Str) (i : Nat) (f : Str) : ME := fun ρ M Q _ => match ρ[i]? with
  | some (some (.exn a' dd' c' ns ds)) => (a' = a ∧ dd' = dd ∧ c' = c) ∧ match (ns.zip ds).lookup f with
    | some d => Q d M
    | none => False
  | _ => False
/-- what the head tells of the exceptions -/
def XOk (K : PySem.W.Frag) (fl : List Str) (c : Str) : Prop := XfC K (He.ga K c) ∧ ∀ f ∈ fl, PySem.W.findIn K (.ref (He.ga K c)) f = some none
structure XcN (K : PySem.W.Frag) (sub : Str → Str → Option Bool) (fl : List Str) : Prop where
  exm : ∀ x y b, sub x y = some b → PySem.W.exmOne K (.ref (He.ga K x)) (.ref (He.ga K y)) = some b
  xf : ∀ x y b, sub x y = some b → XOk K fl x
theorem exm_all {K : PySem.W.Frag} {sub : Str → Str → Option Bool} {fl : List Str} (xc : XcN K sub fl) {x : Str} : ∀ {ys : List Str}, (∀ y ∈ ys, (sub x y).isSome = true) → PySem.W.exmAny K (.ref (He.ga K x)) (ys.map fun y => .ref (He.ga K y)) = some (ys.any fun y => sub x y == some true)
  | [], _ => rfl
  | y :: ys, h => by
    obtain ⟨b, hb⟩ := Option.isSome_iff_exists.mp (h y (by simp))
    have ih := exm_all xc (x := x) (ys := ys) fun z hz => h z (by simp [hz])
    simp only [List.map_cons, PySem.W.exmAny, xc.exm x y b hb, ih, List.any_cons, hb]
    cases b <;> simp
inductive HdM (X : Cx) (fl : List Str) : List ExceptHandler → List MCl → Prop
  | nil : HdM X fl [] []
  | one {ty : Expr} {c0 : Str} {cs : List Str} {s : Addr → Addr → Str → MS} {b₀ : Stmt} {suite : List Stmt} {pos' : Pos} {hds : List ExceptHandler} {l : List MCl} (hc : TyOk X ty ((c0 :: cs).map fun y => .ref (He.ga X.K y)))
      (hsu : ∀ (a : Addr) (oe : Obj) (cls : Value) (d : Option Addr) (pn : List (Addr × Obj)) (dd : Addr) (c : Str), Zc cls d oe → (∃ vs, oe.data = .fields vs) → cls = .ref (He.ga X.K c) → d = some dd → XOk X.K fl c → QSs (X.suite a ((a, oe) :: pn)) W0 (b₀ :: suite) (s a dd c)) (r : HdM X fl hds l) :
      HdM X fl (.ExceptHandler (some ty) none (b₀ :: suite) pos' :: hds) (⟨c0 :: cs, none, s⟩ :: l)
  | as_ {ty : Expr} {n : Str} {i : Nat} {c0 : Str} {cs : List Str} {s : Addr → Addr → Str → MS} {b₀ : Stmt} {suite : List Stmt} {pos' : Pos} {hds : List ExceptHandler} {l : List MCl} (hc : TyOk X ty ((c0 :: cs).map fun y => .ref (He.ga X.K y))) (hN : X.N.Nodup) (hi : X.N[i]? = some n) (hln : X.env.kindOf n = some .local)
      (hsu : ∀ (a : Addr) (oe : Obj) (cls : Value) (d : Option Addr) (pn : List (Addr × Obj)) (dd : Addr) (c : Str), Zc cls d oe → (∃ vs, oe.data = .fields vs) → cls = .ref (He.ga X.K c) → d = some dd → XOk X.K fl c → QSs (X.suite a ((a, oe) :: pn)) W0 (b₀ :: suite) (s a dd c)) (r : HdM X fl hds l) :
      HdM X fl (.ExceptHandler (some ty) (some n) (b₀ :: suite) pos' :: hds) (⟨c0 :: cs, some i, s⟩ :: l)
def clTs (K : PySem.W.Frag) (fl : List Str) (s : Addr → Addr → Str → MS) : Addr → Value → Option Addr → TS := fun a cls d D σ H => ∃ dd c, cls = .ref (He.ga K c) ∧ d = some dd ∧ XOk K fl c ∧ lfS K W0 (s a dd c) D σ H
def clA (K : PySem.W.Frag) (fl : List Str) (m : MCl) : Clause := (m.cs.map fun y => .ref (He.ga K y), m.i, clTs K fl m.s)
section
variable {X : Cx} {W : WX} {body : List Stmt} {h₀ : ExceptHandler} {hds : List ExceptHandler} {cl : List MCl} {pos : Pos} {mb : MS} {sub : Str → Str → Option Bool} {fl : List Str}
theorem HdM.hdA (h : HdM X fl hds cl) : HdA X hds (cl.map (clA X.K fl)) := by
  induction h with
  | nil => exact .nil
  | one hc hsu r ih => exact .one hc (fun a oe cls d pn hz hf => ⟨fun pins s σ H D I ⟨dd, c, e1, e2, hx, h⟩ => (hsu a oe cls d pn dd c hz hf e1 e2 hx).run pins s σ H D I h⟩) ih
  | as_ hc hN hi hln hsu r ih => exact .as_ hc hN hi hln (fun a oe cls d pn hz hf => ⟨fun pins s σ H D I ⟨dd, c, e1, e2, hx, h⟩ => (hsu a oe cls d pn dd c hz hf e1 e2 hx).run pins s σ H D I h⟩) ih
theorem catch_ok {K : PySem.W.Frag} (xc : XcN K sub fl) {E : Nd} {D : Ends} : ∀ {cl : List MCl} {as : List Addr} {H : Hp} {M : Mem} {ρ : Ev} {σ : L2.St} {x : Exn} {cls : Value} {d : Option Addr}, (∀ m ∈ cl, m.cs ≠ []) → NdOk K W as H E D → RepM K as H M → RelS K as H ρ σ → RelX K as H x cls d → mCatch sub E cl x ρ M → wManyA K W D (cl.map (clA K fl)) cls d σ H
  | [], as, H, M, ρ, σ, x, cls, d, _, hE, r, rs, rx, h => hE.ex _ _ _ h as H σ cls d .refl r rs rx
  | m :: cl, as, H, M, ρ, σ, x, cls, d, hne, hE, r, rs, rx, h => by
    obtain ⟨h1, h2⟩ := h
    obtain ⟨e1, dd, xs, e2, hx, hl⟩ := id rx
    have hx0 : XOk K fl x.c := by
      obtain ⟨y, ys, ey⟩ := List.exists_cons_of_ne_nil (hne m (by simp))
      obtain ⟨b, hb⟩ := Option.isSome_iff_exists.mp (h1 y (by rw [ey]; simp))
      exact xc.xf _ _ _ hb
    refine ⟨_, by rw [e1]; exact exm_all xc h1, fun hb a ha => ?_, fun hb => ?_⟩
    · rw [if_pos hb] at h2
      have h3 := h2 a dd
      show match m.i with
        | none => clTs K fl m.s a cls d D σ H
        | some i => clTs K fl m.s a cls d (endsAs i D) (σ.set i (some (.ref a))) H
      cases em : m.i with
      | none =>
        rw [em] at h3
        exact ⟨dd, x.c, e1, e2, hx0, as, M, ρ, _, r, rs, h3, ⟨hE.nx, hE.rt, hE.bk, hE.ct, fun _ _ _ q => q.elim⟩⟩
      | some i =>
        rw [em] at h3
        have rs2 : RelS K as H (ρ.set i (some (.exn a dd x.c x.ns x.ds))) (σ.set i (some (.ref a))) := rs.set (.exn hx hl)
        refine ⟨dd, x.c, e1, e2, hx0, as, M, _, _, r, rs2, h3, ⟨fun ρ' M' q as' H' σ' e r' rs' => ?_, hE.rt, fun ρ' M' q as' H' σ' e r' rs' => ?_, fun ρ' M' q as' H' σ' e r' rs' => ?_, fun _ _ _ q => q.elim⟩⟩
        · exact hE.nx _ _ q as' H' _ e r' rs'.unset
        · exact hE.bk _ _ q as' H' _ e r' rs'.unset
        · exact hE.ct _ _ q as' H' _ e r' rs'.unset
    · rw [if_neg (by rw [hb]; exact Bool.false_ne_true)] at h2
      exact catch_ok xc (fun m hm => hne m (by simp [hm])) hE r rs rx h2
theorem HdM.ne (h : HdM X fl hds cl) : ∀ m ∈ cl, m.cs ≠ [] := by
  induction h with
  | nil => intro m hm; cases hm
  | one hc hsu r ih =>
    intro m hm
    rcases List.mem_cons.mp hm with z | z
    · rw [z]; simp
    · exact ih m z
  | as_ hc hN hi hln hsu r ih =>
    intro m hm
    rcases List.mem_cons.mp hm with z | z
    · rw [z]; simp
    · exact ih m z
theorem qs_try (hs : X.stack = X.env :: X.outer) (hf : X.env.frame = some X.env.locals) (xc : XcN X.K sub fl) (tk : Takes X W)
    (hb : ∀ (W' : WX) (pn : List (Addr × Obj)) (xe : Value → Shared → Prop), Takes (X.tr pn xe) W' → PassesOwn (model X.prog X.w) X.A X.env xe → QSs (X.tr pn xe) W' body mb)
    (hh : HdM X fl (h₀ :: hds) cl) : QS X W (.Try body (h₀ :: hds) [] [] pos) (mTry sub mb cl) :=
  PSi (ps_try_A (tb := fun W' => lfS X.K W' mb) hs hf tk hb hh.hdA) fun D σ H ⟨as, M, ρ, E, r, rs, h, hE⟩ =>
    ⟨as, M, ρ, _, r, rs, h, ⟨hE.nx, hE.rt, hE.bk, hE.ct, fun x ρ' M' q as' H' σ' cls d e r' rs' rx => catch_ok xc hh.ne (hE.mono e) r' rs' rx q⟩⟩
theorem zip_look {K : PySem.W.Frag} {as : List Addr} {H : Hp} {f : Str} {d : D} : ∀ {ns : List Str} {ds : List D} {xs : List V}, RelL K as H ds xs → (ns.zip ds).lookup f = some d → ∃ v, (ns.zip xs).lookup f = some v ∧ Rel K as H d v
  | [], _, _, _, e => by simp at e
  | n :: ns, _, _, .nil, e => by simp at e
  | n :: ns, _, _, .cons h r, e => by
    simp only [List.zip_cons_cons, List.lookup_cons] at e ⊢
    cases q : (f == n) with
    | true => rw [q] at e; cases e; exact ⟨_, rfl, h⟩
    | false => rw [q] at e; exact zip_look r e
theorem qe_xf {a dd : Addr} {c : Str} {oe : Obj} {cls : Value} {d : Option Addr} {pn : List (Addr × Obj)} {n f : Str} {i : Nat} {p : Pos} (hz : Zc cls d oe) (hf : ∃ vs, oe.data = .fields vs) (e1 : cls = .ref (He.ga X.K c)) (e2 : d = some dd) (hx : XOk X.K fl c) (hfl : f ∈ fl) (hN : X.N[i]? = some n) (hv : Vis X.env.scope n)
    (hd : (n == ("__debug__" : Str)) = false := by decide) (hcd : (n == ("__classdict__" : Str)) = false := by decide) (hb : attributeBase (.Name n p) f X.env (eval (.Name n p) X.env) = eval (.Name n p) X.env := by rfl) : QE (X.suite a ((a, oe) :: pn)) W0 (.Attribute (.Name n p) f pos) (mXf a dd c i f) :=
  PEi (DW.pe_xfA hz hf (pe_var (X := X.suite a ((a, oe) :: pn)) hN hv hd hcd) hb) fun σ H Q ⟨as, M, ρ, Q', X', r, rs, h, hq, _⟩ => by
    unfold mXf at h
    split at h
    · rename_i a' dd' c' ns ds eρ
      obtain ⟨⟨rfl, rfl, rfl⟩, h⟩ := h
      obtain ⟨v, ev, rv⟩ := rs.2 i _ eρ
      cases rv with
      | exn h1 h2 =>
        split at h
        · rename_i d0 el
          obtain ⟨w, ew, rw'⟩ := zip_look h2 el
          exact ⟨_, e1, hx.1, hx.2 f hfl, _, ev, rfl, e1, _, _, w, e2, h1, ew, hq _ _ h as H _ .refl r rw'⟩
        · exact h.elim
    · exact h.elim
end
/-! ### raise X(..) -/
inductive Src where
  | arg (j : Nat)
  | word (s : Str)
def Src.v (ws : List V) : Src → V
  | .arg j => ws.getD j .non
  | .word s => .str s
def Src.d (ds : List D) : Src → D
  | .arg j => ds.getD j .non
  | .word s => .str s
def flV (sp : List (Str × Src)) (ws : List V) : List (Str × V) := sp.map fun p => (p.1, p.2.v ws)
/-- what the __init__ of an exception promises: its fields -/
def spIn (K : PySem.W.Frag) (n : Nat) (sp : List (Str × Src)) : Sp := fun vs H Q _ => ∃ a ws, vs = .ref a :: ws ∧ ws.length = n ∧ DW.spInitAt K a H Q (flV sp ws)
def mRaise (x : Str) (n : Nat) (sp : List (Str × Src)) (ma : MA) : MS := fun E ρ M => ma ρ M (fun ds M1 => ds.length = n ∧ E.ex ⟨x, sp.map (·.1), sp.map fun p => p.2.d ds⟩ ρ M1) (fun y M1 => E.ex y ρ M1)
section
variable {X : Cx} {W : WX} {x : Str} {e : Expr} {es : List Expr} {ma : MA} {n k : Nat} {sp : List (Str × Src)} {fs ps : List Str} {p pos pos' : Pos}
theorem src_rel {K : PySem.W.Frag} {as : List Addr} {H : Hp} {ds : List D} {ws : List V} (r : RelL K as H ds ws) : ∀ s : Src, Rel K as H (s.d ds) (s.v ws)
  | .arg j => by
    simp only [Src.d, Src.v, List.getD_eq_getElem?_getD]
    cases h : ds[j]? with
    | none =>
      have : ws[j]? = none := by
        rw [List.getElem?_eq_none_iff] at h ⊢
        rw [← r.len]; exact h
      rw [this]; exact .non
    | some d =>
      obtain ⟨v, e, rv⟩ := r.get h
      rw [e]; exact rv
  | .word s => .str s
theorem zip_flV (sp : List (Str × Src)) (ws : List V) : (sp.map (·.1)).zip (sp.map fun p => p.2.v ws) = flV sp ws := by
  induction sp with
  | nil => rfl
  | cons p sp ih => simp [flV, ih]
theorem srcs_rel {K : PySem.W.Frag} {as : List Addr} {H : Hp} {ds : List D} {ws : List V} (r : RelL K as H ds ws) : ∀ sp : List (Str × Src), RelL K as H (sp.map fun p => p.2.d ds) (sp.map fun p => p.2.v ws)
  | [] => .nil
  | p :: sp => .cons (src_rel r p.2) (srcs_rel r sp)
theorem mk_in {K : PySem.W.Frag} {mg : Str → Option Value} {H : Hp} {QX : XK} {vs : List V} (c : DW.ExcX K mg x fs) (hl : vs.length = n) (hn : n ≤ 1000) (hfl : ∀ f ∈ sp.map (·.1), f ∈ fs) (q : ∀ d, H d = none → QX (.ref (He.ga K x)) (some d) (upd H d (.xd (flV sp vs)))) :
    vs.length ≤ 1000 ∧ ∀ a, H a = none → spIn K n sp (.ref a :: (vs ++ [])) (upd H a (exo a (He.ga K x) none))
      (fun v H2 => v = .non ∧ ∃ (d : Addr) (fl : List (Str × V)), H2 a = some (exo a (He.ga K x) (some d)) ∧ H2 d = some (exd d fl) ∧ H d = none ∧ QX (.ref (He.ga K x)) (some d) (upd (del H2 a) d (.xd fl))) (fun _ _ _ => False) := by
  refine ⟨by omega, fun a ha => ?_⟩
  rw [List.append_nil]
  refine ⟨a, vs, rfl, hl, _, upd_same, c.oex, fun f hf => c.no f (hfl f (by simpa [flV] using hf)), fun dx hdx hne => ⟨rfl, dx, flV sp vs, upd_same, ?_, ?_, ?_⟩⟩
  · rw [upd_ne hne, upd_same]
  · rw [upd_ne hne] at hdx; exact hdx
  · rw [upd_ne hne] at hdx
    rw [DW.mk_heap ha hne]
    exact q dx hdx
theorem ext_xd {K : PySem.W.Frag} {as : List Addr} {H : Hp} {d : Addr} {u : HO} (h : H d = none) : Ext K as H as (upd H d u) := ext_new h
theorem qs_raise (hc : X.calm = true) (tk : Takes X W) (c : DW.ExcX X.K X.mg x fs) (F : DW.FnM X.prog X.w X.K X.mg X.base CX0 k x "__init__" ps (spIn X.K n sp)) (hr : Room (k + 1) X.A) (hg : Gl X x) (ha : QA X W (e :: es) ma) (hn : n ≤ 1000) (hfl : ∀ f ∈ sp.map (·.1), f ∈ fs) (hdb : (x == ("__debug__" : Str)) = false := by decide)
    (he : starEach (e :: es) X.env = (false, eval e X.env) :: starEach es X.env := by rfl) (hpl : (backTo pos (starEach es X.env)).any (·.1) = false := by rfl) : QS X W (.Raise (some (.Call (.Name x p) (e :: es) [] pos)) none pos') (mRaise x n sp ma) :=
  PSi (ps_raise hc tk (DW.pmk_x c F hr hg ha hdb he hpl)) fun D σ H ⟨as, M, ρ, E, r, rs, h, hE⟩ => by
    refine lfA_bind r rs h (exS hE rs) fun ds M1 as1 H1 vs h1 e1 r1 rs1 rv => ?_
    refine mk_in (H := H1) (QX := fun cls d H' => W cls d σ H') c (by rw [← rv.len]; exact h1.1) hn hfl fun d hd => ?_
    have e2 : Ext X.K as1 H1 as1 (upd H1 d (.xd (flV sp vs))) := ext_new hd
    exact hE.ex _ _ _ h1.2 as1 _ σ _ _ (e1.trans e2) (r1.laid hd) (rs1.up e2) ⟨rfl, d, _, rfl, by rw [upd_same, ← zip_flV], srcs_rel (rv.up e2) sp⟩
theorem qs_raise0 (hc : X.calm = true) (tk : Takes X W) (c : DW.ExcX X.K X.mg x fs) (F : DW.FnM X.prog X.w X.K X.mg X.base CX0 k x "__init__" ps (spIn X.K 0 sp)) (hr : Room (k + 1) X.A) (hg : Gl X x) (hfl : ∀ f ∈ sp.map (·.1), f ∈ fs) (hdb : (x == ("__debug__" : Str)) = false := by decide) : QS X W (.Raise (some (.Call (.Name x p) [] [] pos)) none pos') (mRaise x 0 sp mNil) :=
  PSi (ps_raise hc tk (DW.pmk_x0 c F hr hg hdb)) fun D σ H ⟨as, M, ρ, E, r, rs, h, hE⟩ => by
    have k := mk_in (K := X.K) (H := H) (vs := []) (QX := fun cls d H' => W cls d σ H') c rfl (Nat.zero_le _) hfl fun d hd => ?_
    · intro a ha
      exact k.2 a ha
    · have e2 : Ext X.K as H as (upd H d (.xd (flV sp []))) := ext_new hd
      exact hE.ex _ _ _ h.2 as _ σ _ _ e2 (r.laid hd) (rs.up e2) ⟨rfl, d, _, rfl, by rw [upd_same, ← zip_flV], srcs_rel .nil sp⟩
end
/-! ### the law -/
theorem fn_law {P : Program} {w : World} {K : PySem.W.Frag} {mg : Str → Option Value} {base : Heap} {k : Nat} {f : Addr} {fd : FuncData} {ps : List Str} {sp : Sp} (F : FnOk P w K mg base (L2.CX P w) k f fd ps sp) : FnOk P w K mg base CX0 k f fd ps (fun vs H Q _ => sp vs H Q E0) where
  len := fun vs H Q E h => F.len vs H Q E0 h
  run := fun A outer s H args us vs Q E hr e b r h => codeAny_mono (F.run A outer s H args us vs Q E0 hr e b r h) fun r s' q => by
    cases r with
    | error e => obtain ⟨_, _, _, _, _, _, _, _, _, _, _, _, z⟩ := q; exact z.elim
    | ok fl => cases fl <;> exact q
/-- the law's start -/
theorem law_st {K : PySem.W.Frag} {w : WF} (hw : ∀ ns : List Int, ns.length ≤ 63 → w [.kl (ns.map .int)] [] (fun d _ => d = .bl true) (fun _ _ => False)) (H : Hp) (a : Addr) (ns : List Int) (hl : ns.length ≤ 63) (hO : Only H) (hS : SqL K H a (ns.map V.int)) :
    spM K 1 w [.ref a] H (fun v _ => v = .bl true) E0 := by
  have hR : RdL K H a (ns.map V.int) := by
    rcases hS with (h | h) | h
    · rcases hO a with z | ⟨o, xs, z⟩
      · rw [z] at h; cases h
      · rw [z] at h; cases h
    · exact .inl h
    · exact .inr h
  have hL : ∀ ns : List Int, RelL K [] H (ns.map .int) (ns.map V.int) := fun ns => by
    induction ns with
    | nil => exact .nil
    | cons i ns ih => exact .cons (.int i) ih
  refine ⟨[], [], [.kl (ns.map .int)], _, _, rfl, ⟨rfl, by simp, fun n b o h1 h2 => by simp at h1⟩, .cons (.kl hR (hL ns)) .nil, hw ns hl, fun d M' q as' H' v _ _ rv => ?_, fun _ _ q => q.elim⟩
  subst q
  cases rv
  rfl
end MV
namespace MV
open PySem PySem.Spec PyProof.Rows L2
/-! ### small helpers of the printed texts -/
section
variable {X : Cx} {W : WX}
theorem qv (i : Nat) {x : Str} {pos : Pos} (hN : X.N[i]? = some x := by rfl) (hv : Vis X.env.scope x := by first | exact Or.inl rfl | exact Or.inr (Or.inl rfl) | exact Or.inr (Or.inr rfl)) (hd : (x == ("__debug__" : Str)) = false := by decide)
    (hcd : (x == ("__classdict__" : Str)) = false := by decide) : QE X W (.Name x pos) (mVar i) := qe_var hN hv hd hcd
theorem units65 {k : Nat} {A : Around} (r : Room k A) : A.units + 65 < cLine := by have := r.un; omega
theorem units1 {k : Nat} {A : Around} (r : Room k A) : A.units + 1 < cLine := by have := r.un; omega
end
theorem call_listA {X : Cx} (hc : X.calm = true) : CallR X (.type "list") (rListA X.K) := CallR_or call_list_of (call_list_dK hc)
theorem glen_all {n : Nat} {ks : List Str} {N : Nat} (h : n = N) (ds es : List D) (h1 : ds.length = n) (_ : es.length = ks.length) : ds.length = N := h1.trans h
/-- every parameter is given -/
theorem dbn_all {K : PySem.W.Frag} {fd : FuncData} {ps : List Str} (h : Binds K fd ps []) : DBn K fd ps ps.length [] (fun ds _ => ds) :=
  ⟨⟨fun us _ => us, fun vs _ => vs, ⟨fun s us ws X l1 _ => by
    have := h s us X (by simp [l1])
    simpa using this, fun r _ => r⟩, fun as H ds es vs zs _ _ r _ => r⟩⟩
theorem relL_app {K : PySem.W.Frag} {as : List Addr} {H : Hp} {ds es : List D} {vs ws : List V} (h : RelL K as H ds vs) (h' : RelL K as H es ws) : RelL K as H (ds ++ es) (vs ++ ws) := h.app h'
end MV
namespace MV
open PySem PySem.Spec PyProof.Rows L2
/-! ### isinstance with a built-in type, or an own class -/
def tyD (x : D) (M : Mem) : Option String := match x with
  | .non => some "NoneType"
  | .bl _ => some "bool"
  | .int _ => some "int"
  | .str _ => some "str"
  | .tup _ => some "tuple"
  | .ref n => match M[n]? with
    | some (.lst _) => some "list"
    | some (.dct false _) => some "dict"
    | _ => none
  | _ => none
/-- of the five types: is t a u? -/
def subTy (t u : String) : Bool := t == u || (t == "bool" && u == "int")
def oIsi : OA := fun xs M Q => match xs with
  | [x, .ty u] => match tyD x M with
    | some t => (["int", "str", "tuple", "list", "bool", "dict"].contains u = true) ∧ Q (.bl (subTy t u)) M
    | none => match x with
      | .ref n => match M[n]? with
        | some (.ins _ _) => False
        | _ => False
      | _ => False
  | _ => False
theorem kit_ty {K : PySem.W.Frag} {a b : String} {k : Bool} (h : PySem.W.kitOne [] (.type a) (.type b) = some k) : PySem.W.kitOne K (.type a) (.type b) = some k := h
theorem kit6 {K : PySem.W.Frag} {t u : String} (ht : t ∈ ["NoneType", "bool", "int", "str", "tuple", "list", "dict"]) (hu : ["int", "str", "tuple", "list", "bool", "dict"].contains u = true) : PySem.W.kitOne K (.type t) (.type u) = some (subTy t u) := by
  have hu' : u ∈ ["int", "str", "tuple", "list", "bool", "dict"] := by simpa using hu
  simp only [List.mem_cons, List.not_mem_nil, or_false] at ht hu'
  rcases ht with rfl | rfl | rfl | rfl | rfl | rfl | rfl <;> rcases hu' with rfl | rfl | rfl | rfl | rfl | rfl <;> exact kit_ty (by decide +kernel)
theorem SqT_ty {K : PySem.W.Frag} {H : Hp} {a : Addr} {xs : List V} (h : SqT K H a xs) : TyX K H (.ref a) (.type "tuple") := by
  rcases h with (h | ⟨o, h⟩) | ⟨o, its, n, h1, h2, h3⟩
  · exact .base (.tup h)
  · exact .fTuple h
  · exact .kTuple h1 h2
theorem sim_isi {K : PySem.W.Frag} : SimA K (rIsi K) oIsi := fun as H M ds vs k Q rp rv h hk => by
  unfold oIsi at h
  split at h
  · rename_i x u
    obtain ⟨v, w, rfl, rx, ry⟩ := rv.two
    cases ry
    split at h
    · rename_i t et
      obtain ⟨hu, h⟩ := h
      have q := hk _ _ h as H _ .refl rp (.bl _)
      cases rx with
      | non => cases et; exact ⟨_, _, _, _, _, rfl, .ty _, .base .non, kit6 (by simp) hu, q⟩
      | bl b => cases et; exact ⟨_, _, _, _, _, rfl, .ty _, .base (.bl b), kit6 (by simp) hu, q⟩
      | int b => cases et; exact ⟨_, _, _, _, _, rfl, .ty _, .base (.int b), kit6 (by simp) hu, q⟩
      | str b => cases et; exact ⟨_, _, _, _, _, rfl, .ty _, .base (.str b), kit6 (by simp) hu, q⟩
      | tup hs hl => cases et; exact ⟨_, _, _, _, _, rfl, .ty _, SqT_ty hs.1, kit6 (by simp) hu, q⟩
      | ref hn =>
        simp only [tyD] at et
        split at et
        · rename_i l e
          obtain ⟨xs, g1, g2⟩ := at_lst rp hn e
          cases et; exact ⟨_, _, _, _, _, rfl, .ty _, .base (.lst g1), kit6 (by simp) hu, q⟩
        · rename_i l e
          obtain ⟨ks, g1, g2⟩ := at_dK rp hn e
          cases et; exact ⟨_, _, _, _, _, rfl, .ty _, .base (.dK g2), kit6 (by simp) hu, q⟩
        · cases et
      | _ => simp [tyD] at et
    · exfalso
      revert h
      split
      · split <;> exact id
      · exact id
  · exact h.elim
/-! ### is True, is False -/
def oIsB : OP := fun x y M Q => match x, y with | .bl a, .bl b => Q (.bl (a == b)) M | _, _ => False
def oIsNotB : OP := fun x y M Q => match x, y with | .bl a, .bl b => Q (.bl (!(a == b))) M | _, _ => False
/-! ### dicts: displays, get -/
def mDict0 : ME := fun _ M Q _ => Q (.ref M.length) (M ++ [.dct false []])
section
variable {X : Cx} {W : WX} {pos : Pos}
theorem qe_dict0 : QE X W (.Dict [] [] pos) mDict0 := PEi pe_dnewK fun σ H Q ⟨as, M, ρ, Q', X', r, rs, h, hq, hx⟩ => fun p hp => new_obj (o := .dct false []) r hp ⟨[], .nil, upd_same⟩ h hq
def mPairs : List (ME × ME) → Ev → Mem → (List (D × D) → Mem → Prop) → XM → Prop
  | [], _, M, Q, _ => Q [] M
  | (mk, mv) :: r, ρ, M, Q, X => mk ρ M (fun x M1 => mv ρ M1 (fun y M2 => mPairs r ρ M2 (fun ps M3 => Q ((x, y) :: ps) M3) X) X) X
def keysOf : List (D × D) → Option (List (Key × D))
  | [] => some []
  | (k, v) :: r => match keyOf k, keysOf r with
    | some q, some l => some ((q, v) :: l)
    | _, _ => none
def mergeD (kvs more : List (Key × D)) : List (Key × D) := more.foldl (fun acc kv => dput acc kv.1 kv.2) kvs
def mDisp (trs : List (ME × ME)) : ME := fun ρ M Q X => mPairs trs ρ (M ++ [.dct false []]) (fun ps M2 => M2[M.length]? = some (.dct false []) ∧ ps.length ≤ 15 ∧ match keysOf ps with
  | some kvs => Q (.ref M.length) (M2.set M.length (.dct false (mergeD [] kvs)))
  | none => False) X
inductive QPs (X : Cx) (W : WX) (pos : Pos) : List (Option Expr) → List Expr → List (ME × ME) → Prop where
  | nil : QPs X W pos [] [] []
  | cons {k v : Expr} {ks : List (Option Expr)} {vs : List Expr} {mk mv : ME} {trs : List (ME × ME)} (hk : QE X W k mk) (hv : QE X W v mv) (hr : QPs X W pos ks vs trs) : QPs X W pos (some k :: ks) (v :: vs) ((mk, mv) :: trs)
theorem qps_nil : QPs X W pos [] [] [] := .nil
theorem qps_cons {k v : Expr} {ks : List (Option Expr)} {vs : List Expr} {mk mv : ME} {trs : List (ME × ME)} (hk : QE X W k mk) (hv : QE X W v mv) (hr : QPs X W pos ks vs trs) : QPs X W pos (some k :: ks) (v :: vs) ((mk, mv) :: trs) := .cons hk hv hr
theorem QPs.pps {ks : List (Option Expr)} {vs : List Expr} {trs : List (ME × ME)} (h : QPs X W pos ks vs trs) : PPs X pos ks vs (trs.map fun p => (lf X.K W p.1, lf X.K W p.2)) := by
  induction h with
  | nil => exact L2.pps_nil
  | cons hk hv hr ih => exact L2.pps_cons hk hv ih
def PR (K : PySem.W.Frag) (as : List Addr) (H : Hp) (l : List (D × D)) (m : List (V × V)) : Prop := Paired (fun p q => Rel K as H p.1 q.1 ∧ Rel K as H p.2 q.2) l m
theorem pairs_ok {K : PySem.W.Frag} {σ : L2.St} {ρ : Ev} {X' : XM} : ∀ (trs : List (ME × ME)) (as : List Addr) (H : Hp) (M : Mem) (k : List (D × D) → Mem → Prop) (Q : List (V × V) → Hp → Prop), RepM K as H M → RelS K as H ρ σ → mPairs trs ρ M k X' → (∀ x M', X' x M' → LX K as H (fun c d H => W c d σ H) x M') →
    (∀ ps M' as' H' qs, k ps M' → Ext K as H as' H' → RepM K as' H' M' → PR K as' H' ps qs → Q qs H') → tPairs (trs.map fun p => (lf K W p.1, lf K W p.2)) σ H Q
  | [], as, H, M, k, Q, r, rs, h, hx, hk => hk [] M as H [] h .refl r .nil
  | (mk, mv) :: trs, as, H, M, k, Q, r, rs, h, hx, hk => lf_bind r rs h hx fun dx M1 as1 H1 x h1 e1 r1 rs1 rx => lf_bind r1 rs1 h1 (fun x M' q => (hx x M' q).mono e1) fun dy M2 as2 H2 y h2 e2 r2 rs2 ry =>
    pairs_ok trs as2 H2 M2 _ _ r2 rs2 h2 (fun x M' q => (hx x M' q).mono (e1.trans e2)) fun ps M3 as3 H3 qs h3 e3 r3 rp => hk _ M3 as3 H3 _ h3 ((e1.trans e2).trans e3) r3 (.cons ⟨rx.up (e2.trans e3), ry.up e3⟩ rp)
theorem keysOf_ok {K : PySem.W.Frag} {as : List Addr} {H : Hp} : ∀ {ps : List (D × D)} {qs : List (V × V)} {kvs : List (Key × D)}, PR K as H ps qs → keysOf ps = some kvs → ∃ ks : List (Key × V), qs = ks.map (fun kv => (kV kv.1, kv.2)) ∧ KVR K as H kvs ks ∧ kvs.length = ps.length
  | _, _, _, .nil, e => by cases e; exact ⟨[], rfl, .nil, rfl⟩
  | _, _, _, .cons (a := p) (b := q) h t, e => by
    obtain ⟨p1, p2⟩ := p
    obtain ⟨q1, q2⟩ := q
    simp only [keysOf] at e
    split at e
    · rename_i k l ek el
      cases e
      obtain ⟨ks, e1, e2, e3⟩ := keysOf_ok t el
      have h1 := keyOf_ok h.1 ek
      exact ⟨(k, q2) :: ks, by rw [e1]; simp [← h1], .cons ⟨rfl, h.2⟩ e2, by simp [e3]⟩
    · cases e
theorem KVR.merge {K : PySem.W.Frag} {as : List Addr} {H : Hp} : ∀ {l : List (Key × D)} {m : List (Key × V)} {k0 : List (Key × D)} {k1 : List (Key × V)}, KVR K as H l m → KVR K as H k0 k1 → KVR K as H (mergeD k0 l) (mergeK k1 m) := by
  intro l m k0 k1 h
  unfold KVR at h
  induction h generalizing k0 k1 with
  | nil => intro h; exact h
  | cons h t ih =>
    rename_i p q l m
    intro h0
    show KVR K as H (mergeD (dput k0 p.1 p.2) l) (mergeK (putK k1 q.1 q.2) m)
    rw [h.1]
    exact ih (h0.put q.1 h.2)
theorem qe_disp {keys : List (Option Expr)} {values : List Expr} {trs : List (ME × ME)} (h : QPs X W pos keys values trs) (hall : keys.all (·.isSome) = true) (hl : keys.length = values.length) (h0 : keys ≠ []) (h15 : keys.length ≤ 15) : QE X W (.Dict keys values pos) (mDisp trs) :=
  PEi (pe_disp h.pps hall hl h0 h15) fun σ H Q ⟨as, M, ρ, Q', X', r, rs, h, hq, hx⟩ => fun p hp => by
    have rD : RepM X.K (as ++ [p]) (upd H p (.dK [])) (M ++ [.dct false []]) := r.new (o := .dct false []) hp ⟨[], .nil, upd_same⟩
    have eD : Ext X.K as H (as ++ [p]) (upd H p (.dK [])) := (ext_new hp).trans ext_app
    have nD : (as ++ [p])[M.length]? = some p := by rw [← r.len]; exact app_at
    refine pairs_ok trs _ _ _ _ _ rD (rs.up eD) h (fun x M' q => (hx x M' q).mono eD) fun ps M2 as2 H2 qs h2 e2 r2 rp => ?_
    obtain ⟨em, hl, h2⟩ := h2
    split at h2
    · rename_i kvs ek
      have n2 := pre_get e2.pre nD
      obtain ⟨k0, g1, g2⟩ := at_dK r2 n2 em
      cases g1
      obtain ⟨ks, e3, e4, e5⟩ := keysOf_ok rp ek
      refine ⟨g2, ks, e3, by rw [← e4.len]; omega, ?_⟩
      obtain ⟨e6, r6⟩ := put_dct r2 n2 g2 (e4.merge (k0 := []) (k1 := []) .nil)
      exact hq _ _ h2 as2 _ _ ((eD.trans e2).trans e6) r6 (.ref n2)
    · exact h2.elim
def mDGet1 (md mk : ME) : ME := fun ρ M Q X => md ρ M (fun x M1 => match x with
  | .ref n => match M1[n]? with
    | some (.dct _ _) => mk ρ M1 (fun y M2 => match M2[n]?, keyOf y with
      | some (.dct _ kvs), some q => Q ((dget kvs q).getD .non) M2
      | _, _ => False) X
    | _ => False
  | _ => False) X
def mDGet2 (md mk mx : ME) : ME := fun ρ M Q X => md ρ M (fun x M1 => match x with
  | .ref n => match M1[n]? with
    | some (.dct _ _) => mk ρ M1 (fun y M2 => mx ρ M2 (fun z M3 => match M3[n]?, keyOf y with
      | some (.dct _ kvs), some q => Q ((dget kvs q).getD z) M3
      | _, _ => False) X) X
    | _ => False
  | _ => False) X
theorem qe_dget1 {o e : Expr} {md mk : ME} {apos cpos : Pos} (hu : X.A.units + 1 < cLine) (ho : QE X W o md) (he : QE X W e mk) (m : M1 X o "get" apos e cpos) : QE X W (.Call (.Attribute o "get" apos) [e] [] cpos) (mDGet1 md mk) :=
  PEi (pe_dget1 hu ho he m) fun σ H Q ⟨as, M, ρ, Q', X', r, rs, h, hq, hx⟩ => by
    refine lf_bind r rs h hx fun d M1 as1 H1 v h1 e1 r1 rs1 rv => ?_
    cases rv <;> first | exact h1.elim | skip
    rename_i n a hn
    dsimp only at h1
    split at h1
    · rename_i lk kvs em
      obtain ⟨ks, g1, g2⟩ := at_dct r1 hn em
      refine ⟨a, rfl, .inl ⟨ks, g2⟩, lf_bind r1 rs1 h1 (fun x M' q => (hx x M' q).mono e1) fun y M2 as2 H2 vy h2 e2 r2 rs2 ry => ?_⟩
      split at h2
      · rename_i lk2 kvs2 q em2 eq
        obtain ⟨ks2, g3, g4⟩ := at_dct r2 (pre_get e2.pre hn) em2
        refine ⟨valV ks2 q, .inl ⟨ks2, q, g4, keyOf_ok ry eq, rfl⟩, hq _ _ h2 as2 H2 _ (e1.trans e2) r2 ?_⟩
        rcases g3.get q with ⟨z1, z2⟩ | ⟨d, v, z1, z2, rd⟩
        · rw [z1, z2]; exact .non
        · rw [z1, z2]; exact rd
      · exact h2.elim
    · exact h1.elim
theorem qe_dget2 {o e f : Expr} {md mk mx : ME} {apos cpos : Pos} (hu : X.A.units + 1 < cLine) (ho : QE X W o md) (he : QE X W e mk) (hf : QE X W f mx) (m : M2 X o "get" apos e f cpos) : QE X W (.Call (.Attribute o "get" apos) [e, f] [] cpos) (mDGet2 md mk mx) :=
  PEi (pe_dget2 hu ho he hf m) fun σ H Q ⟨as, M, ρ, Q', X', r, rs, h, hq, hx⟩ => by
    refine lf_bind r rs h hx fun d M1 as1 H1 v h1 e1 r1 rs1 rv => ?_
    cases rv <;> first | exact h1.elim | skip
    rename_i n a hn
    dsimp only at h1
    split at h1
    · rename_i lk kvs em
      obtain ⟨ks, g1, g2⟩ := at_dct r1 hn em
      refine ⟨a, rfl, .inl ⟨ks, g2⟩, lf_bind r1 rs1 h1 (fun x M' q => (hx x M' q).mono e1) fun y M2 as2 H2 vy h2 e2 r2 rs2 ry => lf_bind r2 rs2 h2 (fun x M' q => (hx x M' q).mono (e1.trans e2)) fun z M3 as3 H3 vz h3 e3 r3 rs3 rz => ?_⟩
      split at h3
      · rename_i lk2 kvs2 q em2 eq
        obtain ⟨ks2, g3, g4⟩ := at_dct r3 (pre_get (e2.trans e3).pre hn) em2
        refine ⟨valV ks2 q, .inl ⟨ks2, q, g4, keyOf_ok (ry.up e3) eq, rfl⟩, hq _ _ h3 as3 H3 _ ((e1.trans e2).trans e3) r3 ?_⟩
        rcases g3.get q with ⟨z1, z2⟩ | ⟨d, v, z1, z2, rd⟩
        · rw [z1, z2]; exact rz
        · rw [z1, z2]; exact rd
      · exact h3.elim
    · exact h1.elim
end
end MV
namespace MV
open PySem PySem.Spec PyProof.Rows L2
/-! ### calls that leave defaults, or name keywords -/
def pick {α : Type} (l : List α) (is : List Nat) : List α := is.filterMap (l[·]?)
theorem vals_pick {xs : List V} {us : List Value} (r : Vals xs us) : ∀ is : List Nat, Vals (pick xs is) (pick us is)
  | [] => .nil
  | i :: is => by
    have t := vals_pick r is
    unfold pick at t ⊢
    cases e : xs[i]? with
    | none => simpa [List.filterMap_cons, e, r.none_of e] using t
    | some x =>
      obtain ⟨u, eu, ru⟩ := r.get e
      simpa [List.filterMap_cons, e, eu] using Paired.cons ru t
theorem relL_pick {K : PySem.W.Frag} {as : List Addr} {H : Hp} {ds : List D} {vs : List V} (r : RelL K as H ds vs) : ∀ is : List Nat, RelL K as H (pick ds is) (pick vs is)
  | [] => .nil
  | i :: is => by
    have t := relL_pick r is
    unfold pick at t ⊢
    cases e : ds[i]? with
    | none =>
      have ev : vs[i]? = none := by
        have := r.len
        simp at e ⊢; omega
      simpa [List.filterMap_cons, e, ev] using t
    | some x =>
      obtain ⟨u, eu, ru⟩ := r.get e
      simpa [List.filterMap_cons, e, eu] using RelL.cons ru t
theorem vals_pick3 {is : List Nat} {vs mz zs : List V} {us mv ws : List Value} (a : Vals vs us) (b : Vals mz mv) (c : Vals zs ws) : Vals (pick (vs ++ mz ++ zs) is) (pick (us ++ mv ++ ws) is) := vals_pick ((a.append b).append c) is
theorem kbindsE {K : PySem.W.Frag} {x qual : Str} {params : Arguments} {body : List Stmt} {scope : Scope} {f : Addr} {fd : FuncData} {ps : List Str} (F : FunD K x qual params body scope [] [] f fd) (n : Nat) (ks : List Str) (is : List Nat)
    (h : ∀ (kV doc pm : Value) (an : Option Addr) (cdv ct : Value) (us ws : List Value), us.length = n → ws.length = ks.length → bindArgs (PySem.W.fnOf x qual params body scope .none kV doc pm an cdv ct) ⟨us, ks.zip ws⟩ = pure (ps.zip (pick (us ++ [] ++ ws) is))) : KBn K fd ps n ks (fun us ws => pick (us ++ [] ++ ws) is) (fun vs zs => pick (vs ++ [] ++ zs) is) := by
  obtain ⟨oc, od, dV, kV, doc, pm, an, cdv, ct, osl, rfl, lk, hcd, hD, hK⟩ := F.ex
  rcases hD with ⟨_, rfl⟩ | ⟨e, _⟩
  · exact ⟨fun s us ws _ l1 l2 => .of_eq (h kV doc pm an cdv ct us ws l1 l2), fun a c => vals_pick3 a .nil c⟩
  · exact absurd rfl e
theorem dbn_kw {K : PySem.W.Frag} {fd : FuncData} {ps ks : List Str} {n : Nat} {is : List Nat} {mv : List Value} {mz : List V} {md : List D} {gD : List D → List D → List D} (hb : KBn K fd ps n ks (fun us ws => pick (us ++ mv ++ ws) is) (fun vs zs => pick (vs ++ mz ++ zs) is))
    (hm : ∀ as H, RelL K as H md mz) (he : ∀ ds es : List D, ds.length = n → es.length = ks.length → gD ds es = pick (ds ++ md ++ es) is) : DBn K fd ps n ks gD :=
  ⟨⟨_, _, hb, fun as H ds es vs zs l1 l2 r1 r2 => by
    rw [he ds es l1 l2]
    exact relL_pick ((r1.app (hm as H)).app r2) is⟩⟩
theorem dbn_dfl {K : PySem.W.Frag} {fd : FuncData} {ps : List Str} {n : Nat} {dv : List Value} {dz : List V} {gD : List D → List D → List D} (hb : Binds K fd ps dv) (hd : Vals dz dv) (hl : n + dz.length = ps.length)
    (hr : ∀ as H (ds : List D) (vs : List V), ds.length = n → RelL K as H ds vs → RelL K as H (gD ds []) (vs ++ dz)) : DBn K fd ps n [] gD :=
  ⟨⟨fun us _ => us ++ dv, fun vs _ => vs ++ dz, ⟨fun s us ws X l1 _ => by
    have := hb s us X (by rw [List.length_append, ← hd.length, l1, hl])
    simpa using this, fun r _ => r.append hd⟩, fun as H ds es vs zs l1 l2 r _ => by
    cases es with
    | nil => exact hr as H ds vs l1 r
    | cons e es => simp at l2⟩⟩
/-- the keyword-only default k of the def at f, if it is an object -/
def kwdAt (f : Str × Option Str) (k : Str) (K : PySem.W.Frag) : Addr := match K.lookup (He.fAd K f) with
  | some ⟨_, _, .func fd, _⟩ => (match fd.kwdefaults with
    | .ref T => (match PySem.W.nsIn K T k with
      | some (some (.ref a)) => a
      | _ => 0)
    | _ => 0)
  | _ => 0
mutual
/-- d stands in K as u -/
def datAt (K : PySem.W.Frag) : Nat → D → Value → Bool
  | _, .non, .none => true
  | _, .bl b, .bool c => b == c
  | _, .int i, .int j _ => i == j
  | _, .str x, .str y _ => x == y
  | k + 1, .tup ds, .ref a => match K.lookup a with
    | some ⟨.type "tuple", _, .seq its _, _⟩ => !hdS ds && decide (its.size ≤ sizeLine) && datL K k ds its.toList
    | _ => false
  | _, _, _ => false
def datL (K : PySem.W.Frag) : Nat → List D → List Value → Bool
  | _, [], [] => true
  | k, d :: ds, u :: us => datAt K k d u && datL K k ds us
  | _, _, _ => false
end
theorem datAt_v {K : PySem.W.Frag} : ∀ (k : Nat) (d : D) (u : Value), datAt K k d u = true → ∃ v, RelV v u ∧ ∀ as H, Rel K as H d v := by
  intro k
  induction k with
  | zero =>
    intro d u h
    unfold datAt at h
    split at h
    · exact ⟨.non, rfl, fun _ _ => .non⟩
    · exact ⟨.bl _, rfl, fun _ _ => by rw [eq_of_beq h]; exact .bl _⟩
    · exact ⟨.int _, ⟨_, rfl⟩, fun _ _ => by rw [eq_of_beq h]; exact .int _⟩
    · exact ⟨.str _, ⟨_, rfl⟩, fun _ _ => by rw [eq_of_beq h]; exact .str _⟩
    · cases ‹0 = _ + 1›
    · cases h
  | succ k ih =>
    have ihl : ∀ (ds : List D) (us : List Value), datL K k ds us = true → ∃ vs, Vals vs us ∧ ∀ as H, RelL K as H ds vs := by
      intro ds
      induction ds with
      | nil => intro us h; cases us with
        | nil => exact ⟨[], .nil, fun _ _ => .nil⟩
        | cons u us => simp [datL] at h
      | cons d ds ihd => intro us h; cases us with
        | nil => simp [datL] at h
        | cons u us =>
          simp only [datL, Bool.and_eq_true] at h
          obtain ⟨v, r1, r2⟩ := ih d u h.1
          obtain ⟨vs, q1, q2⟩ := ihd us h.2
          exact ⟨v :: vs, .cons r1 q1, fun as H => .cons (r2 as H) (q2 as H)⟩
    intro d u h
    unfold datAt at h
    split at h
    · exact ⟨.non, rfl, fun _ _ => .non⟩
    · exact ⟨.bl _, rfl, fun _ _ => by rw [eq_of_beq h]; exact .bl _⟩
    · exact ⟨.int _, ⟨_, rfl⟩, fun _ _ => by rw [eq_of_beq h]; exact .int _⟩
    · exact ⟨.str _, ⟨_, rfl⟩, fun _ _ => by rw [eq_of_beq h]; exact .str _⟩
    · rename_i k' ds a ek
      cases ek
      split at h
      · rename_i od its n osl e
        simp only [Bool.and_eq_true, decide_eq_true_eq] at h
        obtain ⟨vs, q1, q2⟩ := ihl ds _ h.2
        exact ⟨.ref a, rfl, fun as H => .tup ⟨.inr ⟨_, its, n, e, rfl, rfl, h.1.2, q1⟩, fun z => by rw [z] at h; exact absurd h.1.1 (by decide)⟩ (q2 as H)⟩
      · cases h
    · cases h
theorem datAt_ok {K : PySem.W.Frag} {d : D} {a : Addr} {as : List Addr} {H : Hp} (h : datAt K 20 d (.ref a) = true) : Rel K as H d (.ref a) := by
  obtain ⟨v, r, q⟩ := datAt_v 20 d _ h
  have e : v = .ref a := by
    have := r.abs
    simpa [absV] using this.symm
  rw [← e]; exact q as H
end MV
namespace MV
open PySem PySem.Spec PyProof.Rows L2
/-! ### list comprehensions of two clauses -/
def mLcO (guard : Mem → Prop) (T : Tg) (tt : MT) (mi1 : MI) (T1 : Tg) (tt1 : MT) (me : ME) (ρ : Ev) (vs1 : List Nat) (n : Nat) (Q : Mem → Prop) : List D → Mem → Prop
  | [], M => guard M ∧ Q M
  | d :: ds, M => guard M ∧ T.mg d ρ M fun ρ2 => tt ρ2 M (fun b M3 => if b = true then mi1 ρ2 M3 (fun items1 guard1 M4 => mLcL guard1 T1 tt1 me (wipeE ρ2 vs1) n (fun M5 => mLcO guard T tt mi1 T1 tt1 me ρ vs1 n Q ds M5) items1 M4) noX else mLcO guard T tt mi1 T1 tt1 me ρ vs1 n Q ds M3) noX
def mLc2 (mi : MI) (T : Tg) (tt : MT) (mi1 : MI) (T1 : Tg) (tt1 : MT) (me : ME) (vs vs1 : List Nat) : ME := fun ρ M Q X => mi ρ M (fun items guard M1 => mLcO guard T tt mi1 T1 tt1 me (wipeE ρ vs) vs1 M1.length (fun M2 => Q (.ref M1.length) M2) items (M1 ++ [.lst []])) X
theorem wipe_wipe (vs : List Nat) (τ : L2.St) : L2.wipe (L2.wipe τ vs) vs = L2.wipe τ vs := by
  apply List.ext_getElem?
  intro j
  by_cases hj : j ∈ vs
  · have key : ∀ (us : List Nat) (τ : L2.St), j ∈ us → (L2.wipe τ us)[j]? = (if j < τ.length then some none else none) := fun us τ hj => by
      induction us with
      | nil => cases hj
      | cons u us ih =>
        show ((L2.wipe τ us).set u none)[j]? = _
        by_cases hu : u = j
        · subst hu
          by_cases hl : u < τ.length
          · rw [List.getElem?_set_self (by rw [wipe_length]; exact hl), if_pos hl]
          · rw [List.getElem?_eq_none_iff.mpr (by rw [List.length_set, wipe_length]; omega), if_neg hl]
        · rw [List.getElem?_set_ne hu]
          exact ih (by rcases List.mem_cons.mp hj with z | z; exact absurd z.symm hu; exact z)
    rw [key vs _ hj, key vs _ hj, wipe_length]
  · rw [wipe_out hj]
section
variable {K : PySem.W.Frag}
theorem lc_in {as1 : List Addr} {H1 : Hp} {M1 : Mem} {J : It} {items : List D} {guard : Mem → Prop} {T : Tg} {tt : MT} {me : ME} {ρ : Ev} {σ : L2.St} {vs : List Nat} {n : Nat} {D : Addr} {NM : Mem → Prop} {Nx : Hp → Prop} (hT : ∀ i ∈ T.slots, i ∈ vs)
    (ok : ItOk K as1 H1 J items guard) (r1 : RepM K as1 H1 M1) (rs : RelS K as1 H1 ρ σ) (nD : as1[n]? = some D) (h : mLcL guard T tt me (wipeE ρ vs) n NM items M1) (hN : ∀ as' H' M', Ext K as1 H1 as' H' → RepM K as' H' M' → NM M' → Nx H') :
    ∃ W : Nat → Nat → Hp → Prop, (∃ m, W 0 m H1) ∧ ∀ i m H, W i m H →
      (J.stop i H ∧ Nx H) ∨ (J.go i H ∧ ∃ Nx1 : Hp → Prop, (∀ H', Nx1 H' → ∃ k', k' < m ∧ W (i + 1) k' H') ∧ ∀ x H', J.yld i H x H' → T.rd K x (L2.wipe σ vs) H' fun σ3 H5 => L2.wipe σ3 vs = L2.wipe σ vs ∧ lfT K W0 tt σ3 H5 fun b H6 =>
        if b = true then lf K W0 me σ3 H6 fun y H7 => ∃ acc, H7 D = some (.lst acc) ∧ acc.length < sizeLine ∧ Nx1 (upd H7 D (.lst (acc ++ [y]))) else Nx1 H6) := by
  refine ⟨fun i m H' => ∃ as' M', Ext K as1 H1 as' H' ∧ RepM K as' H' M' ∧ i + m = items.length ∧ mLcL guard T tt me (wipeE ρ vs) n NM (items.drop i) M', ⟨items.length, _, _, .refl, r1, by simp, h⟩, ?_⟩
  rintro i m H' ⟨as', M', e', r', hm, h'⟩
  have nD' := pre_get e'.pre nD
  by_cases hl : i < items.length
  · right
    rw [drop_cons hl] at h'
    obtain ⟨hgd, h'⟩ := h'
    obtain ⟨_, ok2⟩ := ok as' H' M' i e' r' hgd
    obtain ⟨go, yld⟩ := ok2 _ (List.getElem?_eq_getElem hl)
    refine ⟨go, fun H2 => ∃ as2 M2, Ext K as1 H1 as2 H2 ∧ RepM K as2 H2 M2 ∧ mLcL guard T tt me (wipeE ρ vs) n NM (items.drop (i + 1)) M2, fun H2 ⟨as2, M2, a, b, c⟩ => ⟨m - 1, by omega, as2, M2, a, b, by omega, c⟩, fun x H2 y => ?_⟩
    obtain ⟨e3, r3, rx⟩ := yld x H2 y
    have e4 := e'.trans e3
    have rs3 : RelS K as' H2 (wipeE ρ vs) (L2.wipe σ vs) := (rs.up e4).wipe vs
    refine T.keep hT (fun σ2 H2' ew q => ⟨ew.trans (wipe_wipe vs σ), q⟩) (T.sim r3 rs3 rx h' fun ρ4 σ4 h4 rs4 => ?_)
    refine lfT_bind r3 rs4 h4 noX_ok fun b M3 as3 H3 h5 e5 r5 rs5 => ?_
    cases b with
    | true =>
      rw [if_pos rfl] at h5 ⊢
      refine lf_bind r5 rs5 h5 noX_ok fun dy M4 as4 H4 y h6 e6 r6 rs6 ry => ?_
      split at h6
      · rename_i acc ea
        have n4 := pre_get (e4.trans (e5.trans e6)).pre nD
        obtain ⟨ys, g1, g2⟩ := at_lst r6 n4 ea
        obtain ⟨e7, r7⟩ := put_lst r6 n4 g1 (g2.app (.cons ry .nil))
        exact ⟨ys, g1, by rw [← g2.len]; exact Nat.lt_of_lt_of_le h6.1 (by decide), as4, _, (e4.trans (e5.trans e6)).trans e7, r7, h6.2⟩
      · exact h6.elim
    | false =>
      rw [if_neg Bool.false_ne_true] at h5 ⊢
      exact ⟨as3, M3, e4.trans e5, r5, h5⟩
  · left
    have hi' : i = items.length := by omega
    rw [List.drop_eq_nil_of_le (by omega)] at h'
    exact ⟨(ok as' H' M' i e' r' h'.1).1 hi', hN as' H' M' e' r' h'.2⟩
theorem lf_lc2 {W : WX} {mi mi1 : MI} {T T1 : Tg} {tt tt1 : MT} {me : ME} {vs vs1 : List Nat} (hT : ∀ i ∈ T.slots, i ∈ vs) (hT1 : ∀ i ∈ T1.slots, i ∈ vs1) {σ : L2.St} {H : Hp} {Q : VK} (h : lf K W (mLc2 mi T tt mi1 T1 tt1 me vs vs1) σ H Q) :
    tLc2 (lfI K W mi) (T.rd K) (lfT K W0 tt) (lfI K W0 mi1) (T1.rd K) (lfT K W0 tt1) (lf K W0 me) vs vs1 σ H Q := by
  obtain ⟨as, M, ρ, Q', X', r, rs, h, hq, hx⟩ := h
  refine ⟨as, M, ρ, _, X', r, rs, h, fun items guard M1 as1 H1 J h1 e1 r1 ok D hD => ?_, hx⟩
  have rD : RepM K (as1 ++ [D]) (upd H1 D (.lst [])) (M1 ++ [.lst []]) := r1.new (o := .lst []) hD ⟨[], upd_same, .nil⟩
  have eD : Ext K as1 H1 (as1 ++ [D]) (upd H1 D (.lst [])) := (ext_new hD).trans ext_app
  have nD : (as1 ++ [D])[M1.length]? = some D := by rw [← r1.len]; exact app_at
  refine ⟨fun i m H' => ∃ as' M', Ext K (as1 ++ [D]) (upd H1 D (.lst [])) as' H' ∧ RepM K as' H' M' ∧ i + m = items.length ∧ mLcO guard T tt mi1 T1 tt1 me (wipeE ρ vs) vs1 M1.length (fun M2 => Q' (.ref M1.length) M2) (items.drop i) M', ⟨items.length, _, _, .refl, rD, by simp, h1⟩, ?_⟩
  rintro i m H' ⟨as', M', e', r', hm, h'⟩
  have e2 := eD.trans e'
  have nD' := pre_get e'.pre nD
  by_cases hl : i < items.length
  · right
    rw [drop_cons hl] at h'
    obtain ⟨hgd, h'⟩ := h'
    obtain ⟨_, ok2⟩ := ok as' H' M' i e2 r' hgd
    obtain ⟨go, yld⟩ := ok2 _ (List.getElem?_eq_getElem hl)
    refine ⟨go, fun H2 => ∃ as2 M2, Ext K (as1 ++ [D]) (upd H1 D (.lst [])) as2 H2 ∧ RepM K as2 H2 M2 ∧ mLcO guard T tt mi1 T1 tt1 me (wipeE ρ vs) vs1 M1.length (fun M2 => Q' (.ref M1.length) M2) (items.drop (i + 1)) M2, fun H2 ⟨as2, M2, a, b, c⟩ => ⟨m - 1, by omega, as2, M2, a, b, by omega, c⟩, fun x H2 y => ?_⟩
    obtain ⟨e3, r3, rx⟩ := yld x H2 y
    have e4 := e'.trans e3
    have rs3 : RelS K as' H2 (wipeE ρ vs) (L2.wipe σ vs) := (rs.up (e1.trans (e2.trans e3))).wipe vs
    refine T.keep hT (fun σ2 H2' ew q => ⟨ew.trans (wipe_wipe vs σ), q⟩) (T.sim r3 rs3 rx h' fun ρ4 σ4 h4 rs4 => ?_)
    refine lfT_bind r3 rs4 h4 noX_ok fun b M3 as3 H3 h5 e5 r5 rs5 => ?_
    cases b with
    | true =>
      rw [if_pos rfl] at h5 ⊢
      refine ⟨as3, M3, ρ4, _, _, r5, rs5, h5, fun items1 guard1 M4 as4 H4 J1 h6 e6 r6 ok1 => ?_, noX_ok⟩
      exact lc_in hT1 ok1 r6 (rs5.up e6) (pre_get (e4.trans (e5.trans e6)).pre nD) h6 fun as5 H5 M5 e7 r7 h7 => ⟨as5, M5, (e4.trans (e5.trans e6)).trans e7, r7, h7⟩
    | false =>
      rw [if_neg Bool.false_ne_true] at h5 ⊢
      exact ⟨as3, M3, e4.trans e5, r5, h5⟩
  · left
    have hi' : i = items.length := by omega
    rw [List.drop_eq_nil_of_le (by omega)] at h'
    exact ⟨(ok as' H' M' i e2 r' h'.1).1 hi', hq _ _ h'.2 as' H' _ (e1.trans e2) r' (.ref nD')⟩
end
section
variable {X : Cx} {W : WX} {elt tg iter tg1 iter1 : Expr} {ifs ifs1 : List Expr} {scope : Scope} {own : List (Str × Nat)} {vs1 : List Nat} {pos spos : Pos} {mi mi1 : MI} {T T1 : Tg} {tt tt1 : MT} {me : ME}
theorem qe_lc2 (hc : X.calm = true) (hN : X.N.Nodup) (hi : QI X W tg iter mi) (ok : BlkOk X.N X.env.scope scope own) (hv : ∀ i ∈ vs1, i ∈ own.map (·.2))
    (hg : ∀ (s : Shared) (H : Hp) (C : Addr) (cl : List (Str × Addr)) (fp : List Addr), QG (X.blk s H scope (compEnvC scope cl C X.env) fp) tg T) (ht : ∀ (s : Shared) (H : Hp) (C : Addr) (cl : List (Str × Addr)) (fp : List Addr), QTs (X.blk s H scope (compEnvC scope cl C X.env) fp) W0 ifs tt)
    (hi1 : ∀ (s : Shared) (H : Hp) (C : Addr) (cl : List (Str × Addr)) (fp : List Addr), QI (X.blk s H scope (compEnvC scope cl C X.env) fp) W0 tg1 iter1 mi1)
    (hg1 : ∀ (s : Shared) (H : Hp) (C : Addr) (cl : List (Str × Addr)) (fp : List Addr), QG (X.blk s H scope (compEnvC scope cl C X.env) fp) tg1 T1) (ht1 : ∀ (s : Shared) (H : Hp) (C : Addr) (cl : List (Str × Addr)) (fp : List Addr), QTs (X.blk s H scope (compEnvC scope cl C X.env) fp) W0 ifs1 tt1)
    (he : ∀ (s : Shared) (H : Hp) (C : Addr) (cl : List (Str × Addr)) (fp : List Addr), QE (X.blk s H scope (compEnvC scope cl C X.env) fp) W0 elt me) (hT : ∀ i ∈ T.slots, i ∈ own.map (·.2)) (hT1 : ∀ i ∈ T1.slots, i ∈ vs1) (hs : ∀ x, foldedSetIterable iter X.env x = pure x := by intro _; rfl) (hs1 : ∀ env x, foldedSetIterable iter1 env x = pure x := by intro _ _; rfl) :
    QE X W (.ListComp elt [⟨tg, iter, ifs, 0⟩, ⟨tg1, iter1, ifs1, 0⟩] scope pos) (mLc2 mi T tt mi1 T1 tt1 me (own.map (·.2)) vs1) :=
  PEi (pe_lc2 (g := T.rd X.K) (tt := lfT X.K W0 tt) (wi1 := lfI X.K W0 mi1) (g1 := T1.rd X.K) (tt1 := lfT X.K W0 tt1) (te := lf X.K W0 me) hc hN hi ok hv hg ht hi1 hg1 ht1 he hs hs1) fun σ H Q h => lf_lc2 hT hT1 h
theorem qs_setLc2 {i : Nat} {y : Str} {py : Pos} (hc : X.calm = true) (hN : X.N.Nodup) (hy : X.N[i]? = some y) (hyl : X.env.scope.names.lookup y = some .local)
    (hsw : swapsWith (.ListComp elt [⟨tg, iter, ifs, 0⟩, ⟨tg1, iter1, ifs1, 0⟩] scope pos) (some (.Name y py)) spos.line X.env = pure true) (hi : QI X W tg iter mi) (ok : BlkOk X.N X.env.scope scope own) (hv : ∀ i ∈ vs1, i ∈ own.map (·.2))
    (hg : ∀ (s : Shared) (H : Hp) (C : Addr) (cl : List (Str × Addr)) (fp : List Addr), QG (X.blk s H scope (compEnvC scope cl C X.env) fp) tg T) (ht : ∀ (s : Shared) (H : Hp) (C : Addr) (cl : List (Str × Addr)) (fp : List Addr), QTs (X.blk s H scope (compEnvC scope cl C X.env) fp) W0 ifs tt)
    (hi1 : ∀ (s : Shared) (H : Hp) (C : Addr) (cl : List (Str × Addr)) (fp : List Addr), QI (X.blk s H scope (compEnvC scope cl C X.env) fp) W0 tg1 iter1 mi1)
    (hg1 : ∀ (s : Shared) (H : Hp) (C : Addr) (cl : List (Str × Addr)) (fp : List Addr), QG (X.blk s H scope (compEnvC scope cl C X.env) fp) tg1 T1) (ht1 : ∀ (s : Shared) (H : Hp) (C : Addr) (cl : List (Str × Addr)) (fp : List Addr), QTs (X.blk s H scope (compEnvC scope cl C X.env) fp) W0 ifs1 tt1)
    (he : ∀ (s : Shared) (H : Hp) (C : Addr) (cl : List (Str × Addr)) (fp : List Addr), QE (X.blk s H scope (compEnvC scope cl C X.env) fp) W0 elt me) (hT : ∀ i ∈ T.slots, i ∈ own.map (·.2)) (hT1 : ∀ i ∈ T1.slots, i ∈ vs1) (hs : ∀ x, foldedSetIterable iter X.env x = pure x := by intro _; rfl) (hs1 : ∀ env x, foldedSetIterable iter1 env x = pure x := by intro _ _; rfl) :
    QS X W (.Assign [.Name y py] (.ListComp elt [⟨tg, iter, ifs, 0⟩, ⟨tg1, iter1, ifs1, 0⟩] scope pos) spos) (mSet i (mLc2 mi T tt mi1 T1 tt1 me (own.map (·.2)) vs1)) :=
  PSi (ps_setLc2 (g := T.rd X.K) (tt := lfT X.K W0 tt) (wi1 := lfI X.K W0 mi1) (g1 := T1.rd X.K) (tt1 := lfT X.K W0 tt1) (te := lf X.K W0 me) hc hN hy hyl hsw hi ok hv hg ht hi1 hg1 ht1 he hs hs1) fun D σ H ⟨as, M, ρ, E, r, rs, h, hE⟩ => by
  have h : mLc2 mi T tt mi1 T1 tt1 me (own.map (·.2)) vs1 ρ M (fun d M1 => E.nx (ρ.set i (some d)) M1) (fun x M1 => E.ex x ρ M1) := h
  exact lf_lc2 hT hT1 (lf_bind (k := fun d M1 => E.nx (ρ.set i (some d)) M1) (X' := fun x M1 => E.ex x ρ M1) r rs h (exS hE rs) fun d M1 as1 H1 v h1 e1 r1 rs1 rv => hE.nx _ _ h1 as1 H1 _ e1 r1 (rs1.set rv))
end
/-! ### what the head tells of the exceptions, a pair at a time -/
theorem xok_of {K : PySem.W.Frag} {x : Str} {fs : List Str} (h : DW.excXB K x fs = true) : XOk K fs x := by
  have e := DW.excXB_ok (mg := fun _ => some (.ref (He.ga K x))) (x := x) rfl h
  exact ⟨e.xf, fun f hf => e.no f hf⟩
/-- the table sub is the head's -/
def XP (K : PySem.W.Frag) (fl : List Str) (sub : Str → Str → Option Bool) : Prop := ∀ x y b, sub x y = some b → PySem.W.exmOne K (.ref (He.ga K x)) (.ref (He.ga K y)) = some b ∧ XOk K fl x
theorem xcn_nil {K : PySem.W.Frag} {fl : List Str} : XP K fl (fun _ _ => Option.none) := fun _ _ _ h => by cases h
theorem xcn_cons {K : PySem.W.Frag} {fl : List Str} {x0 y0 : Str} {b0 : Bool} {s : Str → Str → Option Bool} (h : PySem.W.exmOne K (.ref (He.ga K x0)) (.ref (He.ga K y0)) = some b0 ∧ XOk K fl x0) (t : XP K fl s) : XP K fl (fun x y => if x = x0 ∧ y = y0 then some b0 else s x y) := fun x y b e => by
  by_cases c : x = x0 ∧ y = y0
  · simp only [c, and_self, if_true] at e
    obtain ⟨rfl, rfl⟩ := c
    cases e
    exact h
  · simp only [if_neg c] at e
    exact t x y b e
theorem xcn_mk {K : PySem.W.Frag} {fl : List Str} {sub : Str → Str → Option Bool} (h : XP K fl sub) : XcN K sub fl := ⟨fun x y b e => (h x y b e).1, fun x y b e => (h x y b e).2⟩
end MV
namespace MV
open PySem PySem.Spec PyProof.Rows L2
/-! ### str(x), len(x) by an own __str__, __len__ -/
def oStrO (c : Str) (w : WF) (gD : List D → List D → List D) : OA := fun xs M Q => match xs with
  | [.ref a] => match M[a]? with
    | some (.ins c' _) => c' = c ∧ w (gD [.ref a] []) M (fun d M' => match d with | .str z => Q (.str z) M' | _ => False) (fun _ _ => False)
    | _ => False
  | _ => False
def oLenO (c : Str) (w : WF) (gD : List D → List D → List D) : OA := fun xs M Q => match xs with
  | [.ref a] => match M[a]? with
    | some (.ins c' _) => c' = c ∧ w (gD [.ref a] []) M (fun d M' => match d with | .int z => (0 ≤ z ∧ z < 2 ^ 63) ∧ Q (.int z) M' | _ => False) (fun _ _ => False)
    | _ => False
  | _ => False
section
variable {X : Cx} {W : WX} {c x : Str} {e : Expr} {es : List Expr} {p pos : Pos} {ma : MA} {k : Nat} {ps : List Str} {w : WF} {gD : List D → List D → List D} {f : Addr} {gV : List V → List V → List V}
def rOwn (K : PySem.W.Frag) (c : Str) (N : Nat) (w : WF) (gV : List V → List V → List V) (T : V → Prop) : List V → Hp → VK → Prop := fun xs H Q => ∃ a dx fs, xs = [V.ref a] ∧ H a = some (.ins (He.ga K c) dx fs) ∧ spM K N w (gV [.ref a] []) H (fun v H' => T v ∧ Q v H') (fun _ _ _ => False)
def isStrV (v : V) : Prop := ∃ z, v = .str z
def isLenV (v : V) : Prop := ∃ z : Int, v = .int z ∧ 0 ≤ z ∧ z < 2 ^ 63
theorem env_sub {A : Around} {pins : List (Addr × Obj)} {σ : L2.St} {H : Hp} {s : Shared} (I : Inv X pins σ H s) (fr : A.frames = X.A.frames) : Env0 X.prog X.w X.K X.mg X.base A X.stack s H := by
  have e := I.env0
  exact ⟨by rw [fr]; exact e.frames, e.mod, e.bs, e.bsz, e.funs, e.frf, e.hok, e.bare⟩
theorem run_own {A : Around} {fd : FuncData} {sp : Sp} {g : List Value → List Value → List Value} {pins : List (Addr × Obj)} {σ : L2.St} {H : Hp} {s : Shared} {Q : VK} {a : Addr} {B : Value → Shared → Prop} (F : FnOk X.prog X.w X.K X.mg X.base (L2.CX X.prog X.w) k f fd ps sp) (hr : Room k A) (fr : A.frames = X.A.frames) (hb : KBn X.K fd ps 1 [] g gV)
    (I : Inv X pins σ H s) (h : sp (gV [.ref a] []) H Q (fun _ _ _ => False)) (hB : ∀ v u H' s', Inv X pins σ H' s' → RelV v u → Q v H' → B u s') : wpAny (model X.prog X.w) A (call (.ref f) [.ref a]) B X.xe s := by
  have r1 : Vals [V.ref a] [Value.ref a] := .cons rfl .nil
  have r2 := hb.rel r1 (zs := []) (ws := []) .nil
  refine wpAny_call (codeAny_mono (F.run A X.stack s H ⟨[.ref a], []⟩ (g [.ref a] []) (gV [.ref a] []) Q _ hr (env_sub I fr) (hb.to s [.ref a] [] I.kIn rfl rfl) r2 h) fun r s' hq => ?_)
  cases r with
  | error e =>
    obtain ⟨a, B, H', cls, d, _, _, _, _, _, _, _, z⟩ := hq
    exact z.elim
  | ok fl =>
    cases fl with
    | ret u =>
      obtain ⟨v, H', I', rv, q⟩ := I.after hq
      exact hB v u H' s' I' rv q
    | next => exact False.elim hq
    | brk => exact False.elim hq
    | cont => exact False.elim hq
theorem call_strO {fd : FuncData} {g : List Value → List Value → List Value} {N : Nat} (hmt : Meth X.K (He.ga X.K c) "__str__" f) (F : FnOk X.prog X.w X.K X.mg X.base (L2.CX X.prog X.w) k f fd ps (spM X.K N w)) (hr : Room (k + 2) X.A) (hb : KBn X.K fd ps 1 [] g gV) : CallR X (.type "str") (rOwn X.K c N w gV isStrV) := by
  rintro pins s σ H xs us Q I rv ⟨a, dx, fs, rfl, ha, hsp⟩
  obtain ⟨u, us', rfl, ru, rus⟩ : ∃ u us', us = u :: us' ∧ RelV (.ref a) u ∧ Vals [] us' := by cases rv with | cons h t => exact ⟨_, _, rfl, h, t⟩
  cases rus
  obtain rfl : u = Value.ref a := ru
  obtain ⟨mA, J, _⟩ := ins_get I.hok ha
  obtain ⟨od, J, _⟩ := J.look
  have hr2 : Room k X.A.in1.in1 := hr.in1.in1
  refine PySem.W.kso_call hr2.units0 I.kIn J hmt.at_ hmt.fn ?_
  refine run_own F hr2 rfl hb I hsp fun v u H' s' I' rv q => ?_
  obtain ⟨⟨z, rfl⟩, q⟩ := q
  obtain ⟨t, rfl⟩ : ∃ t, u = Value.str z t := rv
  exact ⟨.str z, H', I', ⟨t, rfl⟩, q⟩
theorem call_lenO {fd : FuncData} {g : List Value → List Value → List Value} {N : Nat} (hmt : Meth X.K (He.ga X.K c) "__len__" f) (F : FnOk X.prog X.w X.K X.mg X.base (L2.CX X.prog X.w) k f fd ps (spM X.K N w)) (hr : Room (k + 2) X.A) (hb : KBn X.K fd ps 1 [] g gV) : CallR X (.builtin "len") (rOwn X.K c N w gV isLenV) := by
  rintro pins s σ H xs us Q I rv ⟨a, dx, fs, rfl, ha, hsp⟩
  obtain ⟨u, us', rfl, ru, rus⟩ : ∃ u us', us = u :: us' ∧ RelV (.ref a) u ∧ Vals [] us' := by cases rv with | cons h t => exact ⟨_, _, rfl, h, t⟩
  cases rus
  obtain rfl : u = Value.ref a := ru
  obtain ⟨mA, J, _⟩ := ins_get I.hok ha
  obtain ⟨od, J, _⟩ := J.look
  obtain ⟨m, hF⟩ := I.fr
  have hr2 : Room k X.A.in1 := (hr.mono (by omega)).in1
  refine PySem.W.len_K hF I.ok.mod.kin J hmt.at_ hmt.fn ?_
  refine run_own F hr2 rfl hb I hsp fun v u H' s' I' rv q => ?_
  obtain ⟨⟨z, rfl, h0, h1⟩, q⟩ := q
  obtain ⟨t, rfl⟩ : ∃ t, u = Value.int z t := rv
  exact ⟨⟨h0, h1⟩, .int z, H', I'.tok _, ⟨_, rfl⟩, q⟩
theorem sim_own {N : Nat} {gV : List V → List V → List V} {T : V → Prop} {o : D → (D → Prop) → Prop}
    (hrel : ∀ (as : List Addr) (H : Hp) (ds es : List D) (vs zs : List V), ds.length = 1 → es.length = 0 → RelL X.K as H ds vs → RelL X.K as H es zs → RelL X.K as H (gD ds es) (gV vs zs)) (hgl : ∀ (ds es : List D), ds.length = 1 → es.length = 0 → (gD ds es).length = N)
    (hT : ∀ as H d v (q : D → Prop), Rel X.K as H d v → o d q → T v ∧ q d) : SimA X.K (rOwn X.K c N w gV T) (fun xs M Q => match xs with
  | [.ref a] => match M[a]? with
    | some (.ins c' _) => c' = c ∧ w (gD [.ref a] []) M (fun d M' => o d fun d => Q d M') (fun _ _ => False)
    | _ => False
  | _ => False) := fun as H M ds vs k Q rp rv h hk => by
  dsimp only at h
  split at h
  · rename_i n
    split at h
    · rename_i c' fs em
      obtain ⟨rfl, h⟩ := h
      cases rv with
      | cons hd ht =>
        cases ht
        cases hd
        rename_i a hn
        obtain ⟨dx, ys, g1, g2⟩ := at_ins rp hn em
        have rg := hrel as H [.ref n] [] [.ref a] [] rfl rfl (.cons (.ref hn) .nil) .nil
        refine ⟨a, dx, ys, rfl, g1, spM_of rp rg (by rw [← rg.len]; exact hgl _ _ rfl rfl) h (fun d M' q as' H' v e r' rd => ?_) fun x M' q => q.elim⟩
        obtain ⟨h1, h2⟩ := hT as' H' d v _ rd q
        exact ⟨h1, hk d M' h2 as' H' v e r' rd⟩
    · exact h.elim
  · exact h.elim
theorem qe_strO (hmt : Meth X.K (He.ga X.K c) "__str__" f) (F : Fn X.prog X.w X.K X.mg X.base k f ps w 1 [] gD) (hr : Room (k + 2) X.A) (hgl : ∀ (ds es : List D), ds.length = 1 → es.length = ([] : List Str).length → (gD ds es).length = ps.length) (hg : Gl X x) (hm : X.mg x = none) (hv : bootBuiltins x = some (.type "str")) (ha : QA X W (e :: es) ma) (hn : x ≠ "__name__" := by decide) (hdb : (x == ("__debug__" : Str)) = false := by decide)
    (he : starEach (e :: es) X.env = (false, eval e X.env) :: starEach es X.env := by rfl) (hpl : (backTo pos (starEach es X.env)).any (·.1) = false := by rfl) : QE X W (.Call (.Name x p) (e :: es) [] pos) (mCB (oStrO c w gD) ma) := by
  obtain ⟨⟨fd, G, ⟨g, gV, hb, hrel⟩⟩, kp⟩ := F
  refine qe_callTy (call_strO hmt G hr hb) (o := oStrO c w gD) ?_ hg hm hv ha hn hdb he hpl
  refine sim_own (o := fun d q => match d with | .str z => q (.str z) | _ => False) hrel hgl fun as H d v q rd h => ?_
  cases rd <;> first | exact h.elim | exact ⟨⟨_, rfl⟩, h⟩
theorem qe_lenO (hmt : Meth X.K (He.ga X.K c) "__len__" f) (F : Fn X.prog X.w X.K X.mg X.base k f ps w 1 [] gD) (hr : Room (k + 2) X.A) (hgl : ∀ (ds es : List D), ds.length = 1 → es.length = ([] : List Str).length → (gD ds es).length = ps.length) (hg : Gl X x) (hm : X.mg x = none) (hv : bootBuiltins x = some (.builtin "len")) (ha : QA X W (e :: es) ma) (hn : x ≠ "__name__" := by decide) (hdb : (x == ("__debug__" : Str)) = false := by decide)
    (he : starEach (e :: es) X.env = (false, eval e X.env) :: starEach es X.env := by rfl) (hpl : (backTo pos (starEach es X.env)).any (·.1) = false := by rfl) : QE X W (.Call (.Name x p) (e :: es) [] pos) (mCB (oLenO c w gD) ma) := by
  obtain ⟨⟨fd, G, ⟨g, gV, hb, hrel⟩⟩, kp⟩ := F
  refine qe_callB (call_lenO hmt G hr hb) (o := oLenO c w gD) ?_ hg hm hv ha hn hdb he hpl
  refine sim_own (o := fun d q => match d with | .int z => (0 ≤ z ∧ z < 2 ^ 63) ∧ q (.int z) | _ => False) hrel hgl fun as H d v q rd h => ?_
  cases rd <;> first | exact h.elim | exact ⟨⟨_, rfl, h.1.1, h.1.2⟩, h.2⟩
end
end MV
namespace MV
open PySem PySem.Spec PyProof.Rows L2
/-! ### dict comprehensions -/
def mDcL (guard : Mem → Prop) (T : Tg) (tt : MT) (mk mv : ME) (ρ : Ev) (n : Nat) (Q : Mem → Prop) : List D → Mem → Prop
  | [], M => guard M ∧ Q M
  | d :: ds, M => guard M ∧ T.mg d ρ M fun ρ2 => tt ρ2 M (fun b M3 => if b = true then mk ρ2 M3 (fun y M4 => mv ρ2 M4 (fun z M5 => match M5[n]? with
      | some (.dct false acc) => match keyOf y with
        | some k => acc.length < 16000000 ∧ mDcL guard T tt mk mv ρ n Q ds (M5.set n (.dct false (dput acc k z)))
        | none => False
      | _ => False) noX) noX else mDcL guard T tt mk mv ρ n Q ds M3) noX
def mDc (mi : MI) (T : Tg) (tt : MT) (mk mv : ME) (vs : List Nat) : ME := fun ρ M Q X => mi ρ M (fun items guard M1 => mDcL guard T tt mk mv (wipeE ρ vs) M1.length (fun M2 => Q (.ref M1.length) M2) items (M1 ++ [.dct false []])) X
section
variable {K : PySem.W.Frag} {as : List Addr} {H : Hp} {M : Mem}
theorem lf_dc {W : WX} {mi : MI} {T : Tg} {tt : MT} {mk mv : ME} {vs : List Nat} (hT : ∀ i ∈ T.slots, i ∈ vs) {σ : L2.St} {H : Hp} {Q : VK} (h : lf K W (mDc mi T tt mk mv vs) σ H Q) : tDc (lfI K W mi) (T.rd K) (lfT K W0 tt) (lf K W0 mk) (lf K W0 mv) vs σ H Q := by
  obtain ⟨as, M, ρ, Q', X', r, rs, h, hq, hx⟩ := h
  refine ⟨as, M, ρ, _, X', r, rs, h, fun items guard M1 as1 H1 J h1 e1 r1 ok D hD => ?_, hx⟩
  have rD : RepM K (as1 ++ [D]) (upd H1 D (.dK [])) (M1 ++ [.dct false []]) := r1.new (o := .dct false []) hD ⟨[], .nil, upd_same⟩
  have eD : Ext K as1 H1 (as1 ++ [D]) (upd H1 D (.dK [])) := (ext_new hD).trans ext_app
  have nD : (as1 ++ [D])[M1.length]? = some D := by rw [← r1.len]; exact app_at
  refine ⟨fun i m H' => ∃ as' M', Ext K (as1 ++ [D]) (upd H1 D (.dK [])) as' H' ∧ RepM K as' H' M' ∧ i + m = items.length ∧ mDcL guard T tt mk mv (wipeE ρ vs) M1.length (fun M2 => Q' (.ref M1.length) M2) (items.drop i) M', ⟨items.length, _, _, .refl, rD, by simp, h1⟩, ?_⟩
  rintro i m H' ⟨as', M', e', r', hm, h'⟩
  have e2 := eD.trans e'
  have nD' := pre_get e'.pre nD
  by_cases hl : i < items.length
  · right
    rw [drop_cons hl] at h'
    obtain ⟨hgd, h'⟩ := h'
    obtain ⟨_, ok2⟩ := ok as' H' M' i e2 r' hgd
    obtain ⟨go, yld⟩ := ok2 _ (List.getElem?_eq_getElem hl)
    refine ⟨go, fun H2 => ∃ as2 M2, Ext K (as1 ++ [D]) (upd H1 D (.dK [])) as2 H2 ∧ RepM K as2 H2 M2 ∧ mDcL guard T tt mk mv (wipeE ρ vs) M1.length (fun M2 => Q' (.ref M1.length) M2) (items.drop (i + 1)) M2, fun H2 ⟨as2, M2, a, b, c⟩ => ⟨m - 1, by omega, as2, M2, a, b, by omega, c⟩, fun x H2 y => ?_⟩
    obtain ⟨e3, r3, rx⟩ := yld x H2 y
    have e4 := e'.trans e3
    have rs3 : RelS K as' H2 (wipeE ρ vs) (L2.wipe σ vs) := (rs.up (e1.trans (e2.trans e3))).wipe vs
    refine T.keep hT (fun σ2 H2' ew q => ⟨?_, q⟩) (T.sim r3 rs3 rx h' fun ρ4 σ4 h4 rs4 => ?_)
    · rw [ew]
      exact wipe_wipe vs σ
    · refine lfT_bind r3 rs4 h4 noX_ok fun b M3 as3 H3 h5 e5 r5 rs5 => ?_
      cases b with
      | true =>
        rw [if_pos rfl] at h5 ⊢
        refine lf_bind r5 rs5 h5 noX_ok fun dy M4 as4 H4 y h6 e6 r6 rs6 ry => ?_
        refine lf_bind r6 rs6 h6 noX_ok fun dz M5 as5 H5 z h7 e7 r7 rs7 rz => ?_
        split at h7
        · rename_i acc ea
          split at h7
          · rename_i k ek
            have e8 := e4.trans (e5.trans (e6.trans e7))
            have n5 := pre_get e8.pre nD
            obtain ⟨ks, g2, g1⟩ := at_dK r7 n5 ea
            obtain ⟨e9, r9⟩ := put_dct r7 n5 g1 (g2.put k rz)
            exact ⟨ks, k, keyOf_ok (ry.up e7) ek, g1, by rw [← g2.len]; exact Nat.lt_of_lt_of_le h7.1 (by decide), as5, _, e8.trans e9, r9, h7.2⟩
          · exact h7.elim
        · exact h7.elim
      | false =>
        rw [if_neg Bool.false_ne_true] at h5 ⊢
        exact ⟨as3, M3, e4.trans e5, r5, h5⟩
  · left
    have hi' : i = items.length := by omega
    rw [List.drop_eq_nil_of_le (by omega)] at h'
    exact ⟨(ok as' H' M' i e2 r' h'.1).1 hi', hq _ _ h'.2 as' H' _ (e1.trans e2) r' (.ref nD')⟩
end
section
variable {X : Cx} {W : WX} {kx vx tg iter : Expr} {ifs : List Expr} {scope : Scope} {own : List (Str × Nat)} {pos spos : Pos} {mi : MI} {T : Tg} {tt : MT} {mk mv : ME}
theorem qe_dc (hc : X.calm = true) (hN : X.N.Nodup) (hi : QI X W tg iter mi) (ok : BlkOk X.N X.env.scope scope own)
    (hg : ∀ (s : Shared) (H : Hp) (C : Addr) (cl : List (Str × Addr)) (fp : List Addr), QG (X.blk s H scope (compEnvC scope cl C X.env) fp) tg T) (ht : ∀ (s : Shared) (H : Hp) (C : Addr) (cl : List (Str × Addr)) (fp : List Addr), QTs (X.blk s H scope (compEnvC scope cl C X.env) fp) W0 ifs tt)
    (hk : ∀ (s : Shared) (H : Hp) (C : Addr) (cl : List (Str × Addr)) (fp : List Addr), QE (X.blk s H scope (compEnvC scope cl C X.env) fp) W0 kx mk)
    (he : ∀ (s : Shared) (H : Hp) (C : Addr) (cl : List (Str × Addr)) (fp : List Addr), QE (X.blk s H scope (compEnvC scope cl C X.env) fp) W0 vx mv) (hT : ∀ i ∈ T.slots, i ∈ own.map (·.2)) (hs : ∀ x, foldedSetIterable iter X.env x = pure x := by intro _; rfl) :
    QE X W (.DictComp kx vx [⟨tg, iter, ifs, 0⟩] scope pos) (mDc mi T tt mk mv (own.map (·.2))) := PEi (pe_dc (g := T.rd X.K) (tt := lfT X.K W0 tt) (tk := lf X.K W0 mk) (tv := lf X.K W0 mv) hc hN hi ok hg ht hk he hs) fun σ H Q h => lf_dc hT h
end
end MV
namespace MV
open PySem PySem.Spec PyProof.Rows L2
/-! ### which exception is which: a table, told by the head as one Bool -/
def tabSub (ys : List Str) (rows : List (Str × List Bool)) (x y : Str) : Option Bool := (rows.find? fun r => decide (r.1 = x)).bind fun r => ((ys.zip r.2).find? fun e => decide (e.1 = y)).map (·.2)
/-- the numbers worked out first -/
def frL : List Nat → (List Nat → Bool) → Bool
  | [], k => k []
  | n :: r, k => HandSHeadRun.frNat n fun n => frL r fun r => k (n :: r)
theorem frL_eq : ∀ (l : List Nat) (k : List Nat → Bool), frL l k = k l
  | [], _ => rfl
  | n :: r, k => by
    show HandSHeadRun.frNat n (fun n => frL r fun r => k (n :: r)) = _
    rw [HandSHeadRun.frNat_eq, frL_eq r]
def exmA (K : PySem.W.Frag) (x y : Nat) (b : Bool) : Bool := decide (PySem.W.exmOne K (.ref x) (.ref y) = some b)
def tabOk (K : PySem.W.Frag) (fl : List Str) (ys : List Str) (rows : List (Str × List Bool)) : Bool := frL (ys.map fun y => He.ga K y) fun bs => rows.all fun r => DW.excXB K r.1 fl && frL [He.ga K r.1] fun ax => (bs.zip r.2).all fun e => exmA K (ax.getD 0 0) e.1 e.2
theorem xcn_tab {K : PySem.W.Frag} {fl : List Str} {ys : List Str} {rows : List (Str × List Bool)} (h : tabOk K fl ys rows = true) : XcN K (tabSub ys rows) fl := xcn_mk fun x y b e => by
  unfold tabOk at h
  rw [frL_eq] at h
  unfold tabSub at e
  cases hf : rows.find? fun r => decide (r.1 = x) with
  | none => rw [hf] at e; cases e
  | some r =>
    rw [hf] at e
    have hm := List.mem_of_find?_eq_some hf
    have hx : r.1 = x := of_decide_eq_true (List.find?_some (p := fun r : Str × List Bool => decide (r.1 = x)) hf)
    subst hx
    have hr := List.all_eq_true.mp h r hm
    rw [Bool.and_eq_true, frL_eq] at hr
    refine ⟨?_, xok_of hr.1⟩
    replace e : ((ys.zip r.2).find? fun e => decide (e.1 = y)).map (·.2) = some b := e
    cases hz : (ys.zip r.2).find? fun e => decide (e.1 = y) with
    | none => rw [hz] at e; cases e
    | some z =>
      rw [hz] at e
      have hy : z.1 = y := of_decide_eq_true (List.find?_some (p := fun e : Str × Bool => decide (e.1 = y)) hz)
      have hb : z.2 = b := by injection e
      subst hy; subst hb
      have hzm := List.mem_of_find?_eq_some hz
      have hm2 : (He.ga K z.1, z.2) ∈ (ys.map fun y => He.ga K y).zip r.2 := by
        have : (ys.map fun y => He.ga K y).zip r.2 = (ys.zip r.2).map fun e => (He.ga K e.1, e.2) := by
          have h2 := List.zip_map_left (f := fun y => He.ga K y) (l₁ := ys) (l₂ := r.2)
          rw [h2]; rfl
        rw [this]
        exact List.mem_map.mpr ⟨z, hzm, rfl⟩
      exact of_decide_eq_true (List.all_eq_true.mp hr.2 _ hm2)
end MV
namespace MV
open PySem PySem.Spec PyProof.Rows L2
/-! ### pop with an index -/
def omPopAt : OM := fun x ds M Q => match x, ds with
  | .ref n, [.int i] => match M[n]? with
    | some (.lst l) => (-(2 ^ 63) ≤ i ∧ i < 2 ^ 63) ∧ match ixN l.length i with
      | some k => match l[k]? with
        | some d => Q d (M.set n (.lst (l.eraseIdx k)))
        | none => False
      | none => False
    | _ => False
  | _, _ => False
theorem seq_ixN {i : Int} {n k : Nat} (h : ixN n i = some k) : seqIndex? i n = some k := by
  unfold ixN at h
  split at h
  · split at h
    · injection h with h; rename_i a b; unfold seqIndex?; simp only [Int.not_lt.mpr a, if_false, a, b, decide_true, Bool.and_self, if_true]; rw [h]
    · cases h
  · split at h
    · injection h with h; rename_i a b; unfold seqIndex?; simp only [Int.not_le.mp a, if_true]; rw [if_pos (by simp only [Bool.and_eq_true, decide_eq_true_eq]; omega), h]
    · cases h
section
variable {K : PySem.W.Frag}
theorem RelL.erase {as : List Addr} {H : Hp} : ∀ {ds : List D} {vs : List V} (k : Nat), RelL K as H ds vs → RelL K as H (ds.eraseIdx k) (vs.eraseIdx k)
  | _, _, _, .nil => .nil
  | _, _, 0, .cons _ r => r
  | _, _, k + 1, .cons h r => .cons h (RelL.erase k r)
theorem sim_popAt : SimM K rPopAt omPopAt := fun as H M dx ds x vs k Q rp rx rv h hk => by
  unfold omPopAt at h
  split at h
  · rename_i n i
    obtain ⟨v, rfl, r1⟩ := rv.one
    cases r1
    cases rx with
    | ref hn =>
      split at h
      · rename_i l e
        obtain ⟨hi, h⟩ := h
        split at h
        · rename_i j ej
          split at h
          · rename_i d ed
            obtain ⟨xs, g1, g2⟩ := at_lst rp hn e
            obtain ⟨v, ev, rd⟩ := g2.get ed
            obtain ⟨e7, r7⟩ := put_lst rp hn g1 (g2.erase j)
            exact ⟨_, xs, i, j, v, rfl, rfl, g1, hi.1, hi.2, by rw [← g2.len]; exact seq_ixN ej, ev, hk _ _ h as _ _ e7 r7 (rd.up e7)⟩
          · exact h.elim
        · exact h.elim
      · exact h.elim
  · exact h.elim
end
theorem o_popAt {n k : Nat} {l : List D} {i : Int} {d : D} {M : Mem} {Q : DK} (e : M[n]? = some (.lst l)) (h1 : -(2 ^ 63) ≤ i ∧ i < 2 ^ 63) (h2 : ixN l.length i = some k) (h3 : l[k]? = some d) (h : Q d (M.set n (.lst (l.eraseIdx k)))) : omPopAt (.ref n) [.int i] M Q := by
  unfold omPopAt
  dsimp only
  rw [e]
  dsimp only
  rw [h2]
  dsimp only
  rw [h3]
  exact ⟨h1, h⟩
end MV
namespace MV
open PySem PySem.Spec PyProof.Rows L2
/-! ### zip of three lists -/
def Itz3 (K : PySem.W.Frag) (a b c : Addr) : It :=
  ⟨fun i H => ∃ (xs ys zs : List V) (x y u : V), SqL K H a xs ∧ SqL K H b ys ∧ SqL K H c zs ∧ xs[i]? = some x ∧ ys[i]? = some y ∧ zs[i]? = some u,
    fun i H v H' => ∃ T x y u, v = .ref T ∧ H T = none ∧ H' = upd H T (.tup [x, y, u]) ∧ (∀ xs, SqL K H a xs → xs[i]? = some x) ∧ (∀ ys, SqL K H b ys → ys[i]? = some y) ∧ ∀ zs, SqL K H c zs → zs[i]? = some u,
    fun i H => ∃ xs ys zs : List V, SqL K H a xs ∧ SqL K H b ys ∧ SqL K H c zs ∧ i ≤ xs.length ∧ i ≤ ys.length ∧ i ≤ zs.length ∧ (i = xs.length ∨ i = ys.length ∨ i = zs.length)⟩
theorem turn_zip3 {P : Program} {w : World} {K : PySem.W.Frag} {elts : List Expr} {kk : Nat} {tpos : Pos} {a b c z TI TO i1 i2 i3 : Addr} (D : ZipSep3 z TI TO i1 i2 i3 [i1, a] [i2, b] [i3, c]) (na : a ≠ i1) (nb : b ≠ i2) (nc : c ≠ i3) :
    Turn P w K (.Tuple elts kk tpos) (Itz3 K a b c) [z, TI, TO, i1, i2, i3] z (fun i h => IsZip h z TI TO .none ∧ IsTupOf3 h TI (.ref i1) (.ref i2) (.ref i3) ∧ (∃ x y u, IsTupOf3 h TO x y u) ∧ h.IsListIter i1 a i ∧ h.IsListIter i2 b i ∧ h.IsListIter i3 c i) where
  mem := by simp
  obj := fun i h st c hc => by
    obtain ⟨hz, hTI, ⟨x, y, u, hTO⟩, ⟨o1, e1, _, d1⟩, ⟨o2, e2, _, d2⟩, ⟨o3, e3, _, d3⟩⟩ := st
    have e' : c = z ∨ c = TI ∨ c = TO ∨ c = i1 ∨ c = i2 ∨ c = i3 := by simpa using hc
    rcases e' with q | q | q | q | q | q
    · rw [q]; exact ⟨_, hz, fun v q => nomatch q⟩
    · rw [q]; exact ⟨_, hTI, fun v q => nomatch q⟩
    · rw [q]; exact ⟨_, hTO, fun v q => nomatch q⟩
    · rw [q]; exact ⟨o1, e1, fun v q => by rw [d1] at q; cases q⟩
    · rw [q]; exact ⟨o2, e2, fun v q => by rw [d2] at q; cases q⟩
    · rw [q]; exact ⟨o3, e3, fun v q => by rw [d3] at q; cases q⟩
  keep := fun i h h' st k => by
    obtain ⟨hz, hTI, ⟨x, y, u, hTO⟩, h1, h2, h3⟩ := st
    exact ⟨k z (by simp) _ hz, k TI (by simp) _ hTI, ⟨x, y, u, k TO (by simp) _ hTO⟩, h1.at fun o q => k i1 (by simp) o q, h2.at fun o q => k i2 (by simp) o q, h3.at fun o q => k i3 (by simp) o q⟩
  item := by
    intro X hP hw hK hc i pins s σ H E I hf st hg
    subst hP hw hK
    obtain ⟨hz, hTI, ⟨x0, y0, u0, hTO⟩, h1, h2, h3⟩ := st
    obtain ⟨xs, ys, zs, x, y, u, hqx, hqy, hqz, hx, hy, hu⟩ := hg
    obtain ⟨its, rv, p, _⟩ := I.list hqx
    obtain ⟨its2, rv2, p2, _⟩ := I.list hqy
    obtain ⟨its3, rv3, p3, _⟩ := I.list hqz
    obtain ⟨w1, hw1, rw1⟩ := rv.get hx
    obtain ⟨w2, hw2, rw2⟩ := rv2.get hy
    obtain ⟨w3, hw3, rw3⟩ := rv3.get hu
    have hzl : z < s.heap.objs.size := Heap.lt_size hz
    have hh : X.A.in1.handled = none := I.ok.hd hc
    have D1 := Draws.list (prog := X.prog) (w := X.w) hh i1 a na its.toArray
    have D2 := Draws.list (prog := X.prog) (w := X.w) hh i2 b nb its2.toArray
    have D3 := Draws.list (prog := X.prog) (w := X.w) hh i3 c nc its3.toArray
    refine wpAny_pyNext_zipD3_item D D1 D2 D3 hz hTI hTO ⟨h1, p.isList⟩ ⟨h2, p2.isList⟩ ⟨h3, p3.isList⟩ (i := i) (by have := (List.getElem?_eq_some_iff.mp hw1).1; simpa using this) (by have := (List.getElem?_eq_some_iff.mp hw2).1; simpa using this) (by have := (List.getElem?_eq_some_iff.mp hw3).1; simpa using this) fun x1 x2 x3 h' tk q1 q2 q3 z' TO' t1 t2 t3 hT hsz hk => ?_
    have ex1 : x1 = w1 := by have : its[i]? = some x1 := by simpa using q1
                             rw [hw1] at this; cases this; rfl
    have ex2 : x2 = w2 := by have : its2[i]? = some x2 := by simpa using q2
                             rw [hw2] at this; cases this; rfl
    have ex3 : x3 = w3 := by have : its3[i]? = some x3 := by simpa using q3
                             rw [hw3] at this; cases this; rfl
    subst ex1 ex2 ex3
    refine ⟨_, rfl, wpAny_letOwnedTupleGo_zip (s := { s with heap := h', toks := tk }) z' fun h'' z'' sb => ?_⟩
    have hT2 : h''.get? s.heap.objs.size = some { cls := .type "tuple", data := .seq #[x1, x2, x3] } := (sb.2 _ (Nat.ne_of_gt hzl)).trans hT
    have new : ObjOk X.prog X.w (upd H s.heap.objs.size (.tup [x, y, u])) h'' s.heap.objs.size (.tup [x, y, u]) :=
      ⟨by show 3 ≤ sizeLine; decide, [x1, x2, x3], .cons rw1 (.cons rw2 (.cons rw3 .nil)), ⟨_, hT2, rfl, _, rfl⟩⟩
    have I1 : Inv X pins σ (upd H s.heap.objs.size (.tup [x, y, u])) { s with heap := h'', toks := tk } :=
      I.turnedNew (t' := tk) (ch := [z, TI, TO, i1, i2, i3]) (fun c o hb q => (sb.2 c (fun q' => hb (by simp [q']))).trans (hk c o (fun q' => hb (by simp [q'])) (fun q' => hb (by simp [q'])) (fun q' => hb (by simp [q'])) (fun q' => hb (by simp [q'])) (fun q' => hb (by simp [q'])) q)) hf (Nat.le_refl _) new
    refine ⟨.ref s.heap.objs.size, _, I1, rfl, ⟨_, x, y, u, rfl, I.hok.fresh (Nat.le_refl _), rfl, fun l hl => by rw [I.list_inj hl hqx]; exact hx, fun l hl => by rw [I.list_inj hl hqy]; exact hy, fun l hl => by rw [I.list_inj hl hqz]; exact hu⟩, ⟨z'', ?_, ⟨x1, x2, x3, ?_⟩, ?_, ?_, ?_⟩, fun c hcm => ?_⟩
    · exact (sb.2 _ D.TIz).trans (hk _ _ D.TIz D.TITO D.TIi1 D.TIi2 D.TIi3 hTI)
    · exact (sb.2 _ D.TOz).trans TO'
    · exact t1.1.at fun o q => (sb.2 _ (Ne.symm D.zi1)).trans q
    · exact t2.1.at fun o q => (sb.2 _ (Ne.symm D.zi2)).trans q
    · exact t3.1.at fun o q => (sb.2 _ (Ne.symm D.zi3)).trans q
    · have hlt : c < s.heap.objs.size := by
        have e' : c = z ∨ c = TI ∨ c = TO ∨ c = i1 ∨ c = i2 ∨ c = i3 := by simpa using hcm
        rcases e' with q | q | q | q | q | q
        · rw [q]; exact hzl
        · rw [q]; exact Heap.lt_size hTI
        · rw [q]; exact Heap.lt_size hTO
        · rw [q]; obtain ⟨_, e1, _⟩ := h1; exact Heap.lt_size e1
        · rw [q]; obtain ⟨_, e2, _⟩ := h2; exact Heap.lt_size e2
        · rw [q]; obtain ⟨_, e3, _⟩ := h3; exact Heap.lt_size e3
      rw [upd_ne (Nat.ne_of_lt hlt)]
      exact (hf c hcm).1
  done := by
    intro X hP hw hK hc i pins s σ H E I hf st hg
    subst hP hw hK
    obtain ⟨hz, hTI, ⟨x0, y0, u0, hTO⟩, h1, h2, h3⟩ := st
    obtain ⟨xs, ys, zs, hqx, hqy, hqz, le1, le2, le3, hend⟩ := hg
    obtain ⟨its, rv, p, _⟩ := I.list hqx
    obtain ⟨its2, rv2, p2, _⟩ := I.list hqy
    obtain ⟨its3, rv3, p3, _⟩ := I.list hqz
    have l1 := rv.length
    have l2 := rv2.length
    have l3 := rv3.length
    have hh : X.A.in1.handled = none := I.ok.hd hc
    have D1 := Draws.list (prog := X.prog) (w := X.w) hh i1 a na its.toArray
    have D2 := Draws.list (prog := X.prog) (w := X.w) hh i2 b nb its2.toArray
    have D3 := Draws.list (prog := X.prog) (w := X.w) hh i3 c nc its3.toArray
    exact wpAny_pyNext_zipD3_end D D1 D2 D3 hz hTI hTO ⟨h1, p.isList⟩ ⟨h2, p2.isList⟩ ⟨h3, p3.isList⟩ (i := i) (by simp; omega) (by simp; omega) (by simp; omega) (by simp; omega) fun h' tk hk => ⟨rfl, I.turnedL (t' := tk) (ch := [z, TI, TO, i1, i2, i3]) (fun c o hb q =>
      hk c o (fun q' => hb (by simp [q'])) (fun q' => hb (by simp [q'])) (fun q' => hb (by simp [q'])) (fun q' => hb (by simp [q'])) (fun q' => hb (by simp [q'])) q) hf⟩
  self := fun A i s Q E st h => wpAny_pyIter_zip st.1 h
def iZip3 (K : PySem.W.Frag) (ta : TA) : TI := fun σ H R => ta σ H fun vs H1 => ∃ a b c xs ys zs, vs = [.ref a, .ref b, .ref c] ∧ SqL K H1 a xs ∧ SqL K H1 b ys ∧ SqL K H1 c zs ∧ R (Itz3 K a b c) H1
theorem pi_zip3 {X : Cx} {e e2 e3 : Expr} {ta : TA} {p pos tpos : Pos} {elts : List Expr} {kk : Nat} (hg : Gl X "zip") (hm : X.mg "zip" = none) (ha : PA X [e, e2, e3] ta)
    (hs : starEach [e, e2, e3] X.env = (false, eval e X.env) :: starEach [e2, e3] X.env := by rfl) (hpl : (backTo pos (starEach [e2, e3] X.env)).any (·.1) = false := by rfl) :
    PI X (.Tuple elts kk tpos) (.Call (.Name "zip" p) [e, e2, e3] [] pos) (iZip3 X.K ta) := by
  refine ⟨fun pins s σ H R I h => ?_⟩
  refine Call_ (ld_blt I hg hm PyProof.Rows.boot_zip (PyProof.Rows.callWith_type1 (thn (ha.run pos pins s σ H _ I h) fun us s1 ⟨vs, H1, I1, r1, q1⟩ => ?_) hs hpl))
  obtain ⟨a, b, c, xs, ys, zs, ex, hqx, hqy, hqz, q⟩ := q1
  subst ex
  cases r1 with
  | cons r rr =>
    cases rr with
    | cons r' rr =>
      cases rr with
      | cons r'' rr =>
      cases rr
      cases r
      cases r'
      cases r''
      obtain ⟨its, rv, p1, _⟩ := I1.list hqx
      obtain ⟨its2, rv2, p2, _⟩ := I1.list hqy
      obtain ⟨its3, rv3, p3, _⟩ := I1.list hqz
      have la : a < s1.heap.objs.size := p1.lt
      have lb : b < s1.heap.objs.size := p2.lt
      have lc : c < s1.heap.objs.size := p3.lt
      refine zip_begins3 (begins_list a its.toArray) (begins_list b its2.toArray) (begins_list c its3.toArray) p1.isList p2.isList p3.isList fun h' hz hTI hTO h1 h2 h3 hsz hk => wpAny_pyIter_zip hz ?_
      have I2 : Inv X pins σ H1 { s1 with heap := h' } := I1.kept (t' := s1.toks) hk
      have S := zip_sep3 (N := s1.heap.objs.size) (fp1 := [a]) (fp2 := [b]) (fp3 := [c]) (by simpa using la) (by simpa using lb) (by simpa using lc)
      refine ⟨s1.heap.objs.size + 5, [s1.heap.objs.size + 5, s1.heap.objs.size + 3, s1.heap.objs.size + 4, s1.heap.objs.size, s1.heap.objs.size + 1, s1.heap.objs.size + 2], _, _, H1, rfl, I2, turn_zip3 S (Nat.ne_of_lt la) (Nat.ne_of_lt (Nat.lt_of_lt_of_le lb (Nat.le_add_right _ _))) (Nat.ne_of_lt (Nat.lt_of_lt_of_le lc (Nat.le_add_right _ _))), ⟨hz, hTI, ⟨_, _, _, hTO⟩, ⟨_, h1, rfl, rfl⟩, ⟨_, h2, rfl, rfl⟩, ⟨_, h3, rfl, rfl⟩⟩, fun c hcm => ?_, q⟩
      have e' : c = s1.heap.objs.size + 5 ∨ c = s1.heap.objs.size + 3 ∨ c = s1.heap.objs.size + 4 ∨ c = s1.heap.objs.size ∨ c = s1.heap.objs.size + 1 ∨ c = s1.heap.objs.size + 2 := by simpa using hcm
      have hle : s1.heap.objs.size ≤ c := by
        rcases e' with z | z | z | z | z | z
        · rw [z]; exact Nat.le_add_right _ _
        · rw [z]; exact Nat.le_add_right _ _
        · rw [z]; exact Nat.le_add_right _ _
        · rw [z]; exact Nat.le_refl _
        · rw [z]; exact Nat.le_add_right _ _
        · rw [z]; exact Nat.le_add_right _ _
      exact I1.fpOk hle (I1.hok.fresh hle)
def zipD3 (xs ys zs : List D) : List D := ((xs.zip ys).zip zs).map fun p => .tup [p.1.1, p.1.2, p.2]
def mIZip3 (ma : MA) : MI := fun ρ M k X => ma ρ M (fun ds M1 => match ds with
  | [.ref l, .ref m, .ref n] => match M1[l]?, M1[m]?, M1[n]? with
    | some (.lst xs), some (.lst ys), some (.lst zs) => k (zipD3 xs ys zs) (fun M => M[l]? = some (.lst xs) ∧ M[m]? = some (.lst ys) ∧ M[n]? = some (.lst zs)) M1
    | _, _, _ => False
  | _ => False) X
theorem zipD3_get {xs ys zs : List D} {i : Nat} {d : D} (h : (zipD3 xs ys zs)[i]? = some d) : ∃ a b c, xs[i]? = some a ∧ ys[i]? = some b ∧ zs[i]? = some c ∧ d = .tup [a, b, c] := by
  simp only [zipD3, List.getElem?_map] at h
  cases e : ((xs.zip ys).zip zs)[i]? with
  | none => rw [e] at h; cases h
  | some p =>
    rw [e] at h
    obtain ⟨h1, h2⟩ := List.getElem?_zip_eq_some.mp e
    obtain ⟨h3, h4⟩ := List.getElem?_zip_eq_some.mp h1
    simp at h
    exact ⟨p.1.1, p.1.2, p.2, h3, h4, h2, h.symm⟩
theorem new_trip {K : PySem.W.Frag} {as : List Addr} {H : Hp} {M : Mem} {T : Addr} {d1 d2 d3 : D} {v1 v2 v3 : V} (r : RepM K as H M) (hT : H T = none) (r1 : Rel K as H d1 v1) (r2 : Rel K as H d2 v2) (r3 : Rel K as H d3 v3) :
    Ext K as H as (upd H T (.tup [v1, v2, v3])) ∧ RepM K as (upd H T (.tup [v1, v2, v3])) M ∧ Rel K as (upd H T (.tup [v1, v2, v3])) (.tup [d1, d2, d3]) (.ref T) :=
  ⟨ext_new hT, r.laid hT, .tup Tq.new (.cons (r1.up (ext_new hT)) (.cons (r2.up (ext_new hT)) (.cons (r3.up (ext_new hT)) .nil)))⟩
theorem qi_zip3 {X : Cx} {W : WX} {e e2 e3 : Expr} {ma : MA} {p tpos pos : Pos} {elts : List Expr} {kk : Nat} (hg : Gl X "zip") (hm : X.mg "zip" = none) (ha : QA X W [e, e2, e3] ma)
    (hs : starEach [e, e2, e3] X.env = (false, eval e X.env) :: starEach [e2, e3] X.env := by rfl) (hpl : (backTo pos (starEach [e2, e3] X.env)).any (·.1) = false := by rfl) : QI X W (.Tuple elts kk tpos) (.Call (.Name "zip" p) [e, e2, e3] [] pos) (mIZip3 ma) :=
  PIi (pi_zip3 hg hm ha hs hpl) fun σ H R ⟨as, M, ρ, k, X', r, rs, h, hq, hx⟩ => by
    refine lfA_bind r rs h hx fun ds M1 as1 H1 vs h1 e1 r1 rs1 rv => ?_
    split at h1
    · cases rv with
      | cons rx rv =>
      cases rv with
      | cons ry rv =>
      cases rv with
      | cons rz rv =>
      cases rv
      cases rx with
      | ref hl =>
      cases ry with
      | ref hm' =>
      cases rz with
      | ref hn =>
          split at h1
          · rename_i xs ys zs ex ey ez
            obtain ⟨as_, h2, h3⟩ := at_lst r1 hl ex
            obtain ⟨bs, h4, h5⟩ := at_lst r1 hm' ey
            obtain ⟨cs, h4', h5'⟩ := at_lst r1 hn ez
            refine ⟨_, _, _, as_, bs, cs, rfl, SqL.of h2, SqL.of h4, SqL.of h4', hq _ _ M1 as1 H1 _ h1 e1 r1 fun as' H' M' i e r g => ?_⟩
            obtain ⟨us, h6, h7⟩ := at_lst r (pre_get e.pre hl) g.1
            obtain ⟨ws, h8, h9⟩ := at_lst r (pre_get e.pre hm') g.2.1
            obtain ⟨ts, h10, h11⟩ := at_lst r (pre_get e.pre hn) g.2.2
            refine ⟨fun hi => ⟨us, ws, ts, SqL.of h6, SqL.of h8, SqL.of h10, ?_⟩, fun d hd => ?_⟩
            · simp [zipD3] at hi
              rw [← h7.len, ← h9.len, ← h11.len]; omega
            · obtain ⟨a, b, c, ha, hb, hc, rfl⟩ := zipD3_get hd
              obtain ⟨va, hva, ra⟩ := h7.get ha
              obtain ⟨vb, hvb, rb⟩ := h9.get hb
              obtain ⟨vc, hvc, rc⟩ := h11.get hc
              refine ⟨⟨us, ws, ts, va, vb, vc, SqL.of h6, SqL.of h8, SqL.of h10, hva, hvb, hvc⟩, fun x H2 ⟨T, y1, y2, y3, ex, hT, eH, z1, z2, z3⟩ => ?_⟩
              have e3 := z1 us (SqL.of h6)
              have e4 := z2 ws (SqL.of h8)
              have e5 := z3 ts (SqL.of h10)
              rw [hva] at e3; rw [hvb] at e4; rw [hvc] at e5; cases e3; cases e4; cases e5
              subst ex eH
              exact new_trip r hT ra rb rc
          · exact h1.elim
    · exact h1.elim
end MV
namespace MV
open PySem PySem.Spec PyProof.Rows L2
/-! ### list.extend of a tuple -/
theorem list_extend_tup (l : Addr) (items : Array Value) (n : Nat) (b : Addr) (items2 : Array Value) (n2 : Nat) (dd : Option Addr) (sl : Array (Option Value)) (hs0 : ¬(!items.isEmpty && Builtin.List.listTooLong (items.size + items2.size)) = true) (hs1 : items.size ≤ sizeLine) (hs2 : items.size + items2.size ≤ sizeLine + 1) :
    Meets (Builtin.«list.extend» ⟨[.ref l, .ref b], []⟩) (fun _ R s => s.heap.get? l = some { cls := .type "list", dict := none, data := .seq items n, slots := #[] } ∧ s.heap.get? b = some { cls := .type "tuple", dict := dd, data := .seq items2 n2, slots := sl } ∧ R (.ok (.ret Value.none)) { s with heap := s.heap.update l (Obj.mapSeq fun x => x ++ items2), toks := s.toks }) :=
  .of_wp fun prog w A R s h => by
    obtain ⟨hp, g, d, tk, os⟩ := s; obtain ⟨hl, hb, h⟩ := h; have f1 := AutoSeq1.idx_int; have f2 := AutoSeq1.sub_tuple_tuple; have f3 := AutoSeq1.sub_list_list; have f4 := AutoSeq1.sub_tuple_list; have f5 := AutoSeq1.sub_list_tuple;
    have hz' : (items ++ items2).size ≤ sizeLine + 1 := by rw [Array.size_append]; exact hs2
    wp_walk using (wpAny_updateSeq hl rfl (hz := hs1) (_hz' := hz')), wpAny_loadPart' hl, wpAny_loadPart' hb; exact ⟨_, rfl, h⟩
def rExtendT (K : PySem.W.Frag) : V → List V → Hp → VK → Prop := fun x vs H Q => ∃ l b xs zs, x = .ref l ∧ vs = [.ref b] ∧ H l = some (.lst xs) ∧ SqT K H b zs ∧ xs.length + zs.length ≤ sizeLine ∧ Q .non (upd H l (.lst (xs ++ zs)))
section
variable {X : Cx}
theorem mt_extendT : MtM X "list.extend" (rExtendT X.K) := by
  intro pins s σ H x vs v us Q I rx rv h
  obtain ⟨l, b, xs, zs, rfl, rfl, hH, hB, hz, q⟩ := h
  cases rx
  obtain ⟨u, rfl, ru⟩ := rv.one
  cases ru
  obtain ⟨z, its, n, r, hl, e⟩ := I.lstM hH
  obtain ⟨its2, r2, ⟨⟨cls, dd, dat, sl⟩, e2, ec, n2, ed⟩, z2⟩ := I.tuple hB
  dsimp only at ec ed
  subst ec ed
  have hl2 := r2.length
  have hsz : its.toArray.size + its2.toArray.size ≤ sizeLine := by rw [List.size_toArray, List.size_toArray]; omega
  have hlong : ¬ (!its.toArray.isEmpty && Builtin.List.listTooLong (its.toArray.size + its2.toArray.size)) = true := by
    rw [notLongL hsz, Bool.and_false]
    exact Bool.false_ne_true
  refine call_meets F.slot_list_extend ⟨_, e, rfl⟩ F.entry_list_extend (F.args_list_extend_2 _ _)
    (list_extend_tup l its.toArray n b its2.toArray n2 dd sl hlong (by rw [List.size_toArray]; omega) (by omega)) ⟨e, e2, ?_⟩
  refine ⟨.non, _, I.lset (its' := its ++ its2) hH e (by simp) (r.append r2) ?_, rfl, q⟩
  rw [List.length_append]
  omega
end
def omExtendT : OM := fun x ds M Q => match x, ds with
  | .ref n, [.tup k] => match M[n]? with
    | some (.lst l) => l.length + k.length ≤ 16000000 ∧ Q .non (M.set n (.lst (l ++ k)))
    | _ => False
  | _, _ => False
theorem sim_extendT {K : PySem.W.Frag} : SimM K (rExtendT K) omExtendT := fun as H M dx ds x vs k Q rp rx rv h hk => by
  unfold omExtendT at h
  split at h
  · obtain ⟨v, rfl, r1⟩ := rv.one
    cases rx with
    | ref hn =>
      cases r1 with
      | tup hs hl =>
        split at h
        · rename_i l e1
          obtain ⟨xs, g1, g2⟩ := at_lst rp hn e1
          obtain ⟨e7, r7⟩ := put_lst rp hn g1 (g2.app hl)
          exact ⟨_, _, xs, _, rfl, rfl, g1, hs.1, by rw [← g2.len, ← hl.len]; exact Nat.le_trans h.1 (by decide), hk _ _ h.2 as _ _ e7 r7 .non⟩
        · exact h.elim
  · exact h.elim
theorem o_extendT {n : Nat} {l k : List D} {M : Mem} {Q : DK} (e : M[n]? = some (.lst l)) (hz : l.length + k.length ≤ 16000000) (h : Q .non (M.set n (.lst (l ++ k)))) : omExtendT (.ref n) [.tup k] M Q := by
  unfold omExtendT
  dsimp only
  rw [e]
  exact ⟨hz, h⟩
end MV
namespace MV
open PySem PySem.Spec PyProof.Rows L2
/-! ### name = {k: v for ..} on one line, the name a local -/
section
variable {X : Cx}
theorem ps_setDc {i : Nat} {y : Str} {py : Pos} {kx vx tg iter : Expr} {ifs : List Expr} {scope : Scope} {own : List (Str × Nat)} {pos spos : Pos} {wi : TI} {g : TG} {tt : TT} {tk tv : TE} (hc : X.calm = true) (hN : X.N.Nodup) (hy : X.N[i]? = some y) (hyl : X.env.scope.names.lookup y = some .local)
    (hsw : swapsWith (.DictComp kx vx [⟨tg, iter, ifs, 0⟩] scope pos) (some (.Name y py)) spos.line X.env = pure true) (hi : PI X tg iter wi) (ok : BlkOk X.N X.env.scope scope own)
    (hg : ∀ (s : Shared) (H : Hp) (C : Addr) (cl : List (Str × Addr)) (fp : List Addr), PG (X.blk s H scope (compEnvC scope cl C X.env) fp) tg g) (ht : ∀ (s : Shared) (H : Hp) (C : Addr) (cl : List (Str × Addr)) (fp : List Addr), PTs (X.blk s H scope (compEnvC scope cl C X.env) fp) ifs tt)
    (hk : ∀ (s : Shared) (H : Hp) (C : Addr) (cl : List (Str × Addr)) (fp : List Addr), PE (X.blk s H scope (compEnvC scope cl C X.env) fp) kx tk)
    (he : ∀ (s : Shared) (H : Hp) (C : Addr) (cl : List (Str × Addr)) (fp : List Addr), PE (X.blk s H scope (compEnvC scope cl C X.env) fp) vx tv) (hs : ∀ x, foldedSetIterable iter X.env x = pure x := by intro _; rfl) :
    PS X (.Assign [.Name y py] (.DictComp kx vx [⟨tg, iter, ifs, 0⟩] scope pos) spos) (tAsg (tDc wi g tt tk tv (own.map (·.2))) (gName i)) := by
  refine ⟨fun pins s σ H D I h => ?_⟩
  rw [exec_Assign_Name_used _ _ _ _ hsw]
  refine wpAny_bind (wpAny_standAt (wpAny_bind ?_))
  show wpAny _ X.A (do let _ ← comprehension (.DictComp kx vx [⟨tg, iter, ifs, 0⟩] scope pos) scope X.env (firstIterPos [⟨tg, iter, ifs, 0⟩] pos) newDict false (eval iter X.env) (some (assign (.Name y py) X.env))) _ _ s
  have h : tDc wi g tt tk tv (own.map (·.2)) σ H (fun x H1 => gName i x σ H1 D.nx) := h
  refine wpAny_bind (thn (dc_core (Qf := fun _ s' => SP X pins D .next s') hc hN I hi ok hg ht hk he hs h fun L C s' m H' I' q hn f => ?_) fun _ s' hq => wpAny_pure (wpAny_pure hq))
  show wpAny _ _ (assign (.Name y py) X.env (.ref L)) _ _ _
  refine wpAny_assign_Name (store_ok2 (v := V.ref L) I' hN hy (.inl hyl) rfl (fun s2 I2 ⟨a, sb, ha⟩ => ?_) (.inr hyl))
  obtain ⟨f0, f1, f2, f3, f4, f5⟩ := f
  have haC : C ≠ a := by
    rcases ha with z | z
    · rw [z]; exact f1
    · exact fun e => f4 y a z e.symm
  refine ⟨m, hn.sameBut sb haC, fun h3 sb3 => ?_⟩
  exact ⟨_, H', I2.turned (t' := s2.toks) (fun b o hb e => (sb3.2 b hb).trans e) f0 f1 f3 f4 f5, q⟩
end
section
variable {X : Cx} {W : WX} {kx vx tg iter : Expr} {ifs : List Expr} {scope : Scope} {own : List (Str × Nat)} {pos spos : Pos} {mi : MI} {T : Tg} {tt : MT} {mk mv : ME}
theorem qs_setDc {i : Nat} {y : Str} {py : Pos} (hc : X.calm = true) (hN : X.N.Nodup) (hy : X.N[i]? = some y) (hyl : X.env.scope.names.lookup y = some .local)
    (hsw : swapsWith (.DictComp kx vx [⟨tg, iter, ifs, 0⟩] scope pos) (some (.Name y py)) spos.line X.env = pure true) (hi : QI X W tg iter mi) (ok : BlkOk X.N X.env.scope scope own)
    (hg : ∀ (s : Shared) (H : Hp) (C : Addr) (cl : List (Str × Addr)) (fp : List Addr), QG (X.blk s H scope (compEnvC scope cl C X.env) fp) tg T) (ht : ∀ (s : Shared) (H : Hp) (C : Addr) (cl : List (Str × Addr)) (fp : List Addr), QTs (X.blk s H scope (compEnvC scope cl C X.env) fp) W0 ifs tt)
    (hk : ∀ (s : Shared) (H : Hp) (C : Addr) (cl : List (Str × Addr)) (fp : List Addr), QE (X.blk s H scope (compEnvC scope cl C X.env) fp) W0 kx mk)
    (he : ∀ (s : Shared) (H : Hp) (C : Addr) (cl : List (Str × Addr)) (fp : List Addr), QE (X.blk s H scope (compEnvC scope cl C X.env) fp) W0 vx mv) (hT : ∀ i ∈ T.slots, i ∈ own.map (·.2)) (hs : ∀ x, foldedSetIterable iter X.env x = pure x := by intro _; rfl) :
    QS X W (.Assign [.Name y py] (.DictComp kx vx [⟨tg, iter, ifs, 0⟩] scope pos) spos) (mSet i (mDc mi T tt mk mv (own.map (·.2)))) := PSi (ps_setDc (g := T.rd X.K) (tt := lfT X.K W0 tt) (tk := lf X.K W0 mk) (tv := lf X.K W0 mv) hc hN hy hyl hsw hi ok hg ht hk he hs) fun D σ H ⟨as, M, ρ, E, r, rs, h, hE⟩ => by
  have h : mDc mi T tt mk mv (own.map (·.2)) ρ M (fun d M1 => E.nx (ρ.set i (some d)) M1) (fun x M1 => E.ex x ρ M1) := h
  exact lf_dc hT (lf_bind (k := fun d M1 => E.nx (ρ.set i (some d)) M1) (X' := fun x M1 => E.ex x ρ M1) r rs h (exS hE rs) fun d M1 as1 H1 v h1 e1 r1 rs1 rv => hE.nx _ _ h1 as1 H1 _ e1 r1 (rs1.set rv))
theorem sw_trueD {gs : List Comprehension} {py : Pos} {y : Str} {l : Nat} {env : Env} (hk : env.scope.kind = .function) (hy : env.scope.names.lookup y = some .local) (hl : (py.line == pos.line) = true)
    (ha : (scope.names.any fun (n, k) => n == y && (k == .local || k == .cell)) = false) : swapsWith (.DictComp kx vx gs scope pos) (some (.Name y py)) l env = pure true := by
  have ky : env.kindOf y = some .local := hy
  have hb : env.blockKind = .function := by unfold Env.blockKind; rw [hk]; rfl
  unfold swapsWith
  simp only [hb, ky, ha, Expr.pos, hl]
  rfl
end
end MV
namespace MV
open PySem PySem.Spec PyProof.Rows L2
/-! ### self.f, self.g, .. = a tuple; self.f op= e -/
section
variable {X : Cx} {o : Expr} {f : Str} {pos : Pos}
def gFld (K : PySem.W.Frag) (to : TE) (f : Str) : TG := fun v σ H Q => to σ H fun x H1 => ∃ a C dx fs, x = .ref a ∧ H1 a = some (.ins C dx fs) ∧ Cls K C ∧ NoAttr K C f ∧ fs.length < 1000 ∧ Q σ (upd H1 a (.ins C dx (putF f v fs)))
theorem pg_fld {to : TE} (ho : PE X o to) : PG X (.Attribute o f pos) (gFld X.K to f) := by
  refine ⟨fun pins s σ H v u Q I r h => ?_⟩
  refine PySem.W.kas_attr (thn (ho.run pins s σ H _ I h) fun ov s1 ⟨x, H1, I1, rx, a, C, dx, fs, ex, ea, c, n, l, q⟩ => ?_)
  subst ex
  obtain rfl : ov = Value.ref a := rx
  exact setattr_ok I1 ea c n l r fun s3 I3 => ⟨σ, _, I3, q⟩
def gFlds (K : PySem.W.Frag) (i : Nat) : List Str → TGs
  | [] => gNil
  | f :: r => gCons (gFld K (tVar i) f) (gFlds K i r)
theorem qgf_nil {i : Nat} : PGs X [] (gFlds X.K i []) := pgs_nil
theorem qgf_cons (i : Nat) {x : Str} {pos' : Pos} {es : List Expr} {r : List Str} (h : PGs X es (gFlds X.K i r)) (hN : X.N[i]? = some x := by rfl) (hv : Vis X.env.scope x := by first | exact Or.inl rfl | exact Or.inr (Or.inl rfl) | exact Or.inr (Or.inr rfl)) (hd : (x == ("__debug__" : Str)) = false := by decide) (hcd : (x == ("__classdict__" : Str)) = false := by decide)
    (hs : (assignEach (.Attribute (.Name x pos') f pos :: es) X.env).map (·.2) = assign (.Attribute (.Name x pos') f pos) X.env :: (assignEach es X.env).map (·.2) := by rfl) : PGs X (.Attribute (.Name x pos') f pos :: es) (gFlds X.K i (f :: r)) :=
  pgs_cons (pg_fld (pe_var hN hv hd hcd)) h hs
end
def putFs (cs : List Str) (n : Nat) : List Str → List D → Mem → (Mem → Prop) → Prop
  | [], [], M, k => k M
  | f :: r, d :: ds, M, k => match M[n]? with
    | some (.ins c fs) => c ∈ cs ∧ fs.length < 100 ∧ putFs cs n r ds (M.set n (.ins c (putD f d fs))) k
    | _ => False
  | _, _, _, _ => False
def mAsgF (cs : List Str) (i : Nat) (fns : List Str) (me : ME) : MS := fun E ρ M => me ρ M (fun d M1 => match d with
  | .tup ds => match ρ[i]? with
    | some (some (.ref n)) => ds.length = fns.length ∧ putFs cs n fns ds M1 fun M2 => E.nx ρ M2
    | _ => False
  | _ => False) (fun x M1 => E.ex x ρ M1)
theorem putFs_sim {K : PySem.W.Frag} {cs all : List Str} (c : ClsN K cs all) {i n : Nat} {ρ : Ev} {N : Mem → Prop} {Q : L2.St → Hp → Prop} {as : List Addr} {σ : L2.St} : ∀ (fns : List Str) (ds : List D) (vs : List V) (H : Hp) (M : Mem), (∀ f ∈ fns, f ∈ all) → RepM K as H M → RelS K as H ρ σ → RelL K as H ds vs → ρ[i]? = some (some (.ref n)) →
    putFs cs n fns ds M N → (∀ M' H', N M' → Ext K as H as H' → RepM K as H' M' → RelS K as H' ρ σ → Q σ H') → gFlds K i fns vs σ H Q
  | [], [], vs, H, M, hf, r, rs, rl, hi, h, hq => by
    cases rl
    exact ⟨rfl, hq M H h .refl r rs⟩
  | f :: fns, d :: ds, vs, H, M, hf, r, rs, rl, hi, h, hq => by
    cases rl with
    | cons rd rr =>
      rename_i v vs
      obtain ⟨w, e2, rw'⟩ := rs.2 i _ hi
      cases rw' with
      | ref hn =>
        rename_i a
        unfold putFs at h
        split at h
        · rename_i cc fs em
          obtain ⟨hc, hl, h⟩ := h
          obtain ⟨dx, ys, g1, g2⟩ := at_ins r hn em
          refine ⟨v, vs, rfl, .ref a, e2, a, He.ga K cc, dx, ys, rfl, g1, c.cls cc hc, c.no cc hc f (hf f (by simp)), by rw [← g2.len]; omega, ?_⟩
          have e3 := ext_put (u := .ins (He.ga K cc) dx (L2.putF f v ys)) r hn (nfrz_ins g1)
          have r3 : RepM K as _ (M.set n (.ins cc (putD f d fs))) := r.put hn (nfrz_ins g1) ⟨dx, _, upd_same, (g2.putF f rd).up e3⟩
          exact putFs_sim c fns ds vs _ _ (fun g hg => hf g (List.mem_cons_of_mem _ hg)) r3 (rs.up e3) (rr.up e3) hi h fun M' H' a b e f => hq M' H' a (e3.trans b) e f
        · exact h.elim
  | [], _ :: _, _, _, _, _, _, _, _, _, h, _ => h.elim
  | _ :: _, [], _, _, _, _, _, _, _, _, h, _ => h.elim
section
variable {X : Cx} {W : WX} {e : Expr} {es : List Expr} {me : ME} {pos pos' : Pos} {cs all fns : List Str} {i : Nat} {k : Nat}
theorem qs_asgF (c : ClsN X.K cs all) (hf : ∀ f ∈ fns, f ∈ all) (hc : X.calm = true) (he : QE X W e me) (hg : PGs X es (gFlds X.K i fns)) (hn : (assignEach es X.env).length = fns.length := by rfl) (hst : (assignEach es X.env).findIdx? (·.1) = none := by rfl)
    (hs : swapsWithSole [.Tuple es k pos'] e pos.line X.env = pure false := by rfl) (hw : swappedStores [.Tuple es k pos'] e X.env = pure none := by rfl)
    (h1 : (assignEach [.Tuple es k pos'] X.env).map (·.2) = [assign (.Tuple es k pos') X.env] := by rfl) : QS X W (.Assign [.Tuple es k pos'] e pos) (mAsgF cs i fns me) := PSi (ps_asg he (pg_tup hc hg hn hst) hs hw h1) fun D σ H ⟨as, M, ρ, E, r, rs, h, hE⟩ => by
  refine lf_bind r rs h (exS hE rs) fun d M1 as1 H1 v h1 e1 r1 rs1 rv => ?_
  cases rv <;> first | exact h1.elim | skip
  rename_i a xs ds hq hl
  dsimp only at h1
  split at h1
  · rename_i n hi
    obtain ⟨hlen, h1⟩ := h1
    exact ⟨a, xs, rfl, hq.1, by rw [← hl.len]; exact hlen, putFs_sim c fns ds xs H1 M1 hf r1 rs1 hl hi h1 fun M' H' a b e f => hE.nx _ _ a as1 H' σ (e1.trans b) e f⟩
  · exact h1.elim
/-- self.f op= e -/
def mFldAug (cs : List Str) (mo mv : ME) (o : OP) (f : Str) : MS := fun E ρ M => mo ρ M (fun x M1 => match x with
  | .ref n => match M1[n]? with
    | some (.ins c fs) => c ∈ cs ∧ match fs.lookup f with
      | some d => mv ρ M1 (fun y M2 => o d y M2 fun z M3 => match M3[n]? with
        | some (.ins c' fs') => c' = c ∧ fs'.length < 100 ∧ E.nx ρ (M3.set n (.ins c (putD f z fs')))
        | _ => False) (fun x M2 => E.ex x ρ M2)
      | none => False
    | _ => False
  | _ => False) (fun x M1 => E.ex x ρ M1)
end
end MV
namespace MV
open PySem PySem.Spec PyProof.Rows L2
/-! ### x == y by an own __eq__; isinstance with an own class -/
def bts : List String := ["NoneType", "bool", "int", "str", "tuple", "list", "dict"]
def ownTB (K : PySem.W.Frag) (d : Str) : Bool := decide (PySem.W.findIn K (.ref (He.ga K d)) "__class__" = some (some (.builtin "object.__class__"))) &&
  (decide (PySem.W.specialIn K (.builtin "object.__class__") "__get__" = some (some (.builtin "getset_descriptor.__get__"))) && (decide (PySem.W.takesIn K (.builtin "object.__class__") = some true) && decide (PySem.W.mroIn K (He.ga K d) (.type "object") = some true)))
def ownB (K : PySem.W.Frag) (cs : List Str) (c : Str) : Bool := (bts.all fun t => decide (PySem.W.kitOne K (.type t) (.ref (He.ga K c)) = some false) && PySem.W.notFirst K (He.ga K c) (.type t)) &&
  (cs.all fun d => decide (PySem.W.kitOne K (.ref (He.ga K d)) (.ref (He.ga K c)) = some (decide (d = c))) && (PySem.W.notFirst K (He.ga K c) (.ref (He.ga K d)) && ownTB K d))
inductive TyK where
  | b (t : String)
  | c (d : Str)
def TyK.v (K : PySem.W.Frag) : TyK → Value
  | .b t => .type t
  | .c d => .ref (He.ga K d)
def TyK.ok (cs : List Str) : TyK → Prop
  | .b t => t ∈ bts
  | .c d => d ∈ cs
def TyK.is (c : Str) : TyK → Bool
  | .b _ => false
  | .c d => decide (d = c)
structure OwnC (K : PySem.W.Frag) (cs : List Str) (c : Str) : Prop where
  kit : ∀ t : TyK, t.ok cs → PySem.W.kitOne K (t.v K) (.ref (He.ga K c)) = some (t.is c)
  nf : ∀ t : TyK, t.ok cs → PySem.W.notFirst K (He.ga K c) (t.v K) = true
  ot : ∀ d ∈ cs, ownTB K d = true
theorem ownC_ok {K : PySem.W.Frag} {cs : List Str} {c : Str} (h : ownB K cs c = true) : OwnC K cs c := by
  obtain ⟨h1, h2⟩ := Bool.and_eq_true_iff.mp h
  refine ⟨fun t ht => ?_, fun t ht => ?_, fun d hd => ?_⟩
  · cases t with
    | b t => exact of_decide_eq_true (Bool.and_eq_true_iff.mp (List.all_eq_true.mp h1 t ht)).1
    | c d => exact of_decide_eq_true (Bool.and_eq_true_iff.mp (List.all_eq_true.mp h2 d ht)).1
  · cases t with
    | b t => exact (Bool.and_eq_true_iff.mp (List.all_eq_true.mp h1 t ht)).2
    | c d => exact (Bool.and_eq_true_iff.mp (Bool.and_eq_true_iff.mp (List.all_eq_true.mp h2 d ht)).2).1
  · exact (Bool.and_eq_true_iff.mp (Bool.and_eq_true_iff.mp (List.all_eq_true.mp h2 d hd)).2).2
theorem ownA_ok {K : PySem.W.Frag} {cs : List Str} (h : cs.all (ownB K cs) = true) : ∀ c ∈ cs, OwnC K cs c := fun c hc => ownC_ok (List.all_eq_true.mp h c hc)
def tyK (x : D) (M : Mem) : Option TyK := match x with
  | .non => some (.b "NoneType")
  | .bl _ => some (.b "bool")
  | .int _ => some (.b "int")
  | .str _ => some (.b "str")
  | .tup _ => some (.b "tuple")
  | .ref n => match M[n]? with
    | some (.lst _) => some (.b "list")
    | some (.dct false _) => some (.b "dict")
    | some (.ins c _) => some (.c c)
    | _ => none
  | _ => none
theorem tyK_x {K : PySem.W.Frag} {cs : List Str} {as : List Addr} {H : Hp} {M : Mem} {d : D} {v : V} {t : TyK} (hcl : ∀ c ∈ cs, Cls K (He.ga K c)) (ho : ∀ c ∈ cs, ownTB K c = true) (rp : RepM K as H M) (rd : Rel K as H d v) (e : tyK d M = some t) (ok : t.ok cs) : TyX K H v (t.v K) := by
  cases rd with
  | non => cases e; exact .base .non
  | bl b => cases e; exact .base (.bl b)
  | int b => cases e; exact .base (.int b)
  | str b => cases e; exact .base (.str b)
  | tup hs hl => cases e; exact SqT_ty hs.1
  | ref hn =>
    simp only [tyK] at e
    split at e
    · rename_i l el
      obtain ⟨xs, g1, g2⟩ := at_lst rp hn el
      cases e; exact .base (.lst g1)
    · rename_i kvs el
      obtain ⟨a', ha, ks, h1, h2⟩ := rp.at_ el
      rw [hn] at ha; cases ha
      cases e; exact .base (.dK h2)
    · rename_i c fs el
      obtain ⟨dx, ys, g1, g2⟩ := at_ins rp hn el
      cases e
      have h := ho c ok
      unfold ownTB at h
      obtain ⟨h1, h⟩ := Bool.and_eq_true_iff.mp h
      obtain ⟨h2, h⟩ := Bool.and_eq_true_iff.mp h
      obtain ⟨h3, h4⟩ := Bool.and_eq_true_iff.mp h
      exact .base (.ins g1 (hcl c ok) (of_decide_eq_true h1) (of_decide_eq_true h2) (of_decide_eq_true h3) (of_decide_eq_true h4))
    · cases e
  | _ => cases e
/-- isinstance(x, C) -/
def oIsiC (cs : List Str) : OA := fun xs M Q => match xs with
  | [x, .g c] => c ∈ cs ∧ match tyK x M with
    | some t => t.ok cs ∧ Q (.bl (t.is c)) M
    | none => False
  | _ => False
theorem sim_isiC {K : PySem.W.Frag} {cs all : List Str} (T : ∀ c ∈ cs, OwnC K cs c) (C : ClsN K cs all) : SimA K (rIsi K) (oIsiC cs) := fun as H M ds vs k Q rp rv h hk => by
  unfold oIsiC at h
  split at h
  · rename_i x c
    obtain ⟨v, w, rfl, rx, ry⟩ := rv.two
    cases ry
    obtain ⟨hc, h⟩ := h
    split at h
    · rename_i t et
      obtain ⟨ok, h⟩ := h
      exact ⟨_, _, _, _, _, rfl, .own _, tyK_x C.cls (T c hc).ot rp rx et ok, (T c hc).kit t ok, hk _ _ h as H _ .refl rp (.bl _)⟩
    · exact h.elim
  · exact h.elim
/-- x == y -/
def oEqO (cs : List Str) (c : Str) (w : WF) (gD : List D → List D → List D) : OP := fun x y M Q => match x with
  | .ref a => match M[a]? with
    | some (.ins c' _) => c' = c ∧ match tyK y M with
      | some t => t.ok cs ∧ w (gD [.ref a, y] []) M (fun d M' => match d with | .bl z => Q (.bl z) M' | _ => False) (fun _ _ => False)
      | none => False
    | _ => False
  | _ => False
def isBlV (v : V) : Prop := ∃ z, v = .bl z
def rEqO (K : PySem.W.Frag) (c : Str) (N : Nat) (w : WF) (gV : List V → List V → List V) : R2 := fun x y H Q => ∃ a dx fs t, x = V.ref a ∧ H a = some (.ins (He.ga K c) dx fs) ∧ TyX K H y t ∧ PySem.W.notFirst K (He.ga K c) t = true ∧ spM K N w (gV [x, y] []) H (fun v H' => isBlV v ∧ Q v H') (fun _ _ _ => False)
section
variable {X : Cx} {W : WX} {c : Str} {k : Nat} {ps : List Str} {w : WF} {gD : List D → List D → List D} {f : Addr} {gV : List V → List V → List V}
theorem run_own2 {A : Around} {fd : FuncData} {sp : Sp} {g : List Value → List Value → List Value} {pins : List (Addr × Obj)} {σ : L2.St} {H : Hp} {s : Shared} {Q : VK} {a : Addr} {y : V} {u : Value} {B : Value → Shared → Prop} (F : FnOk X.prog X.w X.K X.mg X.base (L2.CX X.prog X.w) k f fd ps sp) (hr : Room k A) (fr : A.frames = X.A.frames) (hb : KBn X.K fd ps 2 [] g gV)
    (I : Inv X pins σ H s) (ry : RelV y u) (h : sp (gV [.ref a, y] []) H Q (fun _ _ _ => False)) (hB : ∀ v u H' s', Inv X pins σ H' s' → RelV v u → Q v H' → B u s') : wpAny (model X.prog X.w) A (call (.ref f) [.ref a, u]) B X.xe s := by
  have r1 : Vals [V.ref a, y] [Value.ref a, u] := .cons rfl (.cons ry .nil)
  have r2 := hb.rel r1 (zs := []) (ws := []) .nil
  refine wpAny_call (codeAny_mono (F.run A X.stack s H ⟨[.ref a, u], []⟩ (g [.ref a, u] []) (gV [.ref a, y] []) Q _ hr (env_sub I fr) (hb.to s [.ref a, u] [] I.kIn rfl rfl) r2 h) fun r s' hq => ?_)
  cases r with
  | error e =>
    obtain ⟨a, B, H', cls, d, _, _, _, _, _, _, _, z⟩ := hq
    exact z.elim
  | ok fl =>
    cases fl with
    | ret u =>
      obtain ⟨v, H', I', rv, q⟩ := I.after hq
      exact hB v u H' s' I' rv q
    | next => exact False.elim hq
    | brk => exact False.elim hq
    | cont => exact False.elim hq
theorem op_eqO {fd : FuncData} {g : List Value → List Value → List Value} {N : Nat} (hmt : Meth X.K (He.ga X.K c) "__eq__" f) (F : FnOk X.prog X.w X.K X.mg X.base (L2.CX X.prog X.w) k f fd ps (spM X.K N w)) (hr : Room (k + 2) X.A) (hb : KBn X.K fd ps 2 [] g gV) : OpR X (compareOp .Eq) (rEqO X.K c N w gV) := by
  rintro pins s σ H x y v u Q I rx ry ⟨a, dx, fs, t, rfl, ha, ty, hn, hsp⟩
  obtain rfl : v = Value.ref a := rx
  obtain ⟨mA, J, _⟩ := ins_get I.hok ha
  obtain ⟨od, J, _⟩ := J.look
  obtain ⟨m, hF⟩ := I.fr
  obtain ⟨P, Z, hP, _⟩ := kit_of I ry ty
  have hr2 : Room k X.A := hr.mono (by omega)
  show wpAny _ _ (richCompare .Eq (.ref a) u) _ _ _
  refine PySem.W.cmp_K (op := .Eq) (tb := t) hr2.units0 hF I.ok.mod.kin J (Z.ty _ _ I.kIn hP) hn hmt.at_ hmt.fn ?_
  refine run_own2 F hr2 rfl hb I ry hsp fun v u H' s' I' rv q => ?_
  obtain ⟨⟨z, rfl⟩, q⟩ := q
  obtain rfl : u = Value.bool z := rv
  exact ⟨.bl z, H', I', rfl, q⟩
theorem sim_eqO {cs all : List Str} {N : Nat} (C : ClsN X.K cs all) (T : OwnC X.K cs c)
    (hrel : ∀ (as : List Addr) (H : Hp) (ds es : List D) (vs zs : List V), ds.length = 2 → es.length = 0 → RelL X.K as H ds vs → RelL X.K as H es zs → RelL X.K as H (gD ds es) (gV vs zs)) (hgl : ∀ (ds es : List D), ds.length = 2 → es.length = 0 → (gD ds es).length = N) : SimO X.K (rEqO X.K c N w gV) (oEqO cs c w gD) := fun as H M dx dy x y k Q rp rx ry h hk => by
  unfold oEqO at h
  split at h
  · rename_i n
    split at h
    · rename_i c' fs em
      obtain ⟨rfl, h⟩ := h
      split at h
      · rename_i t et
        obtain ⟨ok, h⟩ := h
        cases rx with
        | ref hn =>
          rename_i a
          obtain ⟨dx, ys, g1, g2⟩ := at_ins rp hn em
          have rg := hrel as H [.ref n, dy] [] [.ref a, y] [] rfl rfl (.cons (.ref hn) (.cons ry .nil)) .nil
          refine ⟨a, dx, ys, _, rfl, g1, tyK_x C.cls T.ot rp ry et ok, T.nf t ok, spM_of rp rg (by rw [← rg.len]; exact hgl _ _ rfl rfl) h (fun d M' q as' H' v e r' rd => ?_) fun x M' q => q.elim⟩
          cases rd <;> first | exact q.elim | exact ⟨⟨_, rfl⟩, hk _ M' q as' H' _ e r' (.bl _)⟩
      · exact h.elim
    · exact h.elim
  · exact h.elim
theorem qe_eqO {cs all : List Str} {a b : Expr} {ma mb : ME} {pos : Pos} (C : ClsN X.K cs all) (T : OwnC X.K cs c) (hmt : Meth X.K (He.ga X.K c) "__eq__" f) (F : Fn X.prog X.w X.K X.mg X.base k f ps w 2 [] gD) (hr : Room (k + 2) X.A) (hgl : ∀ (ds es : List D), ds.length = 2 → es.length = ([] : List Str).length → (gD ds es).length = ps.length) (ha : QE X W a ma) (hb : QE X W b mb) :
    QE X W (.Compare a [.Eq] [b] pos) (mOp (oEqO cs c w gD) ma mb) := by
  obtain ⟨⟨fd, G, ⟨g, gV, hb', hrel⟩⟩, kp⟩ := F
  exact qe_cmp (op_eqO hmt G hr hb') (sim_eqO C T hrel hgl) ha hb (nomark _)
theorem qt_eqO {cs all : List Str} {a b : Expr} {ma mb : ME} {pos : Pos} (C : ClsN X.K cs all) (T : OwnC X.K cs c) (hmt : Meth X.K (He.ga X.K c) "__eq__" f) (F : Fn X.prog X.w X.K X.mg X.base k f ps w 2 [] gD) (hr : Room (k + 2) X.A) (hgl : ∀ (ds es : List D), ds.length = 2 → es.length = ([] : List Str).length → (gD ds es).length = ps.length) (ha : QE X W a ma) (hb : QE X W b mb) :
    QT X W (.Compare a [.Eq] [b] pos) (mB (mOp (oEqO cs c w gD) ma mb)) := by
  obtain ⟨⟨fd, G, ⟨g, gV, hb', hrel⟩⟩, kp⟩ := F
  exact qt_cmp (op_eqO hmt G hr hb') (sim_eqO C T hrel hgl) ha hb (nomark _)
end
end MV
namespace MV
open PySem PySem.Spec PyProof.Rows L2
/-! ### dicts whose keys are tuples of texts and numbers -/
section
variable {X : Cx} {pins : List (Addr × Obj)} {σ : L2.St} {H : Hp} {s : Shared}
/-- d[k] = v by a comprehension, the key a tracked tuple -/
theorem d_dictSetT {E : Value → Shared → Prop} {D b : Addr} {kvs : List (List Key × V)} {k : List Key} {y v : V} {u r : Value} {Q : Unit → Shared → Prop} (I : Inv X pins σ H s) (hD : H D = some (.dT kvs)) (hy : y = .ref b) (hb : H b = some (.tup (k.map kV))) (hz : kvs.length < sizeLine)
    (hu : X.A.units < cLine) (ry : RelV y u) (rv : RelV v r) (h : ∀ s', Inv X pins σ (upd H D (.dT (putK kvs k v))) s' → Q () s') : wpAny (model X.prog X.w) X.A (dictSet D u r) Q E s := by
  subst hy
  cases (show u = Value.ref b from ry)
  obtain ⟨z, hd, xs, rel, dd⟩ := dt_of I.hok hD
  have hx : xs.length ≤ sizeLine := by rw [← Paired.length rel]; exact z
  have hl : (putK kvs k v).length ≤ sizeLine := by have := length_putK kvs k v; omega
  refine wpAny_dictSet_heap (knd := tupleKind (mixKind X.prog X.w)) (hsz := hx) hu (key_of I.hok hb) dd fun h' dd' hs => h _ ?_
  obtain ⟨q, es, ep, hq, h2, h3, h4, _, h5⟩ := dd'
  refine d_write I (by rw [hD]; exact True.intro) hs ⟨q, hq⟩ ⟨hl, hd, _, (rel.put k hb rv).keeps fun c ys ec => ?_, q, es, ep, hq, h2, h3, h4, h5⟩
  rw [upd_ne (ne_of ec hD fun z => nomatch z)]; exact ec
/-- the entries with their values -/
theorem frzTv {d : Addr} {o : Obj} {kvs : List (List Key × V)} (I : Inv X pins σ H s) (h : H d = some (.frz o (.dT kvs))) : (d == sysModules) = false ∧ s.heap.get? d = some o ∧ o.ExactDict ∧ ∃ (es : Array DictEntry) (ep : Nat), o.data = .dict es ep ∧ es.size = kvs.length ∧
    ∀ (i : Nat) (k : List Key) (v : V), kvs[i]? = some (k, v) → ∃ (en : DictEntry) (q : Addr), es[i]? = some en ∧ en.key = .ref q ∧ H q = some (.tup (k.map kV)) ∧ RelV v en.val := by
  obtain ⟨hd, z, hs, xs, pr, o', es, ep, ho, hx, hdt, he, _⟩ := I.hok d _ h
  rw [hd] at ho
  cases ho
  refine ⟨hs, hd, hx, es, ep, hdt, ?_, fun i k v e => ?_⟩
  · have l1 : es.size = xs.length := size_of_entries he
    have l2 : kvs.length = xs.length := Paired.length pr
    rw [l1, l2]
  · obtain ⟨b, hb, e1, e2, e3⟩ := paired_get pr e
    have q := entry_at he i
    rw [hb] at q
    exact ⟨_, b.2.1, q, rfl, e2, e3⟩
end
section
variable {X : Cx}
/-- {k: v for target in iter if ..}, the keys tuples: D the new dict -/
def tDcT (wi : TI) (g : TG) (tt : TT) (tk tv : TE) (vs : List Nat) : TE := fun τ H Q => wi τ H fun J H1 => ∀ D, H1 D = none → ∃ W : Nat → Nat → Hp → Prop, (∃ m, W 0 m (upd H1 D (.dT []))) ∧ ∀ i m H, W i m H →
  (J.stop i H ∧ Q (.ref D) H) ∨ (J.go i H ∧ ∃ Nx : Hp → Prop, (∀ H', Nx H' → ∃ m', m' < m ∧ W (i + 1) m' H') ∧ ∀ x H', J.yld i H x H' → g x (wipe τ vs) H' fun τ2 H2 => wipe τ2 vs = wipe τ vs ∧ tt τ2 H2 fun b H3 =>
    if b = true then tk τ2 H3 fun y H4 => tv τ2 H4 fun z H5 => ∃ ent k a, y = V.ref a ∧ H5 a = some (.tup (k.map kV)) ∧ H5 D = some (.dT ent) ∧ ent.length < sizeLine ∧ Nx (upd H5 D (.dT (putK ent k z))) else Nx H3)
theorem dcT_core {pn0 : List (Addr × Obj)} {s : Shared} {τ : L2.St} {H : Hp} {Q : VK} {kex vex tar itr : Expr} {tsts : List Expr} {scp : Scope} {ows : List (Str × Nat)} {pos pos' : Pos} {wi : TI} {g : TG} {tt : TT} {tk tv : TE} {use : Option (Value → Sem Unit)} {Qf : Value → Shared → Prop}
    (hu : X.A.units < cLine) (calm : X.calm = true) (nodp : X.N.Nodup) (I : Inv X pn0 τ H s) (hi : PI X tar itr wi) (ok : BlkOk X.N X.env.scope scp ows)
    (hg : ∀ (s : Shared) (H : Hp) (C : Addr) (cl : List (Str × Addr)) (fq : List Addr), PG (X.blk s H scp (compEnvC scp cl C X.env) fq) tar g) (ht : ∀ (s : Shared) (H : Hp) (C : Addr) (cl : List (Str × Addr)) (fq : List Addr), PTs (X.blk s H scp (compEnvC scp cl C X.env) fq) tsts tt)
    (hk : ∀ (s : Shared) (H : Hp) (C : Addr) (cl : List (Str × Addr)) (fq : List Addr), PE (X.blk s H scp (compEnvC scp cl C X.env) fq) kex tk)
    (he : ∀ (s : Shared) (H : Hp) (C : Addr) (cl : List (Str × Addr)) (fq : List Addr), PE (X.blk s H scp (compEnvC scp cl C X.env) fq) vex tv) (hs : ∀ x, foldedSetIterable itr X.env x = pure x)
    (h : tDcT wi g tt tk tv (ows.map (·.2)) τ H Q)
    (fin0 : ∀ D C s' m H', Inv X pn0 τ H' s' → Q (.ref D) H' → s'.heap.Ns C m → FpOk X pn0 H' C → compPost (model X.prog X.w) X.A X.xe use Qf (.ref D) C (.ok .next) s') :
    wpAny (model X.prog X.w) X.A (comprehension (.DictComp kex vex [⟨tar, itr, tsts, 0⟩] scp pos) scp X.env pos' newDict false (eval itr X.env) use) Qf X.xe s := by
  have fre : ∀ y ∈ scp.names, y.2 = .free → ∃ c, X.env.cells.lookup y.1 = some c := fun y hy e => by
    rcases (ok.free y hy e) with k | k
    · exact I.ok.has _ (.inl k)
    · exact I.ok.has _ (.inr k)
  refine wpAny_comprehension_free (use := use) rfl hs (closure_ok fre) ok.kind (fun y hy e => by rw [ok.uniq y hy, e])
    (thn (hi.run pn0 s τ H _ I h) fun xv s1 hx => thn hx fun itx s2 h2 => ?_)
  obtain ⟨it, fq, tn, J, H2, e, I2, T, st2, f2, q⟩ := h2
  subst e
  refine (wpAny_newObj_type (newEnv_comp ?_))
  generalize eD : s2.heap.objs.size = D
  have eDn : H2 D = none := I2.hok.fresh (Nat.le_of_eq eD)
  obtain ⟨W, ⟨mz, wz⟩, trn⟩ := q D eDn
  -- the new list
  generalize es3 : ({ s2 with heap := s2.heap.push { cls := .type "dict", data := .dict #[] } } : Shared) = z3
  have J3 : Inv X pn0 τ (upd H2 D (.dT [])) z3 := by
    rw [← es3]
    refine I2.laid (t' := s2.toks) (fun b o e => Heap.get?_push_of_some _ e) (Nat.le_of_eq eD) ?_
    rw [← eD]
    exact dt_empty s2.heap I2.big
  have h3 : z3.heap = s2.heap.push { cls := .type "dict", data := .dict #[] } := by rw [← es3]
  have lts : ∀ b ∈ fq, b < s2.heap.objs.size := fun b hb => by
    obtain ⟨ob, e, _⟩ := T.obj _ _ st2 b hb
    exact Heap.lt_size e
  have fq3 : ∀ b ∈ fq, FpOk X pn0 (upd H2 D (.dT [])) b ∧ b < z3.heap.objs.size := fun b hb => by
    have hlt := lts b hb
    refine ⟨⟨?_, (f2 b hb).2⟩, by
      rw [h3, Heap.size_push]; exact Nat.lt_succ_of_lt hlt⟩
    rw [upd_ne (by rw [← eD]; exact Nat.ne_of_lt hlt)]
    exact (f2 b hb).1
  have tn3 : tn 0 z3.heap := T.keep _ _ _ st2 fun b _ o e => by rw [h3]; exact Heap.get?_push_of_some _ e
  have J4 := block_start J3 ok nodp fq3
  have pg := hg z3 (upd H2 D (.dT [])) z3.heap.objs.size (cellsFrom (z3.heap.objs.size + 1) scp.names (cloFrom X.env.cells scp.names [])) fq
  have pt := ht z3 (upd H2 D (.dT [])) z3.heap.objs.size (cellsFrom (z3.heap.objs.size + 1) scp.names (cloFrom X.env.cells scp.names [])) fq
  have pk := hk z3 (upd H2 D (.dT [])) z3.heap.objs.size (cellsFrom (z3.heap.objs.size + 1) scp.names (cloFrom X.env.cells scp.names [])) fq
  have pe := he z3 (upd H2 D (.dT [])) z3.heap.objs.size (cellsFrom (z3.heap.objs.size + 1) scp.names (cloFrom X.env.cells scp.names [])) fq
  show codeAny _ _ (.compStart (.DictComp kex vex [⟨tar, itr, tsts, 0⟩] scp pos) 0 (.ref it) (.ref D) (compEnvC scp (cellsFrom (z3.heap.objs.size + 1) scp.names (cloFrom X.env.cells scp.names [])) z3.heap.objs.size X.env)) (compPost (model X.prog X.w) X.A X.xe use Qf (.ref D) z3.heap.objs.size) { z3 with heap := pushCells (z3.heap.push { cls := .type "dict", data := .dict #[] }) scp.names }
  have nfq : ∀ b ∈ fq, (upd H2 D (.dT [])) b = none := fun b hb => (fq3 b hb).1.1
  generalize ece : compEnvC scp (cellsFrom (z3.heap.objs.size + 1) scp.names (cloFrom X.env.cells scp.names [])) z3.heap.objs.size X.env = ce at J4 pg pt pk pe ⊢
  have eL : ce.locals = z3.heap.objs.size := by subst ece; rfl
  generalize hH3 : upd H2 D (.dT []) = G3 at J3 J4 pg pt pk pe wz nfq fq3
  generalize hs4 : ({ z3 with heap := pushCells (z3.heap.push { cls := .type "dict", data := .dict #[] }) scp.names } : Shared) = z4 at J4 ⊢
  have tn4 : tn 0 z4.heap := T.keep _ _ _ tn3 fun b _ o e => by rw [← hs4]; exact pushCells_keeps _ _ _ _ (Heap.get?_push_of_some _ e)
  have fpk : ∀ {σ' : L2.St} {H' : Hp} {s' : Shared}, Inv (X.blk z3 G3 scp ce fq) [] σ' H' s' → (∀ b ∈ fq, H' b = none) → ∀ b ∈ fq, FpOk (X.blk z3 G3 scp ce fq) [] H' b := fun {σ' H' s'} I' hn b hb =>
    ⟨hn b hb, (I'.ok.exf b hb).1, I'.ok.exfs b hb, Or.inl hb, fun x c e => (I'.ok.exf b hb).2 x c e, fun p hp => absurd (show p ∈ ([] : List (Addr × Obj)) ++ [] from hp) (by simp)⟩
  have lop : codeAny (model X.prog X.w) X.A (.compLoop (.DictComp kex vex [⟨tar, itr, tsts, 0⟩] scp pos) 0 (.ref it) (.ref D) ce) (compPost (model X.prog X.w) X.A X.xe use Qf (.ref D) z3.heap.objs.size) z4 := by
    refine compLoop_anyD (fun n s' => ∃ i H', Inv (X.blk z3 G3 scp ce fq) [] (wipe τ (ows.map (·.2))) H' s' ∧ tn i s'.heap ∧ (∀ b ∈ fq, H' b = none) ∧ W i n H') ?_ mz ⟨0, G3, J4, tn4, nfq, wz⟩
    rintro n z5 ⟨i, G5, J5, st5, n5, w5⟩
    rcases trn i n G5 w5 with ⟨stop, qq⟩ | ⟨go, Nx, toNx, step⟩
    · have td := T.done (X.blk z3 G3 scp ce fq) rfl rfl rfl calm i [] z5 _ G5 (fun _ _ => False) J5 (fpk J5 n5) st5 stop
      refine thnF td fun r z6 ⟨hr, J6⟩ => ?_
      subst hr
      -- back in the def's context
      have J7 : Inv X pn0 τ G5 z6 := J3.call' (ch := fq) J6.os J6.base J6.hok J6.bare fun b hb => ⟨(fq3 b hb).1.2.2.2.1, (fq3 b hb).1.2.1, (fq3 b hb).1.2.2.2.2.1, (fq3 b hb).1.2.2.2.2.2⟩
      have nfr : G5 z3.heap.objs.size = none := by
        have z : G5 ce.locals = none := J6.free
        rw [eL] at z
        exact z
      obtain ⟨m, hn, _⟩ := J6.loc
      have hn : z6.heap.Ns ce.locals m := hn
      rw [eL] at hn
      exact fin0 D z3.heap.objs.size z6 m G5 J7 qq hn (J3.fpOk (Nat.le_refl _) nfr)
    · have ti := T.item (X.blk z3 G3 scp ce fq) rfl rfl rfl calm i [] z5 _ G5 (fun _ _ => False) J5 (fpk J5 n5) st5 go
      refine thnF ti fun r z6 ⟨u, hr, h6⟩ => ?_
      subst hr
      refine thnF h6 fun _ z7 ⟨x, G7, J7, r7, y7, st7, n7⟩ => ?_
      have I7' := J7.pinned (fpk J7 n7) (T.obj _ _ st7)
      refine thnF (pg.run _ z7 _ G7 x u _ I7' r7 (step x G7 y7)) fun _ z8 ⟨σ8, G8, J8, hw8, q8⟩ => ?_
      refine thnF (pt.run _ z8 σ8 G8 _ J8 q8) fun b z9 ⟨G9, J9, q9⟩ => ?_
      -- the turn's end
      have fin : ∀ {s' : Shared} {H' : Hp}, Inv (X.blk z3 G3 scp ce fq) ([] ++ pinsAt fq z7.heap) σ8 H' s' → Nx H' → ∃ m, m < n ∧ ∃ i H', Inv (X.blk z3 G3 scp ce fq) [] (wipe τ (ows.map (·.2))) H' s' ∧ tn i s'.heap ∧ (∀ b ∈ fq, H' b = none) ∧ W i m H' := fun {s' H'} I' nx => by
        obtain ⟨m', hm, w'⟩ := toNx H' nx
        have pin' : ∀ b ∈ fq, ∀ o, z7.heap.get? b = some o → s'.heap.get? b = some o ∧ H' b = none := fun b hb o e =>
          let zz := I'.pin (b, o) (List.mem_append_right _ (List.mem_append_right _ (mem_pinsAt hb e)))
          ⟨zz.1, zz.2.1⟩
        have hl : (wipe τ (ows.map (·.2))).length = σ8.length := by rw [← hw8, wipe_length]
        refine ⟨m', hm, i + 1, H', (I'.unpinned (pins := [])).weak hl (fun j v e => ?_), T.keep _ _ _ st7 fun b hb o e => (pin' b hb o e).1, fun b hb => ?_, w'⟩
        · rw [← hw8] at e
          exact (wipe_some e).1
        · obtain ⟨o, e, -⟩ := T.obj _ _ st7 b hb
          exact (pin' b hb o e).2
      cases b with
      | false =>
        rw [if_neg Bool.false_ne_true] at q9 ⊢
        exact fin J9 q9
      | true =>
        simp only [if_true] at q9 ⊢
        refine thnF (pk.run _ z9 σ8 G9 _ J9 q9) fun z z10 ⟨yk, G10, J10, r10, q10⟩ => ?_
        refine thnF (pe.run _ z10 σ8 G10 _ J10 q10) fun z2 z11 ⟨yv, G11, J11, r11, ent, k, b1, ek, hb11, hD11, hz11, nx⟩ => ?_
        exact d_dictSetT (X := X.blk z3 G3 scp ce fq) J11 hD11 ek hb11 hz11 hu r10 r11 fun z12 J12 => fin J12 nx
  exact codeAny_compStart_dict lop (T.self X.A 0 _ _ _ tn4 lop)
theorem pe_dcT {kex vex tar itr : Expr} {tsts : List Expr} {scp : Scope} {ows : List (Str × Nat)} {pos : Pos} {wi : TI} {g : TG} {tt : TT} {tk tv : TE} (hu : X.A.units < cLine) (hc : X.calm = true) (hN : X.N.Nodup) (hi : PI X tar itr wi) (ok : BlkOk X.N X.env.scope scp ows)
    (hg : ∀ (s : Shared) (H : Hp) (C : Addr) (cl : List (Str × Addr)) (fq : List Addr), PG (X.blk s H scp (compEnvC scp cl C X.env) fq) tar g) (ht : ∀ (s : Shared) (H : Hp) (C : Addr) (cl : List (Str × Addr)) (fq : List Addr), PTs (X.blk s H scp (compEnvC scp cl C X.env) fq) tsts tt)
    (hk : ∀ (s : Shared) (H : Hp) (C : Addr) (cl : List (Str × Addr)) (fq : List Addr), PE (X.blk s H scp (compEnvC scp cl C X.env) fq) kex tk)
    (he : ∀ (s : Shared) (H : Hp) (C : Addr) (cl : List (Str × Addr)) (fq : List Addr), PE (X.blk s H scp (compEnvC scp cl C X.env) fq) vex tv) (hs : ∀ x, foldedSetIterable itr X.env x = pure x := by intro _; rfl) :
    PE X (.DictComp kex vex [⟨tar, itr, tsts, 0⟩] scp pos) (tDcT wi g tt tk tv (ows.map (·.2))) := by
  refine ⟨fun pn0 s τ H Q I h => ?_⟩
  rw [arm_eval_DictComp]
  refine dcT_core hu hc hN I hi ok hg ht hk he hs h fun D C s' m H' I' q hn f => ⟨m, hn, fun h2 sb => ?_⟩
  obtain ⟨f0, f1, f2, f3, f4, f5⟩ := f
  exact ⟨V.ref D, H', I'.turned (t' := s'.toks) (fun b o hb e => (sb.2 b hb).trans e) f0 f1 f3 f4 f5, rfl, q⟩
end
/-! the pairs of a dict with tuple keys, each a new tuple -/
def Itit (d : Addr) (o : Obj) (kvs : List (List Key × V)) : It :=
  ⟨fun i H => H d = some (.frz o (.dT kvs)) ∧ i < kvs.length, fun i H x H' => ∃ T k v q, kvs[i]? = some (k, v) ∧ x = .ref T ∧ H T = none ∧ H q = some (.tup (k.map kV)) ∧ H' = upd H T (.tup [.ref q, v]), fun i H => H d = some (.frz o (.dT kvs)) ∧ kvs.length ≤ i⟩
theorem raw_of {h : Heap} {d : Addr} {o : Obj} {es : Array DictEntry} {ep : Nat} (a : h.get? d = some o) (b : o.ExactDict) (c : o.data = .dict es ep) : DT.Raw h d es ep := ⟨o, a, b, c⟩
section
variable {P : Program} {w : World} {K : PySem.W.Frag} {d : Addr} {o : Obj} {es : Array DictEntry} {ep : Nat}
theorem turn_itemsT {kvs : List (List Key × V)} {elts : List Expr} {kk : Nat} {tpos : Pos} (it : Addr) (hod : o.data = .dict es ep) :
    Turn P w K (.Tuple elts kk tpos) (Itit d o kvs) [it] it (fun i h => ∃ ok ov, IsItemIter h it d i kvs.length ep ok ov) where
  mem := by simp
  obj := fun i h ⟨ok, ov, e⟩ b hb => by
    obtain rfl : b = it := by simpa using hb
    exact ⟨_, e, fun v z => nomatch z⟩
  keep := fun i h h' ⟨ok, ov, e⟩ k => ⟨ok, ov, k it (by simp) _ e⟩
  item := by
    intro X hP hw hK hc i pins s σ H E I hf st hg
    subst hP hw hK
    obtain ⟨hd, hi⟩ := hg
    obtain ⟨hs, hgd, hx, es', ep', hdt, hsz, ent⟩ := frzTv I hd
    obtain ⟨rfl, rfl⟩ := dict_ep hod hdt
    obtain ⟨⟨k, v⟩, hkv⟩ : ∃ p, kvs[i]? = some p := ⟨kvs[i], List.getElem?_eq_getElem hi⟩
    obtain ⟨en, q, hen, hkey, hq, rv⟩ := ent i k v hkv
    obtain ⟨ok, ov, he⟩ := st
    rw [← hsz] at he
    have hie : i < es'.size := by omega
    have hlt : it < s.heap.objs.size := Heap.lt_size he
    have e3 : es'[i] = en := by rw [Array.getElem?_eq_getElem hie] at hen; exact Option.some.inj hen
    refine DT.nextI he (raw_of hgd hx hdt) hie fun h' hO hT hz hk => ?_
    rw [e3] at hO hT
    refine ⟨_, rfl, wpAny_letOwnedTupleGo_items (s := { s with heap := h' }) hO fun h2 he' sb => ?_⟩
    have hT2 : h2.get? s.heap.objs.size = some { cls := .type "tuple", data := .seq #[en.key, en.val] } := (sb.2 _ (Nat.ne_of_gt hlt)).trans hT
    have new : ObjOk X.prog X.w (upd H s.heap.objs.size (.tup [.ref q, v])) h2 s.heap.objs.size (.tup [.ref q, v]) :=
      ⟨by show 2 ≤ sizeLine; decide, [en.key, en.val], .cons hkey (.cons rv .nil), ⟨_, hT2, rfl, _, rfl⟩⟩
    have I1 : Inv X pins σ (upd H s.heap.objs.size (.tup [.ref q, v])) { s with heap := h2 } :=
      I.turnedNew (t' := s.toks) (ch := [it]) (fun b ob hb e => (sb.2 b (by simpa using hb)).trans (hk b ob (by simpa using hb) e)) hf (Nat.le_refl _) new
    refine ⟨.ref s.heap.objs.size, _, I1, rfl, ⟨_, k, v, q, hkv, rfl, I.hok.fresh (Nat.le_refl _), hq, rfl⟩, ⟨en.key, en.val, ?_⟩, fun b hb => ?_⟩
    · rw [← hsz]; exact he'
    · obtain rfl : b = it := by simpa using hb
      rw [upd_ne (Nat.ne_of_lt hlt)]
      exact (hf b (by simp)).1
  done := by
    intro X hP hw hK hc i pins s σ H E I hf st hg
    subst hP hw hK
    obtain ⟨hd, hi⟩ := hg
    obtain ⟨f0, f1, f2, f3, f4, f5⟩ := hf it (by simp)
    obtain ⟨hs, hgd, hx, es', ep', hdt, hsz, ent⟩ := frzTv I hd
    obtain ⟨rfl, rfl⟩ := dict_ep hod hdt
    obtain ⟨ok, ov, he⟩ := st
    rw [← hsz] at he
    exact DT.endI (I.ok.hd hc) he (raw_of hgd hx hdt) (by omega) fun h' eb => ⟨rfl, I.turned (t' := s.toks) (fun b ob hb e => eb b ob hb e) f0 f1 f3 f4 f5⟩
  self := fun A i s Q E st h => let ⟨_, _, e⟩ := st; PySem.W.kcp_self e h
end
def iItemsT (td : TE) : TI := fun σ H R => td σ H fun x H1 => ∃ d o kvs, x = .ref d ∧ H1 d = some (.frz o (.dT kvs)) ∧ R (Itit d o kvs) H1
theorem pi_itemsT {X : Cx} {e : Expr} {td : TE} {apos cpos : Pos} {elts : List Expr} {kk : Nat} {tpos : Pos} (he : PE X e td) (hbase : attributeBase e "items" X.env (eval e X.env) = eval e X.env := by rfl) (hline : (apos.endLine == cpos.line) = true := by rfl) :
    PI X (.Tuple elts kk tpos) (.Call (.Attribute e "items" apos) [] [] cpos) (iItemsT td) := by
  refine ⟨fun pins s σ H R I h => ?_⟩
  refine wpAny_Call_method (T := "dict") (id := "dict.items") hbase rfl hline F.plainAttrs_dict F.slot_dict_items F.type_dict_items (thn (he.run pins s σ H _ I h) fun u s1 ⟨x, H1, I1, rx, d, o, kvs, ex, hd, q⟩ => ?_)
  subst ex
  obtain rfl : u = Value.ref d := rx
  obtain ⟨hs, hgd, hx, es, ep, hdt, hsz, ent⟩ := frzTv I1 hd
  have hr := raw_of hgd hx hdt
  refine ⟨hr.typeIs, fun a e2 => ?_, ?_⟩
  · cases e2
    exact ⟨o, hgd, hx.2.1⟩
  have I2 : Inv X pins σ H1 { s1 with heap := s1.heap.push { cls := .type "dict_items", data := .fields #[.ref d] } } := I1.kept (t' := s1.toks) fun b ob q => Heap.get?_push_of_some _ q
  have fin : wpAny (model X.prog X.w) X.A (pyIter (.ref s1.heap.objs.size)) (PIE X pins σ (.Tuple elts kk tpos) R) X.xe { s1 with heap := s1.heap.push { cls := .type "dict_items", data := .fields #[.ref d] } } := by
    refine DT.iterI (d := d) (es := es) (ep := ep) ⟨_, Heap.get?_push_size _ rfl, rfl, rfl⟩ (hr.push _) (pi_one (tk := s1.toks) I2 _ (turn_itemsT _ hdt) ⟨.none, .none, ?_⟩ q)
    rw [← hsz]
    exact Heap.get?_push_size _ rfl
  show wpAny _ _ (callWith cpos (.builtin "dict.items") [.ref d] [] []) _ X.xe s1
  exact method_meetsIn F.slot_dict_items F.entry_dict_items rfl (PySem.evalArgs_none ⟨rfl, hr.typeIs, F.args_dict_items_1 _, _, DT.meetsItems (es := es) (ep := ep) hs, ⟨hr, fin⟩⟩)
end MV
namespace MV
open PySem PySem.Spec PyProof.Rows L2
/-! ### mirrors of dicts with tuple keys -/
def keyT : List D → Option (List Key)
  | [] => some []
  | d :: r => match keyOf d, keyT r with
    | some k, some l => some (k :: l)
    | _, _ => none
def tkey : D → Option (List Key)
  | .tup ds => if hdS ds = true then keyT ds else none
  | _ => none
/-- the key as a datum -/
def tkD (k : List Key) : D := .tup (k.map kD)
section
variable {K : PySem.W.Frag} {as : List Addr} {H : Hp} {M : Mem}
theorem keyT_ok : ∀ {ds : List D} {xs : List V} {k : List Key}, RelL K as H ds xs → keyT ds = some k → xs = k.map kV
  | [], _, k, r, e => by cases r; cases e; rfl
  | d :: ds, _, k, r, e => by
    cases r with
    | cons h1 h2 =>
      unfold keyT at e
      split at e
      · rename_i q l e1 e2
        cases e
        rw [keyOf_ok h1 e1, keyT_ok h2 e2]; rfl
      · cases e
theorem tkey_ok {d : D} {v : V} {k : List Key} (r : Rel K as H d v) (e : tkey d = some k) : ∃ b, v = .ref b ∧ H b = some (.tup (k.map kV)) := by
  cases r <;> first | (cases e; done) | skip
  rename_i a xs ds hs hl
  unfold tkey at e
  dsimp only at e
  split at e
  · rename_i hh
    have := keyT_ok hl e
    subst this
    exact ⟨a, rfl, hs.2 hh⟩
  · cases e
theorem relL_keys : ∀ k : List Key, RelL K as H (k.map kD) (k.map kV)
  | [] => .nil
  | .inl i :: k => .cons (.int i) (relL_keys k)
  | .inr x :: k => .cons (.str x) (relL_keys k)
theorem nfrz_dT {a : Addr} {xs : List (List Key × V)} (h : H a = some (.dT xs)) : ∀ ob w, H a ≠ some (.frz ob w) := fun ob w z => by rw [h] at z; cases z
theorem at_dtt {n : Nat} {a : Addr} {lk : Bool} {kvs : List (List Key × D)} (rp : RepM K as H M) (hn : as[n]? = some a) (e : M[n]? = some (.dtt lk kvs)) : ∃ ks, KVR K as H kvs ks ∧ Rd H a (.dT ks) := by
  obtain ⟨a', ha, ks, h1, h2⟩ := rp.at_ e
  rw [hn] at ha; cases ha
  cases lk with
  | true => obtain ⟨ob, h2⟩ := h2; exact ⟨ks, h1, .inr ⟨ob, h2⟩⟩
  | false => exact ⟨ks, h1, .inl h2⟩
theorem at_dT {n : Nat} {a : Addr} {kvs : List (List Key × D)} (rp : RepM K as H M) (hn : as[n]? = some a) (e : M[n]? = some (.dtt false kvs)) : ∃ ks, KVR K as H kvs ks ∧ H a = some (.dT ks) := by
  obtain ⟨a', ha, ks, h1, h2⟩ := rp.at_ e
  rw [hn] at ha; cases ha
  exact ⟨ks, h1, h2⟩
theorem put_dtt {n : Nat} {a : Addr} {xs ys : List (List Key × V)} {ds : List (List Key × D)} (rp : RepM K as H M) (hn : as[n]? = some a) (h1 : H a = some (.dT xs)) (r : KVR K as H ds ys) : Ext K as H as (upd H a (.dT ys)) ∧ RepM K as (upd H a (.dT ys)) (M.set n (.dtt false ds)) :=
  have e := ext_put (u := .dT ys) rp hn (nfrz_dT h1)
  ⟨e, rp.put hn (nfrz_dT h1) ⟨ys, r.up e, upd_same⟩⟩
end
/-! d[k] -/
def oIxT : OP := fun x y M Q => match x with
  | .ref n => match M[n]?, tkey y with
    | some (.dtt _ kvs), some k => match dget kvs k with
      | some d => Q d M
      | none => False
    | _, _ => False
  | _ => False
theorem sim_ixT {K : PySem.W.Frag} : SimO K (rIxA K) oIxT := fun as H M dx dy x y k Q rp rx ry h hk => by
  cases rx <;> first | exact h.elim | skip
  rename_i n a hn
  dsimp only [oIxT] at h
  split at h
  · rename_i lk kvs q em eq
    split at h
    · rename_i d e1
      obtain ⟨ks, h1, h2⟩ := at_dtt rp hn em
      obtain ⟨b, rfl, hb⟩ := tkey_ok ry eq
      rcases h1.get q with ⟨g1, g2⟩ | ⟨d', v, g1, g2, rv⟩
      · rw [g1] at e1; cases e1
      · rw [g1] at e1; cases e1
        exact .inr ⟨a, v, rfl, .inr ⟨ks, q, b, h2, rfl, hb, g2.symm⟩, hk _ _ h as H _ .refl rp rv⟩
    · exact h.elim
  · exact h.elim
/-! d[k] = v -/
def oSetIxT (x y v : D) (M : Mem) (N : Mem → Prop) : Prop := match x with
  | .ref n => match M[n]?, tkey y with
    | some (.dtt false kvs), some k => kvs.length < 16000000 ∧ N (M.set n (.dtt false (dput kvs k v)))
    | _, _ => False
  | _ => False
def mSetIxT (mv mo mi : ME) : MS := fun E ρ M => mv ρ M (fun v M1 => mo ρ M1 (fun o M2 => mi ρ M2 (fun i M3 => oSetIxT o i v M3 fun M4 => E.nx ρ M4) (fun x M3 => E.ex x ρ M3)) (fun x M2 => E.ex x ρ M2)) (fun x M1 => E.ex x ρ M1)
section
variable {X : Cx} {W : WX} {e : Expr} {me : ME} {pos : Pos}
theorem setIxT_ok {K : PySem.W.Frag} {as : List Addr} {H : Hp} {M : Mem} {o i v : D} {vo vi vv : V} {N : Mem → Prop} {Q : Hp → Prop} (rp : RepM K as H M) (ro : Rel K as H o vo) (ri : Rel K as H i vi) (rv : Rel K as H v vv) (h : oSetIxT o i v M N)
    (hq : ∀ M' H', N M' → Ext K as H as H' → RepM K as H' M' → Q H') : rSetL vo vi vv H Q ∨ rSetD vo vi vv H Q := by
  cases ro <;> first | exact h.elim | skip
  rename_i n a hn
  dsimp only [oSetIxT] at h
  split at h
  · rename_i kvs q em eq
    obtain ⟨ks, h1, h2⟩ := at_dT rp hn em
    obtain ⟨b, rfl, hb⟩ := tkey_ok ri eq
    obtain ⟨e7, r7⟩ := put_dtt rp hn h2 (h1.put q rv)
    exact .inr ⟨a, _, rfl, .inr ⟨ks, q, b, h2, rfl, hb, by rw [← h1.len]; exact Nat.lt_of_lt_of_le h.1 (by decide), rfl⟩, hq _ _ h.2 e7 r7⟩
  · exact h.elim
theorem qs_setIxT {o i : Expr} {mo mi : ME} {pos' : Pos} (hu : X.A.units + 1 < cLine) (he : QE X W e me) (ho : QE X W o mo) (hi : QE X W i mi)
    (ha : ∀ v, assign (.Subscript o i pos') X.env v = (do
      let ov ← holding [v] (eval o X.env)
      let iv ← holding [v, ov] (eval i X.env)
      standAt pos'
      holding [v, ov, iv] (setItem ov iv v)
      release [v, ov, iv] []) := by intro _; rfl)
    (hs : swapsWithSole [.Subscript o i pos'] e pos.line X.env = pure false := by rfl) (hw : swappedStores [.Subscript o i pos'] e X.env = pure none := by rfl)
    (h1 : (assignEach [.Subscript o i pos'] X.env).map (·.2) = [assign (.Subscript o i pos') X.env] := by rfl) : QS X W (.Assign [.Subscript o i pos'] e pos) (mSetIxT me mo mi) :=
  PSi (ps_asg he (pg_sub ho hi (PSet_or set_list (set_dict hu)) ha) hs hw h1) fun D σ H ⟨as, M, ρ, E, r, rs, h, hE⟩ => by
    refine lf_bind r rs h (exS hE rs) fun v M1 as1 H1 vv h1 e1 r1 rs1 rv => ?_
    refine lf_bind r1 rs1 h1 (fun x M' q => (exS hE rs x M' q).mono e1) fun o M2 as2 H2 vo h2 e2 r2 rs2 ro => ?_
    refine lf_bind r2 rs2 h2 (fun x M' q => (exS hE rs x M' q).mono (e1.trans e2)) fun i M3 as3 H3 vi h3 e3 r3 rs3 ri => ?_
    exact setIxT_ok r3 (ro.up e3) ri (rv.up (e2.trans e3)) h3 fun M' H' q e4 r4 => hE.nx _ _ q as3 H' _ (((e1.trans e2).trans e3).trans e4) r4 (rs3.up e4)
end
/-! d.get(k), d.get(k, x) -/
def mDGet1T (md mk : ME) : ME := fun ρ M Q X => md ρ M (fun x M1 => match x with
  | .ref n => match M1[n]? with
    | some (.dtt _ _) => mk ρ M1 (fun y M2 => match M2[n]?, tkey y with
      | some (.dtt _ kvs), some q => Q ((dget kvs q).getD .non) M2
      | _, _ => False) X
    | _ => False
  | _ => False) X
def mDGet2T (md mk mx : ME) : ME := fun ρ M Q X => md ρ M (fun x M1 => match x with
  | .ref n => match M1[n]? with
    | some (.dtt _ _) => mk ρ M1 (fun y M2 => mx ρ M2 (fun z M3 => match M3[n]?, tkey y with
      | some (.dtt _ kvs), some q => Q ((dget kvs q).getD z) M3
      | _, _ => False) X) X
    | _ => False
  | _ => False) X
section
variable {X : Cx} {W : WX}
theorem qe_dget1T {o e : Expr} {md mk : ME} {apos cpos : Pos} (hu : X.A.units + 1 < cLine) (ho : QE X W o md) (he : QE X W e mk) (m : M1 X o "get" apos e cpos) : QE X W (.Call (.Attribute o "get" apos) [e] [] cpos) (mDGet1T md mk) :=
  PEi (pe_dget1 hu ho he m) fun σ H Q ⟨as, M, ρ, Q', X', r, rs, h, hq, hx⟩ => by
    refine lf_bind r rs h hx fun d M1 as1 H1 v h1 e1 r1 rs1 rv => ?_
    cases rv <;> first | exact h1.elim | skip
    rename_i n a hn
    dsimp only at h1
    split at h1
    · rename_i lk kvs em
      obtain ⟨ks, g1, g2⟩ := at_dtt r1 hn em
      refine ⟨a, rfl, .inr ⟨ks, g2⟩, lf_bind r1 rs1 h1 (fun x M' q => (hx x M' q).mono e1) fun y M2 as2 H2 vy h2 e2 r2 rs2 ry => ?_⟩
      split at h2
      · rename_i lk2 kvs2 q em2 eq
        obtain ⟨ks2, g3, g4⟩ := at_dtt r2 (pre_get e2.pre hn) em2
        obtain ⟨b, rfl, hb⟩ := tkey_ok ry eq
        refine ⟨valV ks2 q, .inr ⟨ks2, q, b, g4, rfl, hb, rfl⟩, hq _ _ h2 as2 H2 _ (e1.trans e2) r2 ?_⟩
        rcases g3.get q with ⟨z1, z2⟩ | ⟨d, v, z1, z2, rd⟩
        · rw [z1, z2]; exact .non
        · rw [z1, z2]; exact rd
      · exact h2.elim
    · exact h1.elim
theorem qe_dget2T {o e f : Expr} {md mk mx : ME} {apos cpos : Pos} (hu : X.A.units + 1 < cLine) (ho : QE X W o md) (he : QE X W e mk) (hf : QE X W f mx) (m : M2 X o "get" apos e f cpos) : QE X W (.Call (.Attribute o "get" apos) [e, f] [] cpos) (mDGet2T md mk mx) :=
  PEi (pe_dget2 hu ho he hf m) fun σ H Q ⟨as, M, ρ, Q', X', r, rs, h, hq, hx⟩ => by
    refine lf_bind r rs h hx fun d M1 as1 H1 v h1 e1 r1 rs1 rv => ?_
    cases rv <;> first | exact h1.elim | skip
    rename_i n a hn
    dsimp only at h1
    split at h1
    · rename_i lk kvs em
      obtain ⟨ks, g1, g2⟩ := at_dtt r1 hn em
      refine ⟨a, rfl, .inr ⟨ks, g2⟩, lf_bind r1 rs1 h1 (fun x M' q => (hx x M' q).mono e1) fun y M2 as2 H2 vy h2 e2 r2 rs2 ry => lf_bind r2 rs2 h2 (fun x M' q => (hx x M' q).mono (e1.trans e2)) fun z M3 as3 H3 vz h3 e3 r3 rs3 rz => ?_⟩
      split at h3
      · rename_i lk2 kvs2 q em2 eq
        obtain ⟨ks2, g3, g4⟩ := at_dtt r3 (pre_get (e2.trans e3).pre hn) em2
        obtain ⟨b, rfl, hb⟩ := tkey_ok (ry.up e3) eq
        refine ⟨valV ks2 q, .inr ⟨ks2, q, b, g4, rfl, hb, rfl⟩, hq _ _ h3 as3 H3 _ ((e1.trans e2).trans e3) r3 ?_⟩
        rcases g3.get q with ⟨z1, z2⟩ | ⟨d, v, z1, z2, rd⟩
        · rw [z1, z2]; exact rz
        · rw [z1, z2]; exact rd
      · exact h3.elim
    · exact h1.elim
/-! {} -/
def mDict0T : ME := fun _ M Q _ => Q (.ref M.length) (M ++ [.dtt false []])
theorem qe_dict0T {pos : Pos} : QE X W (.Dict [] [] pos) mDict0T := PEi pe_dnewT fun σ H Q ⟨as, M, ρ, Q', X', r, rs, h, hq, hx⟩ => fun p hp => new_obj (o := .dtt false []) r hp ⟨[], .nil, upd_same⟩ h hq
end
/-! items -/
def mIItemsT (me : ME) : MI := fun ρ M k X => me ρ M (fun x M1 => match x with
  | .ref n => match M1[n]? with
    | some (.dtt true kvs) => k (kvs.map fun kv => .tup [tkD kv.1, kv.2]) (fun M => M[n]? = some (.dtt true kvs)) M1
    | _ => False
  | _ => False) X
section
variable {X : Cx} {W : WX} {e : Expr} {me : ME}
theorem qi_itemsT {tpos apos cpos : Pos} {elts : List Expr} {kk : Nat} (he : QE X W e me) (hbase : attributeBase e "items" X.env (eval e X.env) = eval e X.env := by rfl) (hline : (apos.endLine == cpos.line) = true := by rfl) : QI X W (.Tuple elts kk tpos) (.Call (.Attribute e "items" apos) [] [] cpos) (mIItemsT me) :=
  PIi (pi_itemsT he hbase hline) fun σ H R ⟨as, M, ρ, k, X', r, rs, h, hq, hx⟩ => by
    refine lf_bind r rs h hx fun d M1 as1 H1 v h1 e1 r1 rs1 rv => ?_
    cases rv <;> first | exact h1.elim | skip
    rename_i n a hn
    dsimp only at h1
    split at h1
    · rename_i kvs e2
      obtain ⟨a', ha, ks, h2, ob, h3⟩ := r1.at_ e2
      rw [hn] at ha; cases ha
      refine ⟨_, ob, ks, rfl, h3, hq _ _ M1 as1 H1 _ h1 e1 r1 fun as' H' M' i e r g => ?_⟩
      have h4 := e.frz _ _ _ h3
      have h5 := h2.up e
      refine ⟨fun hi => ⟨h4, by rw [← h5.len]; simp at hi; omega⟩, fun d hd => ?_⟩
      rw [List.getElem?_map] at hd
      cases hk : kvs[i]? with
      | none => rw [hk] at hd; cases hd
      | some kv =>
        rw [hk] at hd
        simp only [Option.map_some, Option.some.injEq] at hd
        have hl : i < ks.length := by rw [← h5.len]; exact (List.getElem?_eq_some_iff.mp hk).1
        refine ⟨⟨h4, hl⟩, fun x H2 ⟨T, k', v', q, hk', ex, hT, hq', eH⟩ => ?_⟩
        obtain ⟨b, hb, e3, e4⟩ := paired_get h5 hk
        rw [hk'] at hb
        cases hb
        dsimp only at e3 e4
        subst ex eH hd e3
        refine new_pair r hT ?_ e4
        exact .tup ⟨SqT.of hq', fun _ => hq'⟩ (relL_keys kv.1)
    · exact h1.elim
end
/-! a comprehension -/
def mDcTL (guard : Mem → Prop) (T : Tg) (tt : MT) (mk mv : ME) (ρ : Ev) (n : Nat) (Q : Mem → Prop) : List D → Mem → Prop
  | [], M => guard M ∧ Q M
  | d :: ds, M => guard M ∧ T.mg d ρ M fun ρ2 => tt ρ2 M (fun b M3 => if b = true then mk ρ2 M3 (fun y M4 => mv ρ2 M4 (fun z M5 => match M5[n]? with
      | some (.dtt false acc) => match tkey y with
        | some k => acc.length < 16000000 ∧ mDcTL guard T tt mk mv ρ n Q ds (M5.set n (.dtt false (dput acc k z)))
        | none => False
      | _ => False) noX) noX else mDcTL guard T tt mk mv ρ n Q ds M3) noX
def mDcT (mi : MI) (T : Tg) (tt : MT) (mk mv : ME) (vs : List Nat) : ME := fun ρ M Q X => mi ρ M (fun items guard M1 => mDcTL guard T tt mk mv (wipeE ρ vs) M1.length (fun M2 => Q (.ref M1.length) M2) items (M1 ++ [.dtt false []])) X
section
variable {K : PySem.W.Frag} {as : List Addr} {H : Hp} {M : Mem}
theorem lf_dcT {W : WX} {mi : MI} {T : Tg} {tt : MT} {mk mv : ME} {vs : List Nat} (hT : ∀ i ∈ T.slots, i ∈ vs) {σ : L2.St} {H : Hp} {Q : VK} (h : lf K W (mDcT mi T tt mk mv vs) σ H Q) : tDcT (lfI K W mi) (T.rd K) (lfT K W0 tt) (lf K W0 mk) (lf K W0 mv) vs σ H Q := by
  obtain ⟨as, M, ρ, Q', X', r, rs, h, hq, hx⟩ := h
  refine ⟨as, M, ρ, _, X', r, rs, h, fun items guard M1 as1 H1 J h1 e1 r1 ok D hD => ?_, hx⟩
  have rD : RepM K (as1 ++ [D]) (upd H1 D (.dT [])) (M1 ++ [.dtt false []]) := r1.new (o := .dtt false []) hD ⟨[], .nil, upd_same⟩
  have eD : Ext K as1 H1 (as1 ++ [D]) (upd H1 D (.dT [])) := (ext_new hD).trans ext_app
  have nD : (as1 ++ [D])[M1.length]? = some D := by rw [← r1.len]; exact app_at
  refine ⟨fun i m H' => ∃ as' M', Ext K (as1 ++ [D]) (upd H1 D (.dT [])) as' H' ∧ RepM K as' H' M' ∧ i + m = items.length ∧ mDcTL guard T tt mk mv (wipeE ρ vs) M1.length (fun M2 => Q' (.ref M1.length) M2) (items.drop i) M', ⟨items.length, _, _, .refl, rD, by simp, h1⟩, ?_⟩
  rintro i m H' ⟨as', M', e', r', hm, h'⟩
  have e2 := eD.trans e'
  have nD' := pre_get e'.pre nD
  by_cases hl : i < items.length
  · right
    rw [drop_cons hl] at h'
    obtain ⟨hgd, h'⟩ := h'
    obtain ⟨_, ok2⟩ := ok as' H' M' i e2 r' hgd
    obtain ⟨go, yld⟩ := ok2 _ (List.getElem?_eq_getElem hl)
    refine ⟨go, fun H2 => ∃ as2 M2, Ext K (as1 ++ [D]) (upd H1 D (.dT [])) as2 H2 ∧ RepM K as2 H2 M2 ∧ mDcTL guard T tt mk mv (wipeE ρ vs) M1.length (fun M2 => Q' (.ref M1.length) M2) (items.drop (i + 1)) M2, fun H2 ⟨as2, M2, a, b, c⟩ => ⟨m - 1, by omega, as2, M2, a, b, by omega, c⟩, fun x H2 y => ?_⟩
    obtain ⟨e3, r3, rx⟩ := yld x H2 y
    have e4 := e'.trans e3
    have rs3 : RelS K as' H2 (wipeE ρ vs) (L2.wipe σ vs) := (rs.up (e1.trans (e2.trans e3))).wipe vs
    refine T.keep hT (fun σ2 H2' ew q => ⟨?_, q⟩) (T.sim r3 rs3 rx h' fun ρ4 σ4 h4 rs4 => ?_)
    · rw [ew]
      exact wipe_wipe vs σ
    · refine lfT_bind r3 rs4 h4 noX_ok fun b M3 as3 H3 h5 e5 r5 rs5 => ?_
      cases b with
      | true =>
        rw [if_pos rfl] at h5 ⊢
        refine lf_bind r5 rs5 h5 noX_ok fun dy M4 as4 H4 y h6 e6 r6 rs6 ry => ?_
        refine lf_bind r6 rs6 h6 noX_ok fun dz M5 as5 H5 z h7 e7 r7 rs7 rz => ?_
        split at h7
        · rename_i acc ea
          split at h7
          · rename_i k ek
            have e8 := e4.trans (e5.trans (e6.trans e7))
            have n5 := pre_get e8.pre nD
            obtain ⟨ks, g2, g1⟩ := at_dT r7 n5 ea
            obtain ⟨e9, r9⟩ := put_dtt r7 n5 g1 (g2.put k rz)
            obtain ⟨b1, eb1, hb1⟩ := tkey_ok (ry.up e7) ek
            exact ⟨ks, k, b1, eb1, hb1, g1, by rw [← g2.len]; exact Nat.lt_of_lt_of_le h7.1 (by decide), as5, _, e8.trans e9, r9, h7.2⟩
          · exact h7.elim
        · exact h7.elim
      | false =>
        rw [if_neg Bool.false_ne_true] at h5 ⊢
        exact ⟨as3, M3, e4.trans e5, r5, h5⟩
  · left
    have hi' : i = items.length := by omega
    rw [List.drop_eq_nil_of_le (by omega)] at h'
    exact ⟨(ok as' H' M' i e2 r' h'.1).1 hi', hq _ _ h'.2 as' H' _ (e1.trans e2) r' (.ref nD')⟩
end
section
variable {X : Cx} {W : WX} {kx vx tg iter : Expr} {ifs : List Expr} {scope : Scope} {own : List (Str × Nat)} {pos spos : Pos} {mi : MI} {T : Tg} {tt : MT} {mk mv : ME}
theorem qe_dcT (hu : X.A.units < cLine) (hc : X.calm = true) (hN : X.N.Nodup) (hi : QI X W tg iter mi) (ok : BlkOk X.N X.env.scope scope own)
    (hg : ∀ (s : Shared) (H : Hp) (C : Addr) (cl : List (Str × Addr)) (fp : List Addr), QG (X.blk s H scope (compEnvC scope cl C X.env) fp) tg T) (ht : ∀ (s : Shared) (H : Hp) (C : Addr) (cl : List (Str × Addr)) (fp : List Addr), QTs (X.blk s H scope (compEnvC scope cl C X.env) fp) W0 ifs tt)
    (hk : ∀ (s : Shared) (H : Hp) (C : Addr) (cl : List (Str × Addr)) (fp : List Addr), QE (X.blk s H scope (compEnvC scope cl C X.env) fp) W0 kx mk)
    (he : ∀ (s : Shared) (H : Hp) (C : Addr) (cl : List (Str × Addr)) (fp : List Addr), QE (X.blk s H scope (compEnvC scope cl C X.env) fp) W0 vx mv) (hT : ∀ i ∈ T.slots, i ∈ own.map (·.2)) (hs : ∀ x, foldedSetIterable iter X.env x = pure x := by intro _; rfl) :
    QE X W (.DictComp kx vx [⟨tg, iter, ifs, 0⟩] scope pos) (mDcT mi T tt mk mv (own.map (·.2))) := PEi (pe_dcT (g := T.rd X.K) (tt := lfT X.K W0 tt) (tk := lf X.K W0 mk) (tv := lf X.K W0 mv) hu hc hN hi ok hg ht hk he hs) fun σ H Q h => lf_dcT hT h
end
section
variable {X : Cx}
theorem ps_setDcT (hu : X.A.units < cLine) {i : Nat} {y : Str} {py : Pos} {kx vx tg iter : Expr} {ifs : List Expr} {scope : Scope} {own : List (Str × Nat)} {pos spos : Pos} {wi : TI} {g : TG} {tt : TT} {tk tv : TE} (hc : X.calm = true) (hN : X.N.Nodup) (hy : X.N[i]? = some y) (hyl : X.env.scope.names.lookup y = some .local)
    (hsw : swapsWith (.DictComp kx vx [⟨tg, iter, ifs, 0⟩] scope pos) (some (.Name y py)) spos.line X.env = pure true) (hi : PI X tg iter wi) (ok : BlkOk X.N X.env.scope scope own)
    (hg : ∀ (s : Shared) (H : Hp) (C : Addr) (cl : List (Str × Addr)) (fp : List Addr), PG (X.blk s H scope (compEnvC scope cl C X.env) fp) tg g) (ht : ∀ (s : Shared) (H : Hp) (C : Addr) (cl : List (Str × Addr)) (fp : List Addr), PTs (X.blk s H scope (compEnvC scope cl C X.env) fp) ifs tt)
    (hk : ∀ (s : Shared) (H : Hp) (C : Addr) (cl : List (Str × Addr)) (fp : List Addr), PE (X.blk s H scope (compEnvC scope cl C X.env) fp) kx tk)
    (he : ∀ (s : Shared) (H : Hp) (C : Addr) (cl : List (Str × Addr)) (fp : List Addr), PE (X.blk s H scope (compEnvC scope cl C X.env) fp) vx tv) (hs : ∀ x, foldedSetIterable iter X.env x = pure x := by intro _; rfl) :
    PS X (.Assign [.Name y py] (.DictComp kx vx [⟨tg, iter, ifs, 0⟩] scope pos) spos) (tAsg (tDcT wi g tt tk tv (own.map (·.2))) (gName i)) := by
  refine ⟨fun pins s σ H D I h => ?_⟩
  rw [exec_Assign_Name_used _ _ _ _ hsw]
  refine wpAny_bind (wpAny_standAt (wpAny_bind ?_))
  show wpAny _ X.A (do let _ ← comprehension (.DictComp kx vx [⟨tg, iter, ifs, 0⟩] scope pos) scope X.env (firstIterPos [⟨tg, iter, ifs, 0⟩] pos) newDict false (eval iter X.env) (some (assign (.Name y py) X.env))) _ _ s
  have h : tDcT wi g tt tk tv (own.map (·.2)) σ H (fun x H1 => gName i x σ H1 D.nx) := h
  refine wpAny_bind (thn (dcT_core (Qf := fun _ s' => SP X pins D .next s') hu hc hN I hi ok hg ht hk he hs h fun L C s' m H' I' q hn f => ?_) fun _ s' hq => wpAny_pure (wpAny_pure hq))
  show wpAny _ _ (assign (.Name y py) X.env (.ref L)) _ _ _
  refine wpAny_assign_Name (store_ok2 (v := V.ref L) I' hN hy (.inl hyl) rfl (fun s2 I2 ⟨a, sb, ha⟩ => ?_) (.inr hyl))
  obtain ⟨f0, f1, f2, f3, f4, f5⟩ := f
  have haC : C ≠ a := by
    rcases ha with z | z
    · rw [z]; exact f1
    · exact fun e => f4 y a z e.symm
  refine ⟨m, hn.sameBut sb haC, fun h3 sb3 => ?_⟩
  exact ⟨_, H', I2.turned (t' := s2.toks) (fun b o hb e => (sb3.2 b hb).trans e) f0 f1 f3 f4 f5, q⟩
end
section
variable {X : Cx} {W : WX} {kx vx tg iter : Expr} {ifs : List Expr} {scope : Scope} {own : List (Str × Nat)} {pos spos : Pos} {mi : MI} {T : Tg} {tt : MT} {mk mv : ME}
theorem qs_setDcT (hu : X.A.units < cLine) {i : Nat} {y : Str} {py : Pos} (hc : X.calm = true) (hN : X.N.Nodup) (hy : X.N[i]? = some y) (hyl : X.env.scope.names.lookup y = some .local)
    (hsw : swapsWith (.DictComp kx vx [⟨tg, iter, ifs, 0⟩] scope pos) (some (.Name y py)) spos.line X.env = pure true) (hi : QI X W tg iter mi) (ok : BlkOk X.N X.env.scope scope own)
    (hg : ∀ (s : Shared) (H : Hp) (C : Addr) (cl : List (Str × Addr)) (fp : List Addr), QG (X.blk s H scope (compEnvC scope cl C X.env) fp) tg T) (ht : ∀ (s : Shared) (H : Hp) (C : Addr) (cl : List (Str × Addr)) (fp : List Addr), QTs (X.blk s H scope (compEnvC scope cl C X.env) fp) W0 ifs tt)
    (hk : ∀ (s : Shared) (H : Hp) (C : Addr) (cl : List (Str × Addr)) (fp : List Addr), QE (X.blk s H scope (compEnvC scope cl C X.env) fp) W0 kx mk)
    (he : ∀ (s : Shared) (H : Hp) (C : Addr) (cl : List (Str × Addr)) (fp : List Addr), QE (X.blk s H scope (compEnvC scope cl C X.env) fp) W0 vx mv) (hT : ∀ i ∈ T.slots, i ∈ own.map (·.2)) (hs : ∀ x, foldedSetIterable iter X.env x = pure x := by intro _; rfl) :
    QS X W (.Assign [.Name y py] (.DictComp kx vx [⟨tg, iter, ifs, 0⟩] scope pos) spos) (mSet i (mDcT mi T tt mk mv (own.map (·.2)))) := PSi (ps_setDcT (g := T.rd X.K) (tt := lfT X.K W0 tt) (tk := lf X.K W0 mk) (tv := lf X.K W0 mv) hu hc hN hy hyl hsw hi ok hg ht hk he hs) fun D σ H ⟨as, M, ρ, E, r, rs, h, hE⟩ => by
  have h : mDcT mi T tt mk mv (own.map (·.2)) ρ M (fun d M1 => E.nx (ρ.set i (some d)) M1) (fun x M1 => E.ex x ρ M1) := h
  exact lf_dcT hT (lf_bind (k := fun d M1 => E.nx (ρ.set i (some d)) M1) (X' := fun x M1 => E.ex x ρ M1) r rs h (exS hE rs) fun d M1 as1 H1 v h1 e1 r1 rs1 rv => hE.nx _ _ h1 as1 H1 _ e1 r1 (rs1.set rv))
end
/-! locks -/
def mLockT (m : MS) : MS := fun E ρ M => ∃ n kvs, M[n]? = some (.dtt false kvs) ∧ m ⟨fun ρ' M' => M'[n]? = some (.dtt true kvs) ∧ E.nx ρ' (M'.set n (.dtt false kvs)), fun d M' => M'[n]? = some (.dtt true kvs) ∧ E.rt d (M'.set n (.dtt false kvs)),
  fun ρ' M' => M'[n]? = some (.dtt true kvs) ∧ E.bk ρ' (M'.set n (.dtt false kvs)), fun ρ' M' => M'[n]? = some (.dtt true kvs) ∧ E.ct ρ' (M'.set n (.dtt false kvs)), fun x ρ' M' => M'[n]? = some (.dtt true kvs) ∧ E.ex x ρ' (M'.set n (.dtt false kvs))⟩ ρ (M.set n (.dtt true kvs))
def mLockET (m : ME) : ME := fun ρ M Q X => ∃ n kvs, M[n]? = some (.dtt false kvs) ∧ m ρ (M.set n (.dtt true kvs)) (fun d M' => M'[n]? = some (.dtt true kvs) ∧ Q d (M'.set n (.dtt false kvs))) (fun x M' => M'[n]? = some (.dtt true kvs) ∧ X x (M'.set n (.dtt false kvs)))
section
variable {X : Cx} {W : WX} {st : Stmt} {e : Expr}
/-- behind the lock: the same, unlocked -/
theorem rdl_unlT {K : PySem.W.Frag} {H' : Hp} {a : Addr} {ob : Obj} {ks : List (List Key × V)} (hz : H' a = some (.frz ob (.dT ks))) : ∀ b xs, RdL K H' b xs → RdL K (upd H' a (.dT ks)) b xs := fun b xs q => by
  rcases q with ⟨o, q⟩ | q
  · exact .inl ⟨o, by rw [upd_ne (fun z => by rw [z, hz] at q; cases q)]; exact q⟩
  · exact .inr q
theorem tq_unlT {K : PySem.W.Frag} {H' : Hp} {a : Addr} {ob : Obj} {ks : List (List Key × V)} (hz : H' a = some (.frz ob (.dT ks))) : ∀ b ds xs, Tq K H' b ds xs → Tq K (upd H' a (.dT ks)) b ds xs := fun b ds xs q => by
  refine ⟨?_, fun z => by rw [upd_ne (fun z2 => by have q2 := q.2 z; rw [z2, hz] at q2; cases q2)]; exact q.2 z⟩
  have q := q.1
  rcases q with (q | ⟨o, q⟩) | q
  · exact .inl (.inl (by rw [upd_ne (fun z => by rw [z, hz] at q; cases q)]; exact q))
  · exact .inl (.inr ⟨o, by rw [upd_ne (fun z => by rw [z, hz] at q; cases q)]; exact q⟩)
  · exact .inr q
theorem unlock_okT {K : PySem.W.Frag} {as as' : List Addr} {H H' : Hp} {M' : Mem} {n : Nat} {a : Addr} {ob : Obj} {kvs : List (List Key × D)} {ks : List (List Key × V)} (hn : as[n]? = some a) (h0 : H a = some (.dT ks)) (hk : KVR K as H kvs ks)
    (e1 : Ext K as H as (upd H a (.frz ob (.dT ks)))) (e : Ext K as (upd H a (.frz ob (.dT ks))) as' H') (r : RepM K as' H' M') : H' a = some (.frz ob (.dT ks)) ∧ Ext K as H as' (upd H' a (.dT ks)) ∧ RepM K as' (upd H' a (.dT ks)) (M'.set n (.dtt false kvs)) := by
  have hz : H' a = some (.frz ob (.dT ks)) := e.frz _ _ _ upd_same
  have hn' := pre_get e.pre hn
  have e3 := e1.trans e
  have sqt : ∀ b xs, SqT K H' b xs → SqT K (upd H' a (.dT ks)) b xs := fun b xs q => by
    rcases q with (q | ⟨o, q⟩) | q
    · exact .inl (.inl (by rw [upd_ne (fun z => by rw [z, hz] at q; cases q)]; exact q))
    · exact .inl (.inr ⟨o, by rw [upd_ne (fun z => by rw [z, hz] at q; cases q)]; exact q⟩)
    · exact .inr q
  have tpt : ∀ b xs, H' b = some (.tup xs) → upd H' a (.dT ks) b = some (.tup xs) := fun b xs q => by rw [upd_ne (fun z => by rw [z, hz] at q; cases q)]; exact q
  have tqt : ∀ b ds xs, Tq K H' b ds xs → Tq K (upd H' a (.dT ks)) b ds xs := fun b ds xs q => ⟨sqt b xs q.1, fun z => tpt b xs (q.2 z)⟩
  have xdt : ∀ b fs, H' b = some (.xd fs) → upd H' a (.dT ks) b = some (.xd fs) := fun b fs q => by rw [upd_ne (fun z => by rw [z, hz] at q; cases q)]; exact q
  have ext : Ext K as H as' (upd H' a (.dT ks)) := ⟨e3.pre, fun b xs q => sqt b xs (e3.tup b xs q), fun b fs q => xdt b fs (e3.xd b fs q), fun b o u q => by
    rw [upd_ne (fun z => by rw [z, h0] at q; cases q)]; exact e3.frz b o u q, fun b xs q => tpt b xs (e3.tp b xs q)⟩
  refine ⟨hz, ext, ⟨by rw [List.length_set]; exact r.len, r.nd, fun m b q h1 h2 => ?_⟩⟩
  by_cases hm : m = n
  · subst hm
    obtain ⟨hl, _⟩ := List.getElem?_eq_some_iff.mp hn'
    rw [List.getElem?_set_self (by rw [← r.len]; exact hl)] at h2
    cases h2
    rw [hn'] at h1
    cases h1
    exact ⟨ks, hk.up ext, upd_same⟩
  · rw [List.getElem?_set_ne (Ne.symm hm)] at h2
    have ne : b ≠ a := fun z => hm (by
      subst z
      obtain ⟨l1, e1⟩ := List.getElem?_eq_some_iff.mp h1
      obtain ⟨l2, e2⟩ := List.getElem?_eq_some_iff.mp hn'
      exact (List.getElem_inj r.nd).mp (e1.trans e2.symm))
    -- what stands there stays
    have q0 := r.ob m b q h1 h2
    have same : upd H' a (.dT ks) b = H' b := upd_ne ne
    have relL : ∀ {d v}, RelL K as' H' d v → RelL K as' (upd H' a (.dT ks)) d v := fun r => RelL.up0 tqt xdt (rdl_unlT hz) r
    have kvr : ∀ {κ : Type} {l : List (κ × D)} {m : List (κ × V)}, KVR K as' H' l m → KVR K as' (upd H' a (.dT ks)) l m := fun h => Paired.mapP h fun _ _ q => ⟨q.1, Rel.up0 tqt xdt (rdl_unlT hz) q.2⟩
    · cases q with
      | lst ds => obtain ⟨xs, h1, h2⟩ := q0; exact ⟨xs, same.trans h1, relL h2⟩
      | frz ds => obtain ⟨o, xs, h1, h2⟩ := q0; exact ⟨o, xs, same.trans h1, relL h2⟩
      | dct lk kvs =>
        obtain ⟨ks2, h1, h2⟩ := q0
        refine ⟨ks2, kvr h1, ?_⟩
        cases lk with
        | true => obtain ⟨o, h2⟩ := h2; exact ⟨o, same.trans h2⟩
        | false => exact same.trans h2
      | dtt lk kvs =>
        obtain ⟨ks2, h1, h2⟩ := q0
        refine ⟨ks2, kvr h1, ?_⟩
        cases lk with
        | true => obtain ⟨o, h2⟩ := h2; exact ⟨o, same.trans h2⟩
        | false => exact same.trans h2
      | ins c fs => obtain ⟨dx, ys, h1, h2⟩ := q0; exact ⟨dx, ys, same.trans h1, kvr h2⟩
theorem qs_lockT {m : MS} (tk : Takes X W) (h : ∀ W', Takes X W' → QS X W' st m) : QS X W st (mLockT m) := by
  refine ⟨fun pins s σ H D I hw => ?_⟩
  obtain ⟨as, M, ρ, E, r, rs, ⟨n, kvs, em, hm⟩, hE⟩ := hw
  obtain ⟨a, ha, ks, hk, h0⟩ := r.at_ em
  have mu : Mut (some (HO.dT ks)) := True.intro
  obtain ⟨od, I1⟩ := I.lock h0 mu
  have nf := I.nofrz h0 mu
  have e1 : Ext X.K as H as (upd H a (.frz od (.dT ks))) := ext_put r ha (nfrz_dT h0)
  have r1 : RepM X.K as (upd H a (.frz od (.dT ks))) (M.set n (.dtt true kvs)) := r.put ha (nfrz_dT h0) ⟨ks, hk.up e1, od, upd_same⟩
  have un : ∀ {as' H' M'}, Ext X.K as (upd H a (.frz od (.dT ks))) as' H' → RepM X.K as' H' M' → H' a = some (.frz od (.dT ks)) ∧ Ext X.K as H as' (upd H' a (.dT ks)) ∧ RepM X.K as' (upd H' a (.dT ks)) (M'.set n (.dtt false kvs)) := fun {as' H' M'} e r' => unlock_okT ha h0 hk e1 e r'
  have rsU : ∀ {as' H' ρ' σ'}, H' a = some (.frz od (.dT ks)) → RelS X.K as' H' ρ' σ' → RelS X.K as' (upd H' a (.dT ks)) ρ' σ' := fun {as' H' ρ' σ'} hz q => ⟨q.1, fun i d e => let ⟨v, h1, h2⟩ := q.2 i d e; ⟨v, h1, Rel.up0 (tq_unlT hz) (fun b fs q => by rw [upd_ne (fun z => by rw [z, hz] at q; cases q)]; exact q) (rdl_unlT hz) h2⟩⟩
  have rdU : ∀ {as' H' d v}, H' a = some (.frz od (.dT ks)) → Rel X.K as' H' d v → Rel X.K as' (upd H' a (.dT ks)) d v := fun {as' H' d v} hz q => Rel.up0 (tq_unlT hz) (fun b fs q => by rw [upd_ne (fun z => by rw [z, hz] at q; cases q)]; exact q) (rdl_unlT hz) q
  have rxU : ∀ {as' H' x c d}, H' a = some (.frz od (.dT ks)) → RelX X.K as' H' x c d → RelX X.K as' (upd H' a (.dT ks)) x c d := fun {as' H' x c d} hz ⟨h1, dd, xs, h2, h3, h4⟩ =>
    ⟨h1, dd, xs, h2, by rw [upd_ne (fun z => by rw [z, hz] at h3; cases h3)]; exact h3, RelL.up0 (tq_unlT hz) (fun b fs q => by rw [upd_ne (fun z => by rw [z, hz] at q; cases q)]; exact q) (rdl_unlT hz) h4⟩
  let W' : WX := fun c dd σ' H' => H' a = some (.frz od (.dT ks)) ∧ W c dd σ' (upd H' a (.dT ks))
  have tk' : Takes X W' := takes_lock tk nf fun _ _ _ _ q => q
  let D' : Ends := ⟨fun σ' H' => H' a = some (.frz od (.dT ks)) ∧ D.nx σ' (upd H' a (.dT ks)), fun v H' => H' a = some (.frz od (.dT ks)) ∧ D.rt v (upd H' a (.dT ks)), fun σ' H' => H' a = some (.frz od (.dT ks)) ∧ D.bk σ' (upd H' a (.dT ks)), fun σ' H' => H' a = some (.frz od (.dT ks)) ∧ D.ct σ' (upd H' a (.dT ks))⟩
  have nd : NdOk X.K W' as (upd H a (.frz od (.dT ks))) ⟨fun ρ' M' => M'[n]? = some (.dtt true kvs) ∧ E.nx ρ' (M'.set n (.dtt false kvs)), fun d M' => M'[n]? = some (.dtt true kvs) ∧ E.rt d (M'.set n (.dtt false kvs)),
      fun ρ' M' => M'[n]? = some (.dtt true kvs) ∧ E.bk ρ' (M'.set n (.dtt false kvs)), fun ρ' M' => M'[n]? = some (.dtt true kvs) ∧ E.ct ρ' (M'.set n (.dtt false kvs)), fun x ρ' M' => M'[n]? = some (.dtt true kvs) ∧ E.ex x ρ' (M'.set n (.dtt false kvs))⟩ D' := by
    refine ⟨fun ρ' M' q as' H' σ' e r' rs' => ?_, fun d M' q as' H' v e r' rv => ?_, fun ρ' M' q as' H' σ' e r' rs' => ?_, fun ρ' M' q as' H' σ' e r' rs' => ?_, fun x ρ' M' q as' H' σ' c dd e r' rs' rx => ?_⟩
    · obtain ⟨hz, e2, r2⟩ := un e r'
      exact ⟨hz, hE.nx _ _ q.2 as' _ σ' e2 r2 (rsU hz rs')⟩
    · obtain ⟨hz, e2, r2⟩ := un e r'
      exact ⟨hz, hE.rt _ _ q.2 as' _ v e2 r2 (rdU hz rv)⟩
    · obtain ⟨hz, e2, r2⟩ := un e r'
      exact ⟨hz, hE.bk _ _ q.2 as' _ σ' e2 r2 (rsU hz rs')⟩
    · obtain ⟨hz, e2, r2⟩ := un e r'
      exact ⟨hz, hE.ct _ _ q.2 as' _ σ' e2 r2 (rsU hz rs')⟩
    · obtain ⟨hz, e2, r2⟩ := un e r'
      exact ⟨hz, hE.ex _ _ _ q.2 as' _ σ' c dd e2 r2 (rsU hz rs') (rxU hz rx)⟩
  refine thn ((h W' tk').run pins s σ _ D' I1 ⟨as, M.set n (.dtt true kvs), ρ, _, r1, rs.up e1, hm, nd⟩) fun f s1 q => ?_
  cases f with
  | next => obtain ⟨σ', H', I2, e, q⟩ := q; exact ⟨σ', _, I2.unlock e nf, q⟩
  | brk => obtain ⟨σ', H', I2, e, q⟩ := q; exact ⟨σ', _, I2.unlock e nf, q⟩
  | cont => obtain ⟨σ', H', I2, e, q⟩ := q; exact ⟨σ', _, I2.unlock e nf, q⟩
  | ret v => obtain ⟨x, σ', H', I2, r, e, q⟩ := q; exact ⟨x, σ', _, I2.unlock e nf, r, q⟩
theorem qe_lockT {m : ME} (tk : Takes X W) (h : ∀ W', Takes X W' → QE X W' e m) : QE X W e (mLockET m) := by
  refine ⟨fun pins s σ H Q I hw => ?_⟩
  obtain ⟨as, M, ρ, Q', X', r, rs, ⟨n, kvs, em, hm⟩, hq, hx⟩ := hw
  obtain ⟨a, ha, ks, hk, h0⟩ := r.at_ em
  have mu : Mut (some (HO.dT ks)) := True.intro
  obtain ⟨od, I1⟩ := I.lock h0 mu
  have nf := I.nofrz h0 mu
  have e1 : Ext X.K as H as (upd H a (.frz od (.dT ks))) := ext_put r ha (nfrz_dT h0)
  have r1 : RepM X.K as (upd H a (.frz od (.dT ks))) (M.set n (.dtt true kvs)) := r.put ha (nfrz_dT h0) ⟨ks, hk.up e1, od, upd_same⟩
  have un : ∀ {as' H' M'}, Ext X.K as (upd H a (.frz od (.dT ks))) as' H' → RepM X.K as' H' M' → H' a = some (.frz od (.dT ks)) ∧ Ext X.K as H as' (upd H' a (.dT ks)) ∧ RepM X.K as' (upd H' a (.dT ks)) (M'.set n (.dtt false kvs)) := fun {as' H' M'} e r' => unlock_okT ha h0 hk e1 e r'
  have t0 : ∀ {H'}, H' a = some (.frz od (.dT ks)) → ∀ b xs, SqT X.K H' b xs → SqT X.K (upd H' a (.dT ks)) b xs := fun {H'} hz b xs q => by
      rcases q with (q | ⟨o, q⟩) | q
      · exact .inl (.inl (by rw [upd_ne (fun z => by rw [z, hz] at q; cases q)]; exact q))
      · exact .inl (.inr ⟨o, by rw [upd_ne (fun z => by rw [z, hz] at q; cases q)]; exact q⟩)
      · exact .inr q
  have t1 : ∀ {H'}, H' a = some (.frz od (.dT ks)) → ∀ b ds xs, Tq X.K H' b ds xs → Tq X.K (upd H' a (.dT ks)) b ds xs := fun {H'} hz b ds xs q => ⟨t0 hz b xs q.1, fun z => by rw [upd_ne (fun z2 => by have q2 := q.2 z; rw [z2, hz] at q2; cases q2)]; exact q.2 z⟩
  have t2 : ∀ {H'}, H' a = some (.frz od (.dT ks)) → ∀ b fs, H' b = some (.xd fs) → upd H' a (.dT ks) b = some (.xd fs) := fun {H'} hz b fs q => by rw [upd_ne (fun z => by rw [z, hz] at q; cases q)]; exact q
  let W' : WX := fun c dd σ' H' => H' a = some (.frz od (.dT ks)) ∧ W c dd σ' (upd H' a (.dT ks))
  have tk' : Takes X W' := takes_lock tk nf fun _ _ _ _ q => q
  refine thn ((h W' tk').run pins s σ _ (fun v H' => H' a = some (.frz od (.dT ks)) ∧ Q v (upd H' a (.dT ks))) I1 ⟨as, M.set n (.dtt true kvs), ρ, _, _, r1, rs.up e1, hm, fun d M' q as' H' v e r' rv => ?_, fun x M' q as' H' c dd e r' rx => ?_⟩) fun v s1 ⟨x, H1, I2, r, e2, q⟩ => ?_
  · obtain ⟨hz, e2, r2⟩ := un e r'
    exact ⟨hz, hq _ _ q.2 as' _ v e2 r2 (Rel.up0 (t1 hz) (t2 hz) (rdl_unlT hz) rv)⟩
  · obtain ⟨hz, e2, r2⟩ := un e r'
    obtain ⟨g1, dd', xs, g2, g3, g4⟩ := rx
    exact ⟨hz, hx _ _ q.2 as' _ c dd e2 r2 ⟨g1, dd', xs, g2, t2 hz _ _ g3, RelL.up0 (t1 hz) (t2 hz) (rdl_unlT hz) g4⟩⟩
  · exact ⟨x, _, I2.unlock e2 nf, r, q⟩
end
end MV
namespace MV
open PySem PySem.Spec PyProof.Rows L2
/-! ### a text so many times -/
def repS (z : Str) (k : Int) : Str := ⟨(List.replicate k.toNat z.cps).foldl (· ++ ·) #[]⟩
theorem fold_size (z : Array Nat) : ∀ (n : Nat) (acc : Array Nat), ((List.replicate n z).foldl (· ++ ·) acc).size = acc.size + z.size * n
  | 0, acc => by simp
  | n + 1, acc => by
    rw [List.replicate_succ, List.foldl_cons, fold_size z n, Array.size_append, Nat.mul_succ]; omega
def rMulS : R2 := fun x y H Q => ∃ z k, x = .str z ∧ y = .int k ∧ (2 ≤ k ∧ k ≤ 1000) ∧ (1 ≤ z.length ∧ z.length ≤ 1000) ∧ Q (.str (repS z k)) H
theorem op_mulS {X : Cx} : OpR X (binaryOp .Mult) rMulS := by
  intro pins s σ H x y v u Q I rx ry h
  obtain ⟨z, k, rfl, rfl, ⟨h1, h2⟩, ⟨h3, h4⟩, q⟩ := h
  obtain ⟨t, rfl⟩ := rx
  obtain ⟨t', rfl⟩ := ry
  have hk : (k == 1 || z.length == 0) = false := by
    rw [Bool.or_eq_false_iff]
    exact ⟨by simp; omega, by simp; omega⟩
  have hm : z.length * k.toNat ≤ 1000 * 1000 := Nat.mul_le_mul h4 (by omega)
  have hz : (1000000 : Nat) ≤ sizeLine := by decide
  refine PySem.P.mul_str (by
      rw [decide_eq_false (by omega), decide_eq_false (by omega)]; rfl) (fun _ _ hc => ?_) (fun _ _ => ?_) ?_
  · have e : (2 : Int) ^ 63 - 1 = 9223372036854775807 := by decide
    rw [e] at hc
    have : (1000 : Int) ≤ 9223372036854775807 / k := Int.le_ediv_of_mul_le (by omega) (by omega)
    omega
  · unfold Builtin.Str.tooLong
    simp
    omega
  · rw [if_neg (by omega), hk, if_neg Bool.false_ne_true]
    refine ⟨?_, ⟨.str (repS z k), H, I.tok _, ⟨_, rfl⟩, q⟩⟩
    show ((List.replicate k.toNat z.cps).foldl (· ++ ·) #[]).size ≤ _
    rw [fold_size]
    simp
    show z.length * k.toNat ≤ _
    omega
def oMulS : OP := fun x y M Q => match x, y with
  | .str z, .int k => (2 ≤ k ∧ k ≤ 1000) ∧ (1 ≤ z.length ∧ z.length ≤ 1000) ∧ Q (.str (repS z k)) M
  | _, _ => False
theorem sim_mulS {K : PySem.W.Frag} : SimO K rMulS oMulS := fun as H M dx dy x y k Q rp rx ry h hk => by
  cases dx <;> cases dy <;> first | exact h.elim | skip
  cases rx; cases ry
  exact ⟨_, _, rfl, rfl, h.1, h.2.1, hk _ _ h.2.2 as H _ .refl rp (.str _)⟩
end MV
namespace Prf
open PySem L2 MV
def xfl : List Str := ["word", "said"]
def cfl : List Str := []
def ccs : List Str := []
def xs_WeirError : List (Str × Src) := [("word", .arg 0)]
def xs_FormError : List (Str × Src) := [("word", .arg 0)]
def xs_BadWord : List (Str × Src) := [("said", .arg 0), ("word", .word "bad word")]
def xys : List Str := (["BadWord"] : List Str)
def xtab : List (Str × List Bool) := ([("BadWord", [true])] : List (Str × List Bool))
def xsub : Str → Str → Option Bool := tabSub xys xtab
def N_Lfeed : List Str := ["_law_script"]
def m_Lfeed : MS :=
  (mRet (mCB oLst (mCons (mCB oList1 (mCons (mSl (mVar 0) mNoPart (mPart (mC (.int 63)))) mNil)) (mCons (mC (.int 0)) (mCons (mC (.int 0)) (mCons (mC (.int 1)) mNil))))))
def w_Lfeed : WF := wOf N_Lfeed m_Lfeed
def N_Ldraw : List Str := ["_law_feed_here", "_law_many", "_law_got", "_law_cell", "_law_spread"]
def m_Ldraw : MS :=
  (mSeq (mIfS (mB (mOp oGt (mOp oIx (mVar 0) (mC (.int 2))) (mC (.int 0)))) (mSeq (mSet 2 (mOp oMod (mOp oIx (mVar 0) (mC (.int 2))) (mVar 1)))
    (mSeq (mSetIx (mOp oDiv (mOp oIx (mVar 0) (mC (.int 2))) (mVar 1)) (mVar 0) (mC (.int 2)))
    (mRet (mVar 2)))) mNext)
    (mSeq (mSet 3 (mC (.int 0)))
    (mSeq (mIfS (mB (mOp oLt (mOp oIx (mVar 0) (mC (.int 1))) (mCB oLen (mCons (mOp oIx (mVar 0) (mC (.int 0))) mNil)))) (mSeq (mSet 3 (mOp oIx (mOp oIx (mVar 0) (mC (.int 0))) (mOp oIx (mVar 0) (mC (.int 1)))))
    (mSetIx (mOp oAdd (mOp oIx (mVar 0) (mC (.int 1))) (mC (.int 1))) (mVar 0) (mC (.int 1)))) mNext)
    (mSeq (mIfS (mB (mOp oGe (mVar 3) (mC (.int 1000000000000000000)))) (mSeq (mSetIx (mOp oDiv (mVar 3) (mVar 1)) (mVar 0) (mC (.int 2)))
    (mRet (mOp oMod (mVar 3) (mVar 1)))) mNext)
    (mSeq (mSetIx (mOp oMod (mOp oAdd (mOp oAdd (mOp oMul (mOp oIx (mVar 0) (mC (.int 3))) (mC (.int 48271))) (mOp oMod (mVar 3) (mC (.int 1000003)))) (mC (.int 11))) (mC (.int 2147483647))) (mVar 0) (mC (.int 3)))
    (mSeq (mSet 4 (mOp oIx (mCB oLst (mCons (mOp oIx (mVar 0) (mC (.int 3))) (mCons (mOp oPow (mOp oIx (mVar 0) (mC (.int 3))) (mC (.int 4))) mNil))) (mCB oInt1 (mCons (mOp oGt (mVar 1) (mC (.int 100000))) mNil))))
    (mRet (mOp oMod (mOp oAdd (mOp oDiv (mVar 4) (mC (.int 16))) (mVar 3)) (mVar 1)))))))))
def w_Ldraw : WF := wOf N_Ldraw m_Ldraw
def N_Lgcd : List Str := ["_law_one", "_law_other"]
def m_Lgcd : MS :=
  (mSeq (mWhile (mTru (mVar 1)) (mPar 0 1 (mCons (mVar 1) (mCons (mOp oMod (mVar 0) (mVar 1)) mNil))))
    (mRet (mCB oAbs (mCons (mVar 0) mNil))))
def w_Lgcd : WF := wOf N_Lgcd m_Lgcd
def N_Lfrac : List Str := ["_law_top", "_law_under", "_law_shared"]
def m_Lfrac : MS :=
  (mSeq (mSet 2 (mCall w_Lgcd 2 0 (fun ds _ => ds) (mArgsP (mCons (mVar 0) (mCons (mVar 1) mNil)))))
    (mSeq (mIfS (mB (mOp oLt (mVar 1) (mC (.int 0)))) (mSet 2 (mUn oNeg (mVar 2))) mNext)
    (mRet (mCB oTup (mCons (mOp oDiv (mVar 0) (mVar 2)) (mCons (mOp oDiv (mVar 1) (mVar 2)) mNil))))))
def w_Lfrac : WF := wOf N_Lfrac m_Lfrac
def N_shown : List Str := ["a"]
def m_shown : MS :=
  (mSeq (mIfS (mB (mOp oEq (mOp oIx (mVar 0) (mC (.int 1))) (mC (.int 1)))) (mRet (mCB oStr1 (mCons (mOp oIx (mVar 0) (mC (.int 0))) mNil))) mNext)
    (mRet (mJs [(mUn oFmt (mOp oIx (mVar 0) (mC (.int 0)))), (mC (.str "/")), (mUn oFmt (mOp oIx (mVar 0) (mC (.int 1))))] Str.empty)))
def w_shown : WF := wOf N_shown m_shown
def N_whole : List Str := ["text", "most", "body", "sign"]
def m_whole : MS :=
  (mSeq (mSet 2 (mIf (mB (mOp oEq (mSl (mVar 0) mNoPart (mPart (mC (.int 1)))) (mC (.str "-")))) (mSl (mVar 0) (mPart (mC (.int 1))) mNoPart) (mVar 0)))
    (mSeq (mIfS (mOr (mB (mOp oEq (mVar 2) (mC (.str "")))) (mB (mOp oGt (mCB oLen (mCons (mVar 2) mNil)) (mVar 1)))) (mRet (mC .non)) mNext)
    (mSeq (mFor (mISeq (mVar 2)) (.nm 3) (mIfS (mB (mOp oNotIn (mVar 3) (mC (.str "0123456789")))) (mRet (mC .non)) mNext))
    (mSeq (mIfS (mAnd (mB (mOp oEq (mOp oIx (mVar 2) (mC (.int 0))) (mC (.str "0")))) (mB (mOp oNe (mVar 0) (mC (.str "0"))))) (mRet (mC .non)) mNext)
    (mRet (mCB oInt1 (mCons (mVar 0) mNil)))))))
def w_whole : WF := wOf N_whole m_whole
def N_common : List Str := ["one", "other"]
def m_common : MS :=
  (mSeq (mWhile (mTru (mVar 1)) (mPar 0 1 (mCons (mVar 1) (mCons (mOp oMod (mVar 0) (mVar 1)) mNil))))
    (mRet (mCB oAbs (mCons (mVar 0) mNil))))
def w_common : WF := wOf N_common m_common
def N_read_frac : List Str := ["text", "top", "bar", "under", "above", "below"]
def m_read_frac : MS :=
  (mSeq (mAsg (mBM "str" omPartition (mVar 0) (mCons (mC (.str "/")) mNil)) (.tp 3 (.cons (.nm 1) (.cons (.nm 2) (.cons (.nm 3) .nil)))))
    (mSeq (mSet 4 (mCall w_whole 2 0 (fun ds _ => ds) (mArgsP (mCons (mVar 1) (mCons (mC (.int 30)) mNil)))))
    (mSeq (mIfS (mB (mOp oEq (mVar 2) (mC (.str "")))) (mIfS (mB (mOp oIsNot (mVar 4) (mC .non))) (mRet (mCB oTup (mCons (mVar 4) (mCons (mC (.int 1)) mNil)))) mNext) (mSeq (mSet 5 (mCall w_whole 2 0 (fun ds _ => ds) (mArgsP (mCons (mVar 3) (mCons (mC (.int 30)) mNil)))))
    (mIfS (mAnd (mB (mOp oIsNot (mVar 4) (mC .non))) (mAnd (mB (mOp oIsNot (mVar 5) (mC .non))) (mAnd (mB (mOp oGt (mVar 5) (mC (.int 1)))) (mB (mOp oEq (mCall w_common 2 0 (fun ds _ => ds) (mArgsP (mCons (mVar 4) (mCons (mVar 5) mNil)))) (mC (.int 1))))))) (mRet (mCB oTup (mCons (mVar 4) (mCons (mVar 5) mNil)))) mNext)))
    (mRaise "BadWord" 1 xs_BadWord (mCons (mVar 0) mNil)))))
def w_read_frac : WF := wOf N_read_frac m_read_frac
def N_Lwhole : List Str := ["_law_found"]
def m_Lwhole : MS :=
  (mRet (mAndV (mCB oIsi (mCons (mVar 0) (mCons (mC (.ty "int")) mNil))) (mNotV (mCB oIsi (mCons (mVar 0) (mCons (mC (.ty "bool")) mNil))))))
def w_Lwhole : WF := wOf N_Lwhole m_Lwhole
def N_Lis_pair : List Str := ["_law_found"]
def m_Lis_pair : MS :=
  (mRet (mAndV (mCB oIsi (mCons (mVar 0) (mCons (mC (.ty "tuple")) mNil))) (mAndV (mOp oEq (mCB oLen (mCons (mVar 0) mNil)) (mC (.int 2))) (mAndV (mCall w_Lwhole 1 0 (fun ds _ => ds) (mArgsP (mCons (mOp oIx (mVar 0) (mC (.int 0))) mNil))) (mCall w_Lwhole 1 0 (fun ds _ => ds) (mArgsP (mCons (mOp oIx (mVar 0) (mC (.int 1))) mNil)))))))
def w_Lis_pair : WF := wOf N_Lis_pair m_Lis_pair
def N_Lis_frac : List Str := ["_law_found"]
def m_Lis_frac : MS :=
  (mRet (mAndV (mCall w_Lis_pair 1 0 (fun ds _ => ds) (mArgsP (mCons (mVar 0) mNil))) (mAndV (mOp oGe (mOp oIx (mVar 0) (mC (.int 1))) (mC (.int 1))) (mOp oEq (mCall w_Lgcd 2 0 (fun ds _ => ds) (mArgsP (mCons (mOp oIx (mVar 0) (mC (.int 0))) (mCons (mOp oIx (mVar 0) (mC (.int 1))) mNil)))) (mC (.int 1))))))
def w_Lis_frac : WF := wOf N_Lis_frac m_Lis_frac
def N_Lnumber : List Str := ["_law_text", "_law_body"]
def m_Lnumber : MS :=
  (mSeq (mSet 1 (mVar 0))
    (mSeq (mIfS (mB (mOp oEq (mSl (mVar 0) mNoPart (mPart (mC (.int 1)))) (mC (.str "-")))) (mSet 1 (mSl (mVar 0) (mPart (mC (.int 1))) mNoPart)) mNext)
    (mSeq (mIfS (mOr (mB (mOp oEq (mVar 1) (mC (.str "")))) (mOr (mB (mOp oIn (mC (.str "-")) (mVar 1))) (mOr (mB (mOp oIn (mC (.str " ")) (mVar 1))) (mB (mOp oIn (mC (.str "/")) (mVar 1)))))) (mRet (mC .non)) mNext)
    (mSeq (mIfS (mB (mOp oNe (mCB oStr1 (mCons (mCB oInt1 (mCons (mVar 0) mNil)) mNil)) (mVar 0))) (mRet (mC .non)) mNext)
    (mRet (mCB oInt1 (mCons (mVar 0) mNil)))))))
def w_Lnumber : WF := wOf N_Lnumber m_Lnumber
def N_Lmeant : List Str := ["_law_text", "_law_parts", "_law_top", "_law_under"]
def m_Lmeant : MS :=
  (mSeq (mSet 1 (mBM "str" omSplit (mVar 0) (mCons (mC (.str "/")) mNil)))
    (mSeq (mSet 2 (mCall w_Lnumber 1 0 (fun ds _ => ds) (mArgsP (mCons (mOp oIx (mVar 1) (mC (.int 0))) mNil))))
    (mSeq (mIfS (mOr (mB (mOp oIs (mVar 2) (mC .non))) (mB (mOp oGt (mCB oLen (mCons (mVar 1) mNil)) (mC (.int 2))))) (mRet (mC .non)) mNext)
    (mSeq (mIfS (mB (mOp oEq (mCB oLen (mCons (mVar 1) mNil)) (mC (.int 1)))) (mRet (mCB oTup (mCons (mVar 2) (mCons (mC (.int 1)) mNil)))) mNext)
    (mSeq (mSet 3 (mCall w_Lnumber 1 0 (fun ds _ => ds) (mArgsP (mCons (mOp oIx (mVar 1) (mC (.int 1))) mNil))))
    (mSeq (mIfS (mOr (mB (mOp oIs (mVar 3) (mC .non))) (mOr (mB (mOp oLt (mVar 3) (mC (.int 2)))) (mB (mOp oNe (mCall w_Lgcd 2 0 (fun ds _ => ds) (mArgsP (mCons (mVar 2) (mCons (mVar 3) mNil)))) (mC (.int 1)))))) (mRet (mC .non)) mNext)
    (mRet (mCB oTup (mCons (mVar 2) (mCons (mVar 3) mNil))))))))))
def w_Lmeant : WF := wOf N_Lmeant m_Lmeant
def N_law : List Str := ["_law_script", "_law_feed_here", "_law_far", "_law_a", "_law_due", "_law_long", "_law_text", "_law_k", "_law_said", "_law_word", "_law_found", "e", "_law_due_now"]
def m_law : MS :=
  (mSeq (mSet 1 (mCall w_Lfeed 1 0 (fun ds _ => ds) (mArgsP (mCons (mVar 0) mNil))))
    (mSeq (mSet 2 (mC (.int 1000000000000000000000000000000)))
    (mSeq (mIfS (mB (mOp oEq (mCall w_Ldraw 2 0 (fun ds _ => ds) (mArgsP (mCons (mVar 1) (mCons (mC (.int 2)) mNil)))) (mC (.int 0)))) (mSet 2 (mC (.int 50))) mNext)
    (mSeq (mSet 3 (mCall w_Lfrac 2 0 (fun ds _ => ds) (mArgsP (mCons (mOp oAdd (mOp oSub (mCall w_Ldraw 2 0 (fun ds _ => ds) (mArgsP (mCons (mVar 1) (mCons (mOp oSub (mOp oMul (mC (.int 2)) (mVar 2)) (mC (.int 1))) mNil)))) (mVar 2)) (mC (.int 1))) (mCons (mOp oAdd (mC (.int 1)) (mCall w_Ldraw 2 0 (fun ds _ => ds) (mArgsP (mCons (mVar 1) (mCons (mOp oSub (mVar 2) (mC (.int 1))) mNil))))) mNil)))))
    (mSeq (mSet 4 (mCB oStr1 (mCons (mOp oIx (mVar 3) (mC (.int 0))) mNil)))
    (mSeq (mIfS (mB (mOp oGt (mOp oIx (mVar 3) (mC (.int 1))) (mC (.int 1)))) (mSet 4 (mOp oAdd (mOp oAdd (mVar 4) (mC (.str "/"))) (mCB oStr1 (mCons (mOp oIx (mVar 3) (mC (.int 1))) mNil)))) mNext)
    (mSeq (mIfS (mOr (mB (mOp oNe (mCall w_shown 1 0 (fun ds _ => ds) (mArgsP (mCons (mVar 3) mNil))) (mVar 4))) (mOr (mB (mOp oNe (mCall w_read_frac 1 0 (fun ds _ => ds) (mArgsP (mCons (mVar 4) mNil))) (mVar 3))) (mNot (mTru (mCall w_Lis_frac 1 0 (fun ds _ => ds) (mArgsP (mCons (mCall w_read_frac 1 0 (fun ds _ => ds) (mArgsP (mCons (mVar 4) mNil))) mNil))))))) (mRet (mC (.bl false))) mNext)
    (mSeq (mSet 5 (mOp oAdd (mC (.str "1")) (mOp oMulS (mC (.str "0")) (mC (.int 30)))))
    (mSeq (mSet 6 (mBM "str" omJoin (mC (.str "")) (mCons (mLc (mIRng1 (mCons (mCall w_Ldraw 2 0 (fun ds _ => ds) (mArgsP (mCons (mVar 1) (mCons (mC (.int 8)) mNil)))) mNil)) (.nm 7) mYes (mOp oIx (mC (.str "01249-/ ")) (mCall w_Ldraw 2 0 (fun ds _ => ds) (mArgsP (mCons (mVar 1) (mCons (mC (.int 8)) mNil))))) [7]) mNil)))
    (mSeq (mFor (mISeq (mCB oTup (mCons (mVar 6) (mCons (mVar 5) (mCons (mOp oAdd (mC (.str "1/")) (mVar 5)) (mCons (mOp oAdd (mVar 4) (mC (.str "/"))) (mCons (mOp oAdd (mC (.str "/")) (mVar 4)) mNil))))))) (.nm 8) (mSeq (mSet 9 (mC (.str "")))
    (mSeq (mSet 10 (mC .non))
    (mSeq (mTry xsub (mSet 10 (mCall w_read_frac 1 0 (fun ds _ => ds) (mArgsP (mCons (mVar 8) mNil)))) [⟨["BadWord"], some 11, fun a dd c => (mSet 9 (mOp oAdd (mXf a dd c 11 "word") (mXf a dd c 11 "said")))⟩])
    (mSeq (mSet 12 (mC .non))
    (mSeq (mIfS (mB (mOp oEq (mVar 8) (mVar 6))) (mSet 12 (mCall w_Lmeant 1 0 (fun ds _ => ds) (mArgsP (mCons (mVar 8) mNil)))) mNext)
    (mSeq (mIfS (mAnd (mB (mOp oIs (mVar 12) (mC .non))) (mB (mOp oNe (mVar 9) (mOp oAdd (mC (.str "bad word")) (mVar 8))))) (mRet (mC (.bl false))) mNext)
    (mIfS (mAnd (mB (mOp oIsNot (mVar 12) (mC .non))) (mOr (mB (mOp oNe (mVar 9) (mC (.str "")))) (mB (mOp oNe (mVar 10) (mVar 12))))) (mRet (mC (.bl false))) mNext))))))))
    (mRet (mC (.bl true)))))))))))))
def w_law : WF := wOf N_law m_law
end Prf
namespace Prf
open PySem L2 MV
def topS (i : Nat) : Stmt := PySem.Challenge.pw_dialweir_k03_fractions_written.main.body.getD i (.Pass ⟨0, 0, 0, 0⟩)
abbrev s_Lfeed : Stmt := topS 12
abbrev s_Ldraw : Stmt := topS 13
abbrev s_Lgcd : Stmt := topS 15
abbrev s_Lfrac : Stmt := topS 16
abbrev s_shown : Stmt := topS 9
abbrev s_whole : Stmt := topS 8
abbrev s_common : Stmt := topS 7
abbrev s_read_frac : Stmt := topS 10
abbrev s_Lwhole : Stmt := topS 14
abbrev s_Lis_pair : Stmt := topS 17
abbrev s_Lis_frac : Stmt := topS 18
abbrev s_Lnumber : Stmt := topS 19
abbrev s_Lmeant : Stmt := topS 20
abbrev s_law : Stmt := topS 21
abbrev si0_WeirError : Stmt := inClass (topS 1) 0
abbrev si0_FormError : Stmt := inClass (topS 2) 0
abbrev si0_BadWord : Stmt := inClass (topS 3) 0
def dd_Lfeed : He.DefD := ⟨("_law_feed", none), "_law_feed", "_law_feed", defArgs s_Lfeed, defBody s_Lfeed, defScope s_Lfeed, [], []⟩
def dd_Ldraw : He.DefD := ⟨("_law_draw", none), "_law_draw", "_law_draw", defArgs s_Ldraw, defBody s_Ldraw, defScope s_Ldraw, [], []⟩
def dd_Lgcd : He.DefD := ⟨("_law_gcd", none), "_law_gcd", "_law_gcd", defArgs s_Lgcd, defBody s_Lgcd, defScope s_Lgcd, [], []⟩
def dd_Lfrac : He.DefD := ⟨("_law_frac", none), "_law_frac", "_law_frac", defArgs s_Lfrac, defBody s_Lfrac, defScope s_Lfrac, [], []⟩
def dd_shown : He.DefD := ⟨("shown", none), "shown", "shown", defArgs s_shown, defBody s_shown, defScope s_shown, [], []⟩
def dd_whole : He.DefD := ⟨("whole", none), "whole", "whole", defArgs s_whole, defBody s_whole, defScope s_whole, [], []⟩
def dd_common : He.DefD := ⟨("common", none), "common", "common", defArgs s_common, defBody s_common, defScope s_common, [], []⟩
def dd_read_frac : He.DefD := ⟨("read_frac", none), "read_frac", "read_frac", defArgs s_read_frac, defBody s_read_frac, defScope s_read_frac, [], []⟩
def dd_Lwhole : He.DefD := ⟨("_law_whole", none), "_law_whole", "_law_whole", defArgs s_Lwhole, defBody s_Lwhole, defScope s_Lwhole, [], []⟩
def dd_Lis_pair : He.DefD := ⟨("_law_is_pair", none), "_law_is_pair", "_law_is_pair", defArgs s_Lis_pair, defBody s_Lis_pair, defScope s_Lis_pair, [], []⟩
def dd_Lis_frac : He.DefD := ⟨("_law_is_frac", none), "_law_is_frac", "_law_is_frac", defArgs s_Lis_frac, defBody s_Lis_frac, defScope s_Lis_frac, [], []⟩
def dd_Lnumber : He.DefD := ⟨("_law_number", none), "_law_number", "_law_number", defArgs s_Lnumber, defBody s_Lnumber, defScope s_Lnumber, [], []⟩
def dd_Lmeant : He.DefD := ⟨("_law_meant", none), "_law_meant", "_law_meant", defArgs s_Lmeant, defBody s_Lmeant, defScope s_Lmeant, [], []⟩
def dd_law : He.DefD := ⟨("law", none), "law", "law", defArgs s_law, defBody s_law, defScope s_law, [], []⟩
def ddi_WeirError : He.DefD := ⟨("WeirError", some "__init__"), "__init__", "WeirError.__init__", defArgs si0_WeirError, defBody si0_WeirError, defScope si0_WeirError, [], []⟩
def ddi_FormError : He.DefD := ⟨("FormError", some "__init__"), "__init__", "FormError.__init__", defArgs si0_FormError, defBody si0_FormError, defScope si0_FormError, [], []⟩
def ddi_BadWord : He.DefD := ⟨("BadWord", some "__init__"), "__init__", "BadWord.__init__", defArgs si0_BadWord, defBody si0_BadWord, defScope si0_BadWord, [], []⟩
def fnL : List He.DefD := ([dd_Lfeed, dd_Ldraw, dd_Lgcd, dd_Lfrac, dd_shown, dd_whole, dd_common, dd_read_frac, dd_Lwhole, dd_Lis_pair, dd_Lis_frac, dd_Lnumber, dd_Lmeant, dd_law, ddi_WeirError, ddi_FormError, ddi_BadWord] : List He.DefD)
def faL : List He.Fa := ([.glo "_law_feed", .glo "_law_draw", .glo "_law_gcd", .glo "_law_frac", .glo "shown", .glo "whole", .glo "common", .glo "read_frac", .glo "_law_whole", .glo "_law_is_pair", .glo "_law_is_frac", .glo "_law_number", .glo "_law_meant", .glo "law", .free "abs", .free "bool", .free "int", .free "isinstance", .free "len", .free "list", .free "range", .free "str", .free "tuple", .free "ValueError", .str "FIGURES" "0123456789"] : List He.Fa) ++ ([.int "MOST_FIGURES" 30, .glo "WeirError", .glo "FormError", .glo "BadWord"] : List He.Fa)
def exL (K : PySem.W.Frag) : List Bool := ([DW.excXB K "WeirError" xfl, DW.excXB K "FormError" xfl, DW.excXB K "BadWord" xfl, tabOk K xfl xys xtab, DW.veB K] : List Bool)
abbrev R : PySem.W.OpenRow := PySem.W.OpenLaw.row PySem.Challenge.rw_dialweir_k03_fractions_written
abbrev hk : PySem.W.Hook := DW.hookE 2048 faL fnL (fun K => DW.allT (exL K))
def ob (s : PySem.W.SharedT) : DW.AlE := DW.obsE 2048 faL fnL (fun K => DW.allT (exL K)) (HandSHeadRun.getT s)
theorem ob_eq (s : PySem.W.SharedT) : ob s = hk.obs s.abs := DW.obsE_eq (HandSHeadRun.getT_eq s)
def looseL : List Str := (["WeirError", "FormError", "BadWord", "FIGURES", "MOST_FIGURES", "common", "whole", "shown", "read_frac", "_law_feed", "_law_draw", "_law_whole", "_law_gcd", "_law_frac", "_law_is_pair", "_law_is_frac", "_law_number", "_law_meant"] : List Str)
theorem run (w : World) : HandSHeadRun.RunEq R (PySem.W.view R.prog [21]) hk ob 12000 looseL w := by
  intro os
  kernel_rfl
end Prf
namespace MV
open PySem L2
/-! ### helps for the proofs about mirrors -/
theorem atI_0 {α : Type} {l : List α} : atI l 0 = l[0]? := by cases l <;> simp [atI, ixN]
theorem atI_n {α : Type} {l : List α} {n : Nat} : atI l (n : Int) = l[n]? := by
  unfold atI ixN
  rw [if_pos (by omega)]
  by_cases h : (n : Int) < l.length
  · rw [if_pos h]; simp
  · rw [if_neg h]; simp; omega
theorem atI_1 {α : Type} {l : List α} : atI l 1 = l[1]? := atI_n (n := 1)
theorem atI_2 {α : Type} {l : List α} : atI l 2 = l[2]? := atI_n (n := 2)
theorem atI_3 {α : Type} {l : List α} : atI l 3 = l[3]? := atI_n (n := 3)
theorem atI_4 {α : Type} {l : List α} : atI l 4 = l[4]? := atI_n (n := 4)
theorem atI_5 {α : Type} {l : List α} : atI l 5 = l[5]? := atI_n (n := 5)
theorem atI_6 {α : Type} {l : List α} : atI l 6 = l[6]? := atI_n (n := 6)
theorem atI_7 {α : Type} {l : List α} : atI l 7 = l[7]? := atI_n (n := 7)
theorem atI_i {α : Type} {l : List α} {i : Int} (h0 : 0 ≤ i) : atI l i = l[i.toNat]? := by
  obtain ⟨n, rfl⟩ := Int.eq_ofNat_of_zero_le h0
  rw [atI_n]; simp
theorem ixN_n {n : Nat} {j : Nat} (h : j < n) : ixN n (j : Int) = some j := by
  unfold ixN
  rw [if_pos (by omega), if_pos (by omega)]; simp
theorem ixN_i {n : Nat} {i : Int} (h0 : 0 ≤ i) (h : i < n) : ixN n i = some i.toNat := by
  unfold ixN
  rw [if_pos h0, if_pos h]
theorem mul_ok {i j : Int} (h : j.natAbs < 2 ^ 64) : okMul i j := .inl (.inr (by omega))
theorem mul_ok' {i j : Int} (h : i.natAbs < 2 ^ 64) : okMul i j := .inl (.inl (by omega))
theorem div_ok {j : Int} (h : j ≠ 0) (hb : j.natAbs < 2 ^ 64) : okDiv j := ⟨h, Nat.lt_of_lt_of_le (Nat.log2_lt (by omega) |>.mpr hb) (by decide)⟩
theorem fmod_in (a : Int) {m : Int} (h : 0 < m) : 0 ≤ a.fmod m ∧ a.fmod m < m := ⟨Int.fmod_nonneg_of_pos a h, Int.fmod_lt_of_pos a h⟩
/-- the objects of M, but those of S, stand in M' -/
structure Kp (S : List Nat) (M M' : Mem) : Prop where
  len : M.length ≤ M'.length
  at_ : ∀ i o, i ∉ S → M[i]? = some o → M'[i]? = some o
theorem Kp.refl {S : List Nat} {M : Mem} : Kp S M M := ⟨Nat.le_refl _, fun _ _ _ h => h⟩
theorem Kp.trans {S : List Nat} {M M1 M2 : Mem} (a : Kp S M M1) (b : Kp S M1 M2) : Kp S M M2 := ⟨Nat.le_trans a.len b.len, fun i o n h => b.at_ i o n (a.at_ i o n h)⟩
theorem Kp.app {S : List Nat} {M l : Mem} : Kp S M (M ++ l) := ⟨by simp, fun i o _ h => by
  have hl : i < M.length := (List.getElem?_eq_some_iff.mp h).1
  rw [List.getElem?_append_left hl]; exact h⟩
theorem Kp.set {S : List Nat} {M : Mem} {n : Nat} {o : O} (h : n ∈ S) : Kp S M (M.set n o) := ⟨by simp, fun i o' hi h' => by
  have hne : n ≠ i := fun e => hi (e ▸ h)
  rw [List.getElem?_set_ne hne]; exact h'⟩
theorem Kp.setNew {S : List Nat} {M0 M : Mem} {n : Nat} {o : O} (k : Kp S M0 M) (h : M0.length ≤ n) : Kp S M0 (M.set n o) := ⟨by simpa using k.len, fun i o' hi h' => by
  have hl : i < M0.length := (List.getElem?_eq_some_iff.mp h').1
  rw [List.getElem?_set_ne (by omega)]; exact k.at_ i o' hi h'⟩
theorem Kp.weak {S T : List Nat} {M M' : Mem} (k : Kp S M M') (h : ∀ i ∈ S, i ∈ T) : Kp T M M' := ⟨k.len, fun i o n q => k.at_ i o (fun m => n (h i m)) q⟩
theorem mlt {M : Mem} {i : Nat} {o : O} (h : M[i]? = some o) : i < M.length := (List.getElem?_eq_some_iff.mp h).1
theorem msame {M : Mem} {i : Nat} {o o' : O} (h : M[i]? = some o) : (M.set i o')[i]? = some o' := by
  have := mlt h; simp [this]
theorem mnew {M : Mem} {o : O} : (M ++ [o])[M.length]? = some o := by simp
/-! loops -/
theorem for_inv {guard : Mem → Prop} {T : Tg} {b : MS} {E : Nd} (I : List D → Ev → Mem → Prop) (hg : ∀ l ρ M, I l ρ M → guard M) (hn : ∀ ρ M, I [] ρ M → E.nx ρ M)
    (hs : ∀ d l ρ M (K : Ev → Mem → Prop), I (d :: l) ρ M → (∀ ρ2 M2, I l ρ2 M2 → K ρ2 M2) → T.mg d ρ M fun ρ1 => b ⟨K, E.rt, E.nx, K, E.ex⟩ ρ1 M) :
    ∀ {items : List D} {ρ : Ev} {M : Mem}, I items ρ M → mForL guard T b E items ρ M
  | [], ρ, M, h => ⟨hg _ _ _ h, hn _ _ h⟩
  | d :: l, ρ, M, h => ⟨hg _ _ _ h, hs d l ρ M _ h fun ρ2 M2 q => for_inv I hg hn hs q⟩
theorem lc_inv {guard : Mem → Prop} {i : Nat} {me : ME} {ρ : Ev} {n : Nat} {Q : Mem → Prop} (J : List D → List D → Mem → Prop) (hg : ∀ l acc M, J l acc M → guard M)
    (hs : ∀ d l acc M (K : DK), M[n]? = some (.lst acc) → J (d :: l) acc M → (∀ y M4, M4[n]? = some (.lst acc) → J l (acc ++ [y]) (M4.set n (.lst (acc ++ [y]))) → K y M4) → me (ρ.set i (some d)) M K noX)
    (hq : ∀ acc M, M[n]? = some (.lst acc) → J [] acc M → Q M) :
    ∀ (items acc : List D) (M : Mem), M[n]? = some (.lst acc) → acc.length + items.length < 16000000 → J items acc M → mLcL guard (.nm i) mYes me ρ n Q items M
  | [], acc, M, hn, _, h => ⟨hg _ _ _ h, hq acc M hn h⟩
  | d :: l, acc, M, hn, hl, h => ⟨hg _ _ _ h, hs d l acc M _ hn h fun y M4 h4 j => by
      show (match M4[n]? with
        | some (.lst acc) => acc.length < 16000000 ∧ mLcL guard (.nm i) mYes me ρ n Q l (M4.set n (.lst (acc ++ [y])))
        | _ => False)
      rw [h4]
      refine ⟨by simp at hl; omega, ?_⟩
      exact lc_inv J hg hs hq l (acc ++ [y]) _ (msame h4) (by simp at hl ⊢; omega) j⟩
/-! equality of plain data -/
mutual
theorem see_fine {M : Mem} : ∀ {k : Nat} {d : D}, fine k d = true → See M k d (toPy d)
  | k, .non, _ => by simpa only [toPy] using See.non k
  | k, .bl b, _ => by simpa only [toPy] using See.bl k b
  | k, .int b, _ => by simpa only [toPy] using See.int k b
  | k, .str b, h => by
    simp only [toPy]
    exact .str k (by cases k <;> simpa [fine] using h)
  | k + 1, .tup ds, h => by
    simp only [toPy]
    exact .tup (see_fineL (by simpa [fine] using h))
  | 0, .tup ds, h => by simp [fine] at h
  | k, .ref n, h => by cases k <;> simp [fine] at h
  | k, .ty n, h => by cases k <;> simp [fine] at h
  | k, .g n, h => by cases k <;> simp [fine] at h
  | k, .exn .., h => by cases k <;> simp [fine] at h
  | k, .kl n, h => by cases k <;> simp [fine] at h
theorem see_fineL {M : Mem} : ∀ {k : Nat} {ds : List D}, (∀ d ∈ ds, fine k d = true) → SeeL M k ds (toPyL ds)
  | _, [], _ => by simpa only [toPyL] using SeeL.nil
  | k, d :: ds, h => by
    simp only [toPyL]
    exact .cons (see_fine (h d (by simp))) (see_fineL fun e he => h e (by simp [he]))
end
theorem see_lst {M : Mem} {k n : Nat} {ds : List D} (e : M[n]? = some (.lst ds)) (h : ∀ d ∈ ds, fine k d = true) : See M (k + 1) (.ref n) (.list (toPyL ds)) := .lst e (see_fineL h)
mutual
theorem See.lay {M : Mem} : ∀ {k : Nat} {d : D} {p : PyData}, See M k d p → p.canLay0 = true
  | _, _, _, .non _ => by simp [PyData.canLay0]
  | _, _, _, .bl _ _ => by simp [PyData.canLay0]
  | _, _, _, .int _ _ => by simp [PyData.canLay0]
  | _, _, _, .str _ f => by simp only [PyData.canLay0]; exact f
  | _, _, _, .tup l => by simp only [PyData.canLay0]; exact l.lay
  | _, _, _, .lst _ l => by simp only [PyData.canLay0]; exact l.lay
theorem SeeL.lay {M : Mem} : ∀ {k : Nat} {d : List D} {p : List PyData}, SeeL M k d p → PyData.canLayAll0 p = true
  | _, _, _, .nil => by simp [PyData.canLayAll0]
  | _, _, _, .cons a b => by simp [PyData.canLayAll0, a.lay, b.lay]
end
theorem eqB_same {x y : D} {M : Mem} {p : PyData} {k : Bool → Prop} (h1 : See M 20 x p) (h2 : See M 20 y p) (q : k true) : oEqB x y M k := by
  unfold oEqB
  split
  · cases h1; cases h2; simpa using q
  · cases h1; cases h2; simpa using q
  · exact ⟨p, p, h1, h2, by rw [PySem.SeqAt.eqv_refl p h1.lay]; exact q⟩
theorem ne_same {x y : D} {M : Mem} {p : PyData} {Q : DK} (h1 : See M 20 x p) (h2 : See M 20 y p) (q : Q (.bl false) M) : oNe x y M Q := eqB_same h1 h2 q
end MV
namespace MV
open PySem L2
/-! ### the steps of a mirror, one lemma each -/
section
variable {a b : MS} {E : Nd} {ρ : Ev} {M : Mem} {Q : DK} {X : XM} {m ma mb mc : ME} {t u : MT} {QB : Bool → Mem → Prop} {mr : MA} {QA' : List D → Mem → Prop} {o : OP} {ou : OU} {oa : OA} {i j : Nat} {d : D}
theorem x_seq (h : a ⟨fun ρ' M' => b E ρ' M', E.rt, E.bk, E.ct, E.ex⟩ ρ M) : mSeq a b E ρ M := h
theorem x_set (h : m ρ M (fun d M1 => E.nx (ρ.set i (some d)) M1) (fun x M1 => E.ex x ρ M1)) : mSet i m E ρ M := h
theorem x_ret (h : m ρ M E.rt (fun x M1 => E.ex x ρ M1)) : mRet m E ρ M := h
theorem x_retN (h : E.rt .non M) : mRetN E ρ M := h
theorem x_next (h : E.nx ρ M) : mNext E ρ M := h
theorem x_drop (h : m ρ M (fun _ M1 => E.nx ρ M1) (fun x M1 => E.ex x ρ M1)) : mDrop m E ρ M := h
theorem x_ifS (h : t ρ M (fun k M1 => if k = true then a E ρ M1 else b E ρ M1) (fun x M1 => E.ex x ρ M1)) : mIfS t a b E ρ M := h
theorem x_asg {T : Tg} (h : m ρ M (fun d M1 => T.mg d ρ M1 fun ρ' => E.nx ρ' M1) (fun x M1 => E.ex x ρ M1)) : mAsg m T E ρ M := h
theorem x_setIx {mv mo mi : ME} (h : mv ρ M (fun v M1 => mo ρ M1 (fun o M2 => mi ρ M2 (fun i M3 => oSetIx o i v M3 fun M4 => E.nx ρ M4) (fun x M3 => E.ex x ρ M3)) (fun x M2 => E.ex x ρ M2)) (fun x M1 => E.ex x ρ M1)) : mSetIx mv mo mi E ρ M := h
theorem x_for {mi : MI} {T : Tg} (h : mi ρ M (fun items guard M1 => mForL guard T a E items ρ M1) (fun x M1 => E.ex x ρ M1)) : mFor mi T a E ρ M := h
theorem x_lc {mi : MI} {T : Tg} {vs : List Nat} (h : mi ρ M (fun items guard M1 => mLcL guard T t m (wipeE ρ vs) M1.length (fun M2 => Q (.ref M1.length) M2) items (M1 ++ [.lst []])) X) : mLc mi T t m vs ρ M Q X := h
theorem x_var (e : ρ[i]? = some (some d)) (h : Q d M) : mVar i ρ M Q X := by unfold mVar; rw [e]; exact h
theorem x_c (h : Q d M) : mC d ρ M Q X := h
theorem x_op (h : ma ρ M (fun x M1 => mb ρ M1 (fun y M2 => o x y M2 Q) X) X) : mOp o ma mb ρ M Q X := h
theorem x_un (h : ma ρ M (fun x M1 => ou x M1 Q) X) : mUn ou ma ρ M Q X := h
theorem x_cb (h : mr ρ M (fun xs M1 => oa xs M1 Q) X) : mCB oa mr ρ M Q X := h
theorem x_nil (h : QA' [] M) : mNil ρ M QA' X := h
theorem x_cons (h : ma ρ M (fun x M1 => mr ρ M1 (fun xs M2 => QA' (x :: xs) M2) X) X) : mCons ma mr ρ M QA' X := h
theorem x_b (h : ma ρ M (fun x M1 => match x with | .bl k => QB k M1 | _ => False) X) : mB ma ρ M QB X := h
theorem x_tru (h : ma ρ M (fun x M1 => tru x M1 QB) X) : mTru ma ρ M QB X := h
theorem x_and (h : t ρ M (fun k M1 => if k = true then u ρ M1 QB X else QB false M1) X) : mAnd t u ρ M QB X := h
theorem x_or (h : t ρ M (fun k M1 => if k = true then QB true M1 else u ρ M1 QB X) X) : mOr t u ρ M QB X := h
theorem x_not (h : t ρ M (fun k M1 => QB (!k) M1) X) : mNot t ρ M QB X := h
theorem x_yes (h : QB true M) : mYes ρ M QB X := h
theorem x_ifE (h : t ρ M (fun k M1 => if k = true then ma ρ M1 Q X else mb ρ M1 Q X) X) : mIf t ma mb ρ M Q X := h
theorem x_call {w : WF} {n k : Nat} {gD : List D → List D → List D} {ms : MA2} (h : ms ρ M (fun ds es M1 => (ds.length = n ∧ es.length = k) ∧ w (gD ds es) M1 Q X) X) : mCall w n k gD ms ρ M Q X := h
theorem x_argsP {k : List D → List D → Mem → Prop} (h : mr ρ M (fun ds M1 => k ds [] M1) X) : mArgsP mr ρ M k X := h
theorem x_args0 {k : List D → List D → Mem → Prop} (h : k [] [] M) : mArgs0 ρ M k X := h
theorem x_len {α β : Type} {ds : List α} {es : List β} {n k : Nat} {P : Prop} (h1 : ds.length = n) (h2 : es.length = k) (h : P) : (ds.length = n ∧ es.length = k) ∧ P := ⟨⟨h1, h2⟩, h⟩
theorem x_bm {T : String} {r : OM} (h : ma ρ M (fun x M1 => isT T x M1 ∧ mr ρ M1 (fun xs M2 => r x xs M2 Q) X) X) : mBM T r ma mr ρ M Q X := h
theorem x_isL {n : Nat} {ds : List D} {P : Prop} (h : M[n]? = some (.lst ds)) (q : P) : isT "list" (.ref n) M ∧ P := ⟨by simp [isT, h], q⟩
def iseqK (k : List D → (Mem → Prop) → Mem → Prop) : DK := fun x M1 => match x with
  | .tup ds => k ds (fun _ => True) M1
  | .str z => k (z.cps.toList.map fun c => .str ⟨#[c]⟩) (fun _ => True) M1
  | .ref n => match M1[n]? with
    | some (.lst ds) => k ds (fun M => M[n]? = some (.lst ds)) M1
    | some (.frz ds) => k ds (fun M => M[n]? = some (.frz ds)) M1
    | some (.dct true kvs) => k (kvs.map fun kv => kD kv.1) (fun M => M[n]? = some (.dct true kvs)) M1
    | _ => False
  | _ => False
theorem x_iseq {me : ME} {k : List D → (Mem → Prop) → Mem → Prop} (h : me ρ M (iseqK k) X) : mISeq me ρ M k X := h
theorem iseqL {k : List D → (Mem → Prop) → Mem → Prop} {n : Nat} {ds : List D} (hd : M[n]? = some (.lst ds)) (h : k ds (fun M => M[n]? = some (.lst ds)) M) : iseqK k (.ref n) M := by
  unfold iseqK; dsimp only; rw [hd]; exact h
theorem x_iseqV {k : List D → (Mem → Prop) → Mem → Prop} {n : Nat} {ds : List D} (e : ρ[i]? = some (some (.ref n))) (hd : M[n]? = some (.lst ds)) (h : k ds (fun M => M[n]? = some (.lst ds)) M) : mISeq (mVar i) ρ M k X := by
  unfold mISeq mVar; rw [e]; dsimp only; rw [hd]; exact h
theorem x_rng {k : List D → (Mem → Prop) → Mem → Prop} (h : mr ρ M (fun ds M1 => match ds with | [.int j] => (-(2 ^ 62) ≤ j ∧ j < 2 ^ 62) ∧ k (rangeD 0 j.toNat) (fun _ => True) M1 | _ => False) X) : mIRng1 mr ρ M k X := h
theorem x_enT {k : List D → (Mem → Prop) → Mem → Prop} {ds : List D} (e : ρ[i]? = some (some (.tup ds))) (h : k (enumD ds) (fun _ => True) M) : mIEnumT (mCons (mVar i) mNil) ρ M k X := by
  simp only [mIEnumT, mCons, mNil, mVar, e]; exact h
theorem x_sl {ml mh : MO} (h : ma ρ M (fun x M1 => ml ρ M1 (fun l M2 => mh ρ M2 (fun h M3 => oSl x l h M3 Q) X) X) X) : mSl ma ml mh ρ M Q X := h
theorem x_noP {k : Option Int → Mem → Prop} (h : k none M) : mNoPart ρ M k X := h
theorem x_part {k : Option Int → Mem → Prop} (h : m ρ M (fun x M1 => match x with | .int i => k (some i) M1 | _ => False) X) : mPart m ρ M k X := h
/-! operators -/
theorem o_slK {ds : List D} {lo hi : Option Int} (h : Q (.ref M.length) (M ++ [.lst (cutD ds lo hi)])) : oSl (.kl ds) lo hi M Q := h
theorem o_slL {ds : List D} {lo hi : Option Int} {p : Nat} (el : M[p]? = some (.lst ds)) (h : Q (.ref M.length) (M ++ [.lst (cutD ds lo hi)])) : oSl (.ref p) lo hi M Q := by unfold oSl; dsimp only; rw [el]; exact h
theorem o_slT {ds : List D} {lo hi : Option Int} (h : Q (.tup (cutD ds lo hi)) M) : oSl (.tup ds) lo hi M Q := h
variable {x y : Int} {p : Nat} {ds es : List D} {s z : Str} {v : D}
theorem o_tup (hl : ds.length ≤ 1000) (h : Q (.tup ds) M) : oTup ds M Q := ⟨hl, h⟩
theorem o_lst (hl : ds.length ≤ 1000) (h : Q (.ref M.length) (M ++ [.lst ds])) : oLst ds M Q := ⟨hl, h⟩
theorem o_add (h : Q (.int (x + y)) M) : oAdd (.int x) (.int y) M Q := h
theorem o_addS (hl : s.length + z.length ≤ 16000000) (h : Q (.str (s ++ z)) M) : oAdd (.str s) (.str z) M Q := ⟨hl, h⟩
theorem o_addT (hl : ds.length + es.length ≤ 16000000) (h : Q (.tup (ds ++ es)) M) : oAdd (.tup ds) (.tup es) M Q := ⟨hl, h⟩
theorem o_sub (h : Q (.int (x - y)) M) : oSub (.int x) (.int y) M Q := h
theorem o_mul (hk : okMul x y) (h : Q (.int (x * y)) M) : oMul (.int x) (.int y) M Q := ⟨hk, h⟩
theorem o_div (hk : okDiv y) (h : Q (.int (x.fdiv y)) M) : oDiv (.int x) (.int y) M Q := ⟨hk, h⟩
theorem o_mod (hk : y ≠ 0) (h : Q (.int (x.fmod y)) M) : oMod (.int x) (.int y) M Q := ⟨hk, h⟩
theorem o_pow (hk : CPow x y) (h : Q (.int (x ^ y.toNat)) M) : oPow (.int x) (.int y) M Q := ⟨hk, h⟩
theorem o_neg (h : Q (.int (-x)) M) : oNeg (.int x) M Q := h
theorem o_lt (h : Q (.bl (decide (x < y))) M) : oLt (.int x) (.int y) M Q := h
theorem o_le (h : Q (.bl (decide (x ≤ y))) M) : oLe (.int x) (.int y) M Q := h
theorem o_gt (h : Q (.bl (decide (y < x))) M) : oGt (.int x) (.int y) M Q := h
theorem o_ge (h : Q (.bl (decide (y ≤ x))) M) : oGe (.int x) (.int y) M Q := h
theorem o_eqI (h : Q (.bl (decide (x = y))) M) : oEq (.int x) (.int y) M Q := h
theorem o_neI (h : Q (.bl (!decide (x = y))) M) : oNe (.int x) (.int y) M Q := h
theorem o_min (h : Q (.int (if y < x then y else x)) M) : oMin2 [.int x, .int y] M Q := h
theorem o_max (h : Q (.int (if y > x then y else x)) M) : oMax2 [.int x, .int y] M Q := h
theorem o_intB {k : Bool} (h : Q (.int (if k then 1 else 0)) M) : oInt1 [.bl k] M Q := h
theorem o_ixT (e : atI ds x = some v) (h : Q v M) : oIx (.tup ds) (.int x) M Q := by unfold oIx; dsimp only; rw [e]; exact h
theorem o_ixL (el : M[p]? = some (.lst ds)) (e : atI ds x = some v) (h : Q v M) : oIx (.ref p) (.int x) M Q := by unfold oIx; dsimp only; rw [el]; dsimp only; rw [e]; exact h
theorem o_ixS {c : Nat} (hl : z.length ≤ 16000000) (e : atI z.cps.toList x = some c) (h : Q (.str ⟨#[c]⟩) M) : oIx (.str z) (.int x) M Q := ⟨hl, by rw [e]; exact h⟩
theorem o_lenT (h : Q (.int ds.length) M) : oLen [.tup ds] M Q := h
theorem o_lenL (el : M[p]? = some (.lst ds)) (h : Q (.int ds.length) M) : oLen [.ref p] M Q := by unfold oLen; dsimp only; rw [el]; exact h
theorem o_listL (el : M[p]? = some (.lst ds)) (h : Q (.ref M.length) (M ++ [.lst ds])) : oList1 [.ref p] M Q := by unfold oList1; dsimp only; rw [el]; exact h
theorem o_tupL (el : M[p]? = some (.lst ds)) (h : Q (.tup ds) M) : oTuple1 [.ref p] M Q := by unfold oTuple1; dsimp only; rw [el]; exact h
theorem o_setL {N : Mem → Prop} {j : Nat} (el : M[p]? = some (.lst ds)) (e : ixN ds.length x = some j) (h : N (M.set p (.lst (ds.set j v)))) : oSetIx (.ref p) (.int x) v M N := by unfold oSetIx; dsimp only; rw [el]; dsimp only; rw [e]; exact h
theorem o_app (el : M[p]? = some (.lst ds)) (hl : ds.length < 16000000) (h : Q .non (M.set p (.lst (ds ++ [v])))) : omAppend (.ref p) [v] M Q := by unfold omAppend; dsimp only; rw [el]; exact ⟨hl, h⟩
theorem o_isL {T : String} (el : M[p]? = some (.lst ds)) (hT : (["int", "str", "tuple", "list", "bool", "dict"].contains T = true)) (h : Q (.bl (subTy "list" T)) M) : oIsi [.ref p, .ty T] M Q := by simp only [oIsi, tyD, el]; exact ⟨hT, h⟩
theorem o_isT {T : String} (hT : (["int", "str", "tuple", "list", "bool", "dict"].contains T = true)) (h : Q (.bl (subTy "tuple" T)) M) : oIsi [.tup ds, .ty T] M Q := ⟨hT, h⟩
theorem o_isLL (el : M[p]? = some (.lst ds)) (h : Q (.bl true) M) : oIsi [.ref p, .ty "list"] M Q := o_isL el (by decide) h
theorem o_isTT (h : Q (.bl true) M) : oIsi [.tup ds, .ty "tuple"] M Q := o_isT (by decide) h
theorem o_truB {k : Bool} (h : QB k M) : tru (.bl k) M QB := h
theorem if_d {p : Prop} [Decidable p] {A B : Prop} (h1 : p → A) (h2 : ¬ p → B) : if decide p = true then A else B := by
  by_cases h : p
  · rw [if_pos (by simpa using h)]; exact h1 h
  · rw [if_neg (by simpa using h)]; exact h2 h
theorem if_n {p : Prop} [Decidable p] {A B : Prop} (h1 : ¬ p → A) (h2 : p → B) : if (!decide p) = true then A else B := by
  by_cases h : p
  · rw [if_neg (by simpa using h)]; exact h2 h
  · rw [if_pos (by simpa using h)]; exact h1 h
theorem if_nt {A B : Prop} (h : B) : if (!true) = true then A else B := by rw [if_neg (by simp)]; exact h
theorem if_nf {A B : Prop} (h : A) : if (!false) = true then A else B := by rw [if_pos (by simp)]; exact h
theorem if_t {A B : Prop} (h : A) : if true = true then A else B := by rw [if_pos rfl]; exact h
theorem if_f {A B : Prop} (h : B) : if false = true then A else B := by rw [if_neg (by simp)]; exact h
theorem x_nm {N : Ev → Prop} {i : Nat} {d : D} {ρ : Ev} {M : Mem} (h : N (ρ.set i (some d))) : (Tg.nm i).mg d ρ M N := h
theorem x_tp {N : Ev → Prop} {n : Nat} {l : Tgs} {ds : List D} {ρ : Ev} {M : Mem} (hl : ds.length = n) (h : l.mg ds ρ M N) : (Tg.tp n l).mg (.tup ds) ρ M N := ⟨hl, h⟩
theorem x_tc {N : Ev → Prop} {t : Tg} {l : Tgs} {d : D} {r : List D} {ρ : Ev} {M : Mem} (h : t.mg d ρ M fun ρ' => l.mg r ρ' M N) : (Tgs.cons t l).mg (d :: r) ρ M N := h
theorem x_tn {N : Ev → Prop} {ρ : Ev} {M : Mem} (h : N ρ) : Tgs.nil.mg [] ρ M N := h
theorem for_cons {guard : Mem → Prop} {T : Tg} {b : MS} {E : Nd} {d : D} {ds : List D} {ρ : Ev} {M : Mem} (hg : guard M) (h : T.mg d ρ M fun ρ1 => b ⟨fun ρ2 M2 => mForL guard T b E ds ρ2 M2, E.rt, E.nx, fun ρ2 M2 => mForL guard T b E ds ρ2 M2, E.ex⟩ ρ1 M) : mForL guard T b E (d :: ds) ρ M := ⟨hg, h⟩
theorem for_nil {guard : Mem → Prop} {T : Tg} {b : MS} {E : Nd} {ρ : Ev} {M : Mem} (hg : guard M) (h : E.nx ρ M) : mForL guard T b E [] ρ M := ⟨hg, h⟩
theorem for_ix {guard : Mem → Prop} {T : Tg} {b : MS} {E : Nd} {items : List D} (I : Nat → Ev → Mem → Prop) (hg : ∀ k ρ M, I k ρ M → guard M) (hn : ∀ ρ M, I items.length ρ M → E.nx ρ M)
    (hs : ∀ k d ρ M (K : Ev → Mem → Prop), items[k]? = some d → I k ρ M → (∀ ρ2 M2, I (k + 1) ρ2 M2 → K ρ2 M2) → T.mg d ρ M fun ρ1 => b ⟨K, E.rt, E.nx, K, E.ex⟩ ρ1 M)
    {ρ : Ev} {M : Mem} (h0 : I 0 ρ M) : mForL guard T b E items ρ M := by
  refine for_inv (fun l ρ M => ∃ k, l = items.drop k ∧ k ≤ items.length ∧ I k ρ M) ?_ ?_ ?_ ⟨0, rfl, Nat.zero_le _, h0⟩
  · rintro l ρ M ⟨k, _, _, h⟩; exact hg k ρ M h
  · rintro ρ M ⟨k, e, hk, h⟩
    have : k = items.length := by
      have := congrArg List.length e
      simp at this; omega
    subst this; exact hn ρ M h
  · rintro d l ρ M K ⟨k, e, hk, h⟩ q
    have hlt : k < items.length := by
      have := congrArg List.length e
      simp at this; omega
    rw [List.drop_eq_getElem_cons hlt] at e
    injection e with e1 e2
    exact hs k d ρ M K (by rw [List.getElem?_eq_getElem hlt, e1]) h fun ρ2 M2 i => q ρ2 M2 ⟨k + 1, e2, hlt, i⟩
theorem lc_ix {guard : Mem → Prop} {i : Nat} {me : ME} {ρ : Ev} {n : Nat} {Q : Mem → Prop} {items : List D} {M : Mem} (J : Nat → List D → Mem → Prop) (hg : ∀ k acc M, J k acc M → guard M)
    (hs : ∀ k d acc M (K : DK), items[k]? = some d → M[n]? = some (.lst acc) → J k acc M → (∀ y M4, M4[n]? = some (.lst acc) → J (k + 1) (acc ++ [y]) (M4.set n (.lst (acc ++ [y]))) → K y M4) → me (ρ.set i (some d)) M K noX)
    (hq : ∀ acc M, M[n]? = some (.lst acc) → J items.length acc M → Q M) (hl : items.length < 16000000) (hn : M[n]? = some (.lst [])) (h0 : J 0 [] M) : mLcL guard (.nm i) mYes me ρ n Q items M := by
  refine lc_inv (fun l acc M => ∃ k, l = items.drop k ∧ k ≤ items.length ∧ J k acc M) ?_ ?_ ?_ items [] M hn (by simpa using hl) ⟨0, rfl, Nat.zero_le _, h0⟩
  · rintro l acc M ⟨k, _, _, h⟩; exact hg k acc M h
  · rintro d l acc M K hM ⟨k, e, hk, h⟩ q
    have hlt : k < items.length := by
      have := congrArg List.length e
      simp at this; omega
    rw [List.drop_eq_getElem_cons hlt] at e
    injection e with e1 e2
    exact hs k d acc M K (by rw [List.getElem?_eq_getElem hlt, e1]) hM h fun y M4 h4 j => q y M4 h4 ⟨k + 1, e2, hlt, j⟩
  · rintro acc M hM ⟨k, e, hk, h⟩
    have : k = items.length := by
      have := congrArg List.length e
      simp at this; omega
    subst this; exact hq acc M hM h
theorem rng_len {n : Nat} : (rangeD 0 n).length = n := by simp [rangeD]
theorem rng_at {n k : Nat} {d : D} (h : (rangeD 0 n)[k]? = some d) : d = .int k ∧ k < n := by
  simp [rangeD, List.getElem?_map, List.getElem?_range] at h
  by_cases hk : k < n
  · simp [hk] at h; exact ⟨h.symm, hk⟩
  · simp [hk] at h
theorem x_join {a b : MS} {E : Nd} {ρ : Ev} {M : Mem} (P : Ev → Mem → Prop) (h : ∀ K, (∀ ρ' M', P ρ' M' → K ρ' M') → a ⟨K, E.rt, E.bk, E.ct, E.ex⟩ ρ M) (h2 : ∀ ρ' M', P ρ' M' → b E ρ' M') : mSeq a b E ρ M := h _ h2
end
end MV
namespace MV
open PySem L2
/-! ### steps: instances, raising, catching, dicts, chains -/
/-- an exception of the program: its class, its one field, its word -/
def xE (c f w : Str) (a : D) : Exn := ⟨c, [f, "word"], [a, .str w]⟩
/-- the fields of a net -/
def NF (h s t p r : D) : List (Str × D) := [("hours", h), ("s_box", s), ("t_box", t), ("places", p), ("roads", r)]
def noFld (f : Str) : Bool := !(["hours", "s_box", "t_box", "places", "roads"] : List Str).contains f
section
variable {h s t p r y : D}
theorem nf_hours : (NF h s t p r).lookup ("hours" : Str) = some h := by rfl
theorem nf_s : (NF h s t p r).lookup ("s_box" : Str) = some s := by rfl
theorem nf_t : (NF h s t p r).lookup ("t_box" : Str) = some t := by rfl
theorem nf_p : (NF h s t p r).lookup ("places" : Str) = some p := by rfl
theorem nf_r : (NF h s t p r).lookup ("roads" : Str) = some r := by rfl
theorem nf_no {f : Str} (hf : noFld f = true) : (NF h s t p r).lookup f = none := by
  simp only [noFld, List.contains_cons, List.contains_nil, Bool.not_eq_true', Bool.or_eq_false_iff] at hf
  obtain ⟨h1, h2, h3, h4, h5, -⟩ := hf
  simp only [NF, List.lookup, h1, h2, h3, h4, h5]
theorem pf_s : putD "s_box" y (NF h s t p r) = NF h y t p r := by rfl
theorem pf_t : putD "t_box" y (NF h s t p r) = NF h s y p r := by rfl
theorem pf_p : putD "places" y (NF h s t p r) = NF h s t y r := by rfl
theorem pf_r : putD "roads" y (NF h s t p r) = NF h s t p y := by rfl
end
section
variable {a b : MS} {E : Nd} {ρ : Ev} {M : Mem} {Q : DK} {X : XM} {m ma mb mc : ME} {t u : MT} {QB : Bool → Mem → Prop} {mr : MA} {QA' : List D → Mem → Prop} {i j n : Nat} {d : D} {cs : List Str} {f : Str} {fs : List (Str × D)} {c : Str}
theorem x_fld (q : ma ρ M (fun x M1 => match x with
  | .ref n => match M1[n]? with
    | some (.ins c fs) => c ∈ cs ∧ match fs.lookup f with
      | some d => Q d M1
      | none => False
    | _ => False
  | _ => False) X) : mFld cs ma f ρ M Q X := q
theorem x_fldV (e : ρ[i]? = some (some (.ref n))) (h : M[n]? = some (.ins c fs)) (hc : c ∈ cs) (hf : fs.lookup f = some d) (q : Q d M) : mFld cs (mVar i) f ρ M Q X := by
  unfold mFld mVar; rw [e]; dsimp only; rw [h]; dsimp only; rw [hf]; exact ⟨hc, q⟩
theorem x_setFld {mv : ME} (q : mv ρ M (fun y M1 => ma ρ M1 (fun x M2 => match x with
  | .ref n => match M2[n]? with
    | some (.ins c fs) => c ∈ cs ∧ fs.length < 100 ∧ E.nx ρ (M2.set n (.ins c (putD f y fs)))
    | _ => False
  | _ => False) (fun x M2 => E.ex x ρ M2)) (fun x M1 => E.ex x ρ M1)) : mSetFld cs ma mv f E ρ M := q
theorem x_setFldV {mv : ME} {fs' : List (Str × D)} {y : D} (hv : ∀ (Q : DK) X, Q y M → mv ρ M Q X) (e : ρ[i]? = some (some (.ref n))) (h : M[n]? = some (.ins c fs)) (hc : c ∈ cs) (hl : fs.length < 100) (hp : putD f y fs = fs') (q : E.nx ρ (M.set n (.ins c fs'))) : mSetFld cs (mVar i) mv f E ρ M := by
  unfold mSetFld mVar
  refine hv _ _ ?_
  dsimp only
  rw [e]; dsimp only; rw [h]; dsimp only; rw [hp]; exact ⟨hc, hl, q⟩
theorem x_methV {c mn : Str} {w : WF} {n' k : Nat} {gD : List D → List D → List D} {ms : MA2} (e : ρ[i]? = some (some (.ref n))) (h : M[n]? = some (.ins c fs)) (hm : fs.lookup mn = none) (q : ms ρ M (fun ds es M2 => ((D.ref n :: ds).length = n' ∧ es.length = k) ∧ w (gD (.ref n :: ds) es) M2 Q X) X) : mMeth c mn w n' k gD (mVar i) ms ρ M Q X := by
  unfold mMeth mVar; rw [e]; dsimp only; rw [h]; exact ⟨⟨rfl, hm⟩, q⟩
theorem x_make {c : Str} {w : WF} {n' k : Nat} {gD : List D → List D → List D} {ms : MA2} (q : ms ρ M (fun ds es M1 => (ds.length + 1 = n' ∧ es.length = k) ∧ w (gD (.ref M1.length :: ds) es) (M1 ++ [.ins c []]) (fun v M2 => match v with | .non => Q (.ref M1.length) M2 | _ => False) X) X) : mMake c w n' k gD ms ρ M Q X := q
theorem x_argsK {k : List D → List D → Mem → Prop} (h : mr ρ M (fun es M1 => k [] es M1) X) : mArgsK mr ρ M k X := h
theorem x_argsPK {mk : MA} {k : List D → List D → Mem → Prop} (h : mr ρ M (fun ds M1 => mk ρ M1 (fun es M2 => k ds es M2) X) X) : mArgsPK mr mk ρ M k X := h
theorem x_raise {x : Str} {n : Nat} {sp : List (Str × Src)} (h : mr ρ M (fun ds M1 => ds.length = n ∧ E.ex ⟨x, sp.map (·.1), sp.map fun p => p.2.d ds⟩ ρ M1) (fun y M1 => E.ex y ρ M1)) : mRaise x n sp mr E ρ M := h
theorem x_andV (h : ma ρ M (fun x M1 => match x with | .bl k => if k = true then mb ρ M1 Q X else Q (.bl false) M1 | _ => False) X) : mAndV ma mb ρ M Q X := h
theorem x_orV (h : ma ρ M (fun x M1 => match x with | .bl k => if k = true then Q (.bl true) M1 else mb ρ M1 Q X | _ => False) X) : mOrV ma mb ρ M Q X := h
theorem x_chI {x y z : Int} (ha : ∀ Q : DK, Q (.int x) M → ma ρ M Q X) (hb : ∀ Q : DK, Q (.int y) M → mb ρ M Q X) (hc : ∀ Q : DK, Q (.int z) M → mc ρ M Q X) (q : Q (.bl (decide (x ≤ y ∧ y ≤ z))) M) : mChain oLe oLe ma mb mc ρ M Q X := by
  refine ha _ (hb _ ?_)
  show if decide (x ≤ y) = true then mc ρ M (fun w M4 => oLe (.int y) w M4 Q) X else Q (.bl false) M
  by_cases h : x ≤ y
  · rw [if_pos (by simpa using h)]
    refine hc _ ?_
    show Q (.bl (decide (y ≤ z))) M
    simpa [h] using q
  · rw [if_neg (by simpa using h)]
    simpa [h] using q
theorem x_par {k l : Nat} (h : mr ρ M (fun ds M1 => match ds with | [d, e] => E.nx ((ρ.set k (some d)).set l (some e)) M1 | _ => False) (fun x M1 => E.ex x ρ M1)) : mPar k l mr E ρ M := h
theorem x_try {sub : Str → Str → Option Bool} {cl : List MCl} (h : a ⟨E.nx, E.rt, E.bk, E.ct, mCatch sub E cl⟩ ρ M) : mTry sub a cl E ρ M := h
theorem x_rng2 {k : List D → (Mem → Prop) → Mem → Prop} (h : mr ρ M (fun ds M1 => match ds with | [.int i, .int j] => (-(2 ^ 62) ≤ i ∧ i < 2 ^ 62 ∧ -(2 ^ 62) ≤ j ∧ j < 2 ^ 62) ∧ k (rangeD i (j - i).toNat) (fun _ => True) M1 | _ => False) X) : mIRng2 mr ρ M k X := h
theorem x_dict0 (h : Q (.ref M.length) (M ++ [.dct false []])) : mDict0 ρ M Q X := h
/-- a clause that does not match -/
theorem c_no {sub : Str → Str → Option Bool} {c : MCl} {r : List MCl} {x : Exn} (hs : ∀ y ∈ c.cs, (sub x.c y).isSome = true) (hn : (c.cs.any fun y => sub x.c y == some true) = false) (h : mCatch sub E r x ρ M) : mCatch sub E (c :: r) x ρ M := ⟨hs, by rw [if_neg (by rw [hn]; decide)]; exact h⟩
theorem c_yes {sub : Str → Str → Option Bool} {cs : List Str} {i : Nat} {s : Addr → Addr → Str → MS} {r : List MCl} {x : Exn} (hs : ∀ y ∈ cs, (sub x.c y).isSome = true) (hn : (cs.any fun y => sub x.c y == some true) = true) (h : ∀ a dd, s a dd x.c ⟨fun ρ M => E.nx (ρ.set i none) M, E.rt, fun ρ M => E.bk (ρ.set i none) M, fun ρ M => E.ct (ρ.set i none) M, fun _ _ _ => False⟩ (ρ.set i (some (.exn a dd x.c x.ns x.ds))) M) : mCatch sub E (⟨cs, some i, s⟩ :: r) x ρ M := ⟨hs, by rw [if_pos hn]; exact h⟩
theorem c_noC {sub : Str → Str → Option Bool} {c : MCl} {r : List MCl} {x : Exn} {xc : Str} (hx : x.c = xc) (hs : ∀ y ∈ c.cs, (sub xc y).isSome = true) (hn : (c.cs.any fun y => sub xc y == some true) = false) (h : mCatch sub E r x ρ M) : mCatch sub E (c :: r) x ρ M := by subst hx; exact c_no hs hn h
theorem c_yesC {sub : Str → Str → Option Bool} {cs : List Str} {i : Nat} {s : Addr → Addr → Str → MS} {r : List MCl} {x : Exn} {xc : Str} (hx : x.c = xc) (hs : ∀ y ∈ cs, (sub xc y).isSome = true) (hn : (cs.any fun y => sub xc y == some true) = true) (h : ∀ a dd, s a dd x.c ⟨fun ρ M => E.nx (ρ.set i none) M, E.rt, fun ρ M => E.bk (ρ.set i none) M, fun ρ M => E.ct (ρ.set i none) M, fun _ _ _ => False⟩ (ρ.set i (some (.exn a dd x.c x.ns x.ds))) M) : mCatch sub E (⟨cs, some i, s⟩ :: r) x ρ M := by subst hx; exact c_yes hs hn h
theorem x_xf {a dd : Addr} {c : Str} {ns : List Str} {ds : List D} {f : Str} (e : ρ[i]? = some (some (.exn a dd c ns ds))) (hf : (ns.zip ds).lookup f = some d) (h : Q d M) : mXf a dd c i f ρ M Q X := by
  unfold mXf; rw [e]; dsimp only; rw [hf]; exact ⟨⟨rfl, rfl, rfl⟩, h⟩
/-! texts, dicts -/
variable {x y : D} {p : Nat} {kvs : List (Key × D)} {lk : Bool} {z w : Str} {k : Key}
theorem o_eqS (h : Q (.bl (decide (z = w))) M) : oEq (.str z) (.str w) M Q := h
theorem o_neS (h : Q (.bl (!decide (z = w))) M) : oNe (.str z) (.str w) M Q := h
theorem o_isN (h : Q (.bl (match x with | .non => true | _ => false)) M) : oIs x .non M Q := h
theorem o_isnN (h : Q (.bl (match x with | .non => false | _ => true)) M) : oIsNot x .non M Q := h
theorem o_inS {c : Nat} (h : Q (.bl (decide (c ∈ z.cps.toList))) M) : oIn (.str ⟨#[c]⟩) (.str z) M Q := h
theorem o_ninS {c : Nat} (h : Q (.bl (!decide (c ∈ z.cps.toList))) M) : oNotIn (.str ⟨#[c]⟩) (.str z) M Q := h
theorem o_inD (e : M[p]? = some (.dct lk kvs)) (hk : keyOf x = some k) (h : Q (.bl (dget kvs k).isSome) M) : oIn x (.ref p) M Q := by
  unfold oIn oInB; dsimp only; rw [e]; dsimp only; rw [hk]; exact h
theorem o_ninD (e : M[p]? = some (.dct lk kvs)) (hk : keyOf x = some k) (h : Q (.bl (!(dget kvs k).isSome)) M) : oNotIn x (.ref p) M Q := by
  unfold oNotIn oInB; dsimp only; rw [e]; dsimp only; rw [hk]; exact h
theorem o_ixD (e : M[p]? = some (.dct lk kvs)) (hk : keyOf x = some k) (hd : dget kvs k = some d) (h : Q d M) : oIx (.ref p) x M Q := by
  unfold oIx; dsimp only; rw [e]; dsimp only; rw [hk]; dsimp only; rw [hd]; exact h
theorem o_lenD (e : M[p]? = some (.dct lk kvs)) (h : Q (.int kvs.length) M) : oLen [.ref p] M Q := by
  unfold oLen; dsimp only; rw [e]; exact h
theorem o_lenS (hl : z.length ≤ 16000000) (h : Q (.int z.length) M) : oLen [.str z] M Q := ⟨hl, h⟩
theorem o_dictD (e : M[p]? = some (.dct lk kvs)) (h : Q (.ref M.length) (M ++ [.dct false kvs])) : oDict1 [.ref p] M Q := by
  unfold oDict1; dsimp only; rw [e]; exact h
theorem o_listD (e : M[p]? = some (.dct false kvs)) (h : Q (.ref M.length) (M ++ [.lst (kvs.map fun kv => kD kv.1)])) : oList1 [.ref p] M Q := by
  unfold oList1; dsimp only; rw [e]; exact h
theorem o_setD {N : Mem → Prop} (e : M[p]? = some (.dct false kvs)) (hk : keyOf x = some k) (hl : kvs.length < 16000000) (h : N (M.set p (.dct false (dput kvs k y)))) : oSetIx (.ref p) x y M N := by
  unfold oSetIx; dsimp only; rw [e]; dsimp only; rw [hk]; exact ⟨hl, h⟩
theorem o_strI {n : Int} (hl : n.natAbs.log2 < 1920) (h : Q (.str (toString n)) M) : oStr1 [.int n] M Q := ⟨hl, h⟩
theorem o_strS (h : Q (.str z) M) : oStr1 [.str z] M Q := h
theorem o_abs {n : Int} (h : Q (.int (if n < 0 then -n else n)) M) : oAbs [.int n] M Q := h
theorem x_tpL {N : Ev → Prop} {n p : Nat} {l : Tgs} {ds : List D} (e : M[p]? = some (.lst ds)) (hl : ds.length = n) (h : l.mg ds ρ M N) : (Tg.tp n l).mg (.ref p) ρ M N := by
  unfold Tg.mg; dsimp only; rw [e]; exact ⟨hl, h⟩
theorem iseqT {k : List D → (Mem → Prop) → Mem → Prop} {ds : List D} (h : k ds (fun _ => True) M) : iseqK k (.tup ds) M := h
theorem iseqS {k : List D → (Mem → Prop) → Mem → Prop} (h : k (z.cps.toList.map fun c => .str ⟨#[c]⟩) (fun _ => True) M) : iseqK k (.str z) M := h
theorem x_iseqTV {k : List D → (Mem → Prop) → Mem → Prop} {ds : List D} (e : ρ[i]? = some (some (.tup ds))) (h : k ds (fun _ => True) M) : mISeq (mVar i) ρ M k X := by
  unfold mISeq mVar; rw [e]; exact h
theorem x_iseqSV {k : List D → (Mem → Prop) → Mem → Prop} (e : ρ[i]? = some (some (.str z))) (h : k (z.cps.toList.map fun c => .str ⟨#[c]⟩) (fun _ => True) M) : mISeq (mVar i) ρ M k X := by
  unfold mISeq mVar; rw [e]; exact h
theorem x_isS {P : Prop} (q : P) : isT "str" (.str z) M ∧ P := ⟨rfl, q⟩
theorem if_b {k : Bool} {A B : Prop} (h1 : k = true → A) (h2 : k = false → B) : if k = true then A else B := by
  cases k
  · rw [if_neg (by decide)]; exact h2 rfl
  · rw [if_pos rfl]; exact h1 rfl
end
theorem lcT_inv {guard : Mem → Prop} {T : Tg} {me : ME} {ρ : Ev} {n : Nat} {Q : Mem → Prop} (J : List D → List D → Mem → Prop) (hg : ∀ l acc M, J l acc M → guard M)
    (hs : ∀ d l acc M (K : DK), M[n]? = some (.lst acc) → J (d :: l) acc M → (∀ y M4, M4[n]? = some (.lst acc) → J l (acc ++ [y]) (M4.set n (.lst (acc ++ [y]))) → K y M4) → T.mg d ρ M fun ρ2 => me ρ2 M K noX)
    (hq : ∀ acc M, M[n]? = some (.lst acc) → J [] acc M → Q M) :
    ∀ (items acc : List D) (M : Mem), M[n]? = some (.lst acc) → acc.length + items.length < 16000000 → J items acc M → mLcL guard T mYes me ρ n Q items M
  | [], acc, M, hn, _, h => ⟨hg _ _ _ h, hq acc M hn h⟩
  | d :: l, acc, M, hn, hl, h => ⟨hg _ _ _ h, hs d l acc M _ hn h fun y M4 h4 j => by
      show (match M4[n]? with
        | some (.lst acc) => acc.length < 16000000 ∧ mLcL guard T mYes me ρ n Q l (M4.set n (.lst (acc ++ [y])))
        | _ => False)
      rw [h4]
      refine ⟨by simp at hl; omega, ?_⟩
      exact lcT_inv J hg hs hq l (acc ++ [y]) _ (msame h4) (by simp at hl ⊢; omega) j⟩
theorem lcT_ix {guard : Mem → Prop} {T : Tg} {me : ME} {ρ : Ev} {n : Nat} {Q : Mem → Prop} {items : List D} {M : Mem} (J : Nat → List D → Mem → Prop) (hg : ∀ k acc M, J k acc M → guard M)
    (hs : ∀ k d acc M (K : DK), items[k]? = some d → M[n]? = some (.lst acc) → J k acc M → (∀ y M4, M4[n]? = some (.lst acc) → J (k + 1) (acc ++ [y]) (M4.set n (.lst (acc ++ [y]))) → K y M4) → T.mg d ρ M fun ρ2 => me ρ2 M K noX)
    (hq : ∀ acc M, M[n]? = some (.lst acc) → J items.length acc M → Q M) (hl : items.length < 16000000) (hn : M[n]? = some (.lst [])) (h0 : J 0 [] M) : mLcL guard T mYes me ρ n Q items M := by
  refine lcT_inv (fun l acc M => ∃ k, l = items.drop k ∧ k ≤ items.length ∧ J k acc M) ?_ ?_ ?_ items [] M hn (by simpa using hl) ⟨0, rfl, Nat.zero_le _, h0⟩
  · rintro l acc M ⟨k, _, _, h⟩; exact hg k acc M h
  · rintro d l acc M K hM ⟨k, e, hk, h⟩ q
    have hlt : k < items.length := by
      have := congrArg List.length e
      simp at this; omega
    rw [List.drop_eq_getElem_cons hlt] at e
    injection e with e1 e2
    exact hs k d acc M K (by rw [List.getElem?_eq_getElem hlt, e1]) hM h fun y M4 h4 j => q y M4 h4 ⟨k + 1, e2, hlt, j⟩
  · rintro acc M hM ⟨k, e, hk, h⟩
    have : k = items.length := by
      have := congrArg List.length e
      simp at this; omega
    subst this; exact hq acc M hM h
section
variable {κ : Type} [DecidableEq κ] {kvs : List (κ × D)} {k k' : κ} {v : D}
theorem dput_new (h : dget kvs k = none) : dput kvs k v = kvs ++ [(k, v)] := by
  unfold dput
  rw [if_neg]
  intro hc
  obtain ⟨x, hx, he⟩ := List.any_eq_true.mp hc
  unfold dget at h
  rw [Option.map_eq_none_iff, List.find?_eq_none] at h
  exact h x hx he
theorem dget_app : dget (kvs ++ [(k', v)]) k = (dget kvs k).or (if k' = k then some v else none) := by
  unfold dget
  rw [List.find?_append]
  cases h : kvs.find? (fun kv => decide (kv.1 = k)) with
  | some x => simp
  | none =>
    by_cases e : k' = k
    · simp [e]
    · simp [e]
theorem dget_put_same : dget (dput kvs k v) k = some v := by
  unfold dput
  split
  · rename_i h
    induction kvs with
    | nil => simp at h
    | cons x r ih =>
      by_cases e : x.1 = k
      · simp [dget, e]
      · have h' : (r.any fun kv => decide (kv.1 = k)) = true := by simpa [e] using h
        have := ih h'
        simpa [dget, e] using this
  · rename_i h
    have hn : dget kvs k = none := by
      unfold dget
      rw [Option.map_eq_none_iff, List.find?_eq_none]
      intro x hx he
      exact h (List.any_eq_true.mpr ⟨x, hx, he⟩)
    rw [dget_app, hn]; simp
end
end MV
namespace MV
/-- the two ends of a deed that may be refused -/
def En (Q : DK) (X : XM) (M : Mem) (r : Option Exn) : Prop := match r with | none => Q .non M | some e => X e M
theorem En.step {Q Q' : DK} {X : XM} {M : Mem} {r r2 : Option Exn} (h : En Q X M (r.or r2)) (k : r = none → En Q X M r2 → Q' .non M) : En Q' X M r := by
  cases r with
  | none => exact k rfl h
  | some e => exact h
theorem En.last {Q Q' : DK} {X : XM} {M : Mem} {r : Option Exn} (h : En Q X M r) (k : r = none → Q .non M → Q' .non M) : En Q' X M r := by
  cases r with
  | none => exact k rfl h
  | some e => exact h
def pD (x : Int × Int) : D := .tup [.int x.1, .int x.2]
def omD : Option (Int × Int) → D
  | none => .non
  | some m => pD m
abbrev Rung := Option (Int × Int) × (Int × Int)
def rungD (r : Rung) : D := .tup [omD r.1, pD r.2]
/-- numbers that may be multiplied -/
def Tame (x : Int × Int) : Prop := x.1.natAbs < 2 ^ 64 ∧ x.2.natAbs < 2 ^ 64
section
variable {M : Mem} {Q : DK} {m : Int × Int} {r : Rung}
theorem o_pD0 (h : Q (.int m.1) M) : oIx (pD m) (.int 0) M Q := h
theorem o_pD1 (h : Q (.int m.2) M) : oIx (pD m) (.int 1) M Q := h
theorem o_rg0 (h : Q (omD r.1) M) : oIx (rungD r) (.int 0) M Q := h
theorem o_rg1 (h : Q (pD r.2) M) : oIx (rungD r) (.int 1) M Q := h
theorem x_tpR {N : Ev → Prop} {l : Tgs} {ρ : Ev} (h : l.mg [omD r.1, pD r.2] ρ M N) : (Tg.tp 2 l).mg (rungD r) ρ M N := ⟨rfl, h⟩
end
end MV
open PySem L2 MV
/-- the mirrors' steps -/
local macro_rules | `(tactic| walk_at "ex") => `(tactic| first
  | ((with_reducible refine x_var (d := ?vv) ?hh ?qq); (case hh => exact rfl))
  | ((with_reducible refine x_len ?l1 ?l2 ?qq); (case l1 => exact rfl); (case l2 => exact rfl))
  | ((with_reducible refine o_tup ?l1 ?qq); (case l1 => exact Nat.le_of_ble_eq_true rfl))
  | ((with_reducible refine o_lst ?l1 ?qq); (case l1 => exact Nat.le_of_ble_eq_true rfl))
  | ((with_reducible refine o_ixT (v := ?ww) ?l1 ?qq); (case l1 => exact rfl))
  | ((with_reducible refine x_tp ?l1 ?qq); (case l1 => exact rfl))
  | with_reducible first
  | refine x_lc ?_
  | refine x_c ?_ | refine x_op ?_ | refine x_un ?_ | refine x_cb ?_ | refine x_nil ?_ | refine x_cons ?_ | refine x_b ?_ | refine x_tru ?_ | refine x_and ?_ | refine x_or ?_ | refine x_not ?_ | refine x_yes ?_ | refine x_nm ?_ | refine x_tc ?_ | refine x_tn ?_ | refine x_ifE ?_ | refine x_andV ?_ | refine x_orV ?_ | refine x_argsK ?_ | refine x_argsPK ?_ | refine x_rng2 ?_ | refine x_dict0 ?_ | refine x_make ?_ | refine o_eqS ?_ | refine o_neS ?_ | refine o_isN ?_ | refine o_isnN ?_ | refine o_strS ?_ | refine o_abs ?_ | refine o_inS ?_ | refine o_ninS ?_ | refine o_pD0 ?_ | refine o_pD1 ?_ | refine o_rg0 ?_ | refine o_rg1 ?_ | refine x_tpR ?_ | refine x_isS ?_
  | refine x_call ?_ | refine x_argsP ?_ | refine x_args0 ?_ | refine x_bm ?_ | refine x_rng ?_ | refine x_sl ?_ | refine x_noP ?_ | refine x_part ?_
  | refine o_add ?_ | refine o_sub ?_ | refine o_neg ?_ | refine o_lt ?_ | refine o_le ?_ | refine o_gt ?_ | refine o_ge ?_ | refine o_eqI ?_ | refine o_neI ?_ | refine o_min ?_ | refine o_max ?_ | refine o_intB ?_ | refine o_lenT ?_ | refine o_truB ?_ | refine o_slK ?_ | refine o_slT ?_ | refine o_isTT ?_ | refine if_t ?_ | refine if_f ?_ | refine if_nt ?_ | refine if_nf ?_)
local macro_rules | `(tactic| walk_at "sx") => `(tactic| with_reducible first
  | refine x_seq ?_ | refine x_set ?_ | refine x_ret ?_ | refine x_retN ?_ | refine x_next ?_ | refine x_drop ?_ | refine x_ifS ?_ | refine x_asg ?_ | refine x_setIx ?_ | refine x_for ?_ | refine x_par ?_ | refine x_raise ?_ | refine x_try ?_)
local macro_rules | `(tactic| walk_at "mx") => `(tactic| first | walk_at "sx" | walk_at "ex")
local macro_rules | `(tactic| walk_at "fx") => `(tactic| first
  | ((with_reducible refine o_ixL (ds := ?ll) (v := ?ww) ?l0 ?l1 ?qq); (case l0 => assumption); (case l1 => exact rfl))
  | ((with_reducible refine o_lenL (ds := ?ll) ?l0 ?qq); (case l0 => assumption))
  | ((with_reducible refine x_iseqV (n := ?nn) (ds := ?ll) ?l0 ?l1 ?qq); (case l0 => exact rfl); (case l1 => assumption))
  | ((with_reducible refine x_enT (ds := ?ll) ?l0 ?qq); (case l0 => exact rfl))
  | ((with_reducible refine x_isL (ds := ?ll) ?l0 ?qq); (case l0 => assumption))
  | ((with_reducible refine o_isLL (ds := ?ll) ?l0 ?qq); (case l0 => assumption))
  | ((with_reducible refine o_listL (ds := ?ll) ?l0 ?qq); (case l0 => assumption))
  | ((with_reducible refine o_tupL (ds := ?ll) ?l0 ?qq); (case l0 => assumption))
  | ((with_reducible refine x_fldV (n := ?nn) (fs := ?ff) (d := ?dd) (c := ?cc) ?l0 ?l1 ?l2 ?l3 ?qq); (case l0 => exact rfl); (case l1 => assumption); (case l2 => decide +kernel); (case l3 => first | exact nf_hours | exact nf_s | exact nf_t | exact nf_p | exact nf_r))
  | ((with_reducible refine x_methV (n := ?nn) (fs := ?ff) ?l0 ?l1 ?l2 ?qq); (case l0 => exact rfl); (case l1 => assumption); (case l2 => exact nf_no (by decide +kernel)))
  | ((with_reducible refine o_lenD (lk := ?lk) (kvs := ?ll) ?l0 ?qq); (case l0 => assumption))
  | ((with_reducible refine o_dictD (lk := ?lk) (kvs := ?ll) ?l0 ?qq); (case l0 => assumption))
  | ((with_reducible refine o_listD (kvs := ?ll) ?l0 ?qq); (case l0 => assumption))
  | ((with_reducible refine o_inD (lk := ?lk) (kvs := ?ll) (k := ?kk) ?l0 ?l1 ?qq); (case l0 => assumption); (case l1 => exact rfl))
  | ((with_reducible refine o_ninD (lk := ?lk) (kvs := ?ll) (k := ?kk) ?l0 ?l1 ?qq); (case l0 => assumption); (case l1 => exact rfl))
  | ((with_reducible refine x_iseqTV (ds := ?ll) ?l0 ?qq); (case l0 => exact rfl))
  | ((with_reducible refine x_iseqSV (z := ?zz) ?l0 ?qq); (case l0 => exact rfl)))
local macro_rules | `(tactic| walk_at "m1") => `(tactic| first | walk_at "mx" | walk_at "fx")
local macro_rules | `(tactic| walk_at "ml") => `(tactic| repeat walk_at "m1")
local macro_rules | `(tactic| walk_at "q1") => `(tactic| first | walk_at "ex" | walk_at "fx")
local macro_rules | `(tactic| walk_at "mq") => `(tactic| repeat walk_at "q1")
namespace MV
/-- the feed at p, its cells at q -/
def Feed (M : Mem) (p q : Nat) : Prop := ∃ (cs : List Int) (i r s : Int), M[p]? = some (.lst [.ref q, .int i, .int r, .int s]) ∧ M[q]? = some (.lst (cs.map .int)) ∧ p ≠ q ∧ 0 ≤ i ∧ 0 ≤ s ∧ s < 2147483647
theorem Feed.kp {M M' : Mem} {p q : Nat} {S : List Nat} (h : Feed M p q) (k : Kp S M M') (n1 : p ∉ S) (n2 : q ∉ S) : Feed M' p q := by
  obtain ⟨cs, i, r, s, h1, h2, h3⟩ := h
  exact ⟨cs, i, r, s, k.at_ _ _ n1 h1, k.at_ _ _ n2 h2, h3⟩
theorem Feed.lt {M : Mem} {p q : Nat} (h : Feed M p q) : p < M.length ∧ q < M.length := by
  obtain ⟨cs, i, r, s, h1, h2, h3⟩ := h
  exact ⟨mlt h1, mlt h2⟩
theorem Feed.app {M l : Mem} {p q : Nat} (h : Feed M p q) : Feed (M ++ l) p q := h.kp (S := []) Kp.app (by simp) (by simp)
end MV
namespace Prf
theorem ldraw {M : Mem} {p q : Nat} {m : Int} {Q : DK} {X : XM} (F : Feed M p q) (hm : 0 < m) (hb : m < 2 ^ 60) (k : ∀ d M', 0 ≤ d → d < m → Kp [p] M M' → Feed M' p q → Q (.int d) M') : w_Ldraw [.ref p, .int m] M Q X := by
  obtain ⟨cs, i, r, s, h1, h2, hne, hi, hs0, hs1⟩ := F
  have hm0 : m ≠ 0 := by omega
  have hd : okDiv m := div_ok hm0 (by omega)
  show m_Ldraw _ [some (.ref p), some (.int m), none, none, none] M
  unfold m_Ldraw
  walk_at "ml"
  refine if_d (fun hr => ?_) (fun hr => ?_)
  · walk_at "ml"
    refine o_mod hm0 ?_
    walk_at "ml"
    refine o_div hd ?_
    walk_at "ml"
    refine o_setL h1 (j := 2) rfl ?_
    walk_at "ml"
    obtain ⟨a1, a2⟩ := fmod_in r hm
    exact k _ _ a1 a2 (.set (by simp)) ⟨cs, i, _, s, msame h1, by rw [List.getElem?_set_ne hne]; exact h2, hne, hi, hs0, hs1⟩
  · iterate 4 walk_at "mx"
    with_reducible refine x_join (fun ρ' M' => ∃ c i' : Int, ρ' = [some (.ref p), some (.int m), none, some (.int c), none] ∧ 0 ≤ i' ∧ M'[p]? = some (.lst [.ref q, .int i', .int r, .int s]) ∧ M'[q]? = some (.lst (cs.map .int)) ∧ Kp [p] M M') ?_ ?_
    · intro K hK
      walk_at "ml"
      refine if_d (fun hc => ?_) (fun hc => ?_)
      · walk_at "ml"
        have hi2 : i.toNat < cs.length := by simp at hc; omega
        refine o_ixL h2 (v := .int cs[i.toNat]) (by rw [atI_i hi]; simp [hi2]) ?_
        walk_at "ml"
        refine o_setL h1 (j := 1) rfl ?_
        exact hK _ _ ⟨_, i + 1, rfl, by omega, msame h1, by rw [List.getElem?_set_ne hne]; exact h2, .set (by simp)⟩
      · walk_at "ml"
        exact hK _ _ ⟨0, i, rfl, hi, h1, h2, .refl⟩
    · rintro _ M1 ⟨c, i', rfl, hi', g1, g2, kp⟩
      walk_at "ml"
      refine if_d (fun hc => ?_) (fun hc => ?_)
      · walk_at "ml"
        refine o_div hd ?_
        walk_at "ml"
        refine o_setL g1 (j := 2) rfl ?_
        walk_at "ml"
        refine o_mod hm0 ?_
        obtain ⟨a1, a2⟩ := fmod_in c hm
        exact k _ _ a1 a2 (kp.trans (.set (by simp))) ⟨cs, i', _, s, msame g1, by rw [List.getElem?_set_ne hne]; exact g2, hne, hi', hs0, hs1⟩
      · walk_at "ml"
        refine o_mul (mul_ok (by decide)) ?_
        walk_at "ml"
        refine o_mod (by decide) ?_
        walk_at "ml"
        refine o_mod (by decide) ?_
        walk_at "ml"
        refine o_setL g1 (j := 3) rfl ?_
        obtain ⟨b1, b2⟩ := fmod_in (s * 48271 + c.fmod 1000003 + 11) (m := 2147483647) (by decide)
        generalize (s * 48271 + c.fmod 1000003 + 11).fmod 2147483647 = s' at b1 b2 ⊢
        have g3 : (M1.set p (.lst [.ref q, .int i', .int r, .int s']))[p]? = some (.lst [.ref q, .int i', .int r, .int s']) := msame g1
        have g4 : (M1.set p (.lst [.ref q, .int i', .int r, .int s']))[q]? = some (.lst (cs.map .int)) := by rw [List.getElem?_set_ne hne]; exact g2
        have kp2 : Kp [p] M (M1.set p (.lst [.ref q, .int i', .int r, .int s'])) := kp.trans (.set (by simp))
        show mSeq _ _ _ _ (M1.set p (.lst [.ref q, .int i', .int r, .int s']))
        generalize M1.set p (.lst [.ref q, .int i', .int r, .int s']) = M2 at g3 g4 kp2 ⊢
        walk_at "ml"
        refine o_pow ⟨by decide, by decide, by omega⟩ ?_
        walk_at "ml"
        refine o_ixL (ds := [.int s', .int (s' ^ 4)]) (v := .int (if 100000 < m then s' ^ 4 else s')) mnew ?_ ?_
        · by_cases hm5 : 100000 < m <;> simp [hm5, atI_0, atI_1]
        walk_at "ml"
        refine o_div (div_ok (by decide) (by decide)) ?_
        walk_at "ml"
        refine o_mod hm0 ?_
        have fin : ∀ a : Int, Q (.int (a.fmod m)) (M2 ++ [.lst [.int s', .int (s' ^ 4)]]) := fun a => by
          obtain ⟨a1, a2⟩ := fmod_in a hm
          exact k _ _ a1 a2 (kp2.trans .app) (Feed.app ⟨cs, i', r, s', g3, g4, hne, hi', b1, b2⟩)
        exact fin _
theorem lfeed {M : Mem} {ns : List Int} {Q : DK} {X : XM} (k : ∀ M', Kp [] M M' → Feed M' (M.length + 2) (M.length + 1) → Q (.ref (M.length + 2)) M') : w_Lfeed [.kl (ns.map .int)] M Q X := by
  show m_Lfeed _ [some (.kl (ns.map .int))] M
  unfold m_Lfeed
  walk_at "ml"
  show oList1 [.ref M.length] (M ++ [.lst (cutD (ns.map D.int) none (some 63))]) _
  have e : ∃ cs : List Int, cutD (ns.map D.int) none (some 63) = cs.map .int := ⟨_, by unfold cutD; rw [← List.map_drop, ← List.map_take]⟩
  obtain ⟨cs, e⟩ := e
  rw [e]
  refine o_listL mnew ?_
  walk_at "ml"
  have e2 : (M ++ [O.lst (cs.map D.int)]).length = M.length + 1 := by simp
  have e3 : (M ++ [O.lst (cs.map D.int)] ++ [O.lst (cs.map D.int)]).length = M.length + 2 := by simp
  rw [e2, e3]
  refine k _ ((Kp.app.trans .app).trans .app) ⟨cs, 0, 0, 1, ?_, ?_, by omega, by decide, by decide, by decide⟩
  · rw [← e3]; exact mnew
  · exact (Kp.app (S := [])).at_ _ _ (by simp) (by rw [← e2]; exact mnew)
end Prf

namespace MV
/-- a text of at most n plain signs -/
def Asc (n : Nat) (s : Str) : Prop := s.cps.size ≤ n ∧ ∀ c ∈ s.cps.toList, c < 128
theorem Asc.ok {n : Nat} {s : Str} (h : Asc n s) : PyData.strOk s = true := by
  unfold PyData.strOk
  rw [Array.all_eq_true_iff_forall_mem]
  intro c hc
  have := h.2 c (by simpa using hc)
  exact decide_eq_true (by omega)
theorem Asc.app {n m : Nat} {s t : Str} (h : Asc n s) (k : Asc m t) : Asc (n + m) (s ++ t) := by
  have e : (s ++ t).cps = s.cps ++ t.cps := rfl
  refine ⟨?_, fun c hc => ?_⟩
  · rw [e, Array.size_append]
    exact Nat.add_le_add h.1 k.1
  · rw [e, Array.toList_append] at hc
    rcases List.mem_append.mp hc with z | z
    · exact h.2 c z
    · exact k.2 c z
theorem Asc.one {c : Nat} (h : c < 128) : Asc 1 ⟨#[c]⟩ := ⟨Nat.le_refl _, by simp [h]⟩
theorem Asc.mono {n m : Nat} {s : Str} (e : n ≤ m) (h : Asc n s) : Asc m s := ⟨Nat.le_trans h.1 e, h.2⟩
theorem Asc.len {n : Nat} {s : Str} (h : Asc n s) : s.length ≤ n := h.1
theorem inOk_strs {s : Str} {ns : List Str} : inOk (.str s) (ns.map .str) := by
  unfold inOk
  have : (ns.map D.str).all flat = true := by simp [flat]
  rw [this]; simp [flat]
theorem o_inL {x : D} {p : Nat} {ds : List D} {M : Mem} {Q : DK} (el : M[p]? = some (.lst ds)) (hk : inOk x ds) (h : Q (.bl (ds.any fun e => deq e x)) M) : oIn x (.ref p) M Q := by
  unfold oIn oInB; dsimp only; rw [el]; exact ⟨hk, h⟩
theorem o_ixA {z : Str} {k : Int} {M : Mem} {Q : DK} (hz : z.length ≤ 1000000) (h0 : 0 ≤ k) (h1 : k < z.cps.size) (q : ∀ c, z.cps[k.toNat]? = some c → Q (.str ⟨#[c]⟩) M) : oIx (.str z) (.int k) M Q := by
  have hl : k.toNat < z.cps.size := by omega
  refine o_ixS (c := z.cps[k.toNat]) (by omega) ?_ (q _ (by simp [hl]))
  rw [atI_i h0]; simp [hl]
end MV

namespace Prf
def rNum (far x : Int) : Option Exn := if -far ≤ x ∧ x ≤ far then none else some (xE "TooFar" "number" "too far" (.int x))
def rMove (far : Int) (m : Int × Int) : Option Exn := (rNum far m.1).or (rNum far m.2)
def rBox (far : Int) (d : Str) (m : Int × Int) : Option Exn := (rNum far m.1).or ((rNum far m.2).or (if m.2 < m.1 then some (xE "BadBox" "dial" "bad box" (.str d)) else none))
def sinksB (m b : Int × Int) : Bool := decide (m.1 + m.2 * b.1 < 0) || decide (m.1 + m.2 * b.2 < 0)
def rRoom (nm : Str) (m b : Int × Int) : Option Exn := if sinksB m b = true then some (xE "Below" "name" "below" (.str nm)) else none
def rRis (nm : Str) (t : Int × Int) : List Rung → Option Exn
  | a :: b :: l => if sinksB (b.2.1 - a.2.1, b.2.2 - a.2.2) t = true then some (xE "Falls" "name" "falls" (.str nm)) else rRis nm t (b :: l)
  | _ => none
theorem rng2_at {a : Int} {n k : Nat} {d : D} (h : (rangeD a n)[k]? = some d) : d = .int (a + k) ∧ k < n := by
  simp [rangeD, List.getElem?_map, List.getElem?_range] at h
  by_cases hk : k < n
  · simp [hk] at h; exact ⟨h.symm, hk⟩
  · simp [hk] at h
end Prf

namespace Prf
def xBadRungs (nm : Str) : Exn := xE "BadRungs" "name" "bad rungs" (.str nm)
def oRef (f : Int × Int → Option Exn) : Option (Int × Int) → Option Exn
  | none => none
  | some m => f m
def rRung (far : Int) (nm : Str) (s : Int × Int) (r : Rung) : Option Exn := (oRef (rMove far) r.1).or ((rMove far r.2).or (oRef (fun m => rRoom nm m s) r.1))
def rRungs (most far : Int) (nm : Str) (s t : Int × Int) (rs : List Rung) : Option Exn :=
  (if 1 ≤ (rs.length : Int) ∧ (rs.length : Int) ≤ most then none else some (xBadRungs nm)).or ((if (rs.dropLast.any fun r => r.1.isNone) = true then some (xBadRungs nm) else none).or ((rs.findSome? (rRung far nm s)).or (rRis nm t rs)))
theorem cut_last {α : Type} {l : List α} : cutD l none (some (-1)) = l.dropLast := by
  cases l with
  | nil => rfl
  | cons a l =>
    have e1 : HT.sIx (a :: l).length 0 none = 0 := rfl
    have e2 : HT.sIx (a :: l).length (a :: l).length (some (-1)) = l.length := by simp [HT.sIx]; omega
    unfold cutD
    rw [e1, e2, List.dropLast_eq_take]
    simp
/-! names -/
def FIRST : Str := "abcdefghijklmnopqrstuvwxyz"
def LATER : Str := "abcdefghijklmnopqrstuvwxyz0123456789"
def goodB (s : Str) : Bool := decide (1 ≤ (s.length : Int) ∧ (s.length : Int) ≤ 8) && (match s.cps.toList with | c :: _ => decide (c ∈ FIRST.cps.toList) | [] => false) && s.cps.toList.all fun c => decide (c ∈ LATER.cps.toList)
def xBadName (s : Str) : Exn := xE "BadName" "name" "bad name" (.str s)
def rName (s : Str) : Option Exn := if goodB s = true then none else some (xBadName s)
end Prf

namespace MV
/-! ### nets -/
structure Pl where
  nm : Str
  room : Option (Int × Int)
  kept : Option (Int × Int)
  price : Int × Int
  wants : List (Int × Int)
structure Rd where
  nm : Str
  st : Str
  en : Str
  takes : Int
  floor : Int × Int
  rungs : List Rung
structure Nt where
  h : Int
  s : Int × Int
  t : Int × Int
  ps : List Pl
  rs : List Rd
def plD (p : Pl) : D := .tup [omD p.room, omD p.kept, pD p.price, .tup (p.wants.map pD)]
def rdD (r : Rd) : D := .tup [.str r.st, .str r.en, .int r.takes, pD r.floor, .tup (r.rungs.map rungD)]
def plK (p : Pl) : Key × D := (.inr p.nm, plD p)
def rdK (r : Rd) : Key × D := (.inr r.nm, rdD r)
/-- the net at n: its places at p, its roads at r -/
structure NetM (M : Mem) (n : Nat) (N : Nt) (p r : Nat) : Prop where
  ins : M[n]? = some (.ins "Net" (NF (.int N.h) (pD N.s) (pD N.t) (.ref p) (.ref r)))
  pl : M[p]? = some (.dct false (N.ps.map plK))
  rd : M[r]? = some (.dct false (N.rs.map rdK))
theorem NetM.kp {M M' : Mem} {n p r : Nat} {N : Nt} {S : List Nat} (h : NetM M n N p r) (k : Kp S M M') (h1 : n ∉ S) (h2 : p ∉ S) (h3 : r ∉ S) : NetM M' n N p r := ⟨k.at_ _ _ h1 h.ins, k.at_ _ _ h2 h.pl, k.at_ _ _ h3 h.rd⟩
theorem NetM.app {M l : Mem} {n p r : Nat} {N : Nt} (h : NetM M n N p r) : NetM (M ++ l) n N p r := h.kp (S := []) .app (by simp) (by simp) (by simp)
theorem NetM.np {M : Mem} {n p r : Nat} {N : Nt} (h : NetM M n N p r) : n ≠ p := fun e => by have := h.ins; rw [e, h.pl] at this; cases this
theorem NetM.nr {M : Mem} {n p r : Nat} {N : Nt} (h : NetM M n N p r) : n ≠ r := fun e => by have := h.ins; rw [e, h.rd] at this; cases this
def findP (ps : List Pl) (nm : Str) : Option Pl := ps.find? fun q => decide (q.nm = nm)
def findR (rs : List Rd) (nm : Str) : Option Rd := rs.find? fun q => decide (q.nm = nm)
def putP (ps : List Pl) (p : Pl) : List Pl := if (ps.any fun q => decide (q.nm = p.nm)) = true then ps.map fun q => if q.nm = p.nm then p else q else ps ++ [p]
def putR (ps : List Rd) (p : Rd) : List Rd := if (ps.any fun q => decide (q.nm = p.nm)) = true then ps.map fun q => if q.nm = p.nm then p else q else ps ++ [p]
theorem inr_eq {a b : Str} : ((.inr a : Key) = .inr b) = (a = b) := by simp
theorem getP {ps : List Pl} {nm : Str} : dget (ps.map plK) (.inr nm) = (findP ps nm).map plD := by
  unfold dget findP
  rw [List.find?_map]
  have e : ((fun kv : Key × D => decide (kv.1 = .inr nm)) ∘ plK) = fun q : Pl => decide (q.nm = nm) := by
    funext q; simp [plK]
  rw [e, Option.map_map]; rfl
theorem getR {ps : List Rd} {nm : Str} : dget (ps.map rdK) (.inr nm) = (findR ps nm).map rdD := by
  unfold dget findR
  rw [List.find?_map]
  have e : ((fun kv : Key × D => decide (kv.1 = .inr nm)) ∘ rdK) = fun q : Rd => decide (q.nm = nm) := by
    funext q; simp [rdK]
  rw [e, Option.map_map]; rfl
theorem putP_K {ps : List Pl} {p : Pl} : dput (ps.map plK) (.inr p.nm) (plD p) = (putP ps p).map plK := by
  unfold dput putP
  have e : ((ps.map plK).any fun kv => decide (kv.1 = .inr p.nm)) = ps.any fun q => decide (q.nm = p.nm) := by
    rw [List.any_map]; congr 1; funext q; simp [plK]
  rw [e]
  split
  · rw [List.map_map, List.map_map]
    refine List.map_congr_left fun q _ => ?_
    by_cases hq : q.nm = p.nm <;> simp [plK, hq]
  · simp [plK]
theorem putR_K {ps : List Rd} {p : Rd} : dput (ps.map rdK) (.inr p.nm) (rdD p) = (putR ps p).map rdK := by
  unfold dput putR
  have e : ((ps.map rdK).any fun kv => decide (kv.1 = .inr p.nm)) = ps.any fun q => decide (q.nm = p.nm) := by
    rw [List.any_map]; congr 1; funext q; simp [rdK]
  rw [e]
  split
  · rw [List.map_map, List.map_map]
    refine List.map_congr_left fun q _ => ?_
    by_cases hq : q.nm = p.nm <;> simp [rdK, hq]
  · simp [rdK]
/-- one or the other -/
def OnS {α : Type} (o : Option α) (a : α → Prop) (b : Prop) : Prop := match o with
  | some q => a q
  | none => b
theorem OnS.some {α : Type} {q : α} {a : α → Prop} {b : Prop} (h : a q) : OnS (.some q) a b := h
theorem OnS.none {α : Type} {a : α → Prop} {b : Prop} (h : b) : OnS .none a b := h
theorem En.nil {Q : DK} {X : XM} {M : Mem} (h : Q .non M) : En Q X M none := h
/-- what a deed on the net at n comes to -/
def De (Q : DK) (X : XM) (M : Mem) (n : Nat) (o : Option Exn) (N : Nt) : Prop := match o with
  | some e => X e M
  | none => ∀ M' p r, Kp [n] M M' → NetM M' n N p r → Q .non M'
theorem De.step {Q Q' : DK} {X : XM} {M : Mem} {n : Nat} {N : Nt} {r r2 : Option Exn} (h : De Q X M n (r.or r2) N) (k : r = none → De Q X M n r2 N → Q' .non M) : En Q' X M r := by
  cases r with
  | none => exact k rfl h
  | some e => exact h
structure NOk (N : Nt) : Prop where
  s : Tame N.s
  t : Tame N.t
  pl : N.ps.length < 1000
  rl : N.rs.length < 1000
  h0 : 0 ≤ N.h
  h1 : N.h < 1000
end MV
namespace Prf
def xTaken (s : Str) : Exn := xE "Taken" "name" "taken" (.str s)
def xNoPlace (s : Str) : Exn := xE "NoPlace" "name" "no place" (.str s)
def xNoRoad (s : Str) : Exn := xE "NoRoad" "name" "no road" (.str s)
def xTooMany (k : Int) : Exn := xE "TooMany" "most" "too many" (.int k)
def rFresh (N : Nt) (s : Str) : Option Exn := (rName s).or (if ((findP N.ps s).isSome || (findR N.rs s).isSome) = true then some (xTaken s) else none)
end Prf

namespace MV
theorem De.mono {Q : DK} {X : XM} {M M1 : Mem} {n : Nat} {N : Nt} (h : De Q X M n none N) (k : Kp [n] M M1) : De Q X M1 n none N := fun M' p r k' hN => h M' p r (k.trans k') hN
/-- what the making of a net comes to -/
def MkE (Q : DK) (X : XM) (M : Mem) (o : Option Exn) (N : Nt) : Prop := match o with
  | some e => X e (M ++ [.ins "Net" []])
  | none => ∀ M' p r, Kp [] M M' → NetM M' M.length N p r → Q .non M'
def oiD : Option Int → D
  | none => .non
  | some i => .int i
def orD : Option (List Rung) → D
  | none => .non
  | some r => .tup (r.map rungD)
end MV
namespace Prf
def xBadHours (h : Int) : Exn := xE "BadHours" "number" "bad hours" (.int h)
def rInit (h : Int) (s t : Int × Int) : Option Exn := (if 1 ≤ h ∧ h ≤ 6 then none else some (xBadHours h)).or ((rBox 1000000 "s" s).or (rBox 1000000 "t" t))
/-! places -/
def newPl (N : Nt) (s : Str) : Pl := ⟨s, none, some (0, 0), (0, 0), List.replicate N.h.toNat (0, 0)⟩
def rPlace (N : Nt) (s : Str) : Option Exn := (rFresh N s).or (if 12 ≤ (N.ps.length : Int) then some (xTooMany 12) else none)
theorem fresh_no {N : Nt} {s : Str} (h : rFresh N s = none) : rName s = none ∧ findP N.ps s = none ∧ findR N.rs s = none := by
  unfold rFresh at h
  rw [Option.or_eq_none_iff] at h
  refine ⟨h.1, ?_⟩
  have := h.2
  split at this
  · cases this
  · rename_i hc
    simp at hc
    exact hc
theorem putP_new {ps : List Pl} {q : Pl} (h : findP ps q.nm = none) : putP ps q = ps ++ [q] := by
  unfold putP
  rw [if_neg]
  intro hc
  obtain ⟨x, hx, he⟩ := List.any_eq_true.mp hc
  unfold findP at h
  rw [List.find?_eq_none] at h
  exact h x hx he
theorem putR_new {ps : List Rd} {q : Rd} (h : findR ps q.nm = none) : putR ps q = ps ++ [q] := by
  unfold putR
  rw [if_neg]
  intro hc
  obtain ⟨x, hx, he⟩ := List.any_eq_true.mp hc
  unfold findR at h
  rw [List.find?_eq_none] at h
  exact h x hx he
/-! roads -/
def xBadTakes (k : Int) : Exn := xE "BadTakes" "number" "bad takes" (.int k)
def rSetRoad (N : Nt) (q : Rd) : Option Exn := (if 0 ≤ q.takes ∧ q.takes ≤ 9 then none else some (xBadTakes q.takes)).or ((rMove 1000000 q.floor).or ((rRoom q.nm q.floor N.s).or (rRungs 4 1000000 q.nm N.s N.t q.rungs)))
def rKnown (N : Nt) (s : Str) : Option Exn := if (findP N.ps s).isSome = true then none else some (xNoPlace s)
theorem de_known {M : Mem} {Q : DK} {X : XM} {n : Nat} {N N' : Nt} {s : Str} {r2 : Option Exn} {A : Pl → Prop} (h : De Q X M n ((rKnown N s).or r2) N') (k : ∀ q, findP N.ps s = some q → De Q X M n r2 N' → A q) : OnS (findP N.ps s) A (X (xNoPlace s) M) := by
  unfold rKnown at h
  cases hp : findP N.ps s with
  | none => rw [hp] at h; exact h
  | some q => rw [hp] at h; exact k q hp h
def rRoad (N : Nt) (q : Rd) : Option Exn := (rFresh N q.nm).or ((rKnown N q.st).or ((rKnown N q.en).or ((if 24 ≤ (N.rs.length : Int) then some (xTooMany 24) else none).or (rSetRoad N q))))
def chg (q : Rd) (tk : Option Int) (fl : Option (Int × Int)) (rg : Option (List Rung)) : Rd := { q with takes := tk.getD q.takes, floor := fl.getD q.floor, rungs := rg.getD q.rungs }
end Prf

namespace MV
/-! ### texts -/
theorem eqB_fine {x y : D} {M : Mem} {k : Bool → Prop} (h1 : fine 20 x = true) (h2 : fine 20 y = true) (q : k (deq x y)) : oEqB x y M k := by
  have eb : ∀ a b : Str, (a == b) = decide (a = b) := fun a b => by by_cases h : a = b <;> simp [h]
  have ei : ∀ a b : Int, (a == b) = decide (a = b) := fun a b => by by_cases h : a = b <;> simp [h]
  unfold oEqB
  split
  · rw [show deq (.str _) (.str _) = (_ == _) from by unfold deq; rfl, eb] at q; exact q
  · rw [show deq (.int _) (.int _) = (_ == _) from by unfold deq; rfl, ei] at q; exact q
  · exact ⟨_, _, see_fine h1, see_fine h2, by rw [eqv_deq 20 h1 h2]; exact q⟩
theorem fine_int {k : Nat} {i : Int} : fine k (.int i) = true := by cases k <;> rfl
theorem fine_non {k : Nat} : fine k .non = true := by cases k <;> rfl
theorem fine_asc {k n : Nat} {s : Str} (h : Asc n s) : fine k (.str s) = true := by cases k <;> exact h.ok
theorem fine_tup {k : Nat} {ds : List D} : fine (k + 1) (.tup ds) = ds.all (fine k) := rfl
theorem fine_pD {k : Nat} {m : Int × Int} : fine (k + 1) (pD m) = true := by simp [pD, fine_tup, fine_int]
theorem fine_om {k : Nat} {m : Option (Int × Int)} : fine (k + 1) (omD m) = true := by cases m <;> simp [omD, fine_pD, fine_non]
theorem fine_rung {k : Nat} {r : Rung} : fine (k + 2) (rungD r) = true := by simp [rungD, fine_tup, fine_pD, fine_om]
theorem deq_om {o : Option (Int × Int)} {m : Int × Int} : deq (omD o) (pD m) = decide (o = some m) := by
  cases o with
  | none => simp [omD, pD, deq]
  | some x =>
    obtain ⟨a, b⟩ := x
    obtain ⟨c, d⟩ := m
    by_cases h1 : a = c <;> by_cases h2 : b = d <;> simp [omD, pD, deq, deqL, h1, h2]
theorem deq_pD {x m : Int × Int} : deq (pD x) (pD m) = decide (x = m) := by
  have := @deq_om (some x) m
  simpa [omD] using this
theorem ne_om {o : Option (Int × Int)} {m : Int × Int} {M : Mem} {Q : DK} (q : Q (.bl (!decide (o = some m))) M) : oNe (omD o) (pD m) M Q := eqB_fine fine_om fine_pD (by rw [deq_om]; exact q)
theorem ne_pD {x m : Int × Int} {M : Mem} {Q : DK} (q : Q (.bl (!decide (x = m))) M) : oNe (pD x) (pD m) M Q := eqB_fine fine_pD fine_pD (by rw [deq_pD]; exact q)
theorem eq_om {o : Option (Int × Int)} {m : Int × Int} {M : Mem} {Q : DK} (q : Q (.bl (decide (o = some m))) M) : oEq (omD o) (pD m) M Q := eqB_fine fine_om fine_pD (by rw [deq_om]; exact q)
/-- a whole number's text -/
def iS (i : Int) : Str := (toString i : String)
theorem iS_list (i : Int) : (iS i).cps.toList = (if i < 0 then [45] else []) ++ (Nat.toDigits 10 i.natAbs).map Char.toNat := by
  unfold iS
  rw [PyProof.Rows.signs_ofString]
  cases i with
  | ofNat n =>
    have : ¬ ((Int.ofNat n) < 0) := by simp
    rw [if_neg this]
    show (Nat.repr n).toList.map Char.toNat = _
    rw [Nat.toList_repr]; rfl
  | negSucc n =>
    have : (Int.negSucc n) < 0 := Int.negSucc_lt_zero n
    rw [if_pos this]
    show (("-" : String) ++ Nat.repr (n + 1)).toList.map Char.toNat = _
    rw [String.toList_append, Nat.toList_repr]
    rfl
theorem digit_asc {n : Nat} {c : Nat} (h : c ∈ (Nat.toDigits 10 n).map Char.toNat) : c < 128 := by
  obtain ⟨ch, hch, e⟩ := List.mem_map.mp h
  have r := PyProof.Rows.digit_range (Nat.isDigit_of_mem_toDigits (by decide) (by decide) hch)
  omega
theorem iS_asc {i : Int} {k : Nat} (hk : 1 ≤ k) (h : i.natAbs < 10 ^ k) : Asc (k + 1) (iS i) := by
  have e := iS_list i
  refine ⟨?_, fun c hc => ?_⟩
  · have l := congrArg List.length e
    have d := PyProof.Rows.digits10_le hk h
    simp at l
    rw [l]
    split <;> simp <;> omega
  · rw [e] at hc
    rcases List.mem_append.mp hc with z | z
    · split at z <;> simp at z
      omega
    · exact digit_asc z
def Mv (m : Int × Int) : Prop := m.1.natAbs ≤ 1000000 ∧ m.2.natAbs ≤ 1000000
theorem Mv.s1 {m : Int × Int} (h : Mv m) : Asc 8 (iS m.1) := iS_asc (k := 7) (by decide) (by have := h.1; omega)
theorem Mv.s2 {m : Int × Int} (h : Mv m) : Asc 8 (iS m.2) := iS_asc (k := 7) (by decide) (by have := h.2; omega)
theorem Mv.s3 {m : Int × Int} (h : Mv m) : Asc 8 (iS (-m.2)) := iS_asc (k := 7) (by decide) (by have := h.2; omega)
theorem log_ok {i : Int} (h : i.natAbs ≤ 1000000000) : i.natAbs.log2 < 1920 := by
  by_cases h0 : i.natAbs = 0
  · rw [h0]; decide
  · exact Nat.lt_of_lt_of_le ((Nat.log2_lt h0).mpr (show i.natAbs < 2 ^ 30 by omega)) (by decide)
def moveW (m : Int × Int) (l : Str) : Str := if m.2 = 0 then iS m.1 else if 0 < m.2 then iS m.1 ++ "+" ++ iS m.2 ++ l else iS m.1 ++ "-" ++ iS (-m.2) ++ l
def roomW (o : Option (Int × Int)) (l : Str) : Str := match o with
  | none => "open"
  | some m => moveW m l
theorem asc_plus : Asc 1 (Str.ofString "+") := ⟨by decide +kernel, by decide +kernel⟩
theorem asc_minus : Asc 1 (Str.ofString "-") := ⟨by decide +kernel, by decide +kernel⟩
theorem asc_open : Asc 4 (Str.ofString "open") := ⟨by decide +kernel, by decide +kernel⟩
theorem moveW_asc {m : Int × Int} {l : Str} (h : Mv m) (hl : Asc 1 l) : Asc 18 (moveW m l) := by
  unfold moveW
  split
  · exact h.s1.mono (by decide)
  · split
    · exact ((h.s1.app asc_plus).app h.s2).app hl
    · exact ((h.s1.app asc_minus).app h.s3).app hl
def oMv (o : Option (Int × Int)) : Prop := ∀ m, o = some m → Mv m
theorem roomW_asc {o : Option (Int × Int)} {l : Str} (h : oMv o) (hl : Asc 1 l) : Asc 18 (roomW o l) := by
  cases o with
  | none => exact asc_open.mono (by decide)
  | some m => exact moveW_asc (h m rfl) hl
theorem e_app {s : Str} : Str.empty ++ s = s := by
  have : (Str.empty ++ s).cps = s.cps := by show Str.empty.cps ++ s.cps = s.cps; simp [Str.empty]
  cases s; exact congrArg Str.mk this
theorem len_app {s t : Str} : (s ++ t).length = s.length + t.length := by
  show (s.cps ++ t.cps).size = _
  rw [Array.size_append]; rfl
/-! f"..": parts that only read -/
inductive Parts (ρ : Ev) (M : Mem) (X : XM) : List ME → List Str → Prop
  | nil : Parts ρ M X [] []
  | cons {m : ME} {y : Str} {ms : List ME} {ys : List Str} : (∀ Q : DK, Q (.str y) M → m ρ M Q X) → Parts ρ M X ms ys → Parts ρ M X (m :: ms) (y :: ys)
theorem js_parts {ρ : Ev} {M : Mem} {X : XM} {Q : DK} : ∀ {ms : List ME} {ys : List Str} {acc : Str}, Parts ρ M X ms ys → acc.length + (ys.map (·.length)).sum ≤ 16000000 → Q (.str (ys.foldl (· ++ ·) acc)) M → mJs ms acc ρ M Q X
  | _, _, _, .nil, _, q => q
  | _, _, acc, .cons (y := y) (ys := ys) h t, hl, q => h _ ⟨by rw [len_app]; simp at hl; omega, js_parts t (by rw [len_app]; simp at hl; omega) q⟩
theorem js_all {ρ : Ev} {M : Mem} {X : XM} {Q : DK} {ms : List ME} {ys : List Str} {z : Str} (h : Parts ρ M X ms ys) (hl : (ys.map (·.length)).sum ≤ 16000000) (hz : ys.foldl (· ++ ·) Str.empty = z) (q : Q (.str z) M) : mJs ms Str.empty ρ M Q X := js_parts h (by simpa [Str.length, Str.empty] using hl) (by rw [hz]; exact q)
theorem o_fmtS {z : Str} {M : Mem} {Q : DK} (hl : z.length ≤ 16000000) (q : Q (.str z) M) : oFmt (.str z) M Q := ⟨hl, q⟩
theorem o_fmtI {i : Int} {M : Mem} {Q : DK} (hl : i.natAbs ≤ 1000000000) (q : Q (.str (iS i)) M) : oFmt (.int i) M Q := ⟨log_ok hl, q⟩
theorem o_sI {i : Int} {M : Mem} {Q : DK} (hl : i.natAbs ≤ 1000000000) (q : Q (.str (iS i)) M) : oStr1 [.int i] M Q := ⟨log_ok hl, q⟩
theorem o_addA {s z : Str} {n m : Nat} {M : Mem} {Q : DK} (h1 : Asc n s) (h2 : Asc m z) (hl : n + m ≤ 16000000) (q : Q (.str (s ++ z)) M) : oAdd (.str s) (.str z) M Q := o_addS (by have := h1.len; have := h2.len; omega) q
/-! join -/
theorem strsOf_map {ys : List Str} : strsOf (ys.map .str) = some ys := by
  induction ys with
  | nil => rfl
  | cons a l ih => simp [strsOf, ih]
theorem sum_le {ys : List Str} {k : Nat} (h : ∀ y ∈ ys, y.length ≤ k) : (ys.map (·.length)).sum ≤ ys.length * k := by
  induction ys with
  | nil => simp
  | cons a l ih =>
    have h1 := h a (by simp)
    have h2 := ih fun y hy => h y (by simp [hy])
    simp only [List.map_cons, List.sum_cons, List.length_cons, Nat.succ_mul]
    omega
theorem o_join {a : Str} {n k b : Nat} {ys : List Str} {M : Mem} {Q : DK} (e : M[n]? = some (.lst (ys.map .str))) (h : ∀ y ∈ ys, y.length ≤ k) (ha : a.length = 1) (hb : ys.length ≤ b) (hl : b * (k + 1) ≤ 16777216) (q : Q (.str (Txt.join a ys)) M) : omJoin (.str a) [.ref n] M Q := by
  unfold omJoin
  dsimp only
  rw [e]
  dsimp only
  rw [strsOf_map]
  refine ⟨?_, q⟩
  have := sum_le h
  rw [ha]
  have h2 : ys.length * (k + 1) ≤ b * (k + 1) := Nat.mul_le_mul_right _ hb
  rw [Nat.mul_succ] at h2
  omega
theorem o_ext {n m : Nat} {ds es : List D} {M : Mem} {Q : DK} (e1 : M[n]? = some (.lst ds)) (e2 : M[m]? = some (.lst es)) (hl : ds.length + es.length ≤ 16000000) (q : Q .non (M.set n (.lst (ds ++ es)))) : omExtend (.ref n) [.ref m] M Q := by
  unfold omExtend; dsimp only; rw [e1, e2]; exact ⟨hl, q⟩
end MV
namespace Prf
end Prf

namespace MV
theorem frac_n (t u : Int) (h : u ≠ 0) : t.fdiv (if u < 0 then -(Int.gcd t u : Int) else (Int.gcd t u : Int)) = ((t : Rat) / (u : Rat)).num ∧ u.fdiv (if u < 0 then -(Int.gcd t u : Int) else (Int.gcd t u : Int)) = (((t : Rat) / (u : Rat)).den : Int) := by
  rw [← Rat.divInt_eq_div, Rat.num_divInt, Rat.den_divInt, if_neg h, Int.gcd_comm u t]
  have g0 : (0 : Int) < (Int.gcd t u : Int) := by
    have := Int.gcd_pos_of_ne_zero_right t h
    omega
  obtain ⟨a, ha⟩ : ∃ a, t = (Int.gcd t u : Int) * a := Int.gcd_dvd_left t u
  obtain ⟨b, hb⟩ : ∃ b, u = (Int.gcd t u : Int) * b := Int.gcd_dvd_right t u
  generalize hg : Int.gcd t u = g at *
  clear hg
  have gn : (g : Int) ≠ 0 := by omega
  have key : ∀ x : Int, ((g : Int) * x).fdiv g = x := fun x => by rw [Int.mul_comm]; exact Int.mul_fdiv_cancel x gn
  have kem : ∀ x : Int, ((g : Int) * x).fdiv (-g) = -x := fun x => by
    rw [show (g : Int) * x = (-x) * (-g) by rw [Int.neg_mul_neg, Int.mul_comm]]; exact Int.mul_fdiv_cancel _ (by omega)
  subst ha hb
  by_cases hu : (g : Int) * b < 0
  · have hb : b < 0 := by
      by_cases z : b < 0
      · exact z
      · have := Int.mul_nonneg (Int.le_of_lt g0) (show 0 ≤ b by omega); omega
    rw [if_pos hu, kem, kem]
    constructor
    · rw [Int.sign_eq_neg_one_of_neg hu, ← Int.mul_assoc, Int.mul_comm (-1), Int.mul_assoc, Int.mul_ediv_cancel_left _ gn]
      omega
    · rw [Int.natAbs_mul, Int.natAbs_natCast, Nat.mul_div_cancel_left _ (by omega)]
      omega
  · have hb : 0 < b := by
      by_cases z : 0 < b
      · exact z
      · exfalso
        have h2 := Int.mul_nonneg_of_nonpos_of_nonpos (a := -(g : Int)) (b := b) (by omega) (by omega)
        have e : -(g : Int) * b = -(g * b) := Int.neg_mul _ _
        omega
    rw [if_neg hu, key, key]
    constructor
    · rw [Int.sign_eq_one_of_pos (Int.mul_pos g0 hb), Int.one_mul, Int.mul_ediv_cancel_left _ gn]
    · rw [Int.natAbs_mul, Int.natAbs_natCast, Nat.mul_div_cancel_left _ (by omega)]
      omega
theorem q_nd (q : Rat) : (q.num : Rat) / ((q.den : Int) : Rat) = q := by
  have := Rat.num_divInt_den q
  rw [Rat.divInt_eq_div] at this
  exact this
theorem rne {b : Int} (h : b ≠ 0) : (b : Rat) ≠ 0 := by exact_mod_cast h
theorem q_den0 (q : Rat) : (q.den : Int) ≠ 0 := by have := q.den_pos; omega
theorem q_add (a b : Rat) : ((a.num * b.den + b.num * a.den : Int) : Rat) / ((a.den * b.den : Int) : Rat) = a + b := by
  have h1 := rne (q_den0 a); have h2 := rne (q_den0 b)
  have ea := q_nd a; have eb := q_nd b
  push_cast at *
  grind
theorem q_sub (a b : Rat) : ((a.num * b.den - b.num * a.den : Int) : Rat) / ((a.den * b.den : Int) : Rat) = a - b := by
  have h1 := rne (q_den0 a); have h2 := rne (q_den0 b)
  have ea := q_nd a; have eb := q_nd b
  push_cast at *
  grind
theorem q_mul (a b : Rat) : ((a.num * b.num : Int) : Rat) / ((a.den * b.den : Int) : Rat) = a * b := by
  have h1 := rne (q_den0 a); have h2 := rne (q_den0 b)
  have ea := q_nd a; have eb := q_nd b
  push_cast at *
  grind
theorem q_div (a b : Rat) : ((a.num * b.den : Int) : Rat) / ((a.den * b.num : Int) : Rat) = a / b := by
  have h1 := rne (q_den0 a); have h2 := rne (q_den0 b)
  have ea := q_nd a; have eb := q_nd b
  push_cast at *
  grind
theorem q_val (m n : Int) (s : Rat) : ((m * s.den + n * s.num : Int) : Rat) / ((s.den : Int) : Rat) = m + n * s := by
  have h1 := rne (q_den0 s)
  have ea := q_nd s
  push_cast at *
  grind
theorem den_div_dvd (t u : Int) (h : u ≠ 0) : (((t : Rat) / (u : Rat)).den : Int) ∣ u := by
  obtain ⟨_, h2⟩ := frac_n t u h
  obtain ⟨b, hb⟩ : ∃ b, u = (Int.gcd t u : Int) * b := Int.gcd_dvd_right t u
  have e : u.fdiv (if u < 0 then -(Int.gcd t u : Int) else (Int.gcd t u : Int)) ∣ u := by
    have g0 : (0 : Int) < (Int.gcd t u : Int) := by
      have := Int.gcd_pos_of_ne_zero_right t h
      omega
    generalize Int.gcd t u = g at *
    subst hb
    have gn : (g : Int) ≠ 0 := by omega
    split
    · rw [show (g : Int) * b = (-b) * (-g) by rw [Int.neg_mul_neg, Int.mul_comm], Int.mul_fdiv_cancel _ (by omega)]; exact ⟨-g, rfl⟩
    · rw [show (g : Int) * b = b * g by rw [Int.mul_comm], Int.mul_fdiv_cancel _ gn]; exact ⟨g, rfl⟩
  rw [h2] at e; exact e
theorem lt_q (a b : Rat) : (a.num * b.den < b.num * a.den) = (a < b) := by rw [Rat.lt_iff]

/-- the under divides n -/
def DD (n : Nat) (q : Rat) : Prop := q.den ∣ n
theorem dd_of {n : Nat} {x : Int} {q : Rat} (hn : 0 < n) (h : q = (x : Rat) / ((n : Int) : Rat)) : DD n q := by
  subst h
  have := den_div_dvd x n (by omega)
  exact Int.natCast_dvd_natCast.mp this
theorem DD.to {n : Nat} {q : Rat} (hn : 0 < n) (h : DD n q) : ∃ x : Int, q = (x : Rat) / ((n : Int) : Rat) := by
  obtain ⟨k, hk⟩ := h
  refine ⟨q.num * k, ?_⟩
  have e := q_nd q
  have h1 := rne (q_den0 q)
  have h2 : ((n : Int) : Rat) ≠ 0 := rne (by omega)
  have hk' : ((n : Int) : Rat) = ((q.den : Int) : Rat) * ((k : Int) : Rat) := by rw [hk]; push_cast; rfl
  push_cast at *
  grind
theorem DD.add {n : Nat} {a b : Rat} (hn : 0 < n) (ha : DD n a) (hb : DD n b) : DD n (a + b) := by
  obtain ⟨x, rfl⟩ := ha.to hn
  obtain ⟨y, rfl⟩ := hb.to hn
  refine dd_of (x := x + y) hn ?_
  have h2 : ((n : Int) : Rat) ≠ 0 := rne (by omega)
  push_cast at *
  grind
theorem DD.sub {n : Nat} {a b : Rat} (hn : 0 < n) (ha : DD n a) (hb : DD n b) : DD n (a - b) := by
  obtain ⟨x, rfl⟩ := ha.to hn
  obtain ⟨y, rfl⟩ := hb.to hn
  refine dd_of (x := x - y) hn ?_
  have h2 : ((n : Int) : Rat) ≠ 0 := rne (by omega)
  push_cast at *
  grind
theorem DD.mul {n m : Nat} {a b : Rat} (hn : 0 < n) (hm : 0 < m) (ha : DD n a) (hb : DD m b) : DD (n * m) (a * b) := by
  obtain ⟨x, rfl⟩ := ha.to hn
  obtain ⟨y, rfl⟩ := hb.to hm
  refine dd_of (x := x * y) (Nat.mul_pos hn hm) ?_
  have h2 : ((n : Int) : Rat) ≠ 0 := rne (by omega)
  have h3 : ((m : Int) : Rat) ≠ 0 := rne (by omega)
  push_cast at *
  grind
theorem DD.val {n : Nat} {s : Rat} (hn : 0 < n) (hs : DD n s) (a b : Int) : DD n (a + b * s) := by
  obtain ⟨x, rfl⟩ := hs.to hn
  refine dd_of (x := a * n + b * x) hn ?_
  have h2 : ((n : Int) : Rat) ≠ 0 := rne (by omega)
  push_cast at *
  grind
theorem DD.up {n m : Nat} {q : Rat} (h : DD n q) (hd : n ∣ m) : DD m q := Nat.dvd_trans h hd
theorem DD.le {n : Nat} {q : Rat} (hn : 0 < n) (h : DD n q) : q.den ≤ n := Nat.le_of_dvd hn h
theorem DD.z {n : Nat} : DD n 0 := by unfold DD; exact ⟨n, by rw [show (0 : Rat).den = 1 from rfl]; omega⟩
/-- a fraction as a datum -/
def qD (q : Rat) : D := .tup [.int q.num, .int (q.den : Int)]
section
variable {M : Mem} {Q : DK} {q : Rat}
theorem o_q0 (h : Q (.int q.num) M) : oIx (qD q) (.int 0) M Q := h
theorem o_q1 (h : Q (.int (q.den : Int)) M) : oIx (qD q) (.int 1) M Q := h
theorem qD_nil {n : Nat} : fine (n + 1) (qD q) = true := by
  unfold qD
  cases n <;> simp [fine]
end
theorem qD_inj {a b : Rat} (h : qD a = qD b) : a = b := by
  unfold qD at h
  injection h with h
  injection h with h1 h
  injection h with h2 _
  injection h1 with h1
  injection h2 with h2
  exact Rat.ext h1 (by omega)
theorem qD_of {t u : Int} (h : u ≠ 0) : D.tup [.int (t.fdiv (if u < 0 then -(Int.gcd t u : Int) else (Int.gcd t u : Int))), .int (u.fdiv (if u < 0 then -(Int.gcd t u : Int) else (Int.gcd t u : Int)))] = qD ((t : Rat) / (u : Rat)) := by
  obtain ⟨h1, h2⟩ := frac_n t u h
  unfold qD
  rw [h1, h2]
theorem x_while {c : MT} {b : MS} {E : Nd} {ρ : Ev} {M : Mem} (I : Nat → Ev → Mem → Prop) (m : Nat) (h0 : I m ρ M) (hs : ∀ m ρ M, I m ρ M → c ρ M (fun k M1 => if k = true then ∃ N : Ev → Mem → Prop, (∀ ρ' M', N ρ' M' → ∃ m', m' < m ∧ I m' ρ' M') ∧ b ⟨N, E.rt, E.nx, N, E.ex⟩ ρ M1 else E.nx ρ M1) (fun x M1 => E.ex x ρ M1)) : mWhile c b E ρ M := ⟨I, ⟨m, h0⟩, hs⟩
/-- the loop of the greatest common divisor -/
theorem w_gcd {E : Nd} {a b : Int} {M : Mem} {l : Ev} (k : ∀ c : Int, c.natAbs = Int.gcd a b → E.nx (some (.int c) :: some (.int 0) :: l) M) : mWhile (mTru (mVar 1)) (mPar 0 1 (mCons (mVar 1) (mCons (mOp oMod (mVar 0) (mVar 1)) mNil))) E (some (.int a) :: some (.int b) :: l) M := by
  refine x_while (fun m ρ M' => ∃ x y : Int, ρ = some (.int x) :: some (.int y) :: l ∧ M = M' ∧ Int.gcd x y = Int.gcd a b ∧ y.natAbs = m) b.natAbs ⟨a, b, rfl, rfl, rfl, rfl⟩ ?_
  rintro m _ _ ⟨x, y, rfl, rfl, hg, rfl⟩
  refine x_tru (x_var (d := .int y) rfl ?_)
  show if (y != 0) = true then _ else _
  by_cases hy : y = 0
  · subst hy
    rw [if_neg (by decide)]
    exact k x (by rw [← hg]; simp [Int.gcd])
  · rw [if_pos (by simpa using hy)]
    refine ⟨fun ρ' M' => ∃ m', m' < y.natAbs ∧ ∃ x' y' : Int, ρ' = some (.int x') :: some (.int y') :: l ∧ M = M' ∧ Int.gcd x' y' = Int.gcd a b ∧ y'.natAbs = m', fun _ _ h => h, ?_⟩
    refine x_par (x_cons (x_var (d := .int y) rfl (x_cons (x_op (x_var (d := .int x) rfl (x_var (d := .int y) rfl (o_mod hy ?_)))))))
    refine x_nil ?_
    refine ⟨(x.fmod y).natAbs, ?_, y, x.fmod y, rfl, rfl, ?_, rfl⟩
    · by_cases hp : 0 < y
      · have := fmod_in x hp; omega
      · have h2 : (x.fmod y) = -((-x).fmod (-y)) := by rw [Int.neg_fmod_neg, Int.neg_neg]
        have := fmod_in (-x) (m := -y) (by omega); omega
    · rw [← hg, Int.gcd_comm x y]
      have e : x.fmod y = x - y * (x.fdiv y) := by have := Int.mul_fdiv_add_fmod x y; omega
      rw [e]
      exact Int.gcd_sub_mul_left_right y x (x.fdiv y)
end MV
namespace Prf
section
variable {M : Mem} {Q : DK} {X : XM} {a b s t : Rat} {x y : Int} {m : Int × Int}
theorem gcd64 {x y : Int} (h0 : y ≠ 0) (hb : y.natAbs < 2 ^ 64) : okDiv (if y < 0 then -(Int.gcd x y : Int) else (Int.gcd x y : Int)) := by
  have h1 := Int.gcd_pos_of_ne_zero_right x h0
  have h2 : Int.gcd x y ≤ y.natAbs := Nat.le_of_dvd (by omega) (Int.gcd_dvd_natAbs_right x y)
  refine div_ok ?_ ?_
  · split <;> omega
  · split <;> omega
theorem l_common (h : Q (.int (Int.gcd x y)) M) : w_common [.int x, .int y] M Q X := by
  unfold w_common wOf
  rw [show startE N_common [.int x, .int y] = [some (.int x), some (.int y)] from rfl]
  unfold m_common
  walk_at "sx"
  refine w_gcd fun c hc => ?_
  walk_at "ml"
  rw [show (if c < 0 then -c else c) = ((Int.gcd x y : Nat) : Int) by rw [← hc]; split <;> omega]
  exact h
theorem lgcd (h : Q (.int (Int.gcd x y)) M) : w_Lgcd [.int x, .int y] M Q X := by
  unfold w_Lgcd wOf
  rw [show startE N_Lgcd [.int x, .int y] = [some (.int x), some (.int y)] from rfl]
  unfold m_Lgcd
  walk_at "sx"
  refine w_gcd fun c hc => ?_
  walk_at "ml"
  rw [show (if c < 0 then -c else c) = ((Int.gcd x y : Nat) : Int) by rw [← hc]; split <;> omega]
  exact h
theorem lfrac (h0 : y ≠ 0) (hb : y.natAbs < 2 ^ 64) (h : Q (qD ((x : Rat) / (y : Rat))) M) : w_Lfrac [.int x, .int y] M Q X := by
  unfold w_Lfrac wOf
  rw [show startE N_Lfrac [.int x, .int y] = [some (.int x), some (.int y), none] from rfl]
  unfold m_Lfrac
  have hd := gcd64 (x := x) h0 hb
  walk_at "ml"
  refine lgcd ?_
  walk_at "mq"
  with_reducible refine x_join (fun ρ M' => M = M' ∧ ρ = [some (.int x), some (.int y), some (.int (if y < 0 then -(Int.gcd x y : Int) else (Int.gcd x y : Int)))]) ?_ ?_
  · intro K hK
    walk_at "ml"
    refine if_d (fun e => ?_) (fun e => ?_)
    · walk_at "ml"
      exact hK _ _ ⟨rfl, by rw [if_pos e]; rfl⟩
    · walk_at "ml"
      exact hK _ _ ⟨rfl, by rw [if_neg e]; rfl⟩
  rintro _ _ ⟨rfl, rfl⟩
  walk_at "ml"
  refine o_div hd ?_
  walk_at "ml"
  refine o_div hd ?_
  walk_at "ml"
  rw [qD_of h0]
  exact h
theorem lwhole_i {i : Int} (h : Q (.bl true) M) : w_Lwhole [.int i] M Q X := by
  unfold w_Lwhole wOf
  rw [show startE N_Lwhole [.int i] = [some (.int i)] from rfl]
  unfold m_Lwhole
  walk_at "ml"
  refine ⟨rfl, ?_⟩
  walk_at "ml"
  refine ⟨rfl, ?_⟩
  exact h
theorem lis_pair_i {i j : Int} (h : Q (.bl true) M) : w_Lis_pair [.tup [.int i, .int j]] M Q X := by
  unfold w_Lis_pair wOf
  rw [show startE N_Lis_pair [.tup [.int i, .int j]] = [some (.tup [.int i, .int j])] from rfl]
  unfold m_Lis_pair
  walk_at "ml"
  refine if_d (fun _ => ?_) (fun e => absurd rfl e)
  walk_at "ml"
  refine lwhole_i ?_
  walk_at "ml"
  exact lwhole_i h
theorem lis_frac_q (h : Q (.bl true) M) : w_Lis_frac [qD a] M Q X := by
  unfold w_Lis_frac wOf
  rw [show startE N_Lis_frac [qD a] = [some (qD a)] from rfl]
  unfold m_Lis_frac
  have pa := a.den_pos
  walk_at "ml"
  refine lis_pair_i ?_
  walk_at "ml"
  refine o_q1 ?_
  walk_at "ml"
  refine if_d (fun _ => ?_) (fun e => absurd (show (1 : Int) ≤ a.den by omega) e)
  walk_at "ml"
  refine o_q0 ?_
  walk_at "ml"
  refine o_q1 ?_
  walk_at "ml"
  refine lgcd ?_
  refine o_eqI ?_
  have hr : Int.gcd a.num a.den = 1 := a.reduced
  rw [hr]
  exact h
end
end Prf

namespace Prf
open PySem SX
/-! ### whole numbers as texts -/
def isDig (c : Nat) : Bool := decide (48 ≤ c) && decide (c ≤ 57)
def bodyL : List Nat → List Nat
  | 45 :: r => r
  | t => t
def wholeB (most : Int) (t : List Nat) : Bool := decide (bodyL t ≠ []) && decide (((bodyL t).length : Int) ≤ most) && (bodyL t).all isDig && !(decide ((bodyL t)[0]? = some 48) && decide (t ≠ [48]))
def wholeV : List Nat → Int
  | 45 :: r => -((NumText.digitsVal r : Nat) : Int)
  | t => ((NumText.digitsVal t : Nat) : Int)
def wholeO (most : Int) (t : List Nat) : Option Int := if wholeB most t = true then some (wholeV t) else none
def oiD : Option Int → D
  | none => .non
  | some i => .int i
theorem body_min {r : List Nat} : bodyL (45 :: r) = r := rfl
theorem body_no {t : List Nat} (h : t.take 1 ≠ [45]) : bodyL t = t := by
  unfold bodyL
  split
  · exact absurd rfl h
  · rfl
theorem val_no {t : List Nat} (h : t.take 1 ≠ [45]) : wholeV t = ((NumText.digitsVal t : Nat) : Int) := by
  unfold wholeV
  split
  · exact absurd rfl h
  · rfl
theorem take_one {t : List Nat} (h : t.take 1 = [45]) : t = 45 :: t.drop 1 := by
  cases t with
  | nil => cases h
  | cons a r => simp at h; subst h; rfl
theorem all_dig {t : List Nat} (h : t.all isDig = true) : NumText.AllDigits t := by
  intro c hc
  have := List.all_eq_true.mp h c hc
  simpa [isDig] using this
theorem dig_all {t : List Nat} (h : NumText.AllDigits t) : t.all isDig = true := by
  rw [List.all_eq_true]
  intro c hc
  have := h c hc
  simp [isDig, this]
theorem whole_int {most : Int} {t : List Nat} (h : wholeB most t = true) (hl : t.length ≤ 640) : intText? (S t) = some (wholeV t) := by
  unfold wholeB at h
  simp only [Bool.and_eq_true, decide_eq_true_eq] at h
  obtain ⟨⟨⟨h1, -⟩, h3⟩, -⟩ := h
  by_cases c : t.take 1 = [45]
  · have e := take_one c
    generalize t.drop 1 = r at e
    subst e
    exact intText_neg (x := S (45 :: r)) rfl (all_dig h3) h1 (by rw [S_len]; omega)
  · rw [body_no c] at h1 h3
    rw [val_no c]
    exact intText_digits (x := S t) (all_dig h3) h1 (by rw [S_len]; omega)
theorem S_eqn {a b : List Nat} : ((S a : Str) = S b) = (a = b) := propext ⟨S_inj, fun h => h ▸ rfl⟩
theorem figs : ("0123456789" : Str).cps.toList = [48, 49, 50, 51, 52, 53, 54, 55, 56, 57] := by decide +kernel
theorem fig_mem {c : Nat} : decide (c ∈ ("0123456789" : Str).cps.toList) = isDig c := by
  rw [figs]
  unfold isDig
  by_cases h : 48 ≤ c ∧ c ≤ 57
  · obtain ⟨h1, h2⟩ := h
    have : c = 48 ∨ c = 49 ∨ c = 50 ∨ c = 51 ∨ c = 52 ∨ c = 53 ∨ c = 54 ∨ c = 55 ∨ c = 56 ∨ c = 57 := by omega
    rcases this with rfl | rfl | rfl | rfl | rfl | rfl | rfl | rfl | rfl | rfl <;> decide
  · have h1 : ¬ c ∈ [48, 49, 50, 51, 52, 53, 54, 55, 56, 57] := by simp; omega
    rw [decide_eq_false h1]
    symm
    by_cases a : 48 ≤ c
    · have : ¬ c ≤ 57 := by omega
      simp [this]
    · simp [a]
theorem s_min : ("-" : Str) = S [45] := by decide +kernel
theorem s_plus : ("+" : Str) = S [43] := by decide +kernel
theorem s_zero : ("0" : Str) = S [48] := by decide +kernel
theorem s_nil : ("" : Str) = S [] := by decide +kernel
theorem o_slS {z : Str} {lo hi : Option Int} {M : Mem} {Q : DK} (hl : z.length ≤ 16000000) (h : Q (.str (Txt.slice z lo hi)) M) : oSl (.str z) lo hi M Q := by
  unfold oSl; dsimp only; rw [C8.cutS_slice]; exact ⟨hl, h⟩
theorem l_whole {M : Mem} {Q : DK} {X : XM} {t : List Nat} {most : Int} (hl : t.length ≤ 640) (h : Q (oiD (wholeO most t)) M) : w_whole [.str (S t), .int most] M Q X := by
  unfold w_whole wOf
  rw [show startE N_whole [.str (S t), .int most] = [some (.str (S t)), some (.int most), none, none] from rfl]
  unfold m_whole
  have hS : (S t).length ≤ 16000000 := by rw [S_len]; omega
  have hb : (bodyL t).length ≤ t.length := by
    unfold bodyL; split <;> simp
  with_reducible refine x_join (fun ρ M' => ρ = [some (.str (S t)), some (.int most), some (.str (S (bodyL t))), none] ∧ M = M') ?_ ?_
  · intro K hK
    walk_at "ml"
    refine o_slS hS ?_
    rw [slice_to (by decide)]
    walk_at "ml"
    rw [s_min]
    refine if_d (fun c => ?_) (fun c => ?_)
    · have c' : t.take 1 = [45] := S_inj c
      walk_at "ml"
      refine o_slS hS ?_
      rw [slice_from (by decide)]
      refine hK _ _ ⟨?_, rfl⟩
      have e := take_one c'
      have : bodyL t = t.drop 1 := by rw [e]; rfl
      rw [this]; rfl
    · have c' : t.take 1 ≠ [45] := fun e => c (by show S (t.take 1) = _; rw [e])
      walk_at "ml"
      refine hK _ _ ⟨?_, rfl⟩
      rw [body_no c']; rfl
  rintro _ _ ⟨rfl, rfl⟩
  have hB : (S (bodyL t)).length ≤ 16000000 := by rw [S_len]; omega
  generalize hbe : bodyL t = b at *
  walk_at "ml"
  rw [s_nil]
  refine if_d (fun c => ?_) (fun c => ?_)
  · have c' : b = [] := S_inj c
    walk_at "ml"
    have e : wholeO most t = none := by unfold wholeO wholeB; rw [hbe, c']; simp
    rw [e] at h; exact h
  have c1 : b ≠ [] := fun e => c (by rw [e])
  walk_at "ml"
  refine o_lenS hB ?_
  walk_at "ml"
  rw [S_len]
  refine if_d (fun c => ?_) (fun c => ?_)
  · walk_at "ml"
    have e : wholeO most t = none := by unfold wholeO wholeB; rw [hbe, show decide ((b.length : Int) ≤ most) = false by simp; omega]; simp
    rw [e] at h; exact h
  have c2 : (b.length : Int) ≤ most := by omega
  with_reducible refine x_next ?_
  dsimp only
  with_reducible refine x_join (fun ρ M' => (∃ o, ρ = [some (.str (S t)), some (.int most), some (.str (S b)), o]) ∧ M = M' ∧ b.all isDig = true) ?_ ?_
  · intro K hK
    walk_at "ml"
    refine for_ix (fun i ρ M' => (∃ o, ρ = [some (.str (S t)), some (.int most), some (.str (S b)), o]) ∧ M = M' ∧ (b.take i).all isDig = true) (fun _ _ _ _ => trivial) ?_ ?_ ⟨⟨_, rfl⟩, rfl, rfl⟩
    · rintro ρ M' ⟨ho, e, ha⟩
      rw [List.length_map, List.take_of_length_le (Nat.le_refl _)] at ha
      exact hK _ _ ⟨ho, e, ha⟩
    · rintro i d ρ M' K2 hd ⟨⟨o, rfl⟩, rfl, ha⟩ hK2
      rw [List.getElem?_map] at hd
      cases hc : b[i]? with
      | none => rw [show (S b).cps.toList = b from rfl, hc] at hd; cases hd
      | some c =>
      rw [show (S b).cps.toList = b from rfl, hc] at hd
      cases hd
      walk_at "ml"
      rw [fig_mem]
      cases hg : isDig c with
      | true =>
        refine if_nt ?_
        walk_at "ml"
        refine hK2 _ _ ⟨⟨_, rfl⟩, rfl, ?_⟩
        have hi := (List.getElem?_eq_some_iff.mp hc).1
        have : b.take (i + 1) = b.take i ++ [c] := by
          rw [List.take_succ, hc]; rfl
        rw [this, List.all_append, ha]
        simp [hg]
      | false =>
        refine if_nf ?_
        walk_at "ml"
        have e : wholeO most t = none := by
          have : b.all isDig = false := by
            rw [List.all_eq_false]
            exact ⟨c, List.mem_of_getElem? hc, by rw [hg]; simp⟩
          unfold wholeO wholeB; rw [hbe, this]; simp
        rw [e] at h; exact h
  rintro _ _ ⟨⟨o, rfl⟩, rfl, c3⟩
  obtain ⟨c0, r, rfl⟩ : ∃ c0 r, b = c0 :: r := by
    cases b with
    | nil => exact absurd rfl c1
    | cons c0 r => exact ⟨c0, r, rfl⟩
  walk_at "ml"
  refine o_ixS hB (c := c0) (by rw [atI_0]; rfl) ?_
  walk_at "ml"
  rw [s_zero]
  have hs : (⟨#[c0]⟩ : Str) = S [c0] := rfl
  rw [hs]
  have eB : wholeB most t = !(decide (c0 = 48) && decide (t ≠ [48])) := by
    unfold wholeB
    rw [hbe, c3, decide_eq_true c1, decide_eq_true c2]
    simp
  refine if_d (fun c => ?_) (fun c => ?_)
  · have c' : c0 = 48 := by have := S_inj c; simpa using this
    walk_at "ml"
    refine if_n (fun c4 => ?_) (fun c4 => ?_)
    · walk_at "ml"
      have e4 : t ≠ [48] := fun e => c4 (by rw [e])
      have e : wholeO most t = none := by unfold wholeO; rw [eB, decide_eq_true c', decide_eq_true e4]; rfl
      rw [e] at h; exact h
    · walk_at "ml"
      have e4 : t = [48] := S_inj c4
      have eW : wholeB most t = true := by rw [eB]; simp [e4]
      have e : wholeO most t = some (wholeV t) := by unfold wholeO; rw [if_pos eW]
      rw [e] at h
      unfold oInt1
      dsimp only
      rw [whole_int eW hl]
      exact ⟨by rw [S_len]; omega, h⟩
  · have c' : c0 ≠ 48 := fun e => c (by rw [e])
    walk_at "ml"
    have eW : wholeB most t = true := by rw [eB]; simp [c']
    have e : wholeO most t = some (wholeV t) := by unfold wholeO; rw [if_pos eW]
    rw [e] at h
    unfold oInt1
    dsimp only
    rw [whole_int eW hl]
    exact ⟨by rw [S_len]; omega, h⟩
/-! ### numbers written -/
def numT (i : Int) : List Nat := if i < 0 then 45 :: TL.numL i.natAbs else TL.numL i.natAbs
theorem toS (i : Int) : ((toString i : String) : Str) = S (numT i) := by
  unfold numT
  by_cases h : i < 0
  · rw [if_pos h]
    obtain ⟨n, rfl⟩ : ∃ n : Nat, i = Int.negSucc n := by
      cases i with
      | ofNat n => exact absurd h (by simp)
      | negSucc n => exact ⟨n, rfl⟩
    refine TL.ext_tl ?_
    show TL.tl (Str.ofString (toString (Int.negSucc n))) = 45 :: TL.numL (n + 1)
    rw [TL.tl_ofString]
    show ((("-" : String) ++ toString (n + 1)).toList).map Char.toNat = _
    rw [String.toList_append, List.map_append]
    have := TL.tl_num (n + 1)
    rw [TL.tl_ofString] at this
    show [45] ++ _ = _
    rw [show (toString (n + 1) : String) = toString (((n + 1 : Nat)) : Int) from rfl, this]
    rfl
  · rw [if_neg h]
    obtain ⟨n, rfl⟩ : ∃ n : Nat, i = (n : Int) := ⟨i.natAbs, by omega⟩
    have := num_S n
    rw [show ((n : Int)).natAbs = n by simp]
    exact this
theorem numL_head : ∀ n : Nat, (TL.numL n)[0]? = some 48 → n = 0 := by
  intro n
  induction n using Nat.strongRecOn with
  | _ n ih =>
    intro h
    by_cases hn : n < 10
    · rw [TL.numL_lt hn] at h
      simp at h; omega
    · rw [TL.numL_step (by omega)] at h
      have hne := TL.numL_ne (n / 10)
      rw [List.getElem?_append_left (by cases h' : TL.numL (n / 10) with | nil => exact absurd h' hne | cons => simp)] at h
      have := ih (n / 10) (by omega) h
      omega
theorem numL_no {n : Nat} : (TL.numL n).take 1 ≠ [45] := by
  intro e
  have h := take_one e
  have := TL.numL_digits n 45 (by rw [h]; simp)
  omega
theorem body_num {i : Int} : bodyL (numT i) = TL.numL i.natAbs := by
  unfold numT
  split
  · rfl
  · exact body_no numL_no
theorem val_num {i : Int} : wholeV (numT i) = i := by
  unfold numT
  by_cases h : i < 0
  · rw [if_pos h]
    show -((NumText.digitsVal (TL.numL i.natAbs) : Nat) : Int) = i
    rw [TL.numL_val]; omega
  · rw [if_neg h, val_no numL_no, TL.numL_val]; omega
theorem whole_num {i : Int} {k : Nat} (hk : 0 < k) (hi : i.natAbs < 10 ^ k) : wholeO k (numT i) = some i := by
  have hB : wholeB k (numT i) = true := by
    unfold wholeB
    rw [body_num, decide_eq_true (TL.numL_ne _), dig_all (TL.numL_digits _), decide_eq_true (by have := TL.numL_len hk hi; omega)]
    simp only [Bool.true_and]
    by_cases h : (TL.numL i.natAbs)[0]? = some 48
    · have h0 := numL_head _ h
      have : numT i = [48] := by
        have : i = 0 := by omega
        subst this; decide +kernel
      simp [this]
    · simp [h]
  unfold wholeO
  rw [if_pos hB, val_num]
end Prf

namespace Prf
open PySem SX
/-! ### moves as texts -/
def isSg (c : Nat) : Bool := decide (c = 43) || decide (c = 45)
def lastS : List Nat → Option Nat
  | [] => none
  | c :: r => match lastS r with
    | some i => some (i + 1)
    | none => if isSg c = true then some 0 else none
theorem lastS_none : ∀ {t : List Nat}, lastS t = none → ∀ c ∈ t, isSg c = false
  | [], _, c, hc => by cases hc
  | a :: r, h, c, hc => by
    unfold lastS at h
    cases hr : lastS r with
    | some i => rw [hr] at h; cases h
    | none =>
      rw [hr] at h
      dsimp only at h
      cases ha : isSg a with
      | true => rw [ha] at h; cases h
      | false =>
        rcases List.mem_cons.mp hc with rfl | hc
        · exact ha
        · exact lastS_none hr c hc
theorem lastS_some : ∀ {t : List Nat} {i : Nat}, lastS t = some i → (∃ c, t[i]? = some c ∧ isSg c = true) ∧ ∀ k c, i < k → t[k]? = some c → isSg c = false
  | [], i, h => by cases h
  | a :: r, i, h => by
    unfold lastS at h
    cases hr : lastS r with
    | some j =>
      rw [hr] at h
      cases h
      obtain ⟨⟨c, h1, h2⟩, h3⟩ := lastS_some hr
      refine ⟨⟨c, by simpa using h1, h2⟩, fun k d hk hd => ?_⟩
      obtain ⟨k', rfl⟩ : ∃ k', k = k' + 1 := ⟨k - 1, by omega⟩
      exact h3 k' d (by omega) (by simpa using hd)
    | none =>
      rw [hr] at h
      dsimp only at h
      cases ha : isSg a with
      | false => rw [ha] at h; cases h
      | true =>
        rw [ha] at h
        cases h
        refine ⟨⟨a, rfl, ha⟩, fun k d hk hd => ?_⟩
        obtain ⟨k', rfl⟩ : ∃ k', k = k' + 1 := ⟨k - 1, by omega⟩
        exact lastS_none hr d (List.mem_of_getElem? (by simpa using hd))
theorem lastS_app {a b : List Nat} {c : Nat} (hc : isSg c = true) (hb : ∀ x ∈ b, isSg x = false) : lastS (a ++ c :: b) = some a.length := by
  have h0 : lastS b = none := by
    cases h : lastS b with
    | none => rfl
    | some i =>
      obtain ⟨⟨d, h1, h2⟩, -⟩ := lastS_some h
      rw [hb d (List.mem_of_getElem? h1)] at h2; cases h2
  induction a with
  | nil => show lastS (c :: b) = some 0; unfold lastS; rw [h0]; simp [hc]
  | cons x a ih => show lastS (x :: (a ++ c :: b)) = some (a.length + 1); unfold lastS; rw [ih]
theorem lastS_of_none {b : List Nat} (hb : ∀ x ∈ b, isSg x = false) : lastS b = none := by
  cases h : lastS b with
  | none => rfl
  | some i =>
    obtain ⟨⟨d, h1, h2⟩, -⟩ := lastS_some h
    rw [hb d (List.mem_of_getElem? h1)] at h2; cases h2
theorem pre_one {c : Nat} {l : List Nat} : TL.pre [c] l = true ↔ l[0]? = some c := by
  unfold TL.pre
  cases l with
  | nil => simp
  | cons a r => simp
theorem rfind_one {t : List Nat} {c : Nat} : (Txt.rfind (S t) (S [c]) = -1 ∧ ∀ k : Nat, t[k]? ≠ some c) ∨ ∃ i : Nat, Txt.rfind (S t) (S [c]) = (i : Int) ∧ t[i]? = some c ∧ ∀ k : Nat, i < k → t[k]? ≠ some c := by
  have ha : ∀ i, PySem.StrLaws.At (S t) (S [c]) (S t).length i ↔ t[i]? = some c := fun i => by
    rw [TL.at_iff (by simp), show TL.tl (S [c]) = [c] from rfl, show TL.tl (S t) = t from rfl, pre_one, List.getElem?_drop, Nat.add_zero]
  rcases PyProof.Rows.rfind_whole (S t) (S [c]) with ⟨h1, h2⟩ | ⟨i, h1, h2, h3⟩
  · exact .inl ⟨h1, fun k hk => h2 k ((ha k).mpr hk)⟩
  · exact .inr ⟨i, h1, (ha i).mp h2, fun k hk hk' => h3 k hk ((ha k).mpr hk')⟩
theorem rfind_max {t : List Nat} : (if Txt.rfind (S t) (S [45]) > Txt.rfind (S t) (S [43]) then Txt.rfind (S t) (S [45]) else Txt.rfind (S t) (S [43])) = match lastS t with | none => (-1 : Int) | some i => (i : Int) := by
  cases hL : lastS t with
  | none =>
    have h := lastS_none hL
    have no : ∀ c : Nat, isSg c = true → Txt.rfind (S t) (S [c]) = -1 := fun c hc => by
      rcases rfind_one (t := t) (c := c) with ⟨h1, -⟩ | ⟨i, -, h2, -⟩
      · exact h1
      · rw [h c (List.mem_of_getElem? h2)] at hc; cases hc
    rw [no 45 rfl, no 43 rfl]; rfl
  | some i =>
    obtain ⟨⟨c, h1, h2⟩, h3⟩ := lastS_some hL
    have le : ∀ d : Nat, isSg d = true → Txt.rfind (S t) (S [d]) ≤ (i : Int) ∧ (d = c → Txt.rfind (S t) (S [d]) = (i : Int)) := fun d hd => by
      rcases rfind_one (t := t) (c := d) with ⟨e1, e2⟩ | ⟨j, e1, e2, e3⟩
      · refine ⟨by omega, ?_⟩
        rintro rfl
        exact absurd h1 (e2 i)
      · have hj : j ≤ i := by
          by_cases hc : i < j
          · have := h3 j d hc e2; rw [this] at hd; cases hd
          · omega
        refine ⟨by omega, ?_⟩
        rintro rfl
        have : ¬ j < i := fun hc => e3 i hc h1
        omega
    have l1 := le 45 rfl
    have l2 := le 43 rfl
    have hc : c = 43 ∨ c = 45 := by unfold isSg at h2; simpa using h2
    dsimp only
    rcases hc with rfl | rfl
    · have := l2.2 rfl
      split
      · omega
      · exact this
    · have := l1.2 rfl
      split
      · exact this
      · omega
/-- what read_move reads -/
def readM (letter : Nat) (t : List Nat) : Option (Int × Int) :=
  match wholeO 7 t with
  | some b => some (b, 0)
  | none => match lastS t with
    | none => none
    | some i => if 0 < i ∧ t.drop (t.length - 1) = [letter] then
        match wholeO 7 (t.take i), wholeO 7 ((t.drop (i + 1)).take (t.length - 1 - (i + 1))) with
        | some b, some s => if 0 < s then some (b, if t[i]? = some 43 then s else -s) else none
        | _, _ => none
      else none
def xBW (t : List Nat) : Exn := xE "BadWord" "said" "bad word" (.str (S t))
theorem slice_mid {t : List Nat} {i : Nat} (hi : i < t.length) : Txt.slice (S t) (some ((i : Int) + 1)) (some (-1)) = S ((t.drop (i + 1)).take (t.length - 1 - (i + 1))) := by
  rw [← C8.cutS_slice]
  unfold cutS
  rw [S_len]
  have e1 : HT.sIx t.length 0 (some ((i : Int) + 1)) = i + 1 := by simp [HT.sIx, show ¬ ((i : Int) + 1 < 0) by omega]; omega
  have e2 : HT.sIx t.length t.length (some (-1)) = t.length - 1 := by simp [HT.sIx]; omega
  rw [e1, e2]
theorem slice_lastS {t : List Nat} (h : t ≠ []) : Txt.slice (S t) (some (-1)) none = S (t.drop (t.length - 1)) := slice_last h
theorem o_rfind {a b : Str} {M : Mem} {Q : DK} (h : Q (.int (Txt.rfind a b)) M) : omRfind (.str a) [.str b] M Q := h
end Prf

namespace Prf
open PySem SX
theorem div_okB {j : Int} (h : j ≠ 0) (hb : j.natAbs < 2 ^ 120) : okDiv j := ⟨h, Nat.lt_of_lt_of_le (Nat.log2_lt (by omega) |>.mpr hb) (by decide)⟩
theorem ldrawB {M : Mem} {p q : Nat} {m : Int} {Q : DK} {X : XM} (F : Feed M p q) (hm : 0 < m) (hb : m < 2 ^ 120) (k : ∀ d M', 0 ≤ d → d < m → Kp [p] M M' → Feed M' p q → Q (.int d) M') : w_Ldraw [.ref p, .int m] M Q X := by
  obtain ⟨cs, i, r, s, h1, h2, hne, hi, hs0, hs1⟩ := F
  have hm0 : m ≠ 0 := by omega
  have hd : okDiv m := div_okB hm0 (by omega)
  show m_Ldraw _ [some (.ref p), some (.int m), none, none, none] M
  unfold m_Ldraw
  walk_at "ml"
  refine if_d (fun hr => ?_) (fun hr => ?_)
  · walk_at "ml"
    refine o_mod hm0 ?_
    walk_at "ml"
    refine o_div hd ?_
    walk_at "ml"
    refine o_setL h1 (j := 2) rfl ?_
    walk_at "ml"
    obtain ⟨a1, a2⟩ := fmod_in r hm
    exact k _ _ a1 a2 (.set (by simp)) ⟨cs, i, _, s, msame h1, by rw [List.getElem?_set_ne hne]; exact h2, hne, hi, hs0, hs1⟩
  · iterate 4 walk_at "mx"
    with_reducible refine x_join (fun ρ' M' => ∃ c i' : Int, ρ' = [some (.ref p), some (.int m), none, some (.int c), none] ∧ 0 ≤ i' ∧ M'[p]? = some (.lst [.ref q, .int i', .int r, .int s]) ∧ M'[q]? = some (.lst (cs.map .int)) ∧ Kp [p] M M') ?_ ?_
    · intro K hK
      walk_at "ml"
      refine if_d (fun hc => ?_) (fun hc => ?_)
      · walk_at "ml"
        have hi2 : i.toNat < cs.length := by simp at hc; omega
        refine o_ixL h2 (v := .int cs[i.toNat]) (by rw [atI_i hi]; simp [hi2]) ?_
        walk_at "ml"
        refine o_setL h1 (j := 1) rfl ?_
        exact hK _ _ ⟨_, i + 1, rfl, by omega, msame h1, by rw [List.getElem?_set_ne hne]; exact h2, .set (by simp)⟩
      · walk_at "ml"
        exact hK _ _ ⟨0, i, rfl, hi, h1, h2, .refl⟩
    · rintro _ M1 ⟨c, i', rfl, hi', g1, g2, kp⟩
      walk_at "ml"
      refine if_d (fun hc => ?_) (fun hc => ?_)
      · walk_at "ml"
        refine o_div hd ?_
        walk_at "ml"
        refine o_setL g1 (j := 2) rfl ?_
        walk_at "ml"
        refine o_mod hm0 ?_
        obtain ⟨a1, a2⟩ := fmod_in c hm
        exact k _ _ a1 a2 (kp.trans (.set (by simp))) ⟨cs, i', _, s, msame g1, by rw [List.getElem?_set_ne hne]; exact g2, hne, hi', hs0, hs1⟩
      · walk_at "ml"
        refine o_mul (mul_ok (by decide)) ?_
        walk_at "ml"
        refine o_mod (by decide) ?_
        walk_at "ml"
        refine o_mod (by decide) ?_
        walk_at "ml"
        refine o_setL g1 (j := 3) rfl ?_
        obtain ⟨b1, b2⟩ := fmod_in (s * 48271 + c.fmod 1000003 + 11) (m := 2147483647) (by decide)
        generalize (s * 48271 + c.fmod 1000003 + 11).fmod 2147483647 = s' at b1 b2 ⊢
        have g3 : (M1.set p (.lst [.ref q, .int i', .int r, .int s']))[p]? = some (.lst [.ref q, .int i', .int r, .int s']) := msame g1
        have g4 : (M1.set p (.lst [.ref q, .int i', .int r, .int s']))[q]? = some (.lst (cs.map .int)) := by rw [List.getElem?_set_ne hne]; exact g2
        have kp2 : Kp [p] M (M1.set p (.lst [.ref q, .int i', .int r, .int s'])) := kp.trans (.set (by simp))
        show mSeq _ _ _ _ (M1.set p (.lst [.ref q, .int i', .int r, .int s']))
        generalize M1.set p (.lst [.ref q, .int i', .int r, .int s']) = M2 at g3 g4 kp2 ⊢
        walk_at "ml"
        refine o_pow ⟨by decide, by decide, by omega⟩ ?_
        walk_at "ml"
        refine o_ixL (ds := [.int s', .int (s' ^ 4)]) (v := .int (if 100000 < m then s' ^ 4 else s')) mnew ?_ ?_
        · by_cases hm5 : 100000 < m <;> simp [hm5, atI_0, atI_1]
        walk_at "ml"
        refine o_div (div_ok (by decide) (by decide)) ?_
        walk_at "ml"
        refine o_mod hm0 ?_
        have fin : ∀ a : Int, Q (.int (a.fmod m)) (M2 ++ [.lst [.int s', .int (s' ^ 4)]]) := fun a => by
          obtain ⟨a1, a2⟩ := fmod_in a hm
          exact k _ _ a1 a2 (kp2.trans .app) (Feed.app ⟨cs, i', r, s', g3, g4, hne, hi', b1, b2⟩)
        exact fin _
theorem gcdB {x y : Int} (h0 : y ≠ 0) (hb : y.natAbs < 2 ^ 120) : okDiv (if y < 0 then -(Int.gcd x y : Int) else (Int.gcd x y : Int)) := by
  have h1 := Int.gcd_pos_of_ne_zero_right x h0
  have h2 : Int.gcd x y ≤ y.natAbs := Nat.le_of_dvd (by omega) (Int.gcd_dvd_natAbs_right x y)
  refine div_okB ?_ ?_
  · split <;> omega
  · split <;> omega
theorem lfracB {M : Mem} {Q : DK} {X : XM} {x y : Int} (h0 : y ≠ 0) (hb : y.natAbs < 2 ^ 120) (h : Q (qD ((x : Rat) / (y : Rat))) M) : w_Lfrac [.int x, .int y] M Q X := by
  unfold w_Lfrac wOf
  rw [show startE N_Lfrac [.int x, .int y] = [some (.int x), some (.int y), none] from rfl]
  unfold m_Lfrac
  have hd := gcdB (x := x) h0 hb
  walk_at "ml"
  refine lgcd ?_
  walk_at "mq"
  with_reducible refine x_join (fun ρ M' => M = M' ∧ ρ = [some (.int x), some (.int y), some (.int (if y < 0 then -(Int.gcd x y : Int) else (Int.gcd x y : Int)))]) ?_ ?_
  · intro K hK
    walk_at "ml"
    refine if_d (fun e => ?_) (fun e => ?_)
    · walk_at "ml"
      exact hK _ _ ⟨rfl, by rw [if_pos e]; rfl⟩
    · walk_at "ml"
      exact hK _ _ ⟨rfl, by rw [if_neg e]; rfl⟩
  rintro _ _ ⟨rfl, rfl⟩
  walk_at "ml"
  refine o_div hd ?_
  walk_at "ml"
  refine o_div hd ?_
  walk_at "ml"
  rw [qD_of h0]
  exact h
theorem rngN_len {a : Int} {n : Nat} : (rangeD a n).length = n := by simp [rangeD]
theorem body_len {t : List Nat} : (bodyL t).length ≤ t.length := by
  unfold bodyL; split <;> simp
theorem dv_snoc {a : List Nat} {c : Nat} : NumText.digitsVal (a ++ [c]) = NumText.digitsVal a * 10 + (c - 48) := by
  unfold NumText.digitsVal; rw [List.foldl_append]; rfl
theorem snoc_of {l : List Nat} (h : l ≠ []) : ∃ a c, l = a ++ [c] := ⟨l.dropLast, l.getLast h, (List.dropLast_concat_getLast h).symm⟩
theorem canonL : ∀ (n : Nat) (l : List Nat), l.length = n → NumText.AllDigits l → l ≠ [] → l[0]? ≠ some 48 → TL.numL (NumText.digitsVal l) = l ∧ 0 < NumText.digitsVal l := by
  intro n
  induction n with
  | zero => intro l hn _ h; exact absurd (List.length_eq_zero_iff.mp hn) h
  | succ n ih =>
    intro l hn hd hne h0
    obtain ⟨a, c, rfl⟩ := snoc_of hne
    have hc := hd c (by simp)
    rw [dv_snoc]
    by_cases ha : a = []
    · subst ha
      have hc0 : c ≠ 48 := fun e => h0 (by rw [e]; rfl)
      have e0 : NumText.digitsVal ([] : List Nat) = 0 := rfl
      rw [e0, Nat.zero_mul, Nat.zero_add, TL.numL_lt (by omega)]
      refine ⟨?_, by omega⟩
      rw [show 48 + (c - 48) = c by omega]; rfl
    · have hd' : NumText.AllDigits a := fun x hx => hd x (by simp [hx])
      have h0' : a[0]? ≠ some 48 := by
        rw [List.getElem?_append_left (List.length_pos_iff.mpr ha)] at h0; exact h0
      obtain ⟨e1, e2⟩ := ih a (by simp at hn; omega) hd' ha h0'
      rw [TL.numL_step (by omega), show (NumText.digitsVal a * 10 + (c - 48)) / 10 = NumText.digitsVal a by omega, show (NumText.digitsVal a * 10 + (c - 48)) % 10 = c - 48 by omega, e1, show 48 + (c - 48) = c by omega]
      exact ⟨rfl, by omega⟩
theorem dv_lt : ∀ (n : Nat) (l : List Nat), l.length = n → NumText.AllDigits l → NumText.digitsVal l < 10 ^ n := by
  intro n
  induction n with
  | zero => intro l hn _; rw [List.length_eq_zero_iff.mp hn]; decide
  | succ n ih =>
    intro l hn hd
    obtain ⟨a, c, rfl⟩ := snoc_of (l := l) (fun e => by rw [e] at hn; cases hn)
    have hc := hd c (by simp)
    have := ih a (by simp at hn; omega) fun x hx => hd x (by simp [hx])
    rw [dv_snoc, Nat.pow_succ]
    omega
theorem body_cases (t : List Nat) : (∃ r, t = 45 :: r ∧ bodyL t = r ∧ wholeV t = -((NumText.digitsVal r : Nat) : Int)) ∨ (t.take 1 ≠ [45] ∧ bodyL t = t ∧ wholeV t = ((NumText.digitsVal t : Nat) : Int)) := by
  by_cases c : t.take 1 = [45]
  · exact .inl ⟨t.drop 1, take_one c, by rw [take_one c]; rfl, by rw [take_one c]; rfl⟩
  · exact .inr ⟨c, body_no c, val_no c⟩
theorem val_abs {t : List Nat} : (wholeV t).natAbs = NumText.digitsVal (bodyL t) := by
  rcases body_cases t with ⟨r, -, h2, h3⟩ | ⟨-, h2, h3⟩ <;> rw [h2, h3] <;> omega
theorem canon {t : List Nat} (h1 : bodyL t ≠ []) (h3 : (bodyL t).all isDig = true) : (numT (wholeV t) = t) ↔ ¬ ((bodyL t)[0]? = some 48 ∧ t ≠ [48]) := by
  constructor
  · rintro e ⟨h4, h5⟩
    have e2 := body_num (i := wholeV t)
    rw [e] at e2
    rw [e2] at h4
    have := numL_head _ h4
    have e0 : wholeV t = 0 := by omega
    rw [e0] at e
    exact h5 (by rw [← e]; decide +kernel)
  · intro h
    by_cases h5 : t = [48]
    · subst h5; decide +kernel
    have h4 : (bodyL t)[0]? ≠ some 48 := fun e => h ⟨e, h5⟩
    obtain ⟨e1, e2⟩ := canonL _ _ rfl (all_dig h3) h1 h4
    rcases body_cases t with ⟨r, g1, g2, g3⟩ | ⟨-, g2, g3⟩
    · rw [g2] at e1 e2
      unfold numT
      rw [g3, if_pos (by omega), show (-((NumText.digitsVal r : Nat) : Int)).natAbs = NumText.digitsVal r by omega, e1, g1]
    · rw [g2] at e1 e2
      unfold numT
      rw [g3, if_neg (by omega), Int.natAbs_natCast, e1]
theorem body_int {t : List Nat} (h1 : bodyL t ≠ []) (h3 : (bodyL t).all isDig = true) (hl : t.length ≤ 640) : intText? (S t) = some (wholeV t) := by
  by_cases c : t.take 1 = [45]
  · have e := take_one c
    generalize t.drop 1 = r at e
    subst e
    exact intText_neg (x := S (45 :: r)) rfl (all_dig h3) h1 (by rw [S_len]; omega)
  · rw [body_no c] at h1 h3
    rw [val_no c]
    exact intText_digits (x := S t) (all_dig h3) h1 (by rw [S_len]; omega)

theorem log_okB {i : Int} (h : i.natAbs < 10 ^ 30) : i.natAbs.log2 < 1920 := by
  by_cases h0 : i.natAbs = 0
  · rw [h0]; decide
  · exact Nat.lt_of_lt_of_le ((Nat.log2_lt h0).mpr (show i.natAbs < 2 ^ 120 by omega)) (by decide)
/-! ### what read_frac reads -/
/-- a text cut at its first sign / -/
def cutAt : List Nat → Option (List Nat × List Nat)
  | [] => none
  | c :: r => if c = 47 then some ([], r) else match cutAt r with
    | some (a, b) => some (c :: a, b)
    | none => none
theorem cut_some : ∀ {t a b : List Nat}, cutAt t = some (a, b) → t = a ++ ([47] ++ b) ∧ 47 ∉ a
  | [], a, b, h => by cases h
  | c :: r, a, b, h => by
    unfold cutAt at h
    split at h
    · rename_i hc
      cases h
      exact ⟨by rw [hc]; rfl, by simp⟩
    · rename_i hc
      cases hr : cutAt r with
      | none => rw [hr] at h; cases h
      | some x =>
        obtain ⟨a', b'⟩ := x
        rw [hr] at h
        cases h
        obtain ⟨h1, h2⟩ := cut_some hr
        exact ⟨by rw [h1]; rfl, by simp [h2]; exact fun e => hc e.symm⟩
theorem cut_none : ∀ {t : List Nat}, cutAt t = none → 47 ∉ t
  | [], _ => by simp
  | c :: r, h => by
    unfold cutAt at h
    split at h
    · cases h
    · rename_i hc
      cases hr : cutAt r with
      | none => simp [cut_none hr]; exact fun e => hc e.symm
      | some x => rw [hr] at h; cases h
theorem cut_app {a b : List Nat} (h : 47 ∉ a) : cutAt (a ++ ([47] ++ b)) = some (a, b) := by
  induction a with
  | nil => rfl
  | cons c r ih =>
    simp only [List.mem_cons, not_or] at h
    show cutAt (c :: (r ++ ([47] ++ b))) = _
    unfold cutAt
    rw [if_neg (fun e => h.1 e.symm), ih h.2]
theorem cut_no {a : List Nat} (h : 47 ∉ a) : cutAt a = none := by
  cases hc : cutAt a with
  | none => rfl
  | some x =>
    obtain ⟨p, q⟩ := x
    obtain ⟨rfl, -⟩ := cut_some hc
    exact absurd (by simp) h
def fracO (a b : Option Int) : Option (Int × Int) := match a, b with
  | some x, some y => if 1 < y ∧ Int.gcd x y = 1 then some (x, y) else none
  | _, _ => none
def readF (t : List Nat) : Option (Int × Int) := match cutAt t with
  | none => (wholeO 30 t).map fun x => (x, 1)
  | some (a, b) => fracO (wholeO 30 a) (wholeO 30 b)
theorem o_part {a b : Str} {M : Mem} {Q : DK} (hb : (b.length == 0) = false) (ha : a.length ≤ 16000000) (h : Q (.tup [.str (Txt.partition a b).1, .str (Txt.partition a b).2.1, .str (Txt.partition a b).2.2]) M) : omPartition (.str a) [.str b] M Q := ⟨hb, ha, h⟩
theorem s_sl : ("/" : Str) = S [47] := by decide +kernel
theorem l_read_frac {M : Mem} {Q : DK} {X : XM} {t : List Nat} (hl : t.length ≤ 640) (h : match readF t with | some m => Q (pD m) M | none => X (xBW t) M) : w_read_frac [.str (S t)] M Q X := by
  have hS : (S t).length ≤ 16000000 := by rw [S_len]; omega
  unfold w_read_frac wOf
  rw [show startE N_read_frac [.str (S t)] = [some (.str (S t)), none, none, none, none, none] from rfl]
  unfold m_read_frac
  walk_at "ml"
  rw [s_sl]
  refine o_part (by rw [S_len]; rfl) hS ?_
  unfold readF at h
  cases hc : cutAt t with
  | none =>
    have hn := cut_none hc
    rw [hc] at h
    dsimp only at h
    rw [partition_none (by simp) (par_head_none (sep := []) hn)]
    dsimp only
    walk_at "ml"
    refine l_whole (most := 30) hl ?_
    walk_at "ml"
    rw [s_nil, show decide ((S [] : Str) = S []) = true by simp]
    refine if_t ?_
    cases hw : wholeO 30 t with
    | some x =>
      rw [hw] at h
      dsimp only [oiD]
      walk_at "ml"
      exact h
    | none =>
      rw [hw] at h
      dsimp only [oiD]
      walk_at "ml"
      exact ⟨rfl, h⟩
  | some ab =>
    obtain ⟨a, b⟩ := ab
    obtain ⟨rfl, hn⟩ := cut_some hc
    rw [hc] at h
    dsimp only at h
    rw [partition_some (p := a) (q := b) (by simp) (par_head (sep := []) b hn)]
    dsimp only
    have la : a.length ≤ 640 := by simp at hl; omega
    have lb : b.length ≤ 640 := by simp at hl; omega
    walk_at "ml"
    refine l_whole (most := 30) la ?_
    walk_at "ml"
    rw [s_nil, show decide ((S [47] : Str) = S []) = false by decide +kernel]
    refine if_f ?_
    walk_at "ml"
    refine l_whole (most := 30) lb ?_
    cases hwa : wholeO 30 a with
    | none =>
      rw [hwa] at h
      dsimp only [oiD]
      walk_at "ml"
      exact ⟨rfl, h⟩
    | some x =>
    cases hwb : wholeO 30 b with
    | none =>
      rw [hwa, hwb] at h
      dsimp only [oiD]
      walk_at "ml"
      exact ⟨rfl, h⟩
    | some y =>
    rw [hwa, hwb] at h
    unfold fracO at h
    dsimp only [oiD] at h ⊢
    walk_at "ml"
    refine if_d (fun c1 => ?_) (fun c1 => ?_)
    rotate_left
    · rw [if_neg (fun e => c1 e.1)] at h
      walk_at "ml"
      exact ⟨rfl, h⟩
    walk_at "ml"
    refine l_common ?_
    walk_at "ml"
    refine if_d (fun c2 => ?_) (fun c2 => ?_)
    rotate_left
    · rw [if_neg (fun e => c2 (by rw [e.2]; rfl))] at h
      walk_at "ml"
      exact ⟨rfl, h⟩
    rw [if_pos ⟨c1, by omega⟩] at h
    walk_at "ml"
    exact h
/-! ### what is shown -/
def shownT (q : Rat) : List Nat := if q.den = 1 then numT q.num else numT q.num ++ ([47] ++ numT (q.den : Int))
structure Fr (q : Rat) : Prop where
  n : q.num.natAbs < 10 ^ 30
  d : q.den < 10 ^ 30
theorem numT_sl {i : Int} : 47 ∉ numT i := by
  unfold numT
  have := TL.numL_free (n := i.natAbs) (s := 47) (by decide)
  split
  · simp [this]
  · exact this
theorem numT_len {i : Int} (h : i.natAbs < 10 ^ 30) : (numT i).length ≤ 31 := by
  have := TL.numL_len (n := i.natAbs) (k := 30) (by decide) h
  unfold numT; split <;> (try simp only [List.length_cons]) <;> omega
theorem shown_len {q : Rat} (h : Fr q) : (shownT q).length ≤ 63 := by
  have h1 := numT_len h.n
  have h2 := numT_len (i := (q.den : Int)) (by simpa using h.d)
  unfold shownT
  split
  · omega
  · simp only [List.length_append, List.length_cons, List.length_nil]; omega
theorem read_shown {q : Rat} (h : Fr q) : readF (shownT q) = some (q.num, (q.den : Int)) := by
  have e1 : wholeO 30 (numT q.num) = some q.num := whole_num (k := 30) (by decide) h.n
  have e2 : wholeO 30 (numT (q.den : Int)) = some (q.den : Int) := whole_num (k := 30) (by decide) (by simpa using h.d)
  unfold shownT
  by_cases hd : q.den = 1
  · rw [if_pos hd]
    unfold readF
    rw [cut_no numT_sl]
    dsimp only
    rw [e1, hd]; rfl
  · rw [if_neg hd]
    unfold readF
    rw [cut_app numT_sl]
    dsimp only
    rw [e1, e2]
    unfold fracO
    have := q.den_pos
    have hr : Int.gcd q.num q.den = 1 := q.reduced
    dsimp only
    rw [if_pos ⟨by omega, hr⟩]
theorem o_strB {n : Int} {M : Mem} {Q : DK} (hl : n.natAbs < 10 ^ 30) (h : Q (.str (S (numT n))) M) : oStr1 [.int n] M Q := o_strI (log_okB hl) (by rw [toS]; exact h)
theorem o_fmtB {n : Int} {M : Mem} {Q : DK} (hl : n.natAbs < 10 ^ 30) (h : Q (.str (S (numT n))) M) : oFmt (.int n) M Q := ⟨log_okB hl, by rw [toS]; exact h⟩
theorem l_shown {M : Mem} {Q : DK} {X : XM} {q : Rat} (hq : Fr q) (h : Q (.str (S (shownT q))) M) : w_shown [qD q] M Q X := by
  unfold w_shown wOf
  rw [show startE N_shown [qD q] = [some (qD q)] from rfl]
  unfold m_shown
  have h2 : ((q.den : Int)).natAbs < 10 ^ 30 := by simpa using hq.d
  unfold shownT at h
  walk_at "ml"
  refine o_q1 ?_
  walk_at "ml"
  refine if_d (fun c => ?_) (fun c => ?_)
  · rw [if_pos (by omega)] at h
    walk_at "ml"
    refine o_q0 ?_
    exact o_strB hq.n h
  · rw [if_neg (by omega)] at h
    walk_at "ml"
    refine js_all (ys := [S (numT q.num), "/", S (numT (q.den : Int))]) (.cons (fun _ h => ?_) (.cons (fun _ h => ?_) (.cons (fun _ h => ?_) .nil))) ?_ rfl ?_
    · walk_at "ml"
      refine o_q0 ?_
      exact o_fmtB hq.n h
    · walk_at "ml"; exact h
    · walk_at "ml"
      refine o_q1 ?_
      exact o_fmtB h2 h
    · have a1 := numT_len hq.n
      have a2 := numT_len h2
      have e : ("/" : Str).length = 1 := by decide +kernel
      simp [S_len, e]
      omega
    · simp only [List.foldl]
      rw [e_app, s_sl, S_cat, S_cat]
      simpa using h
end Prf

namespace Prf
open PySem SX
/-- the signs of the law's text -/
def sgs : List Nat := [48, 49, 50, 52, 57, 45, 47, 32]
theorem body_mem {t : List Nat} {c : Nat} (h : c ∈ t) (hc : c ≠ 45) : c ∈ bodyL t := by
  unfold bodyL
  split
  · rcases List.mem_cons.mp h with e | h
    · exact absurd e hc
    · exact h
  · exact h
theorem whole_no {k : Int} {t : List Nat} {c : Nat} (h : c ∈ t) (hc : c ≠ 45) (hd : isDig c = false) : wholeO k t = none := by
  have : (bodyL t).all isDig = false := by
    rw [List.all_eq_false]
    exact ⟨c, body_mem h hc, by rw [hd]; simp⟩
  unfold wholeO wholeB; rw [this]; simp
theorem in1 {z : List Nat} {c : Nat} {M : Mem} {Q : DK} (h : Q (.bl (decide (c ∈ z))) M) : oIn (.str (S [c])) (.str (S z)) M Q := o_inS h
def numO (t : List Nat) : Option Int := if wholeB 30 t = true then some (wholeV t) else none
theorem dig_of {t : List Nat} (hs : ∀ c ∈ t, c ∈ sgs) (h1 : 45 ∉ bodyL t) (h2 : 32 ∉ t) (h3 : 47 ∉ t) : (bodyL t).all isDig = true := by
  rw [List.all_eq_true]
  intro c hc
  have hm : c ∈ t := by
    unfold bodyL at hc
    split at hc
    · exact List.mem_cons_of_mem _ hc
    · exact hc
  have := hs c hm
  unfold sgs at this
  simp only [List.mem_cons, List.not_mem_nil, or_false] at this
  rcases this with rfl | rfl | rfl | rfl | rfl | rfl | rfl | rfl
  · rfl
  · rfl
  · rfl
  · rfl
  · rfl
  · exact absurd hc h1
  · exact absurd hm h3
  · exact absurd hm h2
theorem body_sub {t : List Nat} {c : Nat} (h : c ∈ bodyL t) : c ∈ t := by
  unfold bodyL at h
  split at h
  · exact List.mem_cons_of_mem _ h
  · exact h
theorem whole_not {t : List Nat} {c : Nat} (h : c ∈ bodyL t) (hd : isDig c = false) : wholeO 30 t = none := by
  have : (bodyL t).all isDig = false := by
    rw [List.all_eq_false]
    exact ⟨c, h, by rw [hd]; simp⟩
  unfold wholeO wholeB; rw [this]; simp
theorem lnumF {M : Mem} {Q : DK} {X : XM} {t : List Nat} (hs : ∀ c ∈ t, c ∈ sgs) (hl : t.length ≤ 20) (h : Q (oiD (wholeO 30 t)) M) : w_Lnumber [.str (S t)] M Q X := by
  have hS : (S t).length ≤ 16000000 := by rw [S_len]; omega
  unfold w_Lnumber wOf
  rw [show startE N_Lnumber [.str (S t)] = [some (.str (S t)), none] from rfl]
  unfold m_Lnumber
  iterate 2 walk_at "sx"
  walk_at "ex"
  dsimp only
  with_reducible refine x_join (fun ρ M' => ρ = [some (.str (S t)), some (.str (S (bodyL t)))] ∧ M = M') ?_ ?_
  · intro K hK
    walk_at "ml"
    refine o_slS hS ?_
    rw [slice_to (by decide)]
    walk_at "ml"
    rw [s_min]
    refine if_d (fun c => ?_) (fun c => ?_)
    · have c' : t.take 1 = [45] := S_inj c
      walk_at "ml"
      refine o_slS hS ?_
      rw [slice_from (by decide)]
      refine hK _ _ ⟨?_, rfl⟩
      have e := take_one c'
      have : bodyL t = t.drop 1 := by rw [e]; rfl
      rw [this]; rfl
    · have c' : t.take 1 ≠ [45] := fun e => c (by show S (t.take 1) = _; rw [e])
      walk_at "ml"
      refine hK _ _ ⟨?_, rfl⟩
      rw [body_no c']; rfl
  rintro _ _ ⟨rfl, rfl⟩
  have hb := body_len (t := t)
  have nn : ∀ c : Nat, isDig c = false → c ∈ bodyL t → wholeO 30 t = none := fun c hc hm => whole_not hm hc
  walk_at "ml"
  rw [s_nil]
  refine if_d (fun c => ?_) (fun c => ?_)
  · have c' : bodyL t = [] := S_inj c
    walk_at "ml"
    have e : wholeO 30 t = none := by unfold wholeO wholeB; rw [c']; simp
    rw [e] at h; exact h
  have c1 : bodyL t ≠ [] := fun e => c (by rw [e])
  walk_at "ml"
  rw [s_min]
  refine in1 ?_
  dsimp only
  refine if_d (fun c => ?_) (fun c2 => ?_)
  · walk_at "ml"
    rw [nn 45 rfl c] at h; exact h
  walk_at "ml"
  rw [show (" " : Str) = S [32] by decide +kernel]
  refine in1 ?_
  dsimp only
  refine if_d (fun c => ?_) (fun c3 => ?_)
  · walk_at "ml"
    rw [nn 32 rfl c] at h; exact h
  walk_at "ml"
  rw [s_sl]
  refine in1 ?_
  dsimp only
  refine if_d (fun c => ?_) (fun c4 => ?_)
  · walk_at "ml"
    rw [nn 47 rfl c] at h; exact h
  have c5 : (bodyL t).all isDig = true := by
    rw [List.all_eq_true]
    intro c hc
    have := hs c (body_sub hc)
    unfold sgs at this
    simp only [List.mem_cons, List.not_mem_nil, or_false] at this
    rcases this with rfl | rfl | rfl | rfl | rfl | rfl | rfl | rfl <;> first | rfl | exact absurd hc c2 | exact absurd hc c3 | exact absurd hc c4
  have hint := body_int c1 c5 (by omega)
  have oi : ∀ (M : Mem) (Q' : DK), Q' (.int (wholeV t)) M → oInt1 [.str (S t)] M Q' := fun M Q' q => by
    unfold oInt1; dsimp only; rw [hint]; exact ⟨by rw [S_len]; omega, q⟩
  have hva := val_abs (t := t)
  have hlt := dv_lt _ (bodyL t) rfl (all_dig c5)
  have hlog : (wholeV t).natAbs < 10 ^ 30 := by
    rw [hva]
    exact Nat.lt_of_lt_of_le hlt (Nat.pow_le_pow_right (by decide) (by omega))
  have hcan := canon c1 c5
  have ew : wholeB 30 t = !(decide ((bodyL t)[0]? = some 48) && decide (t ≠ [48])) := by
    unfold wholeB
    rw [c5, decide_eq_true c1, decide_eq_true (show ((bodyL t).length : Int) ≤ 30 by omega)]
    rfl
  walk_at "ml"
  refine oi _ _ ?_
  walk_at "ml"
  refine o_strB hlog ?_
  walk_at "ml"
  refine if_n (fun c => ?_) (fun c => ?_)
  · have c' : ¬ numT (wholeV t) = t := fun e => c (by rw [e])
    have : (bodyL t)[0]? = some 48 ∧ t ≠ [48] := Classical.byContradiction fun h => c' (hcan.mpr h)
    walk_at "ml"
    have e : wholeO 30 t = none := by unfold wholeO; rw [ew, decide_eq_true this.1, decide_eq_true this.2]; rfl
    rw [e] at h; exact h
  · have c' : numT (wholeV t) = t := S_inj c
    have h2 := hcan.mp c'
    walk_at "ml"
    refine oi _ _ ?_
    have e : wholeO 30 t = some (wholeV t) := by
      unfold wholeO
      rw [if_pos]
      rw [ew]
      by_cases ha : (bodyL t)[0]? = some 48
      · rw [decide_eq_false (fun hn => h2 ⟨ha, hn⟩)]; simp
      · rw [decide_eq_false ha]; rfl
    rw [e] at h; exact h
def omP : Option (Int × Int) → D
  | none => .non
  | some m => pD m
theorem o_split {a b : Str} {M : Mem} {Q : DK} (hb : (b.length == 0) = false) (ha : a.length ≤ 16000000) (h : Q (.ref M.length) (M ++ [.lst ((Txt.split a b).map .str)])) : omSplit (.str a) [.str b] M Q := ⟨hb, ha, h⟩
theorem spl_many {b : List Nat} (h : 47 ∈ b) : 2 ≤ (TL.spl [47] 0 [] b).length := by
  cases hc : cutAt b with
  | none => exact absurd h (cut_none hc)
  | some x =>
    obtain ⟨p, q⟩ := x
    obtain ⟨rfl, hn⟩ := cut_some hc
    rw [TL.spl_part1 (S := []) hn]
    have : ∀ l acc, 1 ≤ (TL.spl [47] 0 acc l).length := by
      intro l
      induction l with
      | nil => intro acc; rw [TL.spl_nil]; simp
      | cons c r ih =>
        intro acc
        by_cases hp : TL.pre [47] (c :: r) = true
        · rw [TL.spl_hit hp]; simp
        · rw [TL.spl_miss (by simpa using hp)]; exact ih _
    have := this q []
    simp only [List.length_cons]; omega
theorem spl_one {b : List Nat} (h : 47 ∉ b) : TL.spl [47] 0 [] b = [b] := by
  rw [TL.spl_last1 (S := []) h]; rfl
theorem lmeantF {M : Mem} {Q : DK} {X : XM} {t : List Nat} (hs : ∀ c ∈ t, c ∈ sgs) (hl : t.length ≤ 20) (h : ∀ M', Q (omP (readF t)) M') : w_Lmeant [.str (S t)] M Q X := by
  have hS : (S t).length ≤ 16000000 := by rw [S_len]; omega
  unfold w_Lmeant wOf
  rw [show startE N_Lmeant [.str (S t)] = [some (.str (S t)), none, none, none] from rfl]
  unfold m_Lmeant
  walk_at "ml"
  rw [s_sl]
  refine o_split (by rw [S_len]; rfl) hS ?_
  rw [split_S (by simp) (by decide)]
  unfold readF at h
  cases hc : cutAt t with
  | none =>
    have hn := cut_none hc
    rw [hc] at h
    dsimp only at h
    rw [spl_one hn]
    have g : (M ++ [O.lst (([t].map S).map .str)])[M.length]? = some (.lst [.str (S t)]) := mnew
    generalize M ++ [O.lst (([t].map S).map .str)] = M1 at *
    walk_at "ml"
    refine lnumF hs hl ?_
    cases hw : wholeO 30 t with
    | none =>
      rw [hw] at h
      dsimp only [oiD]
      walk_at "ml"
      exact h _
    | some x =>
      rw [hw] at h
      dsimp only [oiD]
      walk_at "ml"
      refine if_d (fun c => absurd c (by simp)) (fun _ => ?_)
      walk_at "ml"
      refine if_d (fun _ => ?_) (fun c => absurd (by simp) c)
      walk_at "ml"
      exact h _
  | some ab =>
    obtain ⟨a, b⟩ := ab
    obtain ⟨rfl, hn⟩ := cut_some hc
    rw [hc] at h
    dsimp only at h
    have la : a.length ≤ 20 := by simp at hl; omega
    have lb : b.length ≤ 20 := by simp at hl; omega
    have sa : ∀ c ∈ a, c ∈ sgs := fun c hc => hs c (by simp [hc])
    have sb : ∀ c ∈ b, c ∈ sgs := fun c hc => hs c (by simp [hc])
    rw [TL.spl_part1 (S := []) hn, List.nil_append]
    generalize hps : TL.spl [47] 0 [] b = ps
    have g : (M ++ [O.lst (((a :: ps).map S).map .str)])[M.length]? = some (.lst (.str (S a) :: (ps.map S).map .str)) := mnew
    generalize M ++ [O.lst (((a :: ps).map S).map .str)] = M1 at *
    walk_at "ml"
    refine o_ixL g (v := .str (S a)) (by rw [atI_0]; rfl) ?_
    walk_at "ml"
    refine lnumF sa la ?_
    cases hwa : wholeO 30 a with
    | none =>
      rw [hwa] at h
      dsimp only [oiD]
      walk_at "ml"
      exact h _
    | some x =>
    rw [hwa] at h
    dsimp only [oiD]
    walk_at "ml"
    by_cases hb : 47 ∈ b
    · have l2 := spl_many hb
      rw [hps] at l2
      have e : wholeO 30 b = none := whole_no hb (by decide) rfl
      rw [e] at h
      refine if_d (fun c => ?_) (fun c => ?_)
      · walk_at "ml"
        exact h _
      · exact absurd (by simp; omega) c
    · have e := spl_one hb
      rw [hps] at e
      subst e
      refine if_d (fun c => absurd c (by simp)) (fun c => ?_)
      walk_at "ml"
      refine if_d (fun c => absurd c (by simp)) (fun c => ?_)
      walk_at "ml"
      refine lnumF sb lb ?_
      cases hwb : wholeO 30 b with
      | none =>
        rw [hwb] at h
        dsimp only [oiD]
        walk_at "ml"
        exact h _
      | some y =>
      rw [hwb] at h
      unfold fracO at h
      dsimp only [oiD] at h ⊢
      walk_at "ml"
      refine if_d (fun c1 => ?_) (fun c1 => ?_)
      · rw [if_neg (fun e => by omega)] at h
        walk_at "ml"
        exact h _
      walk_at "ml"
      refine lgcd ?_
      walk_at "ml"
      refine if_n (fun c2 => ?_) (fun c2 => ?_)
      · rw [if_neg (fun e => c2 (by rw [e.2]; rfl))] at h
        walk_at "ml"
        exact h _
      rw [if_pos ⟨by omega, by omega⟩] at h
      walk_at "ml"
      exact h _
end Prf

namespace Prf
open PySem SX
theorem join_one : ∀ cs : List Nat, TL.joinL [] (cs.map fun c => [c]) = cs
  | [] => rfl
  | [c] => rfl
  | c :: d :: r => by
    show [c] ++ ([] ++ TL.joinL [] ((d :: r).map fun c => [c])) = c :: d :: r
    rw [join_one (d :: r)]; rfl
theorem strs_S (cs : List Nat) : (cs.map fun c => D.str (S [c])) = (((cs.map fun c => [c]).map S).map .str) := by rw [List.map_map, List.map_map]; rfl
theorem s_word : ("bad word" : Str).length = 8 := by decide +kernel
theorem o_mulS {z : Str} {k : Int} {M : Mem} {Q : DK} (h1 : 2 ≤ k ∧ k ≤ 1000) (h2 : 1 ≤ z.length ∧ z.length ≤ 1000) (h : Q (.str (repS z k)) M) : oMulS (.str z) (.int k) M Q := ⟨h1, h2, h⟩
/-- one and thirty noughts -/
def longT : List Nat := 49 :: List.replicate 30 48
theorem rep_long : ("1" : Str) ++ repS "0" 30 = S longT := by decide +kernel
theorem whole_long : wholeO 30 longT = none := by decide +kernel
theorem long_no : 47 ∉ longT := by decide +kernel
theorem read_long : readF longT = none := by
  unfold readF
  rw [cut_no long_no]
  dsimp only
  rw [whole_long]; rfl
theorem read_one : readF ([49] ++ ([47] ++ longT)) = none := by
  unfold readF
  rw [cut_app (by decide)]
  dsimp only
  rw [whole_long]
  unfold fracO
  cases wholeO 30 [49] <;> rfl
theorem whole_nil : wholeO 30 [] = none := by decide +kernel
theorem read_end {t : List Nat} : readF (t ++ [47]) = none := by
  unfold readF
  cases hc : cutAt t with
  | none =>
    have := cut_app (b := []) (cut_none hc)
    rw [List.append_nil] at this
    rw [this]
    dsimp only
    rw [whole_nil]
    unfold fracO
    cases wholeO 30 t <;> rfl
  | some x =>
    obtain ⟨a, b⟩ := x
    obtain ⟨rfl, hn⟩ := cut_some hc
    rw [show a ++ ([47] ++ b) ++ [47] = a ++ ([47] ++ (b ++ [47])) by simp, cut_app hn]
    dsimp only
    rw [whole_no (c := 47) (t := b ++ [47]) (by simp) (by decide) rfl]
    unfold fracO
    cases wholeO 30 a <;> rfl
theorem read_beg {t : List Nat} : readF ([47] ++ t) = none := by
  unfold readF
  have := cut_app (a := []) (b := t) (by simp)
  rw [List.nil_append] at this
  rw [this]
  dsimp only
  rw [whole_nil]
  rfl
theorem fr_of {x y : Int} {f : Int} (hf : 0 < f ∧ f ≤ 1000000000000000000000000000000) (hx : x.natAbs < f.natAbs) (hy : 0 < y ∧ y < f) : Fr ((x : Rat) / (y : Rat)) := by
  have hy0 : y ≠ 0 := by omega
  obtain ⟨h1, h2⟩ := frac_n x y hy0
  rw [if_neg (by omega)] at h1 h2
  have hg := Int.gcd_pos_of_ne_zero_right x hy0
  have e30 : (10 : Nat) ^ 30 = 1000000000000000000000000000000 := by decide
  have hg0 : ((Int.gcd x y : Nat) : Int) ≠ 0 := by omega
  have key : ∀ z : Int, ((Int.gcd x y : Nat) : Int) ∣ z → (z.fdiv (Int.gcd x y : Int)).natAbs ≤ z.natAbs := by
    rintro z ⟨c, hc⟩
    generalize ((Int.gcd x y : Nat) : Int) = g at *
    subst hc
    rw [Int.mul_fdiv_cancel_left _ hg0, Int.natAbs_mul]
    exact Nat.le_mul_of_pos_left _ (by omega)
  have k1 := key x (Int.gcd_dvd_left x y)
  have k2 := key y (Int.gcd_dvd_right x y)
  constructor
  · rw [← h1, e30]; omega
  · rw [h2] at k2
    have : ((((x : Rat) / (y : Rat)).den : Int)).natAbs = ((x : Rat) / (y : Rat)).den := Int.natAbs_natCast _
    rw [e30]; omega
theorem law_holds : ∀ ns : List Int, ns.length ≤ 63 → w_law [.kl (ns.map .int)] [] (fun d _ => d = .bl true) (fun _ _ => False) := by
  intro ns _
  unfold w_law wOf
  rw [show startE N_law [.kl (ns.map .int)] = [some (.kl (ns.map .int)), none, none, none, none, none, none, none, none, none, none, none, none] from rfl]
  unfold m_law
  walk_at "ml"
  refine lfeed fun M1 k1 F1 => ?_
  generalize List.length ([] : Mem) + 2 = p at F1 ⊢
  generalize List.length ([] : Mem) + 1 = q at F1
  iterate 2 walk_at "sx"
  walk_at "ex"
  dsimp only
  with_reducible refine x_join (fun ρ M' => ∃ f : Int, (50 ≤ f ∧ f ≤ 1000000000000000000000000000000) ∧ Feed M' p q ∧ ρ = [some (.kl (ns.map .int)), some (.ref p), some (.int f), none, none, none, none, none, none, none, none, none, none]) ?_ ?_
  · intro K hK
    walk_at "ml"
    refine ldraw F1 (by decide) (by decide) fun d M2 d0 d1 k2 F2 => ?_
    walk_at "ml"
    refine if_d (fun c => ?_) (fun c => ?_)
    · walk_at "ml"
      exact hK _ _ ⟨50, by decide, F2, rfl⟩
    · walk_at "ml"
      exact hK _ _ ⟨1000000000000000000000000000000, by decide, F2, rfl⟩
  rintro _ M2 ⟨f, ⟨f0, f1⟩, F2, rfl⟩
  have e120 : (2 : Int) ^ 120 = 1329227995784915872903807060280344576 := by decide
  walk_at "ml"
  refine o_mul (mul_ok' (by decide)) ?_
  walk_at "ml"
  refine ldrawB F2 (by omega) (by omega) fun a M3 a0 a1 k3 F3 => ?_
  walk_at "ml"
  refine ldrawB F3 (by omega) (by omega) fun b M4 b0 b1 k4 F4 => ?_
  walk_at "ml"
  refine lfracB (by omega) (by omega) ?_
  have hq : Fr (((a - f + 1 : Int) : Rat) / ((1 + b : Int) : Rat)) := fr_of (f := f) ⟨by omega, f1⟩ (by omega) (by omega)
  generalize ((a - f + 1 : Int) : Rat) / ((1 + b : Int) : Rat) = fr at *
  have sl := shown_len hq
  have rs := read_shown hq
  have hden : ((fr.den : Int)).natAbs < 10 ^ 30 := by simpa using hq.d
  have dp := fr.den_pos
  iterate 2 walk_at "sx"
  walk_at "ml"
  refine o_q0 ?_
  walk_at "mq"
  refine o_strB hq.n ?_
  dsimp only
  with_reducible refine x_join (fun ρ M' => M4 = M' ∧ ρ = [some (.kl (ns.map .int)), some (.ref p), some (.int f), some (qD fr), some (.str (S (shownT fr))), none, none, none, none, none, none, none, none]) ?_ ?_
  · intro K hK
    have l1 := numT_len hq.n
    have l2 := numT_len hden
    walk_at "ml"
    refine o_q1 ?_
    walk_at "ml"
    unfold shownT at hK
    refine if_d (fun c => ?_) (fun c => ?_)
    · rw [if_neg (by omega)] at hK
      walk_at "ml"
      rw [s_sl]
      refine o_addS (by rw [S_len, S_len]; simp; omega) ?_
      walk_at "ml"
      refine o_q1 ?_
      walk_at "ml"
      refine o_strB hden ?_
      refine o_addS (by rw [len_app, S_len, S_len, S_len]; simp; omega) ?_
      refine hK _ _ ⟨rfl, ?_⟩
      rw [S_cat, S_cat, List.append_assoc]; rfl
    · rw [if_pos (by omega)] at hK
      walk_at "ml"
      exact hK _ _ ⟨rfl, rfl⟩
  rintro _ _ ⟨rfl, rfl⟩
  walk_at "ml"
  refine l_shown hq ?_
  walk_at "ml"
  refine if_n (fun c => absurd rfl c) (fun _ => ?_)
  generalize shownT fr = w at *
  walk_at "ml"
  refine l_read_frac (by omega) ?_
  rw [rs]
  dsimp only
  walk_at "ml"
  rw [show pD (fr.num, (fr.den : Int)) = qD fr from rfl]
  refine ne_same (see_fine (qD_nil (n := 19))) (see_fine (qD_nil (n := 19))) ?_
  walk_at "ml"
  refine l_read_frac (by omega) ?_
  rw [rs]
  dsimp only
  walk_at "ml"
  rw [show pD (fr.num, (fr.den : Int)) = qD fr from rfl]
  refine lis_frac_q ?_
  walk_at "ml"
  refine o_mulS (by decide) (by decide +kernel) ?_
  refine o_addS (by decide +kernel) ?_
  rw [rep_long]
  walk_at "ml"
  refine ldraw F4 (by decide) (by decide) fun d M5 d0 d1 k5 F5 => ?_
  walk_at "ml"
  refine ⟨⟨by omega, by omega⟩, ?_⟩
  refine lc_ix (fun j acc M' => Feed M' p q ∧ M'.length > M5.length ∧ ∃ cs : List Nat, acc = (cs.map fun c => D.str (S [c])) ∧ cs.length = j ∧ ∀ c ∈ cs, c ∈ sgs) (fun _ _ _ _ => trivial) ?_ ?_ (by rw [rng_len]; omega) mnew ⟨F5.app, by simp, [], rfl, rfl, by simp⟩
  · rintro j d acc M6 K hd h4 ⟨F6, hl6, cs, rfl, hcl, hcs⟩ hK
    walk_at "ml"
    have l5 := F5.lt
    refine ldraw F6 (by decide) (by decide) fun c M7 c0 c1 k7 F7 => ?_
    rw [show ("01249-/ " : Str) = S sgs by decide +kernel]
    have hc8 : c.toNat < sgs.length := by rw [show sgs.length = 8 from rfl]; omega
    refine o_ixS (c := sgs[c.toNat]) (by rw [S_len]; decide) (by rw [atI_i c0]; exact List.getElem?_eq_getElem hc8) ?_
    have hm : sgs[c.toNat] ∈ sgs := List.getElem_mem hc8
    generalize sgs[c.toNat] = ch at *
    refine hK _ _ (k7.at_ _ _ (by simp; omega) h4) ⟨F7.kp (S := [M5.length]) (.set (by simp)) (by simp; omega) (by simp; omega), by have := k7.len; simp; omega, cs ++ [ch], by simp, by simp [hcl], ?_⟩
    intro x hx
    rcases List.mem_append.mp hx with hx | hx
    · exact hcs x hx
    · rw [List.mem_singleton.mp hx]; exact hm
  rintro _ M6 h6 ⟨F6, hl6, cs, rfl, hcl, hcs⟩
  rw [rng_len] at hcl
  walk_at "ml"
  have oj : ∀ Q : DK, Q (.str (S cs)) M6 → omJoin (.str ("" : Str)) [.ref M5.length] M6 Q := fun Q q => by
    unfold omJoin
    dsimp only
    rw [h6]
    dsimp only
    rw [strs_S, strsOf_map]
    dsimp only
    rw [s_nil, join_S, join_one]
    refine ⟨?_, q⟩
    rw [List.map_map, List.map_map]
    have : ∀ l : List Nat, (l.map (((fun x => x.length) ∘ S) ∘ fun c => [c])).sum = l.length := fun l => by
      induction l with
      | nil => rfl
      | cons a l ih => rw [List.map_cons, List.sum_cons, ih]; simp [S_len]; omega
    rw [this, S_len]
    simp; omega
  refine oj _ ?_
  walk_at "ml"
  with_reducible refine x_iseq ?_
  have ll : longT.length = 31 := by decide
  walk_at "ml"
  refine o_addS (by rw [show ("1/" : Str).length = 2 by decide +kernel, S_len, ll]; decide) ?_
  walk_at "ml"
  rw [s_sl]
  refine o_addS (by rw [S_len, S_len]; simp; omega) ?_
  walk_at "ml"
  refine o_addS (by rw [S_len, S_len]; simp; omega) ?_
  walk_at "ml"
  refine iseqT ?_
  rw [show ("1/" : Str) = S ([49] ++ [47]) by decide +kernel, S_cat, S_cat, S_cat, List.append_assoc]
  have hit : ∀ d ∈ [D.str (S cs), D.str (S longT), D.str (S ([49] ++ ([47] ++ longT))), D.str (S (w ++ [47])), D.str (S ([47] ++ w))], ∃ u : List Nat, d = .str (S u) ∧ u.length ≤ 100 ∧ (u = cs ∨ readF u = none) := by
    intro d hd
    simp only [List.mem_cons, List.not_mem_nil, or_false] at hd
    rcases hd with rfl | rfl | rfl | rfl | rfl
    · exact ⟨_, rfl, by omega, .inl rfl⟩
    · exact ⟨_, rfl, by omega, .inr read_long⟩
    · exact ⟨_, rfl, by simp [ll], .inr read_one⟩
    · exact ⟨_, rfl, by simp; omega, .inr read_end⟩
    · exact ⟨_, rfl, by simp; omega, .inr read_beg⟩
  generalize [D.str (S cs), D.str (S longT), D.str (S ([49] ++ ([47] ++ longT))), D.str (S (w ++ [47])), D.str (S ([47] ++ w))] = items at *
  refine for_ix (fun k ρ M' => ∃ o8 o9 o10 o11 o12, ρ = [some (.kl (ns.map .int)), some (.ref p), some (.int f), some (qD fr), some (.str (S w)), some (.str (S longT)), some (.str (S cs)), none, o8, o9, o10, o11, o12]) (fun _ _ _ _ => trivial) ?_ ?_ ⟨_, _, _, _, _, rfl⟩
  · rintro ρ M' ⟨o8, o9, o10, o11, o12, rfl⟩
    walk_at "ml"
    rfl
  · rintro k d ρ M7 K hd ⟨o8, o9, o10, o11, o12, rfl⟩ hK
    obtain ⟨u, rfl, hu, hcu⟩ := hit d (List.mem_of_getElem? hd)
    walk_at "ex"
    iterate 2 walk_at "sx"
    walk_at "ex"
    dsimp only
    iterate 2 walk_at "sx"
    walk_at "ex"
    dsimp only
    with_reducible refine x_join (fun ρ M' => ∃ (wd fd : D) (o11 : Option D), M7 = M' ∧ (match readF u with | some m => wd = .str "" ∧ fd = pD m | none => wd = .str ("bad word" ++ S u) ∧ fd = .non) ∧ ρ = [some (.kl (ns.map .int)), some (.ref p), some (.int f), some (qD fr), some (.str (S w)), some (.str (S longT)), some (.str (S cs)), none, some (.str (S u)), some wd, some fd, o11, o12]) ?_ ?_
    · intro K2 hK2
      walk_at "ml"
      refine l_read_frac (by omega) ?_
      cases hr : readF u with
      | some m =>
        dsimp only
        exact hK2 _ _ ⟨_, _, _, rfl, by rw [hr]; exact ⟨rfl, rfl⟩, rfl⟩
      | none =>
        dsimp only
        refine c_yesC (xc := "BadWord") rfl (by decide +kernel) (by decide +kernel) fun a dd => ?_
        walk_at "ml"
        refine x_xf rfl rfl ?_
        refine x_xf rfl rfl ?_
        refine o_addS (by rw [s_word, S_len]; omega) ?_
        exact hK2 _ _ ⟨_, _, _, rfl, by rw [hr]; exact ⟨rfl, rfl⟩, rfl⟩
    rintro _ _ ⟨wd, fd, o11, rfl, hw, rfl⟩
    iterate 2 walk_at "sx"
    walk_at "ex"
    dsimp only
    with_reducible refine x_join (fun ρ M' => ∃ (o11 : Option D), ρ = [some (.kl (ns.map .int)), some (.ref p), some (.int f), some (qD fr), some (.str (S w)), some (.str (S longT)), some (.str (S cs)), none, some (.str (S u)), some wd, some fd, o11, some (omP (readF u))]) ?_ ?_
    · intro K2 hK2
      walk_at "ml"
      refine if_d (fun c => ?_) (fun c => ?_)
      · have e : u = cs := S_inj c
        subst e
        walk_at "ml"
        refine lmeantF hcs (by omega) fun M8 => ?_
        exact hK2 _ _ ⟨_, rfl⟩
      · have e : u ≠ cs := fun e => c (by rw [e])
        rcases hcu with h | h
        · exact absurd h e
        · walk_at "ml"
          refine hK2 _ _ ⟨o11, ?_⟩
          rw [h]; rfl
    rintro _ M8 ⟨o11, rfl⟩
    cases hr : readF u with
    | none =>
      rw [hr] at hw
      obtain ⟨rfl, rfl⟩ := hw
      dsimp only [omP]
      walk_at "ml"
      refine o_addS (by rw [s_word, S_len]; omega) ?_
      walk_at "ml"
      refine if_n (fun c => absurd rfl c) (fun _ => ?_)
      walk_at "ml"
      exact hK _ _ ⟨_, _, _, _, _, rfl⟩
    | some m =>
      rw [hr] at hw
      obtain ⟨rfl, rfl⟩ := hw
      dsimp only [omP]
      walk_at "ml"
      refine if_f ?_
      walk_at "ml"
      refine if_t ?_
      walk_at "ml"
      refine if_n (fun c => absurd rfl c) (fun _ => ?_)
      walk_at "ml"
      refine ne_pD ?_
      rw [show (!decide (m = m)) = false by simp]
      walk_at "ml"
      exact hK _ _ ⟨_, _, _, _, _, rfl⟩
end Prf

namespace Prf
open PySem L2 MV
structure Tx (K : PySem.W.Frag) (mg : Str → Option Value) : Prop where
  g_Lfeed : mg "_law_feed" = some (.ref (He.ga K "_law_feed"))
  d_Lfeed : ∃ fd, FunD K "_law_feed" "_law_feed" (defArgs s_Lfeed) (defBody s_Lfeed) (defScope s_Lfeed) [] [] (He.ga K "_law_feed") fd
  g_Ldraw : mg "_law_draw" = some (.ref (He.ga K "_law_draw"))
  d_Ldraw : ∃ fd, FunD K "_law_draw" "_law_draw" (defArgs s_Ldraw) (defBody s_Ldraw) (defScope s_Ldraw) [] [] (He.ga K "_law_draw") fd
  g_Lgcd : mg "_law_gcd" = some (.ref (He.ga K "_law_gcd"))
  d_Lgcd : ∃ fd, FunD K "_law_gcd" "_law_gcd" (defArgs s_Lgcd) (defBody s_Lgcd) (defScope s_Lgcd) [] [] (He.ga K "_law_gcd") fd
  g_Lfrac : mg "_law_frac" = some (.ref (He.ga K "_law_frac"))
  d_Lfrac : ∃ fd, FunD K "_law_frac" "_law_frac" (defArgs s_Lfrac) (defBody s_Lfrac) (defScope s_Lfrac) [] [] (He.ga K "_law_frac") fd
  g_shown : mg "shown" = some (.ref (He.ga K "shown"))
  d_shown : ∃ fd, FunD K "shown" "shown" (defArgs s_shown) (defBody s_shown) (defScope s_shown) [] [] (He.ga K "shown") fd
  g_whole : mg "whole" = some (.ref (He.ga K "whole"))
  d_whole : ∃ fd, FunD K "whole" "whole" (defArgs s_whole) (defBody s_whole) (defScope s_whole) [] [] (He.ga K "whole") fd
  g_common : mg "common" = some (.ref (He.ga K "common"))
  d_common : ∃ fd, FunD K "common" "common" (defArgs s_common) (defBody s_common) (defScope s_common) [] [] (He.ga K "common") fd
  g_read_frac : mg "read_frac" = some (.ref (He.ga K "read_frac"))
  d_read_frac : ∃ fd, FunD K "read_frac" "read_frac" (defArgs s_read_frac) (defBody s_read_frac) (defScope s_read_frac) [] [] (He.ga K "read_frac") fd
  g_Lwhole : mg "_law_whole" = some (.ref (He.ga K "_law_whole"))
  d_Lwhole : ∃ fd, FunD K "_law_whole" "_law_whole" (defArgs s_Lwhole) (defBody s_Lwhole) (defScope s_Lwhole) [] [] (He.ga K "_law_whole") fd
  g_Lis_pair : mg "_law_is_pair" = some (.ref (He.ga K "_law_is_pair"))
  d_Lis_pair : ∃ fd, FunD K "_law_is_pair" "_law_is_pair" (defArgs s_Lis_pair) (defBody s_Lis_pair) (defScope s_Lis_pair) [] [] (He.ga K "_law_is_pair") fd
  g_Lis_frac : mg "_law_is_frac" = some (.ref (He.ga K "_law_is_frac"))
  d_Lis_frac : ∃ fd, FunD K "_law_is_frac" "_law_is_frac" (defArgs s_Lis_frac) (defBody s_Lis_frac) (defScope s_Lis_frac) [] [] (He.ga K "_law_is_frac") fd
  g_Lnumber : mg "_law_number" = some (.ref (He.ga K "_law_number"))
  d_Lnumber : ∃ fd, FunD K "_law_number" "_law_number" (defArgs s_Lnumber) (defBody s_Lnumber) (defScope s_Lnumber) [] [] (He.ga K "_law_number") fd
  g_Lmeant : mg "_law_meant" = some (.ref (He.ga K "_law_meant"))
  d_Lmeant : ∃ fd, FunD K "_law_meant" "_law_meant" (defArgs s_Lmeant) (defBody s_Lmeant) (defScope s_Lmeant) [] [] (He.ga K "_law_meant") fd
  g_law : mg "law" = some (.ref (He.ga K "law"))
  d_law : ∃ fd, FunD K "law" "law" (defArgs s_law) (defBody s_law) (defScope s_law) [] [] (He.ga K "law") fd
  di_WeirError : ∃ fd, FunD K "__init__" "WeirError.__init__" (defArgs si0_WeirError) (defBody si0_WeirError) (defScope si0_WeirError) [] [] (He.ma K (He.ga K "WeirError") "__init__") fd
  di_FormError : ∃ fd, FunD K "__init__" "FormError.__init__" (defArgs si0_FormError) (defBody si0_FormError) (defScope si0_FormError) [] [] (He.ma K (He.ga K "FormError") "__init__") fd
  di_BadWord : ∃ fd, FunD K "__init__" "BadWord.__init__" (defArgs si0_BadWord) (defBody si0_BadWord) (defScope si0_BadWord) [] [] (He.ma K (He.ga K "BadWord") "__init__") fd
  m_abs : mg "abs" = none
  m_bool : mg "bool" = none
  m_int : mg "int" = none
  m_isinstance : mg "isinstance" = none
  m_len : mg "len" = none
  m_list : mg "list" = none
  m_range : mg "range" = none
  m_str : mg "str" = none
  m_tuple : mg "tuple" = none
  m_ValueError : mg "ValueError" = none
  c_FIGURES : ∃ t, mg "FIGURES" = some (.str "0123456789" t)
  c_MOST_FIGURES : ∃ t, mg "MOST_FIGURES" = some (.int 30 t)
  x_WeirError : DW.ExcX K mg "WeirError" xfl
  x_FormError : DW.ExcX K mg "FormError" xfl
  x_BadWord : DW.ExcX K mg "BadWord" xfl
  xc : XcN K xsub xfl
  ve : PySem.W.findCls K (.type "ValueError") (.type "type") "__init__" = some (.val (.builtin "ValueError.__init__"))
abbrev si_WeirError : Stmt := inClass (topS 1) 0
theorem sci_WeirError : FnScope ["self", "word"] ["self", "word"] (defScope si_WeirError) := ⟨rfl, rfl, rfl, by decide +kernel, rfl, by decide +kernel, by decide +kernel⟩
def ti_WeirError (K : PySem.W.Frag) : TS :=
  (tSeq (tDrop (tVeI K (tCons (tVar 0) (tCons (tVar 1) tNil)))) (tOst K "word" (tVar 0) (tVar 1)))
theorem pui_WeirError (K : PySem.W.Frag) (vs : List V) (H : Hp) (Q : VK) (E : XK) (h : spIn K 1 xs_WeirError vs H Q E) : ti_WeirError K ⟨fun _ H' => Q .non H', Q, fun _ _ => False, fun _ _ => False⟩ (start ["self", "word"] vs) H := by
  obtain ⟨a, ws, rfl, hl, C, ha, hC, hn, k⟩ := h
  match ws, hl with
  | [w0], _ =>
    show ti_WeirError K _ [some (.ref a), some w0] H
    refine ⟨_, rfl, _, rfl, a, C, _, rfl, Nat.le_of_ble_eq_true rfl, hC, ha, ?_⟩
    exact ⟨_, rfl, _, rfl, a, C, rfl, hC, hn "word" (by simp [flV, xs_WeirError]), .inl ⟨ha, k⟩⟩
theorem oki_WeirError {P : Program} {w : World} {K : PySem.W.Frag} {mg : Str → Option Value} {base : Heap} (T : Tx K mg) : DW.FnM P w K mg base CX0 1 "WeirError" "__init__" ["self", "word"] (spIn K 1 xs_WeirError) := by
  obtain ⟨fd, F⟩ := T.di_WeirError
  refine ⟨fd, F.ok sci_WeirError (fun vs H Q E h => by obtain ⟨a, ws, rfl, hl, _⟩ := h; simp [hl]) (fun cdv A outer s H vs Q E hr h => ⟨ti_WeirError K, PSs.nox ?_, pui_WeirError K vs H Q E h⟩), FunD.bindsN F (ps := ["self", "word"]) fun _ _ _ _ _ _ us hl => match us, hl with | [_, _], _ => rfl⟩
  exact (pss_cons (ps_expr (pe_veinit (by rfl) T.m_ValueError T.ve (pa_cons (pv 0) (pa_cons (pv 1) pa_nil)))) (pss_one (ps_ost (pv 0) (pv 1))))
abbrev si_FormError : Stmt := inClass (topS 2) 0
theorem sci_FormError : FnScope ["self", "word"] ["self", "word"] (defScope si_FormError) := ⟨rfl, rfl, rfl, by decide +kernel, rfl, by decide +kernel, by decide +kernel⟩
def ti_FormError (K : PySem.W.Frag) : TS :=
  (tDrop (tCall (spIn K 1 xs_WeirError) [] E0 (tCons (tVar 0) (tCons (tVar 1) tNil))))
theorem pui_FormError (K : PySem.W.Frag) (vs : List V) (H : Hp) (Q : VK) (E : XK) (h : spIn K 1 xs_FormError vs H Q E) : ti_FormError K ⟨fun _ H' => Q .non H', Q, fun _ _ => False, fun _ _ => False⟩ (start ["self", "word"] vs) H := by
  obtain ⟨a, ws, rfl, hl, C, ha, hC, hn, k⟩ := h
  match ws, hl with
  | [w0], _ =>
    show ti_FormError K _ [some (.ref a), some w0] H
    refine ⟨_, rfl, _, rfl, a, [w0], rfl, rfl, C, ha, hC, fun f hf => hn f ?_, fun dx hdx hne => ?_⟩
    · simp [flV, xs_FormError, xs_WeirError] at hf ⊢; simp [hf]
    · exact k dx hdx hne
theorem oki_FormError {P : Program} {w : World} {K : PySem.W.Frag} {mg : Str → Option Value} {base : Heap} (T : Tx K mg)
    (G_WeirError_init : DW.FnM P w K mg base CX0 1 "WeirError" "__init__" ["self", "word"] (spIn K 1 xs_WeirError)) : DW.FnM P w K mg base CX0 2 "FormError" "__init__" ["self", "word"] (spIn K 1 xs_FormError) := by
  obtain ⟨fd, F⟩ := T.di_FormError
  refine ⟨fd, F.ok sci_FormError (fun vs H Q E h => by obtain ⟨a, ws, rfl, hl, _⟩ := h; simp [hl]) (fun cdv A outer s H vs Q E hr h => ⟨ti_FormError K, PSs.nox ?_, pui_FormError K vs H Q E h⟩), FunD.bindsN F (ps := ["self", "word"]) fun _ _ _ _ _ _ us hl => match us, hl with | [_, _], _ => rfl⟩
  exact (pss_one (ps_expr (DW.pe_init T.x_WeirError G_WeirError_init (hr.mono (by decide)) (by rfl) pass0 (pa_cons (pv 0) (pa_cons (pv 1) pa_nil)))) )
abbrev si_BadWord : Stmt := inClass (topS 3) 0
theorem sci_BadWord : FnScope ["self", "said"] ["self", "said"] (defScope si_BadWord) := ⟨rfl, rfl, rfl, by decide +kernel, rfl, by decide +kernel, by decide +kernel⟩
def ti_BadWord (K : PySem.W.Frag) : TS :=
  (tSeq (tDrop (tCall (spIn K 1 xs_FormError) [] E0 (tCons (tVar 0) (tCons (tC (.str "bad word")) tNil)))) (tOst K "said" (tVar 0) (tVar 1)))
theorem pui_BadWord (K : PySem.W.Frag) (vs : List V) (H : Hp) (Q : VK) (E : XK) (h : spIn K 1 xs_BadWord vs H Q E) : ti_BadWord K ⟨fun _ H' => Q .non H', Q, fun _ _ => False, fun _ _ => False⟩ (start ["self", "said"] vs) H := by
  obtain ⟨a, ws, rfl, hl, C, ha, hC, hn, k⟩ := h
  match ws, hl with
  | [w0], _ =>
    show ti_BadWord K _ [some (.ref a), some w0] H
    refine ⟨_, rfl, a, [.str "bad word"], rfl, rfl, C, ha, hC, fun f hf => hn f ?_, fun dx hdx hne => ?_⟩
    · simp [flV, xs_BadWord, xs_FormError] at hf ⊢; simp [hf]
    · have hA0 : (upd (upd H dx (exd dx (flV xs_FormError [.str "bad word"]))) a (exo a C (some dx))) a = some (exo a C (some dx)) := by
        exact upd_same
      have hD0 : (upd (upd H dx (exd dx (flV xs_FormError [.str "bad word"]))) a (exo a C (some dx))) dx = some (exd dx (flV xs_FormError [.str "bad word"])) := by
        rw [upd_ne hne, upd_same]
      refine ⟨_, rfl, _, rfl, a, C, rfl, hC, hn "said" (by simp [flV, xs_BadWord]), .inr ⟨dx, _, hA0, hD0, by simp [flV, xs_FormError], ?_⟩⟩
      have e : upd (upd (upd H dx (exd dx (flV xs_FormError [.str "bad word"]))) a (exo a C (some dx))) dx (exd dx (("said", w0) :: flV xs_FormError [.str "bad word"])) = upd (upd H dx (exd dx (flV xs_BadWord [w0]))) a (exo a C (some dx)) := by
        funext y; by_cases h1 : y = dx
        · subst h1; rw [upd_same, upd_ne hne, upd_same]; rfl
        · by_cases h2 : y = a
          · subst h2; simp only [upd, if_neg h1, if_true]
          · simp only [upd, if_neg h1, if_neg h2]
      rw [e]; exact k dx hdx hne
theorem oki_BadWord {P : Program} {w : World} {K : PySem.W.Frag} {mg : Str → Option Value} {base : Heap} (T : Tx K mg)
    (G_FormError_init : DW.FnM P w K mg base CX0 2 "FormError" "__init__" ["self", "word"] (spIn K 1 xs_FormError)) : DW.FnM P w K mg base CX0 3 "BadWord" "__init__" ["self", "said"] (spIn K 1 xs_BadWord) := by
  obtain ⟨fd, F⟩ := T.di_BadWord
  refine ⟨fd, F.ok sci_BadWord (fun vs H Q E h => by obtain ⟨a, ws, rfl, hl, _⟩ := h; simp [hl]) (fun cdv A outer s H vs Q E hr h => ⟨ti_BadWord K, PSs.nox ?_, pui_BadWord K vs H Q E h⟩), FunD.bindsN F (ps := ["self", "said"]) fun _ _ _ _ _ _ us hl => match us, hl with | [_, _], _ => rfl⟩
  exact (pss_cons (ps_expr (DW.pe_init T.x_FormError G_FormError_init (hr.mono (by decide)) (by rfl) pass0 (pa_cons (pv 0) (pa_cons pe_str pa_nil)))) (pss_one (ps_ost (pv 0) (pv 1))))
/-! ## _law_feed -/
theorem sc_Lfeed : FnScope N_Lfeed ["_law_script"] (defScope s_Lfeed) := ⟨rfl, rfl, rfl, by decide +kernel, rfl, by decide +kernel, by decide +kernel⟩
theorem fk_Lfeed {P : Program} {w : World} {K : PySem.W.Frag} {mg : Str → Option Value} {base : Heap} (T : Tx K mg) {fd : FuncData}
    (F : FunD K "_law_feed" "_law_feed" (defArgs s_Lfeed) (defBody s_Lfeed) (defScope s_Lfeed) [] [] (He.ga K "_law_feed") fd) :
    FnOk P w K mg base (L2.CX P w) 1 (He.ga K "_law_feed") fd ["_law_script"] (spM K 1 w_Lfeed) :=
  fn_ok F sc_Lfeed fun cdv A outer s H E hr tk po =>
    (qss_one (qs_ret (qe_lst (qa_cons (qe_callTy (call_listA rfl) sim_list (by rfl) T.m_list (by decide +kernel) (qa_cons (qe_slice (qv 0) qo_none (qo_some qe_int)) qa_nil)) (qa_cons qe_int (qa_cons qe_int (qa_cons qe_int qa_nil)))))))
theorem ok_Lfeed_0 {P : Program} {w : World} {K : PySem.W.Frag} {mg : Str → Option Value} {base : Heap} (T : Tx K mg) :
    Fn P w K mg base 1 (He.ga K "_law_feed") ["_law_script"] w_Lfeed 1 [] (fun ds _ => ds) := by
  obtain ⟨fd, F⟩ := T.d_Lfeed
  refine ⟨⟨fd, fk_Lfeed T F, ?_⟩, F.kp⟩
  exact dbn_all (FunD.bindsN F (ps := ["_law_script"]) fun _ _ _ _ _ _ us hl => match us, hl with | [_], _ => rfl)
/-! ## _law_draw -/
theorem sc_Ldraw : FnScope N_Ldraw ["_law_feed_here", "_law_many"] (defScope s_Ldraw) := ⟨rfl, rfl, rfl, by decide +kernel, rfl, by decide +kernel, by decide +kernel⟩
theorem fk_Ldraw {P : Program} {w : World} {K : PySem.W.Frag} {mg : Str → Option Value} {base : Heap} (T : Tx K mg) {fd : FuncData}
    (F : FunD K "_law_draw" "_law_draw" (defArgs s_Ldraw) (defBody s_Ldraw) (defScope s_Ldraw) [] [] (He.ga K "_law_draw") fd) :
    FnOk P w K mg base (L2.CX P w) 1 (He.ga K "_law_draw") fd ["_law_feed_here", "_law_many"] (spM K 2 w_Ldraw) :=
  fn_ok F sc_Ldraw fun cdv A outer s H E hr tk po =>
    (qss_cons (qs_if (qt_cmp op_gt sim_gt (qe_ix (ix_any (units1 hr)) sim_ix (qv 0) qe_int (fun _ _ => rfl)) qe_int (nomark _)) (qss_cons (qs_set (i := 2) sc_Ldraw.nd rfl (Or.inl rfl) (qe_op op_modN sim_mod (qe_ix (ix_any (units1 hr)) sim_ix (qv 0) qe_int (fun _ _ => rfl)) (qv 1)))
      (qss_cons (qs_setIx (units1 hr) (qe_op DW.op_fdivX sim_div (qe_ix (ix_any (units1 hr)) sim_ix (qv 0) qe_int (fun _ _ => rfl)) (qv 1)) (qv 0) qe_int)
      (qss_one (qs_ret (qv 2))))) qss_nil)
      (qss_cons (qs_set (i := 3) sc_Ldraw.nd rfl (Or.inl rfl) qe_int)
      (qss_cons (qs_if (qt_cmp op_lt sim_lt (qe_ix (ix_any (units1 hr)) sim_ix (qv 0) qe_int (fun _ _ => rfl)) (qe_callB call_lenA sim_len (by rfl) T.m_len (by decide +kernel) (qa_cons (qe_ix (ix_any (units1 hr)) sim_ix (qv 0) qe_int (fun _ _ => rfl)) qa_nil)) (nomark _)) (qss_cons (qs_set (i := 3) sc_Ldraw.nd rfl (Or.inl rfl) (qe_ix (ix_any (units1 hr)) sim_ix (qe_ix (ix_any (units1 hr)) sim_ix (qv 0) qe_int (fun _ _ => rfl)) (qe_ix (ix_any (units1 hr)) sim_ix (qv 0) qe_int (fun _ _ => rfl)) (fun _ _ => rfl)))
      (qss_one (qs_setIx (units1 hr) (qe_op DW.op_plus sim_add (qe_ix (ix_any (units1 hr)) sim_ix (qv 0) qe_int (fun _ _ => rfl)) qe_int) (qv 0) qe_int))) qss_nil)
      (qss_cons (qs_if (qt_cmp op_ge sim_ge (qv 3) qe_int (nomark _)) (qss_cons (qs_setIx (units1 hr) (qe_op DW.op_fdivX sim_div (qv 3) (qv 1)) (qv 0) qe_int)
      (qss_one (qs_ret (qe_op op_modN sim_mod (qv 3) (qv 1))))) qss_nil)
      (qss_cons (qs_setIx (units1 hr) (qe_op op_modN sim_mod (qe_op DW.op_plus sim_add (qe_op DW.op_plus sim_add (qe_op op_mulA sim_mul (qe_ix (ix_any (units1 hr)) sim_ix (qv 0) qe_int (fun _ _ => rfl)) qe_int) (qe_op op_modN sim_mod (qv 3) qe_int)) qe_int) qe_int) (qv 0) qe_int)
      (qss_cons (qs_set (i := 4) sc_Ldraw.nd rfl (Or.inl rfl) (qe_ix (ix_any (units1 hr)) sim_ix (qe_lst (qa_cons (qe_ix (ix_any (units1 hr)) sim_ix (qv 0) qe_int (fun _ _ => rfl)) (qa_cons (qe_op op_pow sim_pow (qe_ix (ix_any (units1 hr)) sim_ix (qv 0) qe_int (fun _ _ => rfl)) qe_int) qa_nil))) (qe_callTy call_intA sim_int (by rfl) T.m_int (by decide +kernel) (qa_cons (qe_cmp op_gt sim_gt (qv 1) qe_int (nomark _)) qa_nil)) (fun _ _ => rfl)))
      (qss_one (qs_ret (qe_op op_modN sim_mod (qe_op DW.op_plus sim_add (qe_op DW.op_fdivX sim_div (qv 4) qe_int) (qv 3)) (qv 1))))))))))
theorem ok_Ldraw_0 {P : Program} {w : World} {K : PySem.W.Frag} {mg : Str → Option Value} {base : Heap} (T : Tx K mg) :
    Fn P w K mg base 1 (He.ga K "_law_draw") ["_law_feed_here", "_law_many"] w_Ldraw 2 [] (fun ds _ => ds) := by
  obtain ⟨fd, F⟩ := T.d_Ldraw
  refine ⟨⟨fd, fk_Ldraw T F, ?_⟩, F.kp⟩
  exact dbn_all (FunD.bindsN F (ps := ["_law_feed_here", "_law_many"]) fun _ _ _ _ _ _ us hl => match us, hl with | [_, _], _ => rfl)
/-! ## _law_gcd -/
theorem sc_Lgcd : FnScope N_Lgcd ["_law_one", "_law_other"] (defScope s_Lgcd) := ⟨rfl, rfl, rfl, by decide +kernel, rfl, by decide +kernel, by decide +kernel⟩
theorem fk_Lgcd {P : Program} {w : World} {K : PySem.W.Frag} {mg : Str → Option Value} {base : Heap} (T : Tx K mg) {fd : FuncData}
    (F : FunD K "_law_gcd" "_law_gcd" (defArgs s_Lgcd) (defBody s_Lgcd) (defScope s_Lgcd) [] [] (He.ga K "_law_gcd") fd) :
    FnOk P w K mg base (L2.CX P w) 1 (He.ga K "_law_gcd") fd ["_law_one", "_law_other"] (spM K 2 w_Lgcd) :=
  fn_ok F sc_Lgcd fun cdv A outer s H E hr tk po =>
    (qss_cons (qs_while po (qt_tru (qv 1) (by intro _; rfl)) (qss_one (qs_par (i := 0) (j := 1) (by rfl) sc_Lgcd.nd rfl rfl (by decide) rfl rfl (qa_cons (qv 1) (qa_cons (qe_op op_modN sim_mod (qv 0) (qv 1)) qa_nil)) (by rfl))))
      (qss_one (qs_ret (qe_callB call_abs sim_abs (by rfl) T.m_abs (by decide +kernel) (qa_cons (qv 0) qa_nil)))))
theorem ok_Lgcd_0 {P : Program} {w : World} {K : PySem.W.Frag} {mg : Str → Option Value} {base : Heap} (T : Tx K mg) :
    Fn P w K mg base 1 (He.ga K "_law_gcd") ["_law_one", "_law_other"] w_Lgcd 2 [] (fun ds _ => ds) := by
  obtain ⟨fd, F⟩ := T.d_Lgcd
  refine ⟨⟨fd, fk_Lgcd T F, ?_⟩, F.kp⟩
  exact dbn_all (FunD.bindsN F (ps := ["_law_one", "_law_other"]) fun _ _ _ _ _ _ us hl => match us, hl with | [_, _], _ => rfl)
/-! ## _law_frac -/
theorem sc_Lfrac : FnScope N_Lfrac ["_law_top", "_law_under"] (defScope s_Lfrac) := ⟨rfl, rfl, rfl, by decide +kernel, rfl, by decide +kernel, by decide +kernel⟩
theorem fk_Lfrac {P : Program} {w : World} {K : PySem.W.Frag} {mg : Str → Option Value} {base : Heap} (T : Tx K mg)
    (G_Lgcd_0 : Fn P w K mg base 1 (He.ga K "_law_gcd") ["_law_one", "_law_other"] w_Lgcd 2 [] (fun ds _ => ds)) {fd : FuncData}
    (F : FunD K "_law_frac" "_law_frac" (defArgs s_Lfrac) (defBody s_Lfrac) (defScope s_Lfrac) [] [] (He.ga K "_law_frac") fd) :
    FnOk P w K mg base (L2.CX P w) 2 (He.ga K "_law_frac") fd ["_law_top", "_law_under"] (spM K 2 w_Lfrac) :=
  fn_ok F sc_Lfrac fun cdv A outer s H E hr tk po =>
    (qss_cons (qs_set (i := 2) sc_Lfrac.nd rfl (Or.inl rfl) (qe_call G_Lgcd_0 (hr.mono (by decide)) (by rfl) T.g_Lgcd tk (qcwP (qa_cons (qv 0) (qa_cons (qv 1) qa_nil))) (by exact fun _ _ h _ => h)))
      (qss_cons (qs_if (qt_cmp op_lt sim_lt (qv 1) qe_int (nomark _)) (qss_one (qs_set (i := 2) sc_Lfrac.nd rfl (Or.inl rfl) (qe_un un_neg sim_neg (qv 2)))) qss_nil)
      (qss_one (qs_ret (qe_tup (qa_cons (qe_op DW.op_fdivX sim_div (qv 0) (qv 2)) (qa_cons (qe_op DW.op_fdivX sim_div (qv 1) (qv 2)) qa_nil)))))))
theorem ok_Lfrac_0 {P : Program} {w : World} {K : PySem.W.Frag} {mg : Str → Option Value} {base : Heap} (T : Tx K mg)
    (G_Lgcd_0 : Fn P w K mg base 1 (He.ga K "_law_gcd") ["_law_one", "_law_other"] w_Lgcd 2 [] (fun ds _ => ds)) :
    Fn P w K mg base 2 (He.ga K "_law_frac") ["_law_top", "_law_under"] w_Lfrac 2 [] (fun ds _ => ds) := by
  obtain ⟨fd, F⟩ := T.d_Lfrac
  refine ⟨⟨fd, fk_Lfrac T G_Lgcd_0 F, ?_⟩, F.kp⟩
  exact dbn_all (FunD.bindsN F (ps := ["_law_top", "_law_under"]) fun _ _ _ _ _ _ us hl => match us, hl with | [_, _], _ => rfl)
/-! ## shown -/
theorem sc_shown : FnScope N_shown ["a"] (defScope s_shown) := ⟨rfl, rfl, rfl, by decide +kernel, rfl, by decide +kernel, by decide +kernel⟩
theorem fk_shown {P : Program} {w : World} {K : PySem.W.Frag} {mg : Str → Option Value} {base : Heap} (T : Tx K mg) {fd : FuncData}
    (F : FunD K "shown" "shown" (defArgs s_shown) (defBody s_shown) (defScope s_shown) [] [] (He.ga K "shown") fd) :
    FnOk P w K mg base (L2.CX P w) 1 (He.ga K "shown") fd ["a"] (spM K 1 w_shown) :=
  fn_ok F sc_shown fun cdv A outer s H E hr tk po =>
    (qss_cons (qs_if (qt_cmp (DW.op_eqq hr.units) sim_eq (qe_ix (ix_any (units1 hr)) sim_ix (qv 0) qe_int (fun _ _ => rfl)) qe_int (nomark _)) (qss_one (qs_ret (qe_callTy call_strA sim_str (by rfl) T.m_str (by decide +kernel) (qa_cons (qe_ix (ix_any (units1 hr)) sim_ix (qv 0) qe_int (fun _ _ => rfl)) qa_nil)))) qss_nil)
      (qss_one (qs_ret (qe_joined (.cons (qe_fmt (qe_ix (ix_any (units1 hr)) sim_ix (qv 0) qe_int (fun _ _ => rfl))) (.cons qe_str (.cons (qe_fmt (qe_ix (ix_any (units1 hr)) sim_ix (qv 0) qe_int (fun _ _ => rfl))) .nil)))))))
theorem ok_shown_0 {P : Program} {w : World} {K : PySem.W.Frag} {mg : Str → Option Value} {base : Heap} (T : Tx K mg) :
    Fn P w K mg base 1 (He.ga K "shown") ["a"] w_shown 1 [] (fun ds _ => ds) := by
  obtain ⟨fd, F⟩ := T.d_shown
  refine ⟨⟨fd, fk_shown T F, ?_⟩, F.kp⟩
  exact dbn_all (FunD.bindsN F (ps := ["a"]) fun _ _ _ _ _ _ us hl => match us, hl with | [_], _ => rfl)
/-! ## whole -/
theorem sc_whole : FnScope N_whole ["text", "most"] (defScope s_whole) := ⟨rfl, rfl, rfl, by decide +kernel, rfl, by decide +kernel, by decide +kernel⟩
theorem fk_whole {P : Program} {w : World} {K : PySem.W.Frag} {mg : Str → Option Value} {base : Heap} (T : Tx K mg) {fd : FuncData}
    (F : FunD K "whole" "whole" (defArgs s_whole) (defBody s_whole) (defScope s_whole) [] [] (He.ga K "whole") fd) :
    FnOk P w K mg base (L2.CX P w) 1 (He.ga K "whole") fd ["text", "most"] (spM K 2 w_whole) :=
  fn_ok F sc_whole fun cdv A outer s H E hr tk po =>
    (qss_cons (qs_set (i := 2) sc_whole.nd rfl (Or.inl rfl) (qe_ifExp (qt_cmp (DW.op_eqq hr.units) sim_eq (qe_slice (qv 0) qo_none (qo_some qe_int)) qe_str (nomark _)) (qe_slice (qv 0) (qo_some qe_int) qo_none) (qv 0)))
      (qss_cons (qs_if (PW.pt (qw_or (qt_cmp (DW.op_eqq hr.units) sim_eq (qv 2) qe_str (nomark _)) (qw_or1 (qt_cmp op_gt sim_gt (qe_callB call_lenA sim_len (by rfl) T.m_len (by decide +kernel) (qa_cons (qv 2) qa_nil)) (qv 1) (nomark _))))) (qss_one (qs_ret qe_non)) qss_nil)
      (qss_cons (qs_for po rfl (qi_seq (qv 2)) (qg_name (i := 3) sc_whole.nd rfl (by first | exact Or.inl rfl | exact Or.inr rfl)) (qss_one (qs_if (qt_cmp (op_notInA (units65 hr)) sim_notin (qv 3) (qe_gstr (by rfl) T.c_FIGURES) rfl) (qss_one (qs_ret qe_non)) qss_nil)))
      (qss_cons (qs_if (PW.pt (qw_and (qt_cmp (DW.op_eqq hr.units) sim_eq (qe_ix (ix_any (units1 hr)) sim_ix (qv 2) qe_int (fun _ _ => rfl)) qe_str (nomark _)) (qw_and1 (qt_cmp (DW.op_nee hr.units) sim_ne (qv 0) qe_str (nomark _))))) (qss_one (qs_ret qe_non)) qss_nil)
      (qss_one (qs_ret (qe_callTy call_intA sim_int (by rfl) T.m_int (by decide +kernel) (qa_cons (qv 0) qa_nil))))))))
theorem ok_whole_0 {P : Program} {w : World} {K : PySem.W.Frag} {mg : Str → Option Value} {base : Heap} (T : Tx K mg) :
    Fn P w K mg base 1 (He.ga K "whole") ["text", "most"] w_whole 2 [] (fun ds _ => ds) := by
  obtain ⟨fd, F⟩ := T.d_whole
  refine ⟨⟨fd, fk_whole T F, ?_⟩, F.kp⟩
  exact dbn_all (FunD.bindsN F (ps := ["text", "most"]) fun _ _ _ _ _ _ us hl => match us, hl with | [_, _], _ => rfl)
/-! ## common -/
theorem sc_common : FnScope N_common ["one", "other"] (defScope s_common) := ⟨rfl, rfl, rfl, by decide +kernel, rfl, by decide +kernel, by decide +kernel⟩
theorem fk_common {P : Program} {w : World} {K : PySem.W.Frag} {mg : Str → Option Value} {base : Heap} (T : Tx K mg) {fd : FuncData}
    (F : FunD K "common" "common" (defArgs s_common) (defBody s_common) (defScope s_common) [] [] (He.ga K "common") fd) :
    FnOk P w K mg base (L2.CX P w) 1 (He.ga K "common") fd ["one", "other"] (spM K 2 w_common) :=
  fn_ok F sc_common fun cdv A outer s H E hr tk po =>
    (qss_cons (qs_while po (qt_tru (qv 1) (by intro _; rfl)) (qss_one (qs_par (i := 0) (j := 1) (by rfl) sc_common.nd rfl rfl (by decide) rfl rfl (qa_cons (qv 1) (qa_cons (qe_op op_modN sim_mod (qv 0) (qv 1)) qa_nil)) (by rfl))))
      (qss_one (qs_ret (qe_callB call_abs sim_abs (by rfl) T.m_abs (by decide +kernel) (qa_cons (qv 0) qa_nil)))))
theorem ok_common_0 {P : Program} {w : World} {K : PySem.W.Frag} {mg : Str → Option Value} {base : Heap} (T : Tx K mg) :
    Fn P w K mg base 1 (He.ga K "common") ["one", "other"] w_common 2 [] (fun ds _ => ds) := by
  obtain ⟨fd, F⟩ := T.d_common
  refine ⟨⟨fd, fk_common T F, ?_⟩, F.kp⟩
  exact dbn_all (FunD.bindsN F (ps := ["one", "other"]) fun _ _ _ _ _ _ us hl => match us, hl with | [_, _], _ => rfl)
/-! ## read_frac -/
theorem sc_read_frac : FnScope N_read_frac ["text"] (defScope s_read_frac) := ⟨rfl, rfl, rfl, by decide +kernel, rfl, by decide +kernel, by decide +kernel⟩
theorem fk_read_frac {P : Program} {w : World} {K : PySem.W.Frag} {mg : Str → Option Value} {base : Heap} (T : Tx K mg)
    (G_BadWord_init : DW.FnM P w K mg base CX0 3 "BadWord" "__init__" ["self", "said"] (spIn K 1 xs_BadWord))
    (G_common_0 : Fn P w K mg base 1 (He.ga K "common") ["one", "other"] w_common 2 [] (fun ds _ => ds))
    (G_whole_0 : Fn P w K mg base 1 (He.ga K "whole") ["text", "most"] w_whole 2 [] (fun ds _ => ds)) {fd : FuncData}
    (F : FunD K "read_frac" "read_frac" (defArgs s_read_frac) (defBody s_read_frac) (defScope s_read_frac) [] [] (He.ga K "read_frac") fd) :
    FnOk P w K mg base (L2.CX P w) 5 (He.ga K "read_frac") fd ["text"] (spM K 1 w_read_frac) :=
  fn_ok F sc_read_frac fun cdv A outer s H E hr tk po =>
    (qss_cons (qs_asg (qe_bm PySem.F.plainAttrs_str PySem.F.slot_str_partition PySem.F.type_str_partition mt_partition sim_partition (qv 0) (qa_cons qe_str qa_nil)) (qg_tup rfl (qgs_cons (qg_name (i := 1) sc_read_frac.nd rfl (by first | exact Or.inl rfl | exact Or.inr rfl)) (qgs_cons (qg_name (i := 2) sc_read_frac.nd rfl (by first | exact Or.inl rfl | exact Or.inr rfl)) (qgs_cons (qg_name (i := 3) sc_read_frac.nd rfl (by first | exact Or.inl rfl | exact Or.inr rfl)) qgs_nil)))))
      (qss_cons (qs_set (i := 4) sc_read_frac.nd rfl (Or.inl rfl) (qe_call G_whole_0 (hr.mono (by decide)) (by rfl) T.g_whole tk (qcwP (qa_cons (qv 1) (qa_cons (qe_gint (by rfl) T.c_MOST_FIGURES) qa_nil))) (by exact fun _ _ h _ => h)))
      (qss_cons (qs_if (qt_cmp (DW.op_eqq hr.units) sim_eq (qv 2) qe_str (nomark _)) (qss_one (qs_if (qt_cmp op_notN1 sim_isnot (qv 4) qe_non (nomark _)) (qss_one (qs_ret (qe_tup (qa_cons (qv 4) (qa_cons qe_int qa_nil))))) qss_nil)) (qss_cons (qs_set (i := 5) sc_read_frac.nd rfl (Or.inl rfl) (qe_call G_whole_0 (hr.mono (by decide)) (by rfl) T.g_whole tk (qcwP (qa_cons (qv 3) (qa_cons (qe_gint (by rfl) T.c_MOST_FIGURES) qa_nil))) (by exact fun _ _ h _ => h)))
      (qss_one (qs_if (PW.pt (qw_and (qt_cmp op_notN1 sim_isnot (qv 4) qe_non (nomark _)) (qw_and (qt_cmp op_notN1 sim_isnot (qv 5) qe_non (nomark _)) (qw_and (qt_cmp op_gt sim_gt (qv 5) qe_int (nomark _)) (qw_and1 (qt_cmp (DW.op_eqq hr.units) sim_eq (qe_call G_common_0 (hr.mono (by decide)) (by rfl) T.g_common tk (qcwP (qa_cons (qv 4) (qa_cons (qv 5) qa_nil))) (by exact fun _ _ h _ => h)) qe_int (nomark _))))))) (qss_one (qs_ret (qe_tup (qa_cons (qv 4) (qa_cons (qv 5) qa_nil))))) qss_nil))))
      (qss_one (qs_raise rfl tk T.x_BadWord G_BadWord_init (hr.mono (by decide)) (by rfl) (qa_cons (qv 0) qa_nil) (by decide) (by simp [xfl, xs_BadWord]))))))
theorem ok_read_frac_0 {P : Program} {w : World} {K : PySem.W.Frag} {mg : Str → Option Value} {base : Heap} (T : Tx K mg)
    (G_BadWord_init : DW.FnM P w K mg base CX0 3 "BadWord" "__init__" ["self", "said"] (spIn K 1 xs_BadWord))
    (G_common_0 : Fn P w K mg base 1 (He.ga K "common") ["one", "other"] w_common 2 [] (fun ds _ => ds))
    (G_whole_0 : Fn P w K mg base 1 (He.ga K "whole") ["text", "most"] w_whole 2 [] (fun ds _ => ds)) :
    Fn P w K mg base 5 (He.ga K "read_frac") ["text"] w_read_frac 1 [] (fun ds _ => ds) := by
  obtain ⟨fd, F⟩ := T.d_read_frac
  refine ⟨⟨fd, fk_read_frac T G_BadWord_init G_common_0 G_whole_0 F, ?_⟩, F.kp⟩
  exact dbn_all (FunD.bindsN F (ps := ["text"]) fun _ _ _ _ _ _ us hl => match us, hl with | [_], _ => rfl)
/-! ## _law_whole -/
theorem sc_Lwhole : FnScope N_Lwhole ["_law_found"] (defScope s_Lwhole) := ⟨rfl, rfl, rfl, by decide +kernel, rfl, by decide +kernel, by decide +kernel⟩
theorem fk_Lwhole {P : Program} {w : World} {K : PySem.W.Frag} {mg : Str → Option Value} {base : Heap} (T : Tx K mg) {fd : FuncData}
    (F : FunD K "_law_whole" "_law_whole" (defArgs s_Lwhole) (defBody s_Lwhole) (defScope s_Lwhole) [] [] (He.ga K "_law_whole") fd) :
    FnOk P w K mg base (L2.CX P w) 1 (He.ga K "_law_whole") fd ["_law_found"] (spM K 1 w_Lwhole) :=
  fn_ok F sc_Lwhole fun cdv A outer s H E hr tk po =>
    (qss_one (qs_ret (qe_and (qe_callB call_isi sim_isi (by rfl) T.m_isinstance (by decide +kernel) (qa_cons (qv 0) (qa_cons (qe_ty (by rfl) T.m_int (by decide +kernel)) qa_nil))) (qe_one (qe_not (qe_callB call_isi sim_isi (by rfl) T.m_isinstance (by decide +kernel) (qa_cons (qv 0) (qa_cons (qe_ty (by rfl) T.m_bool (by decide +kernel)) qa_nil))))))))
theorem ok_Lwhole_0 {P : Program} {w : World} {K : PySem.W.Frag} {mg : Str → Option Value} {base : Heap} (T : Tx K mg) :
    Fn P w K mg base 1 (He.ga K "_law_whole") ["_law_found"] w_Lwhole 1 [] (fun ds _ => ds) := by
  obtain ⟨fd, F⟩ := T.d_Lwhole
  refine ⟨⟨fd, fk_Lwhole T F, ?_⟩, F.kp⟩
  exact dbn_all (FunD.bindsN F (ps := ["_law_found"]) fun _ _ _ _ _ _ us hl => match us, hl with | [_], _ => rfl)
/-! ## _law_is_pair -/
theorem sc_Lis_pair : FnScope N_Lis_pair ["_law_found"] (defScope s_Lis_pair) := ⟨rfl, rfl, rfl, by decide +kernel, rfl, by decide +kernel, by decide +kernel⟩
theorem fk_Lis_pair {P : Program} {w : World} {K : PySem.W.Frag} {mg : Str → Option Value} {base : Heap} (T : Tx K mg)
    (G_Lwhole_0 : Fn P w K mg base 1 (He.ga K "_law_whole") ["_law_found"] w_Lwhole 1 [] (fun ds _ => ds)) {fd : FuncData}
    (F : FunD K "_law_is_pair" "_law_is_pair" (defArgs s_Lis_pair) (defBody s_Lis_pair) (defScope s_Lis_pair) [] [] (He.ga K "_law_is_pair") fd) :
    FnOk P w K mg base (L2.CX P w) 2 (He.ga K "_law_is_pair") fd ["_law_found"] (spM K 1 w_Lis_pair) :=
  fn_ok F sc_Lis_pair fun cdv A outer s H E hr tk po =>
    (qss_one (qs_ret (qe_and (qe_callB call_isi sim_isi (by rfl) T.m_isinstance (by decide +kernel) (qa_cons (qv 0) (qa_cons (qe_ty (by rfl) T.m_tuple (by decide +kernel)) qa_nil))) (qe_and (qe_cmp (DW.op_eqq hr.units) sim_eq (qe_callB call_lenA sim_len (by rfl) T.m_len (by decide +kernel) (qa_cons (qv 0) qa_nil)) qe_int (nomark _)) (qe_and (qe_call G_Lwhole_0 (hr.mono (by decide)) (by rfl) T.g_Lwhole tk (qcwP (qa_cons (qe_ix (ix_any (units1 hr)) sim_ix (qv 0) qe_int (fun _ _ => rfl)) qa_nil)) (by exact fun _ _ h _ => h)) (qe_one (qe_call G_Lwhole_0 (hr.mono (by decide)) (by rfl) T.g_Lwhole tk (qcwP (qa_cons (qe_ix (ix_any (units1 hr)) sim_ix (qv 0) qe_int (fun _ _ => rfl)) qa_nil)) (by exact fun _ _ h _ => h))))))))
theorem ok_Lis_pair_0 {P : Program} {w : World} {K : PySem.W.Frag} {mg : Str → Option Value} {base : Heap} (T : Tx K mg)
    (G_Lwhole_0 : Fn P w K mg base 1 (He.ga K "_law_whole") ["_law_found"] w_Lwhole 1 [] (fun ds _ => ds)) :
    Fn P w K mg base 2 (He.ga K "_law_is_pair") ["_law_found"] w_Lis_pair 1 [] (fun ds _ => ds) := by
  obtain ⟨fd, F⟩ := T.d_Lis_pair
  refine ⟨⟨fd, fk_Lis_pair T G_Lwhole_0 F, ?_⟩, F.kp⟩
  exact dbn_all (FunD.bindsN F (ps := ["_law_found"]) fun _ _ _ _ _ _ us hl => match us, hl with | [_], _ => rfl)
/-! ## _law_is_frac -/
theorem sc_Lis_frac : FnScope N_Lis_frac ["_law_found"] (defScope s_Lis_frac) := ⟨rfl, rfl, rfl, by decide +kernel, rfl, by decide +kernel, by decide +kernel⟩
theorem fk_Lis_frac {P : Program} {w : World} {K : PySem.W.Frag} {mg : Str → Option Value} {base : Heap} (T : Tx K mg)
    (G_Lgcd_0 : Fn P w K mg base 1 (He.ga K "_law_gcd") ["_law_one", "_law_other"] w_Lgcd 2 [] (fun ds _ => ds))
    (G_Lis_pair_0 : Fn P w K mg base 2 (He.ga K "_law_is_pair") ["_law_found"] w_Lis_pair 1 [] (fun ds _ => ds)) {fd : FuncData}
    (F : FunD K "_law_is_frac" "_law_is_frac" (defArgs s_Lis_frac) (defBody s_Lis_frac) (defScope s_Lis_frac) [] [] (He.ga K "_law_is_frac") fd) :
    FnOk P w K mg base (L2.CX P w) 3 (He.ga K "_law_is_frac") fd ["_law_found"] (spM K 1 w_Lis_frac) :=
  fn_ok F sc_Lis_frac fun cdv A outer s H E hr tk po =>
    (qss_one (qs_ret (qe_and (qe_call G_Lis_pair_0 (hr.mono (by decide)) (by rfl) T.g_Lis_pair tk (qcwP (qa_cons (qv 0) qa_nil)) (by exact fun _ _ h _ => h)) (qe_and (qe_cmp op_ge sim_ge (qe_ix (ix_any (units1 hr)) sim_ix (qv 0) qe_int (fun _ _ => rfl)) qe_int (nomark _)) (qe_one (qe_cmp (DW.op_eqq hr.units) sim_eq (qe_call G_Lgcd_0 (hr.mono (by decide)) (by rfl) T.g_Lgcd tk (qcwP (qa_cons (qe_ix (ix_any (units1 hr)) sim_ix (qv 0) qe_int (fun _ _ => rfl)) (qa_cons (qe_ix (ix_any (units1 hr)) sim_ix (qv 0) qe_int (fun _ _ => rfl)) qa_nil))) (by exact fun _ _ h _ => h)) qe_int (nomark _)))))))
theorem ok_Lis_frac_0 {P : Program} {w : World} {K : PySem.W.Frag} {mg : Str → Option Value} {base : Heap} (T : Tx K mg)
    (G_Lgcd_0 : Fn P w K mg base 1 (He.ga K "_law_gcd") ["_law_one", "_law_other"] w_Lgcd 2 [] (fun ds _ => ds))
    (G_Lis_pair_0 : Fn P w K mg base 2 (He.ga K "_law_is_pair") ["_law_found"] w_Lis_pair 1 [] (fun ds _ => ds)) :
    Fn P w K mg base 3 (He.ga K "_law_is_frac") ["_law_found"] w_Lis_frac 1 [] (fun ds _ => ds) := by
  obtain ⟨fd, F⟩ := T.d_Lis_frac
  refine ⟨⟨fd, fk_Lis_frac T G_Lgcd_0 G_Lis_pair_0 F, ?_⟩, F.kp⟩
  exact dbn_all (FunD.bindsN F (ps := ["_law_found"]) fun _ _ _ _ _ _ us hl => match us, hl with | [_], _ => rfl)
/-! ## _law_number -/
theorem sc_Lnumber : FnScope N_Lnumber ["_law_text"] (defScope s_Lnumber) := ⟨rfl, rfl, rfl, by decide +kernel, rfl, by decide +kernel, by decide +kernel⟩
theorem fk_Lnumber {P : Program} {w : World} {K : PySem.W.Frag} {mg : Str → Option Value} {base : Heap} (T : Tx K mg) {fd : FuncData}
    (F : FunD K "_law_number" "_law_number" (defArgs s_Lnumber) (defBody s_Lnumber) (defScope s_Lnumber) [] [] (He.ga K "_law_number") fd) :
    FnOk P w K mg base (L2.CX P w) 1 (He.ga K "_law_number") fd ["_law_text"] (spM K 1 w_Lnumber) :=
  fn_ok F sc_Lnumber fun cdv A outer s H E hr tk po =>
    (qss_cons (qs_set (i := 1) sc_Lnumber.nd rfl (Or.inl rfl) (qv 0))
      (qss_cons (qs_if (qt_cmp (DW.op_eqq hr.units) sim_eq (qe_slice (qv 0) qo_none (qo_some qe_int)) qe_str (nomark _)) (qss_one (qs_set (i := 1) sc_Lnumber.nd rfl (Or.inl rfl) (qe_slice (qv 0) (qo_some qe_int) qo_none))) qss_nil)
      (qss_cons (qs_if (PW.pt (qw_or (qt_cmp (DW.op_eqq hr.units) sim_eq (qv 1) qe_str (nomark _)) (qw_or (qt_cmp (op_inA (units65 hr)) sim_in qe_str (qv 1) rfl) (qw_or (qt_cmp (op_inA (units65 hr)) sim_in qe_str (qv 1) rfl) (qw_or1 (qt_cmp (op_inA (units65 hr)) sim_in qe_str (qv 1) rfl)))))) (qss_one (qs_ret qe_non)) qss_nil)
      (qss_cons (qs_if (qt_cmp (DW.op_nee hr.units) sim_ne (qe_callTy call_strA sim_str (by rfl) T.m_str (by decide +kernel) (qa_cons (qe_callTy call_intA sim_int (by rfl) T.m_int (by decide +kernel) (qa_cons (qv 0) qa_nil)) qa_nil)) (qv 0) (nomark _)) (qss_one (qs_ret qe_non)) qss_nil)
      (qss_one (qs_ret (qe_callTy call_intA sim_int (by rfl) T.m_int (by decide +kernel) (qa_cons (qv 0) qa_nil))))))))
theorem ok_Lnumber_0 {P : Program} {w : World} {K : PySem.W.Frag} {mg : Str → Option Value} {base : Heap} (T : Tx K mg) :
    Fn P w K mg base 1 (He.ga K "_law_number") ["_law_text"] w_Lnumber 1 [] (fun ds _ => ds) := by
  obtain ⟨fd, F⟩ := T.d_Lnumber
  refine ⟨⟨fd, fk_Lnumber T F, ?_⟩, F.kp⟩
  exact dbn_all (FunD.bindsN F (ps := ["_law_text"]) fun _ _ _ _ _ _ us hl => match us, hl with | [_], _ => rfl)
/-! ## _law_meant -/
theorem sc_Lmeant : FnScope N_Lmeant ["_law_text"] (defScope s_Lmeant) := ⟨rfl, rfl, rfl, by decide +kernel, rfl, by decide +kernel, by decide +kernel⟩
theorem fk_Lmeant {P : Program} {w : World} {K : PySem.W.Frag} {mg : Str → Option Value} {base : Heap} (T : Tx K mg)
    (G_Lgcd_0 : Fn P w K mg base 1 (He.ga K "_law_gcd") ["_law_one", "_law_other"] w_Lgcd 2 [] (fun ds _ => ds))
    (G_Lnumber_0 : Fn P w K mg base 1 (He.ga K "_law_number") ["_law_text"] w_Lnumber 1 [] (fun ds _ => ds)) {fd : FuncData}
    (F : FunD K "_law_meant" "_law_meant" (defArgs s_Lmeant) (defBody s_Lmeant) (defScope s_Lmeant) [] [] (He.ga K "_law_meant") fd) :
    FnOk P w K mg base (L2.CX P w) 2 (He.ga K "_law_meant") fd ["_law_text"] (spM K 1 w_Lmeant) :=
  fn_ok F sc_Lmeant fun cdv A outer s H E hr tk po =>
    (qss_cons (qs_set (i := 1) sc_Lmeant.nd rfl (Or.inl rfl) (qe_bm PySem.F.plainAttrs_str PySem.F.slot_str_split PySem.F.type_str_split mt_split sim_split (qv 0) (qa_cons qe_str qa_nil)))
      (qss_cons (qs_set (i := 2) sc_Lmeant.nd rfl (Or.inl rfl) (qe_call G_Lnumber_0 (hr.mono (by decide)) (by rfl) T.g_Lnumber tk (qcwP (qa_cons (qe_ix (ix_any (units1 hr)) sim_ix (qv 1) qe_int (fun _ _ => rfl)) qa_nil)) (by exact fun _ _ h _ => h)))
      (qss_cons (qs_if (PW.pt (qw_or (qt_cmp op_isN1 sim_is (qv 2) qe_non (nomark _)) (qw_or1 (qt_cmp op_gt sim_gt (qe_callB call_lenA sim_len (by rfl) T.m_len (by decide +kernel) (qa_cons (qv 1) qa_nil)) qe_int (nomark _))))) (qss_one (qs_ret qe_non)) qss_nil)
      (qss_cons (qs_if (qt_cmp (DW.op_eqq hr.units) sim_eq (qe_callB call_lenA sim_len (by rfl) T.m_len (by decide +kernel) (qa_cons (qv 1) qa_nil)) qe_int (nomark _)) (qss_one (qs_ret (qe_tup (qa_cons (qv 2) (qa_cons qe_int qa_nil))))) qss_nil)
      (qss_cons (qs_set (i := 3) sc_Lmeant.nd rfl (Or.inl rfl) (qe_call G_Lnumber_0 (hr.mono (by decide)) (by rfl) T.g_Lnumber tk (qcwP (qa_cons (qe_ix (ix_any (units1 hr)) sim_ix (qv 1) qe_int (fun _ _ => rfl)) qa_nil)) (by exact fun _ _ h _ => h)))
      (qss_cons (qs_if (PW.pt (qw_or (qt_cmp op_isN1 sim_is (qv 3) qe_non (nomark _)) (qw_or (qt_cmp op_lt sim_lt (qv 3) qe_int (nomark _)) (qw_or1 (qt_cmp (DW.op_nee hr.units) sim_ne (qe_call G_Lgcd_0 (hr.mono (by decide)) (by rfl) T.g_Lgcd tk (qcwP (qa_cons (qv 2) (qa_cons (qv 3) qa_nil))) (by exact fun _ _ h _ => h)) qe_int (nomark _)))))) (qss_one (qs_ret qe_non)) qss_nil)
      (qss_one (qs_ret (qe_tup (qa_cons (qv 2) (qa_cons (qv 3) qa_nil)))))))))))
theorem ok_Lmeant_0 {P : Program} {w : World} {K : PySem.W.Frag} {mg : Str → Option Value} {base : Heap} (T : Tx K mg)
    (G_Lgcd_0 : Fn P w K mg base 1 (He.ga K "_law_gcd") ["_law_one", "_law_other"] w_Lgcd 2 [] (fun ds _ => ds))
    (G_Lnumber_0 : Fn P w K mg base 1 (He.ga K "_law_number") ["_law_text"] w_Lnumber 1 [] (fun ds _ => ds)) :
    Fn P w K mg base 2 (He.ga K "_law_meant") ["_law_text"] w_Lmeant 1 [] (fun ds _ => ds) := by
  obtain ⟨fd, F⟩ := T.d_Lmeant
  refine ⟨⟨fd, fk_Lmeant T G_Lgcd_0 G_Lnumber_0 F, ?_⟩, F.kp⟩
  exact dbn_all (FunD.bindsN F (ps := ["_law_text"]) fun _ _ _ _ _ _ us hl => match us, hl with | [_], _ => rfl)
/-! ## law -/
theorem sc_law : FnScope N_law ["_law_script"] (defScope s_law) := ⟨rfl, rfl, rfl, by decide +kernel, rfl, by decide +kernel, by decide +kernel⟩
theorem fk_law {P : Program} {w : World} {K : PySem.W.Frag} {mg : Str → Option Value} {base : Heap} (T : Tx K mg)
    (G_Ldraw_0 : Fn P w K mg base 1 (He.ga K "_law_draw") ["_law_feed_here", "_law_many"] w_Ldraw 2 [] (fun ds _ => ds))
    (G_Lfeed_0 : Fn P w K mg base 1 (He.ga K "_law_feed") ["_law_script"] w_Lfeed 1 [] (fun ds _ => ds))
    (G_Lfrac_0 : Fn P w K mg base 2 (He.ga K "_law_frac") ["_law_top", "_law_under"] w_Lfrac 2 [] (fun ds _ => ds))
    (G_Lis_frac_0 : Fn P w K mg base 3 (He.ga K "_law_is_frac") ["_law_found"] w_Lis_frac 1 [] (fun ds _ => ds))
    (G_Lmeant_0 : Fn P w K mg base 2 (He.ga K "_law_meant") ["_law_text"] w_Lmeant 1 [] (fun ds _ => ds))
    (G_read_frac_0 : Fn P w K mg base 5 (He.ga K "read_frac") ["text"] w_read_frac 1 [] (fun ds _ => ds))
    (G_shown_0 : Fn P w K mg base 1 (He.ga K "shown") ["a"] w_shown 1 [] (fun ds _ => ds)) {fd : FuncData}
    (F : FunD K "law" "law" (defArgs s_law) (defBody s_law) (defScope s_law) [] [] (He.ga K "law") fd) :
    FnOk P w K mg base (L2.CX P w) 6 (He.ga K "law") fd ["_law_script"] (spM K 1 w_law) :=
  fn_ok F sc_law fun cdv A outer s H E hr tk po =>
    (qss_cons (qs_set (i := 1) sc_law.nd rfl (Or.inr rfl) (qe_call G_Lfeed_0 (hr.mono (by decide)) (by rfl) T.g_Lfeed tk (qcwP (qa_cons (qv 0) qa_nil)) (by exact fun _ _ h _ => h)))
      (qss_cons (qs_set (i := 2) sc_law.nd rfl (Or.inl rfl) qe_int)
      (qss_cons (qs_if (qt_cmp (DW.op_eqq hr.units) sim_eq (qe_call G_Ldraw_0 (hr.mono (by decide)) (by rfl) T.g_Ldraw tk (qcwP (qa_cons (qv 1) (qa_cons qe_int qa_nil))) (by exact fun _ _ h _ => h)) qe_int (nomark _)) (qss_one (qs_set (i := 2) sc_law.nd rfl (Or.inl rfl) qe_int)) qss_nil)
      (qss_cons (qs_set (i := 3) sc_law.nd rfl (Or.inl rfl) (qe_call G_Lfrac_0 (hr.mono (by decide)) (by rfl) T.g_Lfrac tk (qcwP (qa_cons (qe_op DW.op_plus sim_add (qe_op op_sub sim_sub (qe_call G_Ldraw_0 (hr.mono (by decide)) (by rfl) T.g_Ldraw tk (qcwP (qa_cons (qv 1) (qa_cons (qe_op op_sub sim_sub (qe_op op_mulA sim_mul qe_int (qv 2)) qe_int) qa_nil))) (by exact fun _ _ h _ => h)) (qv 2)) qe_int) (qa_cons (qe_op DW.op_plus sim_add qe_int (qe_call G_Ldraw_0 (hr.mono (by decide)) (by rfl) T.g_Ldraw tk (qcwP (qa_cons (qv 1) (qa_cons (qe_op op_sub sim_sub (qv 2) qe_int) qa_nil))) (by exact fun _ _ h _ => h))) qa_nil))) (by exact fun _ _ h _ => h)))
      (qss_cons (qs_set (i := 4) sc_law.nd rfl (Or.inl rfl) (qe_callTy call_strA sim_str (by rfl) T.m_str (by decide +kernel) (qa_cons (qe_ix (ix_any (units1 hr)) sim_ix (qv 3) qe_int (fun _ _ => rfl)) qa_nil)))
      (qss_cons (qs_if (qt_cmp op_gt sim_gt (qe_ix (ix_any (units1 hr)) sim_ix (qv 3) qe_int (fun _ _ => rfl)) qe_int (nomark _)) (qss_one (qs_set (i := 4) sc_law.nd rfl (Or.inl rfl) (qe_op DW.op_plus sim_add (qe_op DW.op_plus sim_add (qv 4) qe_str) (qe_callTy call_strA sim_str (by rfl) T.m_str (by decide +kernel) (qa_cons (qe_ix (ix_any (units1 hr)) sim_ix (qv 3) qe_int (fun _ _ => rfl)) qa_nil))))) qss_nil)
      (qss_cons (qs_if (PW.pt (qw_or (qt_cmp (DW.op_nee hr.units) sim_ne (qe_call G_shown_0 (hr.mono (by decide)) (by rfl) T.g_shown tk (qcwP (qa_cons (qv 3) qa_nil)) (by exact fun _ _ h _ => h)) (qv 4) (nomark _)) (qw_or (qt_cmp (DW.op_nee hr.units) sim_ne (qe_call G_read_frac_0 (hr.mono (by decide)) (by rfl) T.g_read_frac tk (qcwP (qa_cons (qv 4) qa_nil)) (by exact fun _ _ h _ => h)) (qv 3) (nomark _)) (qw_or1 (qt_not (qt_tru (qe_call G_Lis_frac_0 (hr.mono (by decide)) (by rfl) T.g_Lis_frac tk (qcwP (qa_cons (qe_call G_read_frac_0 (hr.mono (by decide)) (by rfl) T.g_read_frac tk (qcwP (qa_cons (qv 4) qa_nil)) (by exact fun _ _ h _ => h)) qa_nil)) (by exact fun _ _ h _ => h)) (by intro _; rfl))))))) (qss_one (qs_ret qe_bl)) qss_nil)
      (qss_cons (qs_set (i := 5) sc_law.nd rfl (Or.inl rfl) (qe_op DW.op_plus sim_add qe_str (qe_op op_mulS sim_mulS qe_str qe_int)))
      (qss_cons (qs_set (i := 6) sc_law.nd rfl (Or.inl rfl) (qe_bm PySem.F.plainAttrs_str PySem.F.slot_str_join PySem.F.type_str_join mt_join sim_join qe_str (qa_cons (qe_lc (own := [("_law_k", 7)]) (T := (.nm 7)) (tt := mYes) (me := (mOp oIx (mC (.str "01249-/ ")) (mCall w_Ldraw 2 0 (fun ds _ => ds) (mArgsP (mCons (mVar 1) (mCons (mC (.int 8)) mNil)))))) rfl sc_law.nd (qi_range1 (by rfl) T.m_range (qa_cons (qe_call G_Ldraw_0 (hr.mono (by decide)) (by rfl) T.g_Ldraw tk (qcwP (qa_cons (qv 1) (qa_cons qe_int qa_nil))) (by exact fun _ _ h _ => h)) qa_nil)) (blkOk_by (N := N_law) (sc := defScope s_law) (by decide +kernel)) (fun _ _ _ _ _ => (qg_name (i := 7) sc_law.nd rfl (by first | exact Or.inl rfl | exact Or.inr rfl))) (fun _ _ _ _ _ => qts_nil) (fun _ _ _ _ _ => (qe_ix (ix_any (units1 hr)) sim_ix qe_str (qe_call G_Ldraw_0 (hr.mono (by decide)) (by rfl) T.g_Ldraw takes0 (qcwP (qa_cons (qv 1) (qa_cons qe_int qa_nil))) (by exact fun _ _ h _ => h)) (fun _ _ => rfl))) (by decide)) qa_nil)))
      (qss_cons (qs_for po rfl (qi_seq (qe_tup (qa_cons (qv 6) (qa_cons (qv 5) (qa_cons (qe_op DW.op_plus sim_add qe_str (qv 5)) (qa_cons (qe_op DW.op_plus sim_add (qv 4) qe_str) (qa_cons (qe_op DW.op_plus sim_add qe_str (qv 4)) qa_nil))))))) (qg_name (i := 8) sc_law.nd rfl (by first | exact Or.inl rfl | exact Or.inr rfl)) (qss_cons (qs_set (i := 9) sc_law.nd rfl (Or.inl rfl) qe_str)
      (qss_cons (qs_set (i := 10) sc_law.nd rfl (Or.inl rfl) qe_non)
      (qss_cons (qs_try rfl rfl T.xc tk (fun W pn xe tk po => (qss_one (qs_set (i := 10) sc_law.nd rfl (Or.inl rfl) (qe_call G_read_frac_0 (hr.mono (by decide)) (by rfl) T.g_read_frac tk (qcwP (qa_cons (qv 8) qa_nil)) (by exact fun _ _ h _ => h))))) (.as_ (i := 11) (ty_one ⟨rfl, by decide, Or.inl T.x_BadWord.g⟩) sc_law.nd rfl rfl (fun a oe cls d pn dd c hz hf e1 e2 hx => (qss_one (qs_set (i := 9) sc_law.nd rfl (Or.inl rfl) (qe_op DW.op_plus sim_add (qe_xf (i := 11) hz hf e1 e2 hx (by simp [xfl]) rfl (by first | exact Or.inl rfl | exact Or.inr (Or.inl rfl))) (qe_xf (i := 11) hz hf e1 e2 hx (by simp [xfl]) rfl (by first | exact Or.inl rfl | exact Or.inr (Or.inl rfl))))))) .nil))
      (qss_cons (qs_set (i := 12) sc_law.nd rfl (Or.inl rfl) qe_non)
      (qss_cons (qs_if (qt_cmp (DW.op_eqq hr.units) sim_eq (qv 8) (qv 6) (nomark _)) (qss_one (qs_set (i := 12) sc_law.nd rfl (Or.inl rfl) (qe_call G_Lmeant_0 (hr.mono (by decide)) (by rfl) T.g_Lmeant tk (qcwP (qa_cons (qv 8) qa_nil)) (by exact fun _ _ h _ => h)))) qss_nil)
      (qss_cons (qs_if (PW.pt (qw_and (qt_cmp op_isN1 sim_is (qv 12) qe_non (nomark _)) (qw_and1 (qt_cmp (DW.op_nee hr.units) sim_ne (qv 9) (qe_op DW.op_plus sim_add qe_str (qv 8)) (nomark _))))) (qss_one (qs_ret qe_bl)) qss_nil)
      (qss_one (qs_if (PW.pt (qw_and (qt_cmp op_notN1 sim_isnot (qv 12) qe_non (nomark _)) (qw_and1 (PW.pt (qw_or (qt_cmp (DW.op_nee hr.units) sim_ne (qv 9) qe_str (nomark _)) (qw_or1 (qt_cmp (DW.op_nee hr.units) sim_ne (qv 10) (qv 12) (nomark _)))))))) (qss_one (qs_ret qe_bl)) qss_nil)))))))))
      (qss_one (qs_ret qe_bl))))))))))))
theorem tx_mk {K : PySem.W.Frag} {h : Heap} {mg : Str → Option Value} (X : K.In h) (G : h.Ns mainGlobals mg) (c : DW.SaysE faL fnL (fun K => DW.allT (exL K)) K) : Tx K mg where
  g_Lfeed := He.glo_ok X G (c.d.fact 0 (f := .glo "_law_feed") rfl)
  d_Lfeed := c.d.def_ 0 (d := dd_Lfeed) rfl
  g_Ldraw := He.glo_ok X G (c.d.fact 1 (f := .glo "_law_draw") rfl)
  d_Ldraw := c.d.def_ 1 (d := dd_Ldraw) rfl
  g_Lgcd := He.glo_ok X G (c.d.fact 2 (f := .glo "_law_gcd") rfl)
  d_Lgcd := c.d.def_ 2 (d := dd_Lgcd) rfl
  g_Lfrac := He.glo_ok X G (c.d.fact 3 (f := .glo "_law_frac") rfl)
  d_Lfrac := c.d.def_ 3 (d := dd_Lfrac) rfl
  g_shown := He.glo_ok X G (c.d.fact 4 (f := .glo "shown") rfl)
  d_shown := c.d.def_ 4 (d := dd_shown) rfl
  g_whole := He.glo_ok X G (c.d.fact 5 (f := .glo "whole") rfl)
  d_whole := c.d.def_ 5 (d := dd_whole) rfl
  g_common := He.glo_ok X G (c.d.fact 6 (f := .glo "common") rfl)
  d_common := c.d.def_ 6 (d := dd_common) rfl
  g_read_frac := He.glo_ok X G (c.d.fact 7 (f := .glo "read_frac") rfl)
  d_read_frac := c.d.def_ 7 (d := dd_read_frac) rfl
  g_Lwhole := He.glo_ok X G (c.d.fact 8 (f := .glo "_law_whole") rfl)
  d_Lwhole := c.d.def_ 8 (d := dd_Lwhole) rfl
  g_Lis_pair := He.glo_ok X G (c.d.fact 9 (f := .glo "_law_is_pair") rfl)
  d_Lis_pair := c.d.def_ 9 (d := dd_Lis_pair) rfl
  g_Lis_frac := He.glo_ok X G (c.d.fact 10 (f := .glo "_law_is_frac") rfl)
  d_Lis_frac := c.d.def_ 10 (d := dd_Lis_frac) rfl
  g_Lnumber := He.glo_ok X G (c.d.fact 11 (f := .glo "_law_number") rfl)
  d_Lnumber := c.d.def_ 11 (d := dd_Lnumber) rfl
  g_Lmeant := He.glo_ok X G (c.d.fact 12 (f := .glo "_law_meant") rfl)
  d_Lmeant := c.d.def_ 12 (d := dd_Lmeant) rfl
  g_law := He.glo_ok X G (c.d.fact 13 (f := .glo "law") rfl)
  d_law := c.d.def_ 13 (d := dd_law) rfl
  di_WeirError := c.d.def_ 14 (d := ddi_WeirError) rfl
  di_FormError := c.d.def_ 15 (d := ddi_FormError) rfl
  di_BadWord := c.d.def_ 16 (d := ddi_BadWord) rfl
  m_abs := He.free_ok X G (c.d.fact 14 (f := .free "abs") rfl)
  m_bool := He.free_ok X G (c.d.fact 15 (f := .free "bool") rfl)
  m_int := He.free_ok X G (c.d.fact 16 (f := .free "int") rfl)
  m_isinstance := He.free_ok X G (c.d.fact 17 (f := .free "isinstance") rfl)
  m_len := He.free_ok X G (c.d.fact 18 (f := .free "len") rfl)
  m_list := He.free_ok X G (c.d.fact 19 (f := .free "list") rfl)
  m_range := He.free_ok X G (c.d.fact 20 (f := .free "range") rfl)
  m_str := He.free_ok X G (c.d.fact 21 (f := .free "str") rfl)
  m_tuple := He.free_ok X G (c.d.fact 22 (f := .free "tuple") rfl)
  m_ValueError := He.free_ok X G (c.d.fact 23 (f := .free "ValueError") rfl)
  c_FIGURES := He.str_ok X G (c.d.fact 24 (f := .str "FIGURES" "0123456789") rfl)
  c_MOST_FIGURES := He.int_ok X G (c.d.fact 25 (f := .int "MOST_FIGURES" 30) rfl)
  x_WeirError := DW.excXB_ok (He.glo_ok X G (c.d.fact 26 (f := .glo "WeirError") rfl)) (DW.allT_get c.more 0 rfl)
  x_FormError := DW.excXB_ok (He.glo_ok X G (c.d.fact 27 (f := .glo "FormError") rfl)) (DW.allT_get c.more 1 rfl)
  x_BadWord := DW.excXB_ok (He.glo_ok X G (c.d.fact 28 (f := .glo "BadWord") rfl)) (DW.allT_get c.more 2 rfl)
  xc := xcn_tab (DW.allT_get c.more 3 rfl)
  ve := DW.veB_ok (DW.allT_get c.more 4 rfl)
theorem all_ok {P : Program} {w : World} {K : PySem.W.Frag} {mg : Str → Option Value} (T : Tx K mg) (base : Heap) {fd : FuncData} (F : FunD K "law" "law" (defArgs s_law) (defBody s_law) (defScope s_law) [] [] (He.ga K "law") fd) : FnOk P w K mg base CX0 6 (He.ga K "law") fd ["_law_script"] (fun vs H Q _ => spM K 1 w_law vs H Q E0) := by
  have G_WeirError_init := oki_WeirError (P := P) (w := w) (base := base) T
  have G_FormError_init := oki_FormError (P := P) (w := w) (base := base) T G_WeirError_init
  have G_BadWord_init := oki_BadWord (P := P) (w := w) (base := base) T G_FormError_init
  have G_Lfeed_0 := ok_Lfeed_0 (P := P) (w := w) (base := base) T
  have G_Ldraw_0 := ok_Ldraw_0 (P := P) (w := w) (base := base) T
  have G_Lgcd_0 := ok_Lgcd_0 (P := P) (w := w) (base := base) T
  have G_Lfrac_0 := ok_Lfrac_0 (P := P) (w := w) (base := base) T G_Lgcd_0
  have G_shown_0 := ok_shown_0 (P := P) (w := w) (base := base) T
  have G_whole_0 := ok_whole_0 (P := P) (w := w) (base := base) T
  have G_common_0 := ok_common_0 (P := P) (w := w) (base := base) T
  have G_read_frac_0 := ok_read_frac_0 (P := P) (w := w) (base := base) T G_BadWord_init G_common_0 G_whole_0
  have G_Lwhole_0 := ok_Lwhole_0 (P := P) (w := w) (base := base) T
  have G_Lis_pair_0 := ok_Lis_pair_0 (P := P) (w := w) (base := base) T G_Lwhole_0
  have G_Lis_frac_0 := ok_Lis_frac_0 (P := P) (w := w) (base := base) T G_Lgcd_0 G_Lis_pair_0
  have G_Lnumber_0 := ok_Lnumber_0 (P := P) (w := w) (base := base) T
  have G_Lmeant_0 := ok_Lmeant_0 (P := P) (w := w) (base := base) T G_Lgcd_0 G_Lnumber_0
  exact fn_law (fk_law T G_Ldraw_0 G_Lfeed_0 G_Lfrac_0 G_Lis_frac_0 G_Lmeant_0 G_read_frac_0 G_shown_0 F)
end Prf
open PySem PySem.W PySem.Calls PyProof.Rows
theorem PySem.Challenge.cw_dialweir_k03_fractions_written_holds : PySem.Challenge.rw_dialweir_k03_fractions_written.Holds := by
  w_on; o_law
  refine HandSHeadRun.head_any (r := OpenLaw.row PySem.Challenge.rw_dialweir_k03_fractions_written) (q := view (OpenLaw.row PySem.Challenge.rw_dialweir_k03_fractions_written).prog [21]) (H := Prf.hk) (ob := Prf.ob) (M := 12000) (loose := Prf.looseL) (d := HandSHeadRun.topDef (OpenLaw.row PySem.Challenge.rw_dialweir_k03_fractions_written).prog 21) (kwd := []) Prf.ob_eq
    (by kernel_rfl) (fun s => by kernel_rfl) Prf.run (by kernel_rfl) (by kernel_rfl) (by kernel_rfl) (by rfl) (by first | assumption | decide +kernel) (by decide +kernel) ⟨rfl, rfl, rfl, rfl, rfl, by decide +kernel⟩ ?hw ?hc
  case hw => w_witness2
  case hc =>
    refine L2.walk_ofE (l := PySem.Challenge.rw_dialweir_k03_fractions_written) (n := 63) (k := 6) (x := "_law_script") (CX := L2.CX0) rfl (by decide) (by kernel_rfl) ⟨rfl, by decide, by decide⟩ ?F (fun _ _ _ _ z => z)
    intro w mg fa h Y G hmg0
    obtain ⟨K, KX, c⟩ := Y
    have hmg : mg ("law" : PySem.Str) = some (.ref fa) := by
      have e : (HandSHeadRun.topDef (OpenLaw.row PySem.Challenge.rw_dialweir_k03_fractions_written).prog 21).name = ("law" : PySem.Str) := by kernel_rfl
      rw [← e]
      exact hmg0
    have T := Prf.tx_mk KX G c
    have e := hmg.symm.trans T.g_law
    cases e
    obtain ⟨fd, F⟩ := T.d_law
    refine ⟨K, fd, fun vs H Q _ => MV.spM K 1 Prf.w_law vs H Q L2.E0, KX, fun s v => L2.FunD.bindsA (ps := ["_law_script"]) F (fun _ _ _ _ _ _ us hl => match us, hl with | [_], _ => rfl) s [v] rfl, fun H a ns hl hO hS => MV.law_st Prf.law_holds H a ns hl hO hS, fun base _ _ => ?_⟩
    exact Prf.all_ok T base F

