import PyProof.Rows.All
import Wide.All
import OpenK.AllK
import Wide.FinOn
import PyProof.EqAt
import PyProof.EqKinds
import PyProof.TupleCall
import KE.KStateDown
import HandS.ForMost
import HandS.ForExc
import HandS.More
import HandS.Wide
import HandS.Style
import HandS.TupAny
import HandS.IsInst
import HandS.Defaults
import HandS.Conv
import HandS.Steps
import HandS.Codes
import HandS.Head0
import HandS.Head1
import HandS.Head2
import HandS.HeadEnd
import HandS.HeadHook1
import HandS.HeadHook2
import HandS.ExcInit
import HandS.ExcField
import HandS.CallSlots
import HandS.TryMany
import HandS.HeadHook3
import HandS.HeadHook4
import PySem.Challenge.RW_dialweir_k02_fractions_reckoned
set_option Elab.async false
set_option linter.all false
set_option maxRecDepth 100000
set_option maxHeartbeats 4000000
namespace DW
open PySem L2
/-! ### more operators -/
section
variable {X : Cx}
/-- // by any divisor but 0, of less than 9000 bits -/
def CDivX (_ j : Int) : Prop := j ≠ 0 ∧ j.natAbs.log2 < 9000
theorem op_fdivX : OpR X (binaryOp .FloorDiv) (rI CDivX fun i j => .int (i.fdiv j)) :=
  opI fun _ _ _ _ _ _ _ hc q => PyProof.Rows.floordiv_int hc.1 q (.inl (PyProof.noPylong_of_log2 hc.2))
end
theorem cdiv_of {i j : Int} (h : j ≠ 0) (h2 : j.natAbs < 2 ^ 8000) : CDivX i j := ⟨h, Nat.lt_of_lt_of_le (PySem.Flt.log2_lt_of (by decide) h2) (by decide)⟩
/-! ### heaps: what stays, but for the places S -/
def Fr (K : PySem.W.Frag) (S : List Addr) (H H' : Hp) : Prop := (∀ a o, a ∉ S → H a = some o → H' a = some o) ∧ ∀ a xs, SqT K H a xs → SqT K H' a xs
theorem Same.tup {K : PySem.W.Frag} {H H' : Hp} {a : Addr} {xs : List V} (e : Same H H') (h : SqT K H a xs) : SqT K H' a xs := by
  rcases h with (h | ⟨o, h⟩) | h
  · exact .inl (.inl (e _ _ h))
  · exact .inl (.inr ⟨o, e _ _ h⟩)
  · exact .inr h
section
variable {K : PySem.W.Frag} {S S' : List Addr} {H H' H1 H2 : Hp} {a p : Addr} {o u : HO} {xs : List V}
theorem Fr.of (e : Same H H') : Fr K [] H H' := ⟨fun a o _ h => e a o h, fun _ _ h => Same.tup e h⟩
theorem Fr.refl (H : Hp) : Fr K [] H H := ⟨fun _ _ _ h => h, fun _ _ h => h⟩
theorem Fr.rf : Fr K S H H := ⟨fun _ _ _ h => h, fun _ _ h => h⟩
theorem Fr.trans (a : Fr K S H H1) (b : Fr K S H1 H2) : Fr K S H H2 := ⟨fun c o n h => b.1 c o n (a.1 c o n h), fun c xs h => b.2 c xs (a.2 c xs h)⟩
theorem Fr.on (b : Fr K S H1 H2) (a : Fr K S H H1) : Fr K S H H2 := a.trans b
theorem Fr.sub (a : Fr K S H H1) (h : ∀ x, x ∈ S → x ∈ S') : Fr K S' H H1 := ⟨fun c o n => a.1 c o fun z => n (h c z), a.2⟩
theorem Fr.any (a : Fr K [] H H1) : Fr K S H H1 := a.sub (fun _ h => absurd h (by simp))
theorem Fr.same (a : Fr K [] H H1) : Same H H1 := fun c o h => a.1 c o (by simp) h
theorem Fr.new (h : H p = none) : Fr K S H (upd H p o) := (Fr.of (fun b o e => by rw [upd_ne (ne_of_none e h)]; exact e)).any
theorem Fr.get (e : Fr K S H H') (h : H a = some o) (n : a ∉ S) : H' a = some o := e.1 a o n h
theorem Fr.get0 (e : Fr K [] H H') (h : H a = some o) : H' a = some o := e.1 a o (by simp) h
/-- a list at p is written -/
theorem Fr.put {xs : List V} (h : H p = some (.lst xs)) : Fr K [p] H (upd H p o) := ⟨fun c u n e => by rw [upd_ne (fun z => n (by rw [z]; simp))]; exact e, fun c ys e => by
  rcases e with (e | ⟨q, e⟩) | e
  · exact .inl (.inl (by rw [upd_ne (fun z => by rw [z, h] at e; cases e)]; exact e))
  · exact .inl (.inr ⟨q, by rw [upd_ne (fun z => by rw [z, h] at e; cases e)]; exact e⟩)
  · exact .inr e⟩
/-- a list that the heap H did not know is written -/
theorem Fr.put0 {ys : List V} (e : Fr K S H H1) (n : H p = none) (h : H1 p = some (.lst ys)) : Fr K S H (upd H1 p o) :=
  ⟨fun c u n1 q => by rw [upd_ne (ne_of_none q n)]; exact e.1 c u n1 q, fun c zs q => (Fr.put (K := K) h).2 c zs (e.2 c zs q)⟩
end
/-! ### data of ints, texts, truths, None and tuples of these: they stay -/
mutual
inductive Tp (K : PySem.W.Frag) (H : Hp) : V → PyData → Prop
  | non : Tp K H .non .none
  | bl (b : Bool) : Tp K H (.bl b) (.bool b)
  | int (i : Int) : Tp K H (.int i) (.int i)
  | str (x : Str) : Tp K H (.str x) (.str x)
  | tup {a : Addr} {xs : List V} {ds : List PyData} : SqT K H a xs → TpAll K H xs ds → Tp K H (.ref a) (.tuple ds)
inductive TpAll (K : PySem.W.Frag) (H : Hp) : List V → List PyData → Prop
  | nil : TpAll K H [] []
  | cons {v : V} {vs : List V} {d : PyData} {ds : List PyData} : Tp K H v d → TpAll K H vs ds → TpAll K H (v :: vs) (d :: ds)
end
section
variable {K : PySem.W.Frag} {H H' : Hp}
mutual
theorem Tp.up {S : List Addr} (e : Fr K S H H') : ∀ {v : V} {d : PyData}, Tp K H v d → Tp K H' v d
  | _, _, .non => .non
  | _, _, .bl b => .bl b
  | _, _, .int i => .int i
  | _, _, .str x => .str x
  | _, _, .tup h a => .tup (e.2 _ _ h) (TpAll.up e a)
theorem TpAll.up {S : List Addr} (e : Fr K S H H') : ∀ {vs : List V} {ds : List PyData}, TpAll K H vs ds → TpAll K H' vs ds
  | _, _, .nil => .nil
  | _, _, .cons h a => .cons (Tp.up e h) (TpAll.up e a)
end
mutual
theorem Tp.dp : ∀ {v : V} {d : PyData}, Tp K H v d → Dp K H v d
  | _, _, .non => .non
  | _, _, .bl b => .bl b
  | _, _, .int i => .int i
  | _, _, .str x => .str x
  | _, _, .tup h a => .tup h (TpAll.dp a)
theorem TpAll.dp : ∀ {vs : List V} {ds : List PyData}, TpAll K H vs ds → DpAll K H vs ds
  | _, _, .nil => .nil
  | _, _, .cons h a => .cons (Tp.dp h) (TpAll.dp a)
end
theorem Tp.of_tup {v : V} {ds : List PyData} (h : Tp K H v (.tuple ds)) : ∃ a xs, v = .ref a ∧ SqT K H a xs ∧ TpAll K H xs ds := by
  cases h with
  | tup h a => exact ⟨_, _, rfl, h, a⟩
theorem TpAll.get {vs : List V} {ds : List PyData} (h : TpAll K H vs ds) : ∀ {i : Nat} {d : PyData}, ds[i]? = some d → ∃ v, vs[i]? = some v ∧ Tp K H v d := by
  induction ds generalizing vs with
  | nil => intro i d e; simp at e
  | cons d0 ds ih =>
    intro i d e
    cases h with
    | cons h1 h2 =>
      cases i with
      | zero =>
        simp only [List.getElem?_cons_zero, Option.some.injEq] at e
        subst e
        exact ⟨_, rfl, h1⟩
      | succ i => exact ih h2 e
theorem TpAll.len {vs : List V} {ds : List PyData} (h : TpAll K H vs ds) : vs.length = ds.length := by
  induction ds generalizing vs with
  | nil => cases h; rfl
  | cons d0 ds ih =>
    cases h with
    | cons h1 h2 => simp only [List.length_cons, ih h2]
end
abbrev mv (a b : Int) : PyData := .tuple [.int a, .int b]
/-! ### a def and its promise, by its name -/
structure Fn (P : Program) (w : World) (K : PySem.W.Frag) (mg : Str → Option Value) (base : Heap) (CX : CXT) (k : Nat) (x : Str) (ps : List Str) (dvs : List V) (sp : Sp) : Prop where
  ok : ∃ fd ds, FnOk P w K mg base CX k (He.ga K x) fd ps sp ∧ Vals dvs ds ∧ Binds K fd ps ds
  g : mg x = some (.ref (He.ga K x))
  kp : PySem.W.keepIn K (.ref (He.ga K x)) = true
theorem pe_fn {X : Cx} {CX : CXT} {k : Nat} {ps : List Str} {sp : Sp} {dvs : List V} {E : XK} {x : Str} {p pos : Pos} {e : Expr} {es : List Expr} {t : TA} (F : Fn X.prog X.w X.K X.mg X.base CX k x ps dvs sp) (hr : Room k X.A) (hg : Gl X x) (hx : Passes CX X E)
    (ha : PA X (e :: es) t) (hdb : (x == ("__debug__" : Str)) = false := by decide) (he : starEach (e :: es) X.env = (false, eval e X.env) :: starEach es X.env := by rfl) (hpl : (backTo pos (starEach es X.env)).any (·.1) = false := by rfl) :
    PE X (.Call (.Name x p) (e :: es) [] pos) (tCall sp dvs E t) := by
  obtain ⟨fd, ds, G, hd, hb⟩ := F.ok
  exact pe_call G hr hg F.g F.kp hb hd hx ha hdb he hpl
theorem pe_fn0 {X : Cx} {CX : CXT} {k : Nat} {ps : List Str} {sp : Sp} {dvs : List V} {E : XK} {x : Str} {p pos : Pos} (F : Fn X.prog X.w X.K X.mg X.base CX k x ps dvs sp) (hr : Room k X.A) (hg : Gl X x) (hx : Passes CX X E)
    (hdb : (x == ("__debug__" : Str)) = false := by decide) : PE X (.Call (.Name x p) [] [] pos) (tCall sp dvs E tNil) := by
  obtain ⟨fd, ds, G, hd, hb⟩ := F.ok
  exact pe_call0 G hr hg F.g F.kp hb hd hx hdb
/-! ### operators of several kinds of things -/
def rPlus (K : PySem.W.Frag) : R2 := fun x y H Q => rI0 (fun i j => .int (i + j)) x y H Q ∨ (∃ i j, x = .str i ∧ y = .str j ∧ i.length + j.length ≤ sizeLine ∧ Q (.str (i ++ j)) H) ∨ rCatA K x y H Q ∨ rCat x y H Q
theorem op_plus {X : Cx} : OpR X (binaryOp .Add) (rPlus X.K) := OpR.or op_add (OpR.or op_add_str (OpR.or op_catA op_cat))
def rEqq (K : PySem.W.Frag) : R2 := fun x y H Q => rEq x y H Q ∨ rEqD K x y H Q
theorem op_eqq {X : Cx} (hu : X.A.units + 64 < cLine) : OpR X (compareOp .Eq) (rEqq X.K) := OpR.or op_eq (op_eqD hu)
def rNee (K : PySem.W.Frag) : R2 := fun x y H Q => rNe x y H Q ∨ rNeD K x y H Q
theorem op_nee {X : Cx} (hu : X.A.units + 64 < cLine) : OpR X (compareOp .NotEq) (rNee X.K) := OpR.or op_ne (op_neD hu)
abbrev rIntLt : R2 := rI0 fun i j => .bl (decide (i < j))
abbrev rIntLe : R2 := rI0 fun i j => .bl (decide (i ≤ j))
abbrev rIntGt : R2 := rI0 fun i j => .bl (decide (j < i))
abbrev rIntGe : R2 := rI0 fun i j => .bl (decide (j ≤ i))
abbrev rIntSub : R2 := rI0 fun i j => .int (i - j)
abbrev rIntMul : R2 := rI CMul fun i j => .int (i * j)
abbrev rIntDiv : R2 := rI CDivX fun i j => .int (i.fdiv j)
abbrev rIntMod : R2 := rI (fun _ j => j ≠ 0) fun i j => .int (i.fmod j)
abbrev rIntPow : R2 := rI CPow fun i j => .int (i ^ j.toNat)
abbrev rIntNeg : V → Hp → VK → Prop := rU fun i => .int (-i)
def rAbs : List V → Hp → VK → Prop := fun xs H Q => ∃ i, xs = [.int i] ∧ Q (.int (if i < 0 then -i else i)) H
def rMin2 : List V → Hp → VK → Prop := fun xs H Q => ∃ i j, xs = [.int i, .int j] ∧ Q (.int (if j < i then j else i)) H
def rMax2 : List V → Hp → VK → Prop := fun xs H Q => ∃ i j, xs = [.int i, .int j] ∧ Q (.int (if j > i then j else i)) H
def rInt1 : List V → Hp → VK → Prop := fun xs H Q => (∃ i, xs = [.int i] ∧ Q (.int i) H) ∨ ∃ k, xs = [.bl k] ∧ Q (.int (if k then 1 else 0)) H
def rListOf (K : PySem.W.Frag) : List V → Hp → VK → Prop := fun xs H Q => ∃ p ys, xs = [.ref p] ∧ (SqL K H p ys ∨ SqT K H p ys) ∧ ∀ l, H l = none → Q (.ref l) (upd H l (.lst ys))
def rTupleOf (K : PySem.W.Frag) : List V → Hp → VK → Prop := fun xs H Q => ∃ p ys, xs = [.ref p] ∧ ((SqL K H p ys ∧ ∀ l, H l = none → Q (.ref l) (upd H l (.tup ys))) ∨ (SqT K H p ys ∧ Q (.ref p) H))
def rStrInt : List V → Hp → VK → Prop := fun xs H Q => ∃ i, xs = [.int i] ∧ i.natAbs.log2 < 1920 ∧ Q (.str (toString i)) H
def rStrStr : List V → Hp → VK → Prop := fun xs H Q => ∃ a, xs = [.str a] ∧ Q (.str a) H
def rIntStr : List V → Hp → VK → Prop := fun xs H Q => ∃ a n, xs = [.str a] ∧ PySem.intText? a = some n ∧ a.length ≤ 640 ∧ Q (.int n) H
def rLenD : List V → Hp → VK → Prop := fun xs H Q => ∃ a kvs, xs = [V.ref a] ∧ H a = some (.dK kvs) ∧ Q (.int kvs.length) H
def rInTxt : R2 := fun x y H Q => ∃ i j, x = .str i ∧ y = .str j ∧ Q (.bl (!(Builtin.Str.occurrences j i 0 j.length 1).isEmpty)) H
def rNotInTxt : R2 := fun x y H Q => ∃ i j, x = .str i ∧ y = .str j ∧ Q (.bl (!(!(Builtin.Str.occurrences j i 0 j.length 1).isEmpty))) H
theorem pe_gint {X : Cx} {x : Str} {pos : Pos} {i : Int} (hg : Gl X x) (h : ∃ t, X.mg x = some (.int i t)) (hdb : (x == ("__debug__" : Str)) = false := by decide) : PE X (.Name x pos) (tC (.int i)) := by
  obtain ⟨t, h⟩ := h
  exact pe_glob hg h ⟨_, rfl⟩ hdb
theorem pe_gstr {X : Cx} {x z : Str} {pos : Pos} (hg : Gl X x) (h : ∃ t, X.mg x = some (.str z t)) (hdb : (x == ("__debug__" : Str)) = false := by decide) : PE X (.Name x pos) (tC (.str z)) := by
  obtain ⟨t, h⟩ := h
  exact pe_glob hg h ⟨_, rfl⟩ hdb
end DW
namespace DW
open PySem L2
/-! ### one step of a reading -/
def tupk (xs : List V) (H : Hp) (Q : VK) : Prop := xs.length ≤ sizeLine ∧ ∀ p, H p = none → Q (.ref p) (upd H p (.tup xs))
def lstk (xs : List V) (H : Hp) (Q : VK) : Prop := xs.length ≤ sizeLine ∧ ∀ p, H p = none → Q (.ref p) (upd H p (.lst xs))
def tTru (K : PySem.W.Frag) (ta : TE) : TT := fun σ H Q => ta σ H fun x H' => ∃ k, TruV K x H' k ∧ Q k H'
def tstk (Q : Bool → Hp → Prop) (x : V) (H : Hp) : Prop := ∃ k, x = .bl k ∧ Q k H
def truk (K : PySem.W.Frag) (Q : Bool → Hp → Prop) (x : V) (H : Hp) : Prop := ∃ k, TruV K x H k ∧ Q k H
section
variable {K : PySem.W.Frag} {σ : St} {H H' : Hp} {Q : VK} {QB : Bool → Hp → Prop} {v x y : V} {i j : Int} {b c : Bool} {ta tb tc te : TE} {t u : TT} {tr : TA} {r : R2} {d d1 d2 : PyData} {ds : List PyData} {n : Nat} {z w : Str} {E : XK} {sp : Sp} {dvs : List V}
theorem d_var {n : Nat} (h : σ[n]? = some (some v)) (q : Q v H) : tVar n σ H Q := ⟨v, h, q⟩
theorem d_c (q : Q v H) : tC v σ H Q := q
theorem d_op (h : ta σ H fun x H1 => tb σ H1 fun y H2 => r x y H2 Q) : tOp r ta tb σ H Q := h
theorem d_un {r : V → Hp → VK → Prop} (h : ta σ H fun x H1 => r x H1 Q) : tUn r ta σ H Q := h
theorem d_call (h : tr σ H fun vs H1 => sp (vs ++ dvs) H1 Q E) : tCall sp dvs E tr σ H Q := h
theorem d_cb {r : List V → Hp → VK → Prop} (h : tr σ H fun vs H1 => r vs H1 Q) : tCB r tr σ H Q := h
theorem d_nil {Q : List V → Hp → Prop} (q : Q [] H) : tNil σ H Q := q
theorem d_cons {Q : List V → Hp → Prop} (h : ta σ H fun x H1 => tr σ H1 fun xs H2 => Q (x :: xs) H2) : tCons ta tr σ H Q := h
theorem d_tup (h : tr σ H fun xs H1 => tupk xs H1 Q) : tTup tr σ H Q := h
theorem d_lst (h : tr σ H fun xs H1 => lstk xs H1 Q) : tLst tr σ H Q := h
/-! ints -/
theorem d_plus (q : Q (.int (i + j)) H) : rPlus K (.int i) (.int j) H Q := .inl ⟨i, j, rfl, rfl, q⟩
theorem d_plusS {a b : Str} (hl : a.length + b.length ≤ 16000000) (q : Q (.str (a ++ b)) H) : rPlus K (.str a) (.str b) H Q := .inr (.inl ⟨a, b, rfl, rfl, Nat.le_trans hl (by decide), q⟩)
theorem d_i0 {g : Int → Int → V} (q : Q (g i j) H) : rI0 g (.int i) (.int j) H Q := ⟨i, j, rfl, rfl, q⟩
theorem d_i {C : Int → Int → Prop} {g : Int → Int → V} (c : C i j) (q : Q (g i j) H) : rI C g (.int i) (.int j) H Q := ⟨i, j, rfl, rfl, c, q⟩
theorem d_neg (q : Q (.int (-i)) H) : rIntNeg (.int i) H Q := ⟨i, rfl, q⟩
theorem d_abs (q : Q (.int (if i < 0 then -i else i)) H) : rAbs [.int i] H Q := ⟨i, rfl, q⟩
theorem d_min2 (q : Q (.int (if j < i then j else i)) H) : rMin2 [.int i, .int j] H Q := ⟨i, j, rfl, q⟩
theorem d_max2 (q : Q (.int (if j > i then j else i)) H) : DW.rMax2 [.int i, .int j] H Q := ⟨i, j, rfl, q⟩
theorem d_int1b (q : Q (.int (if b then 1 else 0)) H) : rInt1 [.bl b] H Q := .inr ⟨b, rfl, q⟩
/-! comparisons of scalars -/
theorem d_eqI (q : Q (.bl (decide (i = j))) H) : rEqq K (.int i) (.int j) H Q := .inl ⟨rfl, by
  have e : decide ((V.int i) = V.int j) = decide (i = j) := by simp
  rw [e]; exact q⟩
theorem d_neI (q : Q (.bl (!decide (i = j))) H) : rNee K (.int i) (.int j) H Q := .inl ⟨rfl, by
  have e : decide ((V.int i) = V.int j) = decide (i = j) := by simp
  rw [e]; exact q⟩
theorem d_eqS {a b : Str} (q : Q (.bl (decide (a = b))) H) : rEqq K (.str a) (.str b) H Q := .inl ⟨rfl, by
  have e : decide ((V.str a) = V.str b) = decide (a = b) := by simp
  rw [e]; exact q⟩
theorem d_neS {a b : Str} (q : Q (.bl (!decide (a = b))) H) : rNee K (.str a) (.str b) H Q := .inl ⟨rfl, by
  have e : decide ((V.str a) = V.str b) = decide (a = b) := by simp
  rw [e]; exact q⟩
theorem d_eqB {a b : Bool} (q : Q (.bl (decide (a = b))) H) : rEqq K (.bl a) (.bl b) H Q := .inl ⟨rfl, by
  have e : decide ((V.bl a) = V.bl b) = decide (a = b) := by simp
  rw [e]; exact q⟩
theorem d_neB {a b : Bool} (q : Q (.bl (!decide (a = b))) H) : rNee K (.bl a) (.bl b) H Q := .inl ⟨rfl, by
  have e : decide ((V.bl a) = V.bl b) = decide (a = b) := by simp
  rw [e]; exact q⟩
/-! comparisons of data -/
theorem d_eqD (hx : Tp K H x d1) (hy : Tp K H y d2) (s1 : SeqAt.shaped d1 = true) (s2 : SeqAt.shaped d2 = true) (q : Q (.bl (PyData.eqv d1 d2)) H) : rEqq K x y H Q := .inr ⟨d1, d2, hx.dp, hy.dp, s1, s2, q⟩
theorem d_neD (hx : Tp K H x d1) (hy : Tp K H y d2) (s1 : SeqAt.shaped d1 = true) (s2 : SeqAt.shaped d2 = true) (q : Q (.bl (!PyData.eqv d1 d2)) H) : rNee K x y H Q := .inr ⟨d1, d2, hx.dp, hy.dp, s1, s2, q⟩
/-! subscripts -/
theorem d_ixT {k : Nat} (hx : Tp K H x (.tuple ds)) (hd : ds[k]? = some d) (q : ∀ v, Tp K H v d → Q v H) : rIx K x (.int (k : Int)) H Q := by
  obtain ⟨a, xs, rfl, hs, ha⟩ := hx.of_tup
  obtain ⟨v, e, hv⟩ := ha.get hd
  exact .inr (.inl ⟨a, xs, (k : Int), v, rfl, rfl, hs, atI_nat e, q v hv⟩)
theorem d_ixTi {k : Nat} (hx : Tp K H x (.tuple ds)) (hd : ds[k]? = some (.int i)) (q : Q (.int i) H) : rIx K x (.int (k : Int)) H Q := d_ixT hx hd fun v hv => by
  cases hv; exact q
theorem d_ixL {a : Addr} {xs : List V} {k : Nat} (hx : SqL K H a xs) (hd : xs[k]? = some v) (q : Q v H) : rIx K (.ref a) (.int (k : Int)) H Q :=
  .inl ⟨a, xs, (k : Int), v, rfl, rfl, hx, atI_nat hd, q⟩
/-! making -/
theorem d_tupk {xs : List V} (hx : TpAll K H xs ds) (hl : ds.length ≤ 1000) (q : ∀ v H', Fr K [] H H' → Tp K H' v (.tuple ds) → Q v H') : tupk xs H Q :=
  ⟨Nat.le_trans (Nat.le_trans (Nat.le_of_eq hx.len) hl) (by decide), fun p hp => q _ _ (Fr.new hp) (.tup (SqT.of upd_same) (hx.up (S := []) (Fr.new hp)))⟩
theorem d_lstk {xs : List V} (hl : xs.length ≤ 1000) (q : ∀ p H', H p = none → Fr K [] H H' → H' p = some (.lst xs) → Q (.ref p) H') : lstk xs H Q :=
  ⟨Nat.le_trans hl (by decide), fun p hp => q _ _ hp (Fr.new hp) upd_same⟩
/-! tests -/
theorem t_test (h : te σ H (tstk QB)) : tTest te σ H QB := h
theorem t_tstk (q : QB b H) : tstk QB (.bl b) H := ⟨b, rfl, q⟩
theorem t_tru (h : te σ H (truk K QB)) : tTru K te σ H QB := h
theorem t_truB (q : QB b H) : truk K QB (.bl b) H := ⟨b, rfl, q⟩
theorem t_truI (q : QB (i != 0) H) : truk K QB (.int i) H := ⟨_, rfl, q⟩
theorem t_truN (q : QB false H) : truk K QB .non H := ⟨_, rfl, q⟩
theorem t_and (h : t σ H fun c H1 => if c = true then u σ H1 QB else QB false H1) : tAnd t u σ H QB := h
theorem t_or (h : t σ H fun c H1 => if c = true then QB true H1 else u σ H1 QB) : tOr t u σ H QB := h
theorem t_not (h : t σ H fun c H1 => QB (!c) H1) : tNot t σ H QB := h
def andk (tb : TE) (σ : St) (Q : VK) (x : V) (H : Hp) : Prop := ∃ c, x = .bl c ∧ if c = true then tb σ H Q else Q (.bl false) H
def ork (tb : TE) (σ : St) (Q : VK) (x : V) (H : Hp) : Prop := ∃ c, x = .bl c ∧ if c = true then Q (.bl true) H else tb σ H Q
def notk (Q : VK) (x : V) (H : Hp) : Prop := ∃ c, x = .bl c ∧ Q (.bl (!c)) H
theorem d_andV (h : ta σ H (andk tb σ Q)) : tAndV ta tb σ H Q := h
theorem d_orV (h : ta σ H (ork tb σ Q)) : tOrV ta tb σ H Q := h
theorem d_notV (h : ta σ H (notk Q)) : tNotV ta σ H Q := h
theorem d_andk (h : if b = true then tb σ H Q else Q (.bl false) H) : andk tb σ Q (.bl b) H := ⟨b, rfl, h⟩
theorem d_ork (h : if b = true then Q (.bl true) H else tb σ H Q) : ork tb σ Q (.bl b) H := ⟨b, rfl, h⟩
theorem d_notk (h : Q (.bl (!b)) H) : notk Q (.bl b) H := ⟨b, rfl, h⟩
theorem d_if (h : t σ H fun c H1 => if c = true then ta σ H1 Q else tb σ H1 Q) : tIf t ta tb σ H Q := h
def chk (r' : R2) (tc : TE) (σ : St) (y : V) (Q : VK) (z : V) (H : Hp) : Prop := ∃ k, z = .bl k ∧ (if k = true then tc σ H fun w' H4 => r' y w' H4 Q else Q (.bl false) H)
theorem d_chain {r' : R2} (h : ta σ H fun x H1 => tb σ H1 fun y H2 => r x y H2 (chk r' tc σ y Q)) : tChain r r' ta tb tc σ H Q := h
theorem d_chk {r' : R2} (h : if b = true then tc σ H fun w' H4 => r' y w' H4 Q else Q (.bl false) H) : chk r' tc σ y Q (.bl b) H := ⟨b, rfl, h⟩
/-! ifs -/
theorem if_t {A B : Prop} (h : A) : if true = true then A else B := iteT h
theorem if_f {A B : Prop} (h : B) : if false = true then A else B := iteF h
theorem if_b {A B : Prop} {b : Bool} (h1 : b = true → A) (h2 : b = false → B) : if b = true then A else B := by
  cases b with
  | true => exact iteT (h1 rfl)
  | false => exact iteF (h2 rfl)
theorem if_d {A B p : Prop} [Decidable p] (h1 : p → A) (h2 : ¬ p → B) : if decide p = true then A else B := if_b (fun h => h1 (of_decide_eq_true h)) (fun h => h2 (of_decide_eq_false h))
theorem if_dn {A B p : Prop} [Decidable p] (h1 : ¬ p → A) (h2 : p → B) : if (!decide p) = true then A else B := if_b (fun h => h1 (by simpa using h)) (fun h => h2 (by simpa using h))
/-- an answer that is known -/
theorem q_is {c : Bool} (e : b = c) (q : Q (.bl c) H) : Q (.bl b) H := by rw [e]; exact q
/-! statements -/
variable {N B C : St → Hp → Prop} {R : VK} {t1 t2 : TS} {g : TG}
theorem s_seq (h : t1 ⟨t2 ⟨N, R, B, C⟩, R, B, C⟩ σ H) : tSeq t1 t2 ⟨N, R, B, C⟩ σ H := h
theorem s_next (q : N σ H) : tNext ⟨N, R, B, C⟩ σ H := q
theorem s_brk (q : B σ H) : tBreak ⟨N, R, B, C⟩ σ H := q
theorem s_cont (q : C σ H) : tCont ⟨N, R, B, C⟩ σ H := q
theorem s_asg {i : Nat} (h : te σ H fun v H1 => N (σ.set i (some v)) H1) : tAsg te (gName i) ⟨N, R, B, C⟩ σ H := h
theorem s_drop (h : te σ H fun _ H1 => N σ H1) : tDrop te ⟨N, R, B, C⟩ σ H := h
theorem s_ret (h : te σ H R) : tRet te ⟨N, R, B, C⟩ σ H := h
theorem s_retN (h : R .non H) : tRetN ⟨N, R, B, C⟩ σ H := h
theorem s_if {c : TT} (h : c σ H fun b H1 => if b = true then t1 ⟨N, R, B, C⟩ σ H1 else t2 ⟨N, R, B, C⟩ σ H1) : tIfS c t1 t2 ⟨N, R, B, C⟩ σ H := h
def park (i j : Nat) (N : St → Hp → Prop) (σ : St) (vs : List V) (H : Hp) : Prop := ∃ v w, vs = [v, w] ∧ N ((σ.set i (some v)).set j (some w)) H
theorem s_par {i j : Nat} (h : tr σ H (park i j N σ)) : tPar i j tr ⟨N, R, B, C⟩ σ H := h
theorem s_park {i j : Nat} {v w : V} (h : N ((σ.set i (some v)).set j (some w)) H) : park i j N σ [v, w] H := ⟨v, w, rfl, h⟩
end
end DW
/-! ### the mathematics of fractions -/
namespace DW
theorem fmod_small (a : Int) {b : Int} (h : b ≠ 0) : (a.fmod b).natAbs < b.natAbs := by
  rw [Int.fmod_eq_emod]
  have h1 := Int.emod_nonneg a h
  have h2 := Int.emod_lt a h
  split
  · omega
  · rename_i hn
    have h3 : a % b ≠ 0 := fun z => hn (.inr (Int.dvd_of_emod_eq_zero z))
    omega
theorem gcd_step (a b : Int) : Int.gcd b (a.fmod b) = Int.gcd a b := by
  rw [Int.fmod_def, Int.gcd_sub_mul_left_right, Int.gcd_comm]
/-- what a fraction's parts are divided by -/
def gq (t u : Int) : Int := if u < 0 then -(Int.gcd t u : Int) else (Int.gcd t u : Int)
def fN (t u : Int) : Int := t.fdiv (gq t u)
def fD (t u : Int) : Int := u.fdiv (gq t u)
theorem gcd_pos {t u : Int} (h : u ≠ 0) : 0 < Int.gcd t u := Nat.pos_of_ne_zero fun z => h (Int.gcd_eq_zero_iff.mp z).2
theorem gq_ne {t u : Int} (h : u ≠ 0) : gq t u ≠ 0 := by
  have := gcd_pos (t := t) h
  unfold gq
  split <;> omega
theorem gcd_le {t u : Int} (h : u ≠ 0) : Int.gcd t u ≤ u.natAbs := Nat.le_of_dvd (by omega) (Nat.gcd_dvd_right _ _)
theorem gq_le {t u : Int} (h : u ≠ 0) : (gq t u).natAbs ≤ u.natAbs := by
  have := gcd_le (t := t) h
  unfold gq
  split <;> omega
theorem gq_dvd_l (t u : Int) : gq t u ∣ t := by
  unfold gq
  split
  · exact Int.neg_dvd.mpr (Int.gcd_dvd_left t u)
  · exact Int.gcd_dvd_left t u
theorem gq_dvd_r (t u : Int) : gq t u ∣ u := by
  unfold gq
  split
  · exact Int.neg_dvd.mpr (Int.gcd_dvd_right t u)
  · exact Int.gcd_dvd_right t u
theorem fN_mul (t u : Int) : fN t u * gq t u = t := Int.fdiv_mul_cancel (gq_dvd_l t u)
theorem fD_mul (t u : Int) : fD t u * gq t u = u := Int.fdiv_mul_cancel (gq_dvd_r t u)
theorem fD_pos {t u : Int} (h : u ≠ 0) : 0 < fD t u := by
  have e := fD_mul t u
  have g := gcd_pos (t := t) h
  unfold gq at e
  by_cases hu : u < 0
  · rw [if_pos hu] at e
    by_cases hp : 0 < fD t u
    · exact hp
    · have : 0 ≤ fD t u * -(Int.gcd t u : Int) := Int.mul_nonneg_of_nonpos_of_nonpos (by omega) (by omega)
      omega
  · rw [if_neg hu] at e
    by_cases hp : 0 < fD t u
    · exact hp
    · have : fD t u * (Int.gcd t u : Int) ≤ 0 := Int.mul_nonpos_of_nonpos_of_nonneg (by omega) (by omega)
      omega
theorem f_cross (t u : Int) : fN t u * u = t * fD t u := by
  have e1 := fN_mul t u
  have e2 := fD_mul t u
  calc fN t u * u = fN t u * (fD t u * gq t u) := by rw [e2]
    _ = (fN t u * gq t u) * fD t u := by rw [Int.mul_comm (fD t u), Int.mul_assoc]
    _ = t * fD t u := by rw [e1]
theorem gq_abs (t u : Int) : (gq t u).natAbs = Int.gcd t u := by
  unfold gq
  split <;> omega
theorem f_low {t u : Int} (h : u ≠ 0) : Int.gcd (fN t u) (fD t u) = 1 := by
  have e := Int.gcd_mul_right (fN t u) (gq t u) (fD t u)
  rw [fN_mul, fD_mul, gq_abs] at e
  have g := gcd_pos (t := t) h
  exact Nat.eq_of_mul_eq_mul_right g (by omega)
theorem fdiv_abs {a b : Int} (h : b ∣ a) (hb : b ≠ 0) : (a.fdiv b).natAbs ≤ a.natAbs := by
  have e := Int.fdiv_mul_cancel h
  have e2 : (a.fdiv b).natAbs * b.natAbs = a.natAbs := by rw [← Int.natAbs_mul, e]
  have hb2 : 1 ≤ b.natAbs := by omega
  calc (a.fdiv b).natAbs = (a.fdiv b).natAbs * 1 := by omega
    _ ≤ (a.fdiv b).natAbs * b.natAbs := Nat.mul_le_mul_left _ hb2
    _ = a.natAbs := e2
theorem fN_abs {t u : Int} (h : u ≠ 0) : (fN t u).natAbs ≤ t.natAbs := fdiv_abs (gq_dvd_l t u) (gq_ne h)
theorem fD_abs {t u : Int} (h : u ≠ 0) : (fD t u).natAbs ≤ u.natAbs := fdiv_abs (gq_dvd_r t u) (gq_ne h)
theorem dvd_cop {a b d : Int} (g : Int.gcd a b = 1) (h : b ∣ a * d) : b ∣ d := by
  have h1 : b.natAbs ∣ a.natAbs * d.natAbs := by rw [← Int.natAbs_mul]; exact Int.natAbs_dvd_natAbs.mpr h
  have h2 : Nat.Coprime b.natAbs a.natAbs := by
    show Nat.gcd b.natAbs a.natAbs = 1
    rw [Nat.gcd_comm]
    exact g
  exact Int.natAbs_dvd_natAbs.mp (h2.dvd_of_dvd_mul_left h1)
/-- two fractions in lowest terms of the same worth are the same -/
theorem low_unique {a b c d : Int} (hb : 0 < b) (hd : 0 < d) (g1 : Int.gcd a b = 1) (g2 : Int.gcd c d = 1) (e : a * d = c * b) : a = c ∧ b = d := by
  have h1 : b ∣ d := by
    have : b ∣ a * d := ⟨c, by rw [e, Int.mul_comm]⟩
    exact dvd_cop g1 this
  have h2 : d ∣ b := by
    have : d ∣ c * b := ⟨a, by rw [← e, Int.mul_comm]⟩
    exact dvd_cop g2 this
  have e2 : b = d := Int.dvd_antisymm (by omega) (by omega) h1 h2
  subst e2
  exact ⟨Int.eq_of_mul_eq_mul_right (by omega) e, rfl⟩
theorem f_self {a b : Int} (hb : 0 < b) (g : Int.gcd a b = 1) : fN a b = a ∧ fD a b = b := by
  have hb0 : b ≠ 0 := by omega
  have h := low_unique (fD_pos (t := a) hb0) hb (f_low hb0) g (f_cross a b)
  exact h
theorem f_zero {u : Int} (h : 0 < u) : fN 0 u = 0 ∧ fD 0 u = 1 := by
  have e : gq 0 u = u := by
    unfold gq
    rw [if_neg (by omega), Int.gcd_zero_left]
    omega
  unfold fN fD
  rw [e]
  exact ⟨Int.zero_fdiv u, Int.fdiv_self (by omega)⟩
theorem f_one (t : Int) : fN t 1 = t ∧ fD t 1 = 1 := f_self (by decide) (by rw [Int.gcd_one_right])
end DW
/-! ### more steps -/
namespace DW
open PySem L2
section
variable {K : PySem.W.Frag} {σ : St} {H H' : Hp} {Q : VK} {QB : Bool → Hp → Prop} {v x y : V} {i j : Int} {b c : Bool} {d d1 d2 : PyData} {ds : List PyData}
variable {N B C : St → Hp → Prop} {R : VK} {t1 t2 tb : TS} {g : TG}
def whk (W : Nat → St → Hp → Prop) (tb : TS) (D : Ends) (m : Nat) (σ : St) (b : Bool) (H1 : Hp) : Prop :=
  if b = true then ∃ N' : St → Hp → Prop, (∀ σ' H', N' σ' H' → ∃ m', m' < m ∧ W m' σ' H') ∧ tb { D with nx := N', ct := N', bk := D.nx } σ H1 else D.nx σ H1
theorem s_while {c : TT} (W : Nat → St → Hp → Prop) (m : Nat) (h0 : W m σ H) (hs : ∀ m σ H, W m σ H → c σ H (whk W tb ⟨N, R, B, C⟩ m σ)) : tWhile c tb ⟨N, R, B, C⟩ σ H := ⟨W, ⟨m, h0⟩, hs⟩
theorem s_whk {W : Nat → St → Hp → Prop} {m : Nat} (h1 : b = true → tb ⟨fun σ' H' => ∃ m', m' < m ∧ W m' σ' H', R, N, fun σ' H' => ∃ m', m' < m ∧ W m' σ' H'⟩ σ H) (h2 : b = false → N σ H) : whk W tb ⟨N, R, B, C⟩ m σ b H := by
  unfold whk
  cases b with
  | true => rw [if_pos rfl]; exact ⟨_, fun _ _ h => h, h1 rfl⟩
  | false => rw [if_neg Bool.false_ne_true]; exact h2 rfl
theorem TpAll.at {vs : List V} (h : TpAll K H vs ds) {j : Int} (e : atI ds j = some d) : ∃ v, atI vs j = some v ∧ Tp K H v d := by
  unfold atI at e ⊢
  rw [h.len]
  cases q : ixN ds.length j with
  | none => rw [q] at e; cases e
  | some k =>
    rw [q, Option.bind_some] at e
    rw [Option.bind_some]
    exact h.get e
theorem d_ixTj (hx : Tp K H x (.tuple ds)) (hd : atI ds j = some d) (q : ∀ v, Tp K H v d → Q v H) : rIx K x (.int j) H Q := by
  obtain ⟨a, xs, rfl, hs, ha⟩ := hx.of_tup
  obtain ⟨v, e, hv⟩ := ha.at hd
  exact .inr (.inl ⟨a, xs, j, v, rfl, rfl, hs, e, q v hv⟩)
theorem d_ixTJ (hx : Tp K H x (.tuple ds)) (hd : atI ds j = some (.int i)) (q : Q (.int i) H) : rIx K x (.int j) H Q := d_ixTj hx hd fun v hv => by
  cases hv; exact q
/-! isinstance -/
theorem tyx_tup {a : Addr} {xs : List V} (h : SqT K H a xs) : TyX K H (.ref a) (.type "tuple") := by
  rcases h with (h | ⟨o, h⟩) | ⟨o, its, n, h, hc, _⟩
  · exact .base (.tup h)
  · exact .fTuple h
  · exact .kTuple h hc
theorem d_isiT (hx : Tp K H x (.tuple ds)) (q : Q (.bl true) H) : rIsi K [x, .ty "tuple"] H Q := by
  obtain ⟨a, xs, rfl, hs, ha⟩ := hx.of_tup
  exact ⟨_, _, _, _, true, rfl, .ty _, tyx_tup hs, kit_ty (by decide +kernel), q⟩
theorem d_isiI (q : Q (.bl true) H) : rIsi K [.int i, .ty "int"] H Q := ⟨_, _, _, _, true, rfl, .ty _, .base (.int i), kit_ty (by decide +kernel), q⟩
theorem d_isiIB (q : Q (.bl false) H) : rIsi K [.int i, .ty "bool"] H Q := ⟨_, _, _, _, false, rfl, .ty _, .base (.int i), kit_ty (by decide +kernel), q⟩
theorem d_isiNT (q : Q (.bl false) H) : rIsi K [.non, .ty "tuple"] H Q := ⟨_, _, _, _, false, rfl, .ty _, .base .non, kit_ty (by decide +kernel), q⟩
theorem d_isiL {a : Addr} {xs : List V} (h : H a = some (.lst xs)) (q : Q (.bl true) H) : rIsi K [.ref a, .ty "list"] H Q := ⟨_, _, _, _, true, rfl, .ty _, .base (.lst h), kit_ty (by decide +kernel), q⟩
/-! len -/
theorem d_lenT (hx : Tp K H x (.tuple ds)) (q : Q (.int (ds.length : Int)) H) : rLen K [x] H Q := by
  obtain ⟨a, xs, rfl, hs, ha⟩ := hx.of_tup
  refine ⟨_, ds.length, rfl, .inr ⟨xs, hs, ha.len.symm⟩, q⟩
theorem d_lenL {a : Addr} {xs : List V} (hx : SqL K H a xs) (q : Q (.int (xs.length : Int)) H) : rLen K [.ref a] H Q := ⟨_, xs.length, rfl, .inl ⟨xs, hx, rfl⟩, q⟩
theorem d_lenS {z : Str} (hl : z.length ≤ 16000000) (q : Q (.int (z.length : Int)) H) : rLen K [.str z] H Q := ⟨_, z.length, rfl, ⟨Nat.le_trans hl (by decide), rfl⟩, q⟩
/-! is -/
theorem d_isN (q : Q (.bl (decide (x = .non))) H) : rIsN x .non H Q := ⟨rfl, q⟩
theorem d_notN (q : Q (.bl (!decide (x = .non))) H) : rNotN x .non H Q := ⟨rfl, q⟩
theorem d_isB (q : Q (.bl (decide (b = c))) H) : rIsB (.bl b) (.bl c) H Q := ⟨b, c, rfl, rfl, q⟩
theorem tp_not_non {ds : List PyData} (h : Tp K H x (.tuple ds)) : x ≠ .non := by
  intro e
  subst e
  cases h
/-! list(..) -/
theorem d_listOf {a : Addr} {xs : List V} (h : SqL K H a xs) (q : ∀ p H', H p = none → Fr K [] H H' → H' p = some (.lst xs) → Q (.ref p) H') : rListOf K [.ref a] H Q :=
  ⟨a, xs, rfl, .inl h, fun l hl => q l _ hl (Fr.new hl) upd_same⟩
theorem tp_seq {K : PySem.W.Frag} {H : Hp} {v : V} {ds : List PyData} (h : Tp K H v (.tuple ds)) : ∃ a xs, v = .ref a ∧ SqT K H a xs ∧ TpAll K H xs ds := h.of_tup
end
theorem tp_int {K : PySem.W.Frag} {H : Hp} {v : V} {i : Int} (h : Tp K H v (.int i)) : v = .int i := by cases h; rfl
theorem tp_non {K : PySem.W.Frag} {H : Hp} {v : V} (h : Tp K H v .none) : v = .non := by cases h; rfl
theorem tp_str {K : PySem.W.Frag} {H : Hp} {v : V} {z : Str} (h : Tp K H v (.str z)) : v = .str z := by cases h; rfl
theorem small64 {n : Nat} (h : n < 2 ^ 64) : n < 2 ^ 8000 := Nat.lt_of_lt_of_le h (Nat.pow_le_pow_right (by decide) (by decide))
theorem cmul_r {i j : Int} (h : j.natAbs < 2 ^ 64) : CMul i j := .inr (by omega)
theorem cmul_l {i j : Int} (h : i.natAbs < 2 ^ 64) : CMul i j := .inl (by omega)
section
variable {K : PySem.W.Frag} {σ : St} {H H' : Hp} {Q : VK} {v x y : V} {i j : Int} {te ta tb : TE} {N B C : St → Hp → Prop} {R : VK} {p : Addr} {xs : List V}
theorem d_ixLz (hx : SqL K H p xs) (h0 : 0 ≤ i) (hd : xs[i.toNat]? = some v) (q : Q v H) : rIx K (.ref p) (.int i) H Q := by
  have e : i = ((i.toNat : Nat) : Int) := by omega
  rw [e]
  exact d_ixL hx hd q
theorem s_asgSub (h : te σ H fun v H1 => ta σ H1 fun o H2 => tb σ H2 fun i H3 => rSetL o i v H3 fun H4 => N σ H4) : tAsg te (gSub ta tb rSetL) ⟨N, R, B, C⟩ σ H := h
theorem d_setL {k : Nat} {P : Hp → Prop} (h : H p = some (.lst xs)) (hk : k < xs.length) (q : P (upd H p (.lst (xs.set k v)))) : rSetL (.ref p) (.int (k : Int)) v H P := by
  refine ⟨p, xs, (k : Int), k, rfl, rfl, h, ?_, q⟩
  unfold ixN
  rw [if_pos (by omega), if_pos (by omega)]
  simp
/-- the script's feed: what is left of its numbers, a rest, a state -/
def Feed (H : Hp) (p : Addr) : Prop := ∃ (q : Addr) (cs : List Int) (i r s : Int), H p = some (.lst [.ref q, .int i, .int r, .int s]) ∧ H q = some (.lst (cs.map V.int)) ∧ q ≠ p ∧ 0 ≤ i ∧ 0 ≤ s ∧ s < 2147483647
theorem Feed.up (e : Fr K [] H H') (h : Feed H p) : Feed H' p := by
  obtain ⟨q, cs, i, r, s, h1, h2, h3⟩ := h
  exact ⟨q, cs, i, r, s, e.get0 h1, e.get0 h2, h3⟩
theorem Feed.lst (h : Feed H p) : ∃ xs, H p = some (.lst xs) := by
  obtain ⟨q, cs, i, r, s, h1, _⟩ := h
  exact ⟨_, h1⟩
theorem cut_ints (ns : List Int) (lo hi : Option Int) : ∃ cs : List Int, cutV (ns.map V.int) lo hi = cs.map V.int := by
  unfold cutV
  exact ⟨_, by rw [← List.map_drop, ← List.map_take]⟩
theorem ints_get {ns : List Int} {k : Nat} (h : k < ns.length) : (ns.map V.int)[k]? = some (.int ns[k]) := by
  rw [List.getElem?_map, List.getElem?_eq_getElem h]
  rfl
end
theorem big128 {a b : Int} (h1 : a.natAbs < 2 ^ 64) (h2 : b.natAbs < 2 ^ 64) : (a * b).natAbs < 2 ^ 8000 := by
  have z : (a * b).natAbs < 2 ^ 64 * 2 ^ 64 := by
    rw [Int.natAbs_mul]
    exact Nat.mul_lt_mul'' h1 h2
  exact Nat.lt_of_lt_of_le z (by rw [← Nat.pow_add]; exact Nat.pow_le_pow_right (by decide) (by decide))
end DW
namespace DW
open PySem L2
section
variable {K : PySem.W.Frag} {σ : St} {H H' : Hp} {Q : VK} {QB : Bool → Hp → Prop} {v x y : V} {i j : Int} {b c : Bool} {d d1 d2 : PyData} {ds : List PyData} {ta te : TE} {tr : TA} {wi : TI}
variable {N B C : St → Hp → Prop} {R : VK} {t1 t2 tb : TS} {g : TG} {gs : TGs} {P : St → Hp → Prop} {J : It} {RJ : It → Hp → Prop}
/-! ### for -/
def forK (g : TG) (tb : TS) (D : Ends) (σ : St) (J : It) (H1 : Hp) : Prop := ∃ W : Nat → Nat → St → Hp → Prop, (∃ m, W 0 m σ H1) ∧ ∀ i m σ H, W i m σ H →
  (J.stop i H ∧ D.nx σ H) ∨ (J.go i H ∧ ∃ N : St → Hp → Prop, (∀ σ' H', N σ' H' → ∃ m', m' < m ∧ W (i + 1) m' σ' H') ∧ ∀ x H', J.yld i H x H' → g x σ H' fun σ2 H2 => tb { D with nx := N, ct := N, bk := D.nx } σ2 H2)
theorem s_for (h : wi σ H (forK g tb ⟨N, R, B, C⟩ σ)) : tFor wi g tb ⟨N, R, B, C⟩ σ H := h
def iTupk (K : PySem.W.Frag) (RJ : It → Hp → Prop) (x : V) (H1 : Hp) : Prop := ∃ a, x = .ref a ∧ (∃ xs, SqT K H1 a xs) ∧ RJ (Itt K a) H1
def iListk (K : PySem.W.Frag) (RJ : It → Hp → Prop) (x : V) (H1 : Hp) : Prop := ∃ a, x = .ref a ∧ (∃ xs, SqL K H1 a xs) ∧ RJ (Itl K a) H1
def iRng1k (RJ : It → Hp → Prop) (vs : List V) (H1 : Hp) : Prop := ∃ j : Int, vs = [.int j] ∧ -(2 ^ 62) ≤ j ∧ j < 2 ^ 62 ∧ RJ (Itr 0 j.toNat) H1
def iRng2k (RJ : It → Hp → Prop) (vs : List V) (H1 : Hp) : Prop := ∃ i j : Int, vs = [.int i, .int j] ∧ (-(2 ^ 62) ≤ i ∧ i < 2 ^ 62 ∧ -(2 ^ 62) ≤ j ∧ j < 2 ^ 62) ∧ RJ (Itr i (j - i).toNat) H1
theorem i_tup (h : ta σ H (iTupk K RJ)) : iTup K ta σ H RJ := h
theorem i_list (h : ta σ H (iListk K RJ)) : iList K ta σ H RJ := h
theorem i_rng1 (h : tr σ H (iRng1k RJ)) : iRng1 tr σ H RJ := h
theorem i_rng2 (h : tr σ H (iRng2k RJ)) : iRng2 tr σ H RJ := h
/-- over a tuple of data -/
theorem for_tp {S : List Addr} (hx : Tp K H x (.tuple ds)) (Pv : Nat → St → Hp → Prop) (h0 : Pv 0 σ H) (hl : ∀ i σ' H', i ≤ ds.length → Pv i σ' H' → Fr K S H H')
    (hs : ∀ i d y σ' H', ds[i]? = some d → Pv i σ' H' → Tp K H' y d → g y σ' H' fun σ2 H2 => tb ⟨Pv (i + 1), R, N, Pv (i + 1)⟩ σ2 H2) (hd : ∀ σ' H', Pv ds.length σ' H' → N σ' H') :
    iTupk K (forK g tb ⟨N, R, B, C⟩ σ) x H := by
  obtain ⟨a, xs, rfl, hq, ha⟩ := hx.of_tup
  have el := ha.len
  refine ⟨a, rfl, ⟨xs, hq⟩, for_tup (K := K) (a := a) (xs := xs) Pv h0 (fun i σ' H' hi p => (hl i σ' H' (by omega) p).2 a xs hq) (fun i y σ' H' hi p => ?_) (fun σ' H' p => hd σ' H' (by rw [← el]; exact p))⟩
  have hlt : i < ds.length := by rw [← el]; exact (List.getElem?_eq_some_iff.mp hi).1
  obtain ⟨v, e, hv⟩ := ha.get (List.getElem?_eq_getElem hlt)
  rw [hi] at e
  cases e
  exact hs i _ y σ' H' (List.getElem?_eq_getElem hlt) p (hv.up (hl i σ' H' (by omega) p))
/-- over range(n) -/
theorem for_r1 {n : Int} (h1 : -1000000000 ≤ n) (h2 : n ≤ 1000000000) (Pv : Nat → St → Hp → Prop) (h0 : Pv 0 σ H)
    (hs : ∀ (i : Nat) σ' H', (i : Int) < n → Pv i σ' H' → g (.int (i : Int)) σ' H' fun σ2 H2 => tb ⟨Pv (i + 1), R, N, Pv (i + 1)⟩ σ2 H2) (hd : ∀ σ' H', Pv n.toNat σ' H' → N σ' H') :
    iRng1k (forK g tb ⟨N, R, B, C⟩ σ) [.int n] H :=
  ⟨n, rfl, by omega, by omega, for_range (lo := 0) (n := n.toNat) Pv h0 (fun i σ' H' hi p => by rw [Int.zero_add]; exact hs i σ' H' (by omega) p) hd⟩
theorem for_r2 {a n : Int} (h1 : -1000000000 ≤ n) (h2 : n ≤ 1000000000) (h3 : -1000000000 ≤ a) (h4 : a ≤ 1000000000) (Pv : Nat → St → Hp → Prop) (h0 : Pv 0 σ H)
    (hs : ∀ (i : Nat) σ' H', a + (i : Int) < n → Pv i σ' H' → g (.int (a + (i : Int))) σ' H' fun σ2 H2 => tb ⟨Pv (i + 1), R, N, Pv (i + 1)⟩ σ2 H2) (hd : ∀ σ' H', Pv (n - a).toNat σ' H' → N σ' H') :
    iRng2k (forK g tb ⟨N, R, B, C⟩ σ) [.int a, .int n] H :=
  ⟨a, n, rfl, ⟨by omega, by omega, by omega, by omega⟩, for_range (lo := a) (n := (n - a).toNat) Pv h0 (fun i σ' H' hi p => hs i σ' H' (by omega) p) hd⟩
/-- over a list -/
theorem for_ls {a : Addr} {xs : List V} (hx : SqL K H a xs) (Pv : Nat → St → Hp → Prop) (h0 : Pv 0 σ H) (hl : ∀ i σ' H', i ≤ xs.length → Pv i σ' H' → SqL K H' a xs)
    (hs : ∀ i y σ' H', xs[i]? = some y → Pv i σ' H' → g y σ' H' fun σ2 H2 => tb ⟨Pv (i + 1), R, N, Pv (i + 1)⟩ σ2 H2) (hd : ∀ σ' H', Pv xs.length σ' H' → N σ' H') :
    iListk K (forK g tb ⟨N, R, B, C⟩ σ) (.ref a) H := ⟨a, rfl, ⟨xs, hx⟩, for_list (K := K) (a := a) (xs := xs) Pv h0 hl hs hd⟩
/-! targets -/
theorem g_name {k : Nat} (h : P (σ.set k (some v)) H) : gName k v σ H P := h
theorem g_tup {n : Nat} (hy : Tp K H y (.tuple ds)) (hn : ds.length = n) (h : ∀ xs, TpAll K H xs ds → gs xs σ H P) : gTup K n gs y σ H P := by
  obtain ⟨a, xs, rfl, hq, ha⟩ := hy.of_tup
  exact ⟨a, xs, rfl, hq, ha.len.trans hn, h xs ha⟩
theorem g_cons {vs : List V} (h : g v σ H fun σ' H' => gs vs σ' H' P) : gCons g gs (v :: vs) σ H P := ⟨v, vs, rfl, h⟩
theorem g_nil (h : P σ H) : gNil [] σ H P := ⟨rfl, h⟩
theorem g_tup2 {a b : Nat} (hy : Tp K H y (.tuple [d1, d2])) (h : ∀ v1 v2, Tp K H v1 d1 → Tp K H v2 d2 → P ((σ.set a (some v1)).set b (some v2)) H) : gTup K 2 (gCons (gName a) (gCons (gName b) gNil)) y σ H P :=
  g_tup hy rfl fun xs hx => by
    cases hx with
    | cons a1 hx =>
      cases hx with
      | cons a2 hx =>
        cases hx
        exact ⟨_, _, rfl, _, _, rfl, rfl, h _ _ a1 a2⟩
theorem if_nt {A B : Prop} (h : B) : if (!true) = true then A else B := iteF h
theorem if_nf {A B : Prop} (h : A) : if (!false) = true then A else B := iteT h
/-! == and != of the same data -/
theorem d_eqSame (hx : Tp K H x d) (hy : Tp K H y d) (s : SeqAt.shaped d = true) (q : Q (.bl true) H) : rEqq K x y H Q := d_eqD hx hy s s (by rw [SeqAt.eqv_refl _ (SeqAt.canLay_of_shaped s)]; exact q)
theorem d_neSame (hx : Tp K H x d) (hy : Tp K H y d) (s : SeqAt.shaped d = true) (q : Q (.bl false) H) : rNee K x y H Q := d_neD hx hy s s (by rw [SeqAt.eqv_refl _ (SeqAt.canLay_of_shaped s)]; exact q)
theorem d_isNn (q : Q (.bl true) H) : rIsN .non .non H Q := d_isN q
theorem d_notNn (q : Q (.bl false) H) : rNotN .non .non H Q := d_notN q
theorem d_isNT (hx : Tp K H x (.tuple ds)) (q : Q (.bl false) H) : rIsN x .non H Q := d_isN (by rw [decide_eq_false (tp_not_non hx)]; exact q)
theorem d_notNT (hx : Tp K H x (.tuple ds)) (q : Q (.bl true) H) : rNotN x .non H Q := d_notN (by rw [decide_eq_false (tp_not_non hx)]; exact q)
/-! a statement, then the rest, with a word between -/
theorem s_cut {M : St → Hp → Prop} (h : t1 ⟨M, R, B, C⟩ σ H) (k : ∀ σ' H', M σ' H' → t2 ⟨N, R, B, C⟩ σ' H') : C8.tCut t1 t2 ⟨N, R, B, C⟩ σ H := ⟨M, h, k⟩
end
end DW
namespace DW
/-- the worth of a pair -/
abbrev rv (a b : Int) : Rat := (a : Rat) / (b : Rat)
/-- a, b is the fraction in lowest terms that is worth r -/
def FrIs (a b : Int) (r : Rat) : Prop := 0 < b ∧ Int.gcd a b = 1 ∧ rv a b = r
theorem rat_ne {b : Int} (h : b ≠ 0) : (b : Rat) ≠ 0 := by exact_mod_cast h
theorem rv_cross {a b c d : Int} (hb : b ≠ 0) (hd : d ≠ 0) (h : rv a b = rv c d) : a * d = c * b := by
  have hb' := rat_ne hb
  have hd' := rat_ne hd
  unfold rv at h
  have e : (a : Rat) * (d : Rat) = (c : Rat) * (b : Rat) := by grind
  exact_mod_cast e
theorem FrIs.uniq {a b c d : Int} {r : Rat} (h1 : FrIs a b r) (h2 : FrIs c d r) : a = c ∧ b = d := by
  obtain ⟨p1, g1, e1⟩ := h1
  obtain ⟨p2, g2, e2⟩ := h2
  exact low_unique p1 p2 g1 g2 (rv_cross (by omega) (by omega) (e1.trans e2.symm))
theorem frIs_f {t u : Int} (h : u ≠ 0) : FrIs (fN t u) (fD t u) (rv t u) := by
  have hp := fD_pos (t := t) h
  refine ⟨hp, f_low h, ?_⟩
  have e := f_cross t u
  have e2 : (fN t u : Rat) * (u : Rat) = (t : Rat) * (fD t u : Rat) := by exact_mod_cast e
  have h1 := rat_ne h
  have h2 := rat_ne (show fD t u ≠ 0 by omega)
  unfold rv
  grind
theorem FrIs.to {a b : Int} {r s : Rat} (h : FrIs a b r) (e : r = s) : FrIs a b s := e ▸ h
theorem FrIs.self {a b : Int} (h : 0 < b) (g : Int.gcd a b = 1) : FrIs a b (rv a b) := ⟨h, g, rfl⟩
theorem frIs_plus {a0 a1 b0 b1 : Int} (h1 : a1 ≠ 0) (h2 : b1 ≠ 0) : FrIs (fN (a0 * b1 + b0 * a1) (a1 * b1)) (fD (a0 * b1 + b0 * a1) (a1 * b1)) (rv a0 a1 + rv b0 b1) := by
  refine (frIs_f (Int.mul_ne_zero h1 h2)).to ?_
  have g1 := rat_ne h1
  have g2 := rat_ne h2
  unfold rv
  push_cast
  grind
theorem frIs_less {a0 a1 b0 b1 : Int} (h1 : a1 ≠ 0) (h2 : b1 ≠ 0) : FrIs (fN (a0 * b1 - b0 * a1) (a1 * b1)) (fD (a0 * b1 - b0 * a1) (a1 * b1)) (rv a0 a1 - rv b0 b1) := by
  refine (frIs_f (Int.mul_ne_zero h1 h2)).to ?_
  have g1 := rat_ne h1
  have g2 := rat_ne h2
  unfold rv
  push_cast
  grind
theorem frIs_times {a0 a1 b0 b1 : Int} (h1 : a1 ≠ 0) (h2 : b1 ≠ 0) : FrIs (fN (a0 * b0) (a1 * b1)) (fD (a0 * b0) (a1 * b1)) (rv a0 a1 * rv b0 b1) := by
  refine (frIs_f (Int.mul_ne_zero h1 h2)).to ?_
  have g1 := rat_ne h1
  have g2 := rat_ne h2
  unfold rv
  push_cast
  grind
theorem frIs_value {a b p q : Int} (h : q ≠ 0) : FrIs (fN (a * q + b * p) q) (fD (a * q + b * p) q) ((a : Rat) + (b : Rat) * rv p q) := by
  refine (frIs_f h).to ?_
  have g1 := rat_ne h
  unfold rv
  push_cast
  grind
end DW
namespace DW
open PySem L2
section
variable {K : PySem.W.Frag} {σ : St} {H H' : Hp} {Q : VK} {v x y : V} {ds es : List PyData} {te : TE} {tl th : TO} {lo hi : Option Int}
theorem TpAll.append : ∀ {xs ys : List V} {ds es : List PyData}, TpAll K H xs ds → TpAll K H ys es → TpAll K H (xs ++ ys) (ds ++ es)
  | _, _, _, _, .nil, h => h
  | _, _, _, _, .cons a r, h => .cons a (TpAll.append r h)
theorem TpAll.drop : ∀ (n : Nat) {xs : List V} {ds : List PyData}, TpAll K H xs ds → TpAll K H (xs.drop n) (ds.drop n)
  | 0, _, _, h => h
  | _ + 1, _, _, .nil => .nil
  | n + 1, _, _, .cons _ r => TpAll.drop n r
theorem TpAll.take : ∀ (n : Nat) {xs : List V} {ds : List PyData}, TpAll K H xs ds → TpAll K H (xs.take n) (ds.take n)
  | 0, _, _, _ => .nil
  | _ + 1, _, _, .nil => .nil
  | n + 1, _, _, .cons a r => .cons a (TpAll.take n r)
/-- t + u of tuples -/
theorem d_plusT (hx : Tp K H x (.tuple ds)) (hy : Tp K H y (.tuple es)) (hl : ds.length + es.length ≤ 1000) (q : ∀ v H', Fr K [] H H' → Tp K H' v (.tuple (ds ++ es)) → Q v H') : rPlus K x y H Q := by
  obtain ⟨a, xs, rfl, h1, a1⟩ := hx.of_tup
  obtain ⟨b, ys, rfl, h2, a2⟩ := hy.of_tup
  have e1 := a1.len
  have e2 := a2.len
  refine .inr (.inr (.inl ⟨a, b, xs, ys, rfl, rfl, h1, h2, Nat.le_trans (by omega) (show 1000 ≤ sizeLine by decide), fun z => ?_, fun _ z => ?_, fun _ _ p hp => ?_⟩))
  · subst z
    cases a1
    exact q _ _ Fr.rf (.tup h2 a2)
  · subst z
    cases a2
    exact q _ _ Fr.rf (by rw [List.append_nil]; exact .tup h1 a1)
  · exact q _ _ (Fr.new hp) (.tup (SqT.of upd_same) ((TpAll.append a1 a2).up (S := []) (Fr.new hp)))
def cutD (ds : List PyData) (lo hi : Option Int) : List PyData := (ds.drop (HT.sIx ds.length 0 lo)).take (HT.sIx ds.length ds.length hi - HT.sIx ds.length 0 lo)
/-- t[lo:hi] of a tuple -/
theorem d_slT (hx : Tp K H x (.tuple ds)) (e : cutD ds lo hi = es) (q : ∀ v H', Fr K [] H H' → Tp K H' v (.tuple es) → Q v H') : rSlA K x lo hi H Q := by
  subst e
  obtain ⟨a, xs, rfl, h1, a1⟩ := hx.of_tup
  have e1 := a1.len
  refine ⟨a, xs, rfl, h1, fun z => ?_, fun _ p hp => ?_⟩
  · rw [e1] at z
    refine q _ _ Fr.rf ?_
    unfold cutD
    rw [z.1, z.2, List.drop_zero, Nat.sub_zero, List.take_length]
    exact .tup h1 a1
  · refine q _ _ (Fr.new hp) (.tup (SqT.of upd_same) ?_)
    have h2 : TpAll K H (cutV xs lo hi) (cutD ds lo hi) := by
      unfold cutV cutD
      rw [e1]
      exact TpAll.take _ (TpAll.drop _ a1)
    exact h2.up (S := []) (Fr.new hp)
def ixk (Q : Option Int → Hp → Prop) (x : V) (H : Hp) : Prop := ∃ i, x = .int i ∧ Q (some i) H
theorem d_sl {r : V → Option Int → Option Int → Hp → VK → Prop} (h : te σ H fun x H1 => tl σ H1 fun l H2 => th σ H2 fun u H3 => r x l u H3 Q) : tSl r te tl th σ H Q := h
theorem d_nopart {Q : Option Int → Hp → Prop} (h : Q none H) : tNoPart σ H Q := h
theorem d_part {Q : Option Int → Hp → Prop} (h : te σ H (ixk Q)) : tPart te σ H Q := h
theorem d_ixk {Q : Option Int → Hp → Prop} {i : Int} (h : Q (some i) H) : ixk Q (.int i) H := ⟨i, rfl, h⟩
end
end DW
namespace DW
open PySem L2
/-! ### a function read off a class and called: C.m(e, ..) -/
structure ClsFn (K : PySem.W.Frag) (C f : Addr) (m : Str) : Prop where
  rd : PySem.W.readsIn K C (.type "type") = true
  ga : PySem.W.specialIn K (.ref C) "__getattribute__" = some (some (.builtin "type.__getattribute__"))
  at_ : PySem.W.findCls K (.ref C) (.type "type") m = some (.val (.ref f))
  kp : PySem.W.keepIn K (.ref f) = true
theorem pe_clsfn {X : Cx} {CX : CXT} {k : Nat} {C f : Addr} {fd : FuncData} {ps : List Str} {sp : Sp} {E : XK} {x m : Str} {p1 p2 pos : Pos} {e : Expr} {es : List Expr} {t : TA} {pl : Sem Bool}
    (cf : ClsFn X.K C f m) (F : FnOk X.prog X.w X.K X.mg X.base CX k f fd ps sp) (hb : Binds X.K fd ps []) (hr : Room k X.A) (hg : Gl X x) (hm : X.mg x = some (.ref C)) (hx : Passes CX X E) (ha : PA X (e :: es) t)
    (hdb : (x == ("__debug__" : Str)) = false := by decide)
    (hc : eval (.Call (.Attribute (.Name x p1) m p2) (e :: es) [] pos) X.env = (do
      let ov ← eval (.Name x p1) X.env
      standAt p2.atName
      let (f, first) ← holding [ov] (getMethod ov m pl)
      callWith pos f first (backTo pos (starEach (e :: es) X.env)) (backToKw pos (keywordEach [] X.env))) := by rfl)
    (he : starEach (e :: es) X.env = (false, eval e X.env) :: starEach es X.env := by rfl) (hpl : (backTo pos (starEach es X.env)).any (·.1) = false := by rfl) :
    PE X (.Call (.Attribute (.Name x p1) m p2) (e :: es) [] pos) (tCall sp [] E t) := by
  refine ⟨fun pins s σ H Q I h => ?_⟩
  refine PySem.W.methodCall_KW (pl := pl) (ld_glob I hg hm ?_ hdb) hc
  refine PySem.W.method_cls I.kIn cf.ga (PySem.W.cls_value I.kIn cf.rd cf.at_ rfl ?_)
  have I' := I.tok (s.toks + 1)
  refine PySem.W.callWith_K (h₀ := X.base) I.ok.mod.kin cf.kp (thn (ha.run pos pins _ σ H _ I' h) fun us s1 ⟨vs, H1, I1, r, q⟩ => ⟨I1.kIn, ?_⟩) he hpl
  exact run_fn (dvs := []) F hr hb .nil hx I1 r q
/-! ### C(), C an own exception class whose __init__ takes no more than self -/
def tMkO0 (C : Addr) (sp : Sp) : St → Hp → XK → Prop := fun _ H Q => ∀ a, H a = none → sp [.ref a] (upd H a (exo a C none))
  (fun v H2 => v = .non ∧ ∃ (d : Addr) (fs : List (Str × V)), H2 a = some (exo a C (some d)) ∧ H2 d = some (exd d fs) ∧ H d = none ∧ Q (.ref C) (some d) (upd (del H2 a) d (.xd fs))) (fun _ _ _ => False)
theorem pmk_oex0 {X : Cx} {CX : CXT} {x : Str} {C fI : Addr} {k : Nat} {fd : FuncData} {ps : List Str} {sp : Sp} {p pos : Pos} (T : OexC X.K C) (iC : PySem.W.findIn X.K (.ref C) "__init__" = some (some (.ref fI))) (tI : PySem.W.typeIn X.K (.ref fI) = some (.type "function"))
    (F1 : FnOk X.prog X.w X.K X.mg X.base CX k fI fd ps sp) (hr : Room (k + 1) X.A) (hb : Binds X.K fd ps []) (hx : Passes CX X (fun _ _ _ => False)) (hg : Gl X x) (hm : X.mg x = some (.ref C)) (hdb : (x == ("__debug__" : Str)) = false := by decide) :
    PMk X (.Call (.Name x p) [] [] pos) (tMkO0 C sp) := by
  intro pins s σ H Q I q1
  obtain ⟨nm, q, N, bs, bm, sn, sub, ab, col, dd, k0, k1, k2, k3, k5, hC, hbm⟩ := T.cls
  refine wpAny_Call_Name_kw (ld_glob I hg hm ?_ hdb)
  refine PySem.W.callWith_K0 I.kIn T.kC ?_
  show wpAny _ _ (call (.ref C) []) _ _ _
  obtain ⟨hp, g, dr, tk, os⟩ := s
  have sz : hp.objs.size ≤ hp.objs.size + 1 := Nat.le_succ _
  have hq := q1 (hp.objs.size + 1) (I.hok.fresh sz)
  have kk : ∀ b o, hp.get? b = some o → ((hp.push (PySem.W.kdv_tup [])).push (PySem.HandSPX.excO C hp.objs.size)).get? b = some o := fun b o z => Heap.get?_push_of_some _ (Heap.get?_push_of_some _ z)
  have hget : ((hp.push (PySem.W.kdv_tup [])).push (PySem.HandSPX.excO C hp.objs.size)).get? (hp.objs.size + 1) = some (PySem.HandSPX.excO C hp.objs.size) := by heap_get
  have I2 : Inv X pins σ (upd H (hp.objs.size + 1) (exo (hp.objs.size + 1) C none)) ⟨(hp.push (PySem.W.kdv_tup [])).push (PySem.HandSPX.excO C hp.objs.size), g, dr, tk, os⟩ := I.laid kk sz (exo_ok hget)
  have r2 : Vals [V.ref (hp.objs.size + 1)] [Value.ref (hp.objs.size + 1)] := .cons rfl .nil
  have hl : ([Value.ref (hp.objs.size + 1)] ++ []).length = ps.length := by
    have z := F1.len _ _ _ _ hq
    simpa using z
  refine wpAny_call (PySem.HandSPX.call_own F.excBase_ValueError (fun Y => PySem.HandSPX.refsVE_contains Y bm hbm) (I.kIn _ _ hC) (PySem.W.looks_findIn I.kIn iC) (fun self => PySem.W.bind_fn I.kIn self tI) (by decide)
    (codeAny_mono (F1.run _ X.stack _ _ ⟨[Value.ref (hp.objs.size + 1)], []⟩ [Value.ref (hp.objs.size + 1)] _ _ (fun _ _ _ => False) (hr.make C [] []) (I2.env0.make C [] []) (hb _ [Value.ref (hp.objs.size + 1)] I2.kIn hl) r2 hq) fun r s' hq' => ?_))
  cases r with
  | error er => exact hx pins σ _ _ er s' I2 hq'
  | ok fl =>
    cases fl with
    | ret u =>
      obtain ⟨v, H2, os2, bare2, un2, hok2, rv, ev, d, fs, ea, ed, hd1, q2⟩ := hq'
      subst ev
      obtain ⟨h2, g2, d2, t2, os'⟩ := s'
      exact ⟨rv, mk_end (raises_own T.exC T.tyC) I sz kk un2 hok2 os2 bare2 ea ed hd1 q2⟩
    | next => exact False.elim hq'
    | brk => exact False.elim hq'
    | cont => exact False.elim hq'
/-! ### what the text says of an exception class, as a Bool -/
def oexB (K : PySem.W.Frag) (C : Addr) : Bool :=
  (match K.lookup C with
  | some ⟨.type c, _, .cls cd, sl⟩ => decide (c = "type") && (match cd.mro, sl.toList with
    | .ref C' :: bm, [_, _, _, _, some (.builtin n), _] => decide (C' = C) && (decide (n = "ValueError.__new__") && (!cd.hasDel && (cd.hasDict && PySem.HandSPX.refsVE bm)))
    | _, _ => false)
  | _ => false) && (decide (PySem.W.findIn K (.ref C) "__setattr__" = some (some (.builtin "object.__setattr__"))) && (decide (PySem.W.subIn K (.ref C) (.type "BaseException") = some true) && (decide (PySem.W.typeIn K (.ref C) = some (.type "type")) && PySem.W.keepIn K (.ref C))))
theorem oexB_ok {K : PySem.W.Frag} {C : Addr} (h : oexB K C = true) : OexC K C := by
  unfold oexB at h
  obtain ⟨h1, h⟩ := Bool.and_eq_true_iff.mp h
  obtain ⟨h2, h⟩ := Bool.and_eq_true_iff.mp h
  obtain ⟨h3, h⟩ := Bool.and_eq_true_iff.mp h
  obtain ⟨h4, h5⟩ := Bool.and_eq_true_iff.mp h
  refine ⟨?_, of_decide_eq_true h2, of_decide_eq_true h3, of_decide_eq_true h4, h5⟩
  cases e : K.lookup C with
  | none => rw [e] at h1; cases h1
  | some o =>
    obtain ⟨oc, od, dt, sl⟩ := o
    rw [e] at h1
    cases oc with
    | type c =>
      cases dt with
      | cls cd =>
        obtain ⟨g1, g2⟩ := Bool.and_eq_true_iff.mp h1
        have e1 := of_decide_eq_true g1
        subst e1
        obtain ⟨nm, bs, mro, ns, qn, hd, sn, sub, ab, col, del⟩ := cd
        obtain ⟨l⟩ := sl
        dsimp only at g2
        split at g2
        · rename_i C' bm k0 k1 k2 k3 n k5
          obtain ⟨a1, g2⟩ := Bool.and_eq_true_iff.mp g2
          obtain ⟨a2, g2⟩ := Bool.and_eq_true_iff.mp g2
          obtain ⟨a3, g2⟩ := Bool.and_eq_true_iff.mp g2
          obtain ⟨a4, a5⟩ := Bool.and_eq_true_iff.mp g2
          have b1 := of_decide_eq_true a1
          have b2 := of_decide_eq_true a2
          have b3 : del = false := by simpa using a3
          subst b1 b2 b3 a4
          exact ⟨_, _, _, _, _, _, _, _, _, _, _, _, _, _, _, rfl, a5⟩
        · cases g2
      | _ => cases h1
    | _ => cases dt <;> cases h1
def clsFnB (K : PySem.W.Frag) (C f : Addr) (m : Str) : Bool := PySem.W.readsIn K C (.type "type") && (decide (PySem.W.specialIn K (.ref C) "__getattribute__" = some (some (.builtin "type.__getattribute__"))) &&
  ((match PySem.W.findCls K (.ref C) (.type "type") m with | some (.val v) => decide (v = .ref f) | _ => false) && PySem.W.keepIn K (.ref f)))
theorem clsFnB_ok {K : PySem.W.Frag} {C f : Addr} {m : Str} (h : clsFnB K C f m = true) : ClsFn K C f m := by
  unfold clsFnB at h
  obtain ⟨h1, h⟩ := Bool.and_eq_true_iff.mp h
  obtain ⟨h2, h⟩ := Bool.and_eq_true_iff.mp h
  obtain ⟨h3, h4⟩ := Bool.and_eq_true_iff.mp h
  refine ⟨h1, of_decide_eq_true h2, ?_, h4⟩
  split at h3
  · rename_i v e
    rw [e, of_decide_eq_true h3]
  · cases h3
/-- all that is wanted of an exception class by its name; fs: the names of its fields -/
structure ExcX (K : PySem.W.Frag) (mg : Str → Option Value) (x : Str) (fs : List Str) : Prop where
  g : mg x = some (.ref (He.ga K x))
  oex : OexC K (He.ga K x)
  xf : XfC K (He.ga K x)
  no : ∀ f ∈ fs, PySem.W.findIn K (.ref (He.ga K x)) f = some none
  init : PySem.W.findIn K (.ref (He.ga K x)) "__init__" = some (some (.ref (He.ma K (He.ga K x) "__init__")))
  tI : PySem.W.typeIn K (.ref (He.ma K (He.ga K x) "__init__")) = some (.type "function")
  cf : ClsFn K (He.ga K x) (He.ma K (He.ga K x) "__init__") "__init__"
def excXB (K : PySem.W.Frag) (x : Str) (fs : List Str) : Bool := oexB K (He.ga K x) && (xfB K (He.ga K x) && (fs.all (fun f => decide (PySem.W.findIn K (.ref (He.ga K x)) f = some none)) &&
  (decide (PySem.W.findIn K (.ref (He.ga K x)) "__init__" = some (some (.ref (He.ma K (He.ga K x) "__init__")))) && (decide (PySem.W.typeIn K (.ref (He.ma K (He.ga K x) "__init__")) = some (.type "function")) && clsFnB K (He.ga K x) (He.ma K (He.ga K x) "__init__") "__init__"))))
theorem excXB_ok {K : PySem.W.Frag} {mg : Str → Option Value} {x : Str} {fs : List Str} (g : mg x = some (.ref (He.ga K x))) (h : excXB K x fs = true) : ExcX K mg x fs := by
  unfold excXB at h
  obtain ⟨h1, h⟩ := Bool.and_eq_true_iff.mp h
  obtain ⟨h2, h⟩ := Bool.and_eq_true_iff.mp h
  obtain ⟨h3, h⟩ := Bool.and_eq_true_iff.mp h
  obtain ⟨h4, h⟩ := Bool.and_eq_true_iff.mp h
  obtain ⟨h5, h6⟩ := Bool.and_eq_true_iff.mp h
  exact ⟨g, oexB_ok h1, xfB_ok h2, fun f hf => of_decide_eq_true (List.all_eq_true.mp h3 f hf), of_decide_eq_true h4, of_decide_eq_true h5, clsFnB_ok h6⟩
def veB (K : PySem.W.Frag) : Bool := match PySem.W.findCls K (.type "ValueError") (.type "type") "__init__" with | some (.val v) => decide (v = .builtin "ValueError.__init__") | _ => false
theorem veB_ok {K : PySem.W.Frag} (h : veB K = true) : PySem.W.findCls K (.type "ValueError") (.type "type") "__init__" = some (.val (.builtin "ValueError.__init__")) := by
  unfold veB at h
  split at h
  · rename_i v e
    rw [e, of_decide_eq_true h]
  · cases h
end DW
namespace DW
open PySem L2
/-! ### methods by class and name -/
structure FnM (P : Program) (w : World) (K : PySem.W.Frag) (mg : Str → Option Value) (base : Heap) (CX : CXT) (k : Nat) (x m : Str) (ps : List Str) (sp : Sp) : Prop where
  ok : ∃ fd, FnOk P w K mg base CX k (He.ma K (He.ga K x) m) fd ps sp ∧ Binds K fd ps []
section
variable {X : Cx} {CX : CXT} {k : Nat} {ps : List Str} {sp : Sp} {E : XK} {x : Str} {fs : List Str} {p p1 p2 pos : Pos} {e : Expr} {es : List Expr} {ta t : TA}
/-- C.__init__(self, ..) -/
theorem pe_init {pl : Sem Bool} (c : ExcX X.K X.mg x fs) (F : FnM X.prog X.w X.K X.mg X.base CX k x "__init__" ps sp) (hr : Room k X.A) (hg : Gl X x) (hx : Passes CX X E) (ha : PA X (e :: es) t) (hdb : (x == ("__debug__" : Str)) = false := by decide)
    (hc : eval (.Call (.Attribute (.Name x p1) "__init__" p2) (e :: es) [] pos) X.env = (do
      let ov ← eval (.Name x p1) X.env
      standAt p2.atName
      let (f, first) ← holding [ov] (getMethod ov "__init__" pl)
      callWith pos f first (backTo pos (starEach (e :: es) X.env)) (backToKw pos (keywordEach [] X.env))) := by rfl)
    (he : starEach (e :: es) X.env = (false, eval e X.env) :: starEach es X.env := by rfl) (hpl : (backTo pos (starEach es X.env)).any (·.1) = false := by rfl) :
    PE X (.Call (.Attribute (.Name x p1) "__init__" p2) (e :: es) [] pos) (tCall sp [] E t) := by
  obtain ⟨fd, G, hb⟩ := F.ok
  exact pe_clsfn (pl := pl) c.cf G hb hr hg c.g hx ha hdb hc he hpl
theorem pmk_x0 (c : ExcX X.K X.mg x fs) (F : FnM X.prog X.w X.K X.mg X.base CX0 k x "__init__" ps sp) (hr : Room (k + 1) X.A) (hg : Gl X x) (hdb : (x == ("__debug__" : Str)) = false := by decide) : PMk X (.Call (.Name x p) [] [] pos) (tMkO0 (He.ga X.K x) sp) := by
  obtain ⟨fd, G, hb⟩ := F.ok
  exact pmk_oex0 c.oex c.init c.tI G hr hb pass0 hg c.g hdb
theorem pmk_x (c : ExcX X.K X.mg x fs) (F : FnM X.prog X.w X.K X.mg X.base CX0 k x "__init__" ps sp) (hr : Room (k + 1) X.A) (hg : Gl X x) (ha : PA X (e :: es) ta) (hdb : (x == ("__debug__" : Str)) = false := by decide)
    (he : starEach (e :: es) X.env = (false, eval e X.env) :: starEach es X.env := by rfl) (hpl : (backTo pos (starEach es X.env)).any (·.1) = false := by rfl) : PMk X (.Call (.Name x p) (e :: es) [] pos) (tMkO (He.ga X.K x) sp [] ta) := by
  obtain ⟨fd, G, hb⟩ := F.ok
  exact pmk_oex c.oex c.init c.tI G hr hb .nil pass0 hg c.g ha hdb he hpl
theorem pe_fnS {ps : List Str} {dvs : List V} {ES : St → XK} (F : Fn X.prog X.w X.K X.mg X.base CX k x ps dvs sp) (hr : Room k X.A) (hg : Gl X x) (hx : ∀ σ, PassesAt CX X σ (ES σ)) (ha : PA X (e :: es) t)
    (hdb : (x == ("__debug__" : Str)) = false := by decide) (he : starEach (e :: es) X.env = (false, eval e X.env) :: starEach es X.env := by rfl) (hpl : (backTo pos (starEach es X.env)).any (·.1) = false := by rfl) :
    PE X (.Call (.Name x p) (e :: es) [] pos) (tCallSD sp dvs ES t) := by
  obtain ⟨fd, ds, G, hd, hb⟩ := F.ok
  exact pe_callSD G hr hg F.g F.kp hb hd hx ha hdb he hpl
end
/-- raise: the wish E -/
def tRaiseE (E : XK) (t : St → Hp → XK → Prop) : TS := fun _ σ H => t σ H fun cls d H' => E cls d H'
/-- raise in a try's body: the wish W -/
def tRaiseW (W : WX) (t : St → Hp → XK → Prop) : TS := fun _ σ H => t σ H fun cls d H' => W cls d σ H'
/-- e.f in an except suite, whatever e's class -/
def tXfA (K : PySem.W.Frag) (a : Addr) (cls : Value) (d : Option Addr) (f : Str) (te : TE) : TE := fun σ H Q => ∃ C, cls = .ref C ∧ XfC K C ∧ PySem.W.findIn K (.ref C) f = some none ∧ tXf a cls d C f te σ H Q
theorem pe_xfA {X : Cx} {a : Addr} {oe : Obj} {cls : Value} {d : Option Addr} {pn : List (Addr × Obj)} {e : Expr} {te : TE} {pos : Pos} {n : Str} (hz : Zc cls d oe) (hf : ∃ vs, oe.data = .fields vs) (he : PE (X.suite a ((a, oe) :: pn)) e te)
    (hb : attributeBase e n X.env (eval e X.env) = eval e X.env := by rfl) : PE (X.suite a ((a, oe) :: pn)) (.Attribute e n pos) (tXfA X.K a cls d n te) :=
  ⟨fun pins s σ H Q I ⟨_, _, T, hno, h⟩ => (pe_xf T hno hz hf he hb).run pins s σ H Q I h⟩
/-! ### steps -/
section
variable {K : PySem.W.Frag} {σ : St} {H H' : Hp} {Q : VK} {N B C : St → Hp → Prop} {R : VK} {sp : Sp} {dvs : List V} {ES : St → XK} {tr : TA} {te : TE} {E : XK} {W : WX} {tm : St → Hp → XK → Prop} {QX : XK} {x : Str} {fs : List Str} {mg : Str → Option Value}
theorem d_callS (h : tr σ H fun vs H1 => sp (vs ++ dvs) H1 Q (ES σ)) : tCallSD sp dvs ES tr σ H Q := h
theorem s_raiseE (h : tm σ H E) : tRaiseE E tm ⟨N, R, B, C⟩ σ H := h
theorem s_raiseW (h : tm σ H fun cls d H' => W cls d σ H') : tRaiseW W tm ⟨N, R, B, C⟩ σ H := h
/-- what an exception's __init__ promises: its fields -/
def spInitAt (K : PySem.W.Frag) (a : Addr) (H : Hp) (Q : VK) (fl : List (Str × V)) : Prop := ∃ C, H a = some (exo a C none) ∧ OexC K C ∧ (∀ f ∈ fl.map (·.1), PySem.W.findIn K (.ref C) f = some none) ∧
  ∀ dx, H dx = none → dx ≠ a → Q .non (upd (upd H dx (exd dx fl)) a (exo a C (some dx)))
theorem mk_heap {H : Hp} {a d : Addr} {o o1 o2 o3 : HO} (ha : H a = none) (hd : d ≠ a) : upd (del (upd (upd (upd H a o) d o1) a o2) a) d o3 = upd H d o3 := by
  funext b
  by_cases h1 : b = d
  · subst h1; rw [upd_same, upd_same]
  · rw [upd_ne h1, upd_ne h1]
    by_cases h2 : b = a
    · subst h2; rw [del_same, ha]
    · rw [del_ne h2, upd_ne h2, upd_ne h1, upd_ne h2]
/-- X() is made and raised -/
theorem mk0_of (c : ExcX K mg x fs) {fl : List (Str × V)} (hsp : ∀ a H1 Q1 E1, spInitAt K a H1 Q1 fl → sp [.ref a] H1 Q1 E1) (hfl : ∀ f ∈ fl.map (·.1), f ∈ fs) (q : ∀ d H', H d = none → Fr K [] H H' → H' d = some (.xd fl) → QX (.ref (He.ga K x)) (some d) H') : tMkO0 (He.ga K x) sp σ H QX := by
  intro a ha
  refine hsp a _ _ _ ⟨_, upd_same, c.oex, fun f hf => c.no f (hfl f hf), fun dx hdx hne => ⟨rfl, dx, fl, upd_same, ?_, ?_, ?_⟩⟩
  · rw [upd_ne hne, upd_same]
  · rw [upd_ne hne] at hdx; exact hdx
  · rw [upd_ne hne] at hdx
    rw [mk_heap ha hne]
    exact q dx _ hdx (Fr.new hdx) upd_same
/-- X(v, ..) -/
theorem mk_of (c : ExcX K mg x fs) {fl : List (Str × V)} {vs : List V} (hsp : ∀ a H1 Q1 E1, spInitAt K a H1 Q1 fl → sp (.ref a :: vs) H1 Q1 E1) (hl : vs.length ≤ 1000) (hfl : ∀ f ∈ fl.map (·.1), f ∈ fs) (q : ∀ d H', H d = none → Fr K [] H H' → H' d = some (.xd fl) → QX (.ref (He.ga K x)) (some d) H') :
    vs.length ≤ 1000 ∧ ∀ a, H a = none → sp (.ref a :: (vs ++ [])) (upd H a (exo a (He.ga K x) none))
      (fun v H2 => v = .non ∧ ∃ (d : Addr) (fl : List (Str × V)), H2 a = some (exo a (He.ga K x) (some d)) ∧ H2 d = some (exd d fl) ∧ H d = none ∧ QX (.ref (He.ga K x)) (some d) (upd (del H2 a) d (.xd fl))) (fun _ _ _ => False) := by
  refine ⟨hl, fun a ha => ?_⟩
  rw [List.append_nil]
  refine hsp a _ _ _ ⟨_, upd_same, c.oex, fun f hf => c.no f (hfl f hf), fun dx hdx hne => ⟨rfl, dx, fl, upd_same, ?_, ?_, ?_⟩⟩
  · rw [upd_ne hne, upd_same]
  · rw [upd_ne hne] at hdx; exact hdx
  · rw [upd_ne hne] at hdx
    rw [mk_heap ha hne]
    exact q dx _ hdx (Fr.new hdx) upd_same
end
end DW
namespace DW
def allT : List Bool → Bool
  | [] => true
  | b :: r => b && allT r
theorem allT_get : ∀ {l : List Bool}, allT l = true → ∀ (i : Nat) {b : Bool}, l[i]? = some b → b = true
  | [], _, i, _, e => by simp at e
  | c :: r, h, 0, b, e => by
    obtain ⟨h1, _⟩ := Bool.and_eq_true_iff.mp (show (c && allT r) = true from h)
    have e2 : c = b := Option.some.inj e
    rw [← e2]; exact h1
  | c :: r, h, i + 1, b, e => allT_get (Bool.and_eq_true_iff.mp (show (c && allT r) = true from h)).2 i (show r[i]? = some b from e)
end DW
namespace DW
open PySem L2
/-- try: .. except c as (slot i): .. , nothing else is let out -/
def tTry (K : PySem.W.Frag) (c : Value) (i : Nat) (tb : WX → TS) (ts : Addr → Value → Option Addr → TS) : TS := fun D σ H => tb (wAs K c i ts (fun _ _ _ _ => False) D) D σ H
section
variable {K : PySem.W.Frag} {σ : St} {H H' : Hp} {Q : VK} {N B C : St → Hp → Prop} {R : VK} {c cls : Value} {i : Nat} {tb : WX → TS} {ts : Addr → Value → Option Addr → TS} {Wout : WX} {d : Option Addr} {x f : Str} {fs : List Str} {mg : Str → Option Value} {v : V} {fl : List (Str × V)} {a dd : Addr}
theorem s_try (h : tb (wAs K c i ts (fun _ _ _ _ => False) ⟨N, R, B, C⟩) ⟨N, R, B, C⟩ σ H) : tTry K c i tb ts ⟨N, R, B, C⟩ σ H := h
theorem w_caught (em : PySem.W.exmOne K cls c = some true) (h : ∀ a, H a = none → ts a cls d ⟨fun σ' H' => N (σ'.set i none) H', R, fun σ' H' => B (σ'.set i none) H', fun σ' H' => C (σ'.set i none) H'⟩ (σ.set i (some (.ref a))) H) : WE (wAs K c i ts Wout ⟨N, R, B, C⟩) σ cls d H :=
  ⟨true, em, fun _ => h, fun z => nomatch z⟩
theorem d_xf (c : ExcX K mg x fs) (hf : f ∈ fs) (hs : σ[i]? = some (some (.ref a))) (hd : H dd = some (.xd fl)) (hl : fl.lookup f = some v) (q : Q v H) : tXfA K a (.ref (He.ga K x)) (some dd) f (tVar i) σ H Q :=
  ⟨_, rfl, c.xf, c.no f hf, _, hs, rfl, rfl, dd, fl, v, rfl, hd, hl, q⟩
end
end DW
/-! ### the head's facts: defs, globals, and Bools of one's own; the part of the heap holds the statics too -/
namespace DW
open PySem L2
def asE (g : Addr → Option Obj) (n : Nat) : List Addr := He.asD g n ++ [cStatics]
abbrev AlE : Type := He.AlD × Bool
def obsK (fa : List He.Fa) (fn : List He.DefD) (ex : PySem.W.Frag → Bool) (K : PySem.W.Frag) : AlE := (He.obsD fa fn K, ex K)
def obsE (n : Nat) (fa : List He.Fa) (fn : List He.DefD) (ex : PySem.W.Frag → Bool) (g : Addr → Option Obj) : AlE := obsK fa fn ex (He.frG g (asE g n))
structure SaysE (fa : List He.Fa) (fn : List He.DefD) (ex : PySem.W.Frag → Bool) (K : PySem.W.Frag) : Prop where
  d : He.SaysD fa fn K
  more : ex K = true
def hookE (n : Nat) (fa : List He.Fa) (fn : List He.DefD) (ex : PySem.W.Frag → Bool) : PySem.W.Hook where
  α := AlE
  obs := fun s => obsE n fa fn ex s.heap.get?
  val := fun _ => (He.valD fn, true)
  says := fun _ h => ∃ K : PySem.W.Frag, K.In h ∧ SaysE fa fn ex K
  of := fun _ _ e => ⟨_, He.frG_in, ⟨congrArg (fun z : AlE => z.1) e, congrArg (fun z : AlE => z.2) e⟩⟩
  keeps := fun _ _ _ ⟨K, hK, c⟩ k => ⟨K, PySem.W.Frag.In.keeps hK k, c⟩
theorem obsE_eq {n : Nat} {fa : List He.Fa} {fn : List He.DefD} {ex : PySem.W.Frag → Bool} {g : Addr → Option Obj} {s : Shared} (h : ∀ a, g a = s.heap.get? a) : obsE n fa fn ex g = (hookE n fa fn ex).obs s := by
  have e : g = s.heap.get? := funext h
  rw [e]
  rfl
end DW
open DW
/-- the steps that no fact is wanted for -/
local macro_rules | `(tactic| walk_at "dw") => `(tactic| first
  | ((with_reducible refine d_var (v := ?vv) ?hh ?qq); (case hh => exact rfl))
  | with_reducible first
  | refine s_seq ?_ | refine s_asg ?_ | refine s_ret ?_ | refine s_if ?_ | refine s_drop ?_ | refine s_next ?_ | refine s_par ?_ | refine s_park ?_
  | refine d_c ?_ | refine d_op ?_ | refine d_un ?_ | refine d_call ?_ | refine d_cb ?_ | refine d_cons ?_ | refine d_nil ?_ | refine d_tup ?_ | refine d_lst ?_
  | refine d_plus ?_ | refine d_i0 ?_ | refine d_neg ?_ | refine d_abs ?_ | refine d_min2 ?_ | refine d_max2 ?_ | refine d_int1b ?_
  | refine d_eqI ?_ | refine d_neI ?_ | refine d_eqS ?_ | refine d_neS ?_ | refine d_eqB ?_ | refine d_neB ?_
  | refine t_test ?_ | refine t_tstk ?_ | refine t_tru ?_ | refine t_truB ?_ | refine t_truI ?_ | refine t_truN ?_ | refine t_and ?_ | refine t_or ?_ | refine t_not ?_
  | refine d_andV ?_ | refine d_orV ?_ | refine d_notV ?_ | refine d_andk ?_ | refine d_ork ?_ | refine d_notk ?_ | refine d_if ?_ | refine d_chain ?_ | refine d_chk ?_
  | refine if_t ?_ | refine if_f ?_ | refine if_nt ?_ | refine if_nf ?_ | refine s_for ?_ | refine i_tup ?_ | refine i_list ?_ | refine i_rng1 ?_ | refine i_rng2 ?_ | refine s_cont ?_ | refine s_brk ?_ | refine s_retN ?_
  | refine d_isNn ?_ | refine d_notNn ?_ | refine d_sl ?_ | refine d_nopart ?_ | refine d_part ?_ | refine d_ixk ?_ | refine s_try ?_ | refine d_callS ?_)
/-- a datum that stood in an earlier heap stands here -/
local macro_rules | `(tactic| walk_at "tp1") => `(tactic| first
  | (with_reducible assumption) | (with_reducible exact Tp.int _) | (with_reducible exact Tp.bl _) | (with_reducible exact Tp.str _) | (with_reducible exact Tp.non)
  | (with_reducible exact Tp.up (by assumption) (by walk_at "tp1")))
local macro_rules | `(tactic| walk_at "tp") => `(tactic| first
  | walk_at "tp1" | (with_reducible exact TpAll.nil)
  | (with_reducible exact TpAll.cons (by walk_at "tp1") TpAll.nil)
  | (with_reducible exact TpAll.cons (by walk_at "tp1") (TpAll.cons (by walk_at "tp1") TpAll.nil))
  | (with_reducible exact TpAll.cons (by walk_at "tp1") (TpAll.cons (by walk_at "tp1") (TpAll.cons (by walk_at "tp1") TpAll.nil)))
  | (with_reducible exact TpAll.cons (by walk_at "tp1") (TpAll.cons (by walk_at "tp1") (TpAll.cons (by walk_at "tp1") (TpAll.cons (by walk_at "tp1") TpAll.nil))))
  | (with_reducible exact TpAll.cons (by walk_at "tp1") (TpAll.cons (by walk_at "tp1") (TpAll.cons (by walk_at "tp1") (TpAll.cons (by walk_at "tp1") (TpAll.cons (by walk_at "tp1") TpAll.nil)))))
  | (with_reducible exact TpAll.cons (by walk_at "tp1") (TpAll.cons (by walk_at "tp1") (TpAll.cons (by walk_at "tp1") (TpAll.cons (by walk_at "tp1") (TpAll.cons (by walk_at "tp1") (TpAll.cons (by walk_at "tp1") TpAll.nil)))))))
/-- a chain of heaps -/
local macro_rules | `(tactic| walk_at "fr") => `(tactic| first
  | (with_reducible assumption)
  | (with_reducible exact Fr.on (by assumption) (by walk_at "fr")))
/-- steps that want a datum -/
local macro_rules | `(tactic| walk_at "dd") => `(tactic| first
  | walk_at "dw"
  | ((with_reducible refine' d_ixTJ ?h1 ?h2 ?h3); (case h1 => walk_at "tp"); (case h2 => exact rfl))
  | ((with_reducible refine' d_isiT ?h1 ?h2); (case h1 => walk_at "tp")) | (with_reducible refine d_isiI ?_) | (with_reducible refine d_isiIB ?_)
  | ((with_reducible refine' d_lenT ?h1 ?h2); (case h1 => walk_at "tp")) | ((with_reducible refine' d_isNT ?h1 ?h2); (case h1 => walk_at "tp")) | ((with_reducible refine' d_notNT ?h1 ?h2); (case h1 => walk_at "tp"))
  | ((with_reducible refine' d_neSame ?h1 ?h2 ?h3 ?h4); (case h1 => walk_at "tp"); (case h2 => walk_at "tp"); (case h3 => rfl))
  | ((with_reducible refine' d_eqSame ?h1 ?h2 ?h3 ?h4); (case h1 => walk_at "tp"); (case h2 => walk_at "tp"); (case h3 => rfl))
  | ((with_reducible refine' d_tupk (K := by assumption) ?h1 ?h2 ?h3); (case h1 => walk_at "tp"); (case h2 => exact Nat.le_of_ble_eq_true rfl); intro v' H' e' h'))
namespace Prf
open PySem L2 DW
def topS (i : Nat) : Stmt := PySem.Challenge.pw_dialweir_k02_fractions_reckoned.main.body.getD i (.Pass ⟨0, 0, 0, 0⟩)
abbrev s_WeirError_UinitU : Stmt := inClass (topS 1) 0
abbrev s_FormError_UinitU : Stmt := inClass (topS 2) 0
abbrev s_NoFraction_UinitU : Stmt := inClass (topS 3) 0
abbrev s_common : Stmt := topS 5
abbrev s_frac : Stmt := topS 6
abbrev s_plus : Stmt := topS 7
abbrev s_less : Stmt := topS 8
abbrev s_times : Stmt := topS 9
abbrev s_over : Stmt := topS 10
abbrev s_before : Stmt := topS 11
abbrev s_Lfeed : Stmt := topS 13
abbrev s_Ldraw : Stmt := topS 14
abbrev s_Lwhole : Stmt := topS 15
abbrev s_Lsays : Stmt := topS 16
abbrev s_Lgcd : Stmt := topS 17
abbrev s_Lfrac : Stmt := topS 18
abbrev s_Lplus : Stmt := topS 19
abbrev s_Lless : Stmt := topS 20
abbrev s_Ltimes : Stmt := topS 21
abbrev s_Llt : Stmt := topS 22
abbrev s_Lis_pair : Stmt := topS 23
abbrev s_Lis_frac : Stmt := topS 24
abbrev s_Lsome_frac : Stmt := topS 25
abbrev s_law : Stmt := topS 26
structure Tx (K : PySem.W.Frag) (mg : Str → Option Value) : Prop where
  d_WeirError_UinitU : ∃ fd, FunD K "__init__" "WeirError.__init__" (defArgs s_WeirError_UinitU) (defBody s_WeirError_UinitU) (defScope s_WeirError_UinitU) [] [] (He.ma K (He.ga K "WeirError") "__init__") fd
  d_FormError_UinitU : ∃ fd, FunD K "__init__" "FormError.__init__" (defArgs s_FormError_UinitU) (defBody s_FormError_UinitU) (defScope s_FormError_UinitU) [] [] (He.ma K (He.ga K "FormError") "__init__") fd
  d_NoFraction_UinitU : ∃ fd, FunD K "__init__" "NoFraction.__init__" (defArgs s_NoFraction_UinitU) (defBody s_NoFraction_UinitU) (defScope s_NoFraction_UinitU) [] [] (He.ma K (He.ga K "NoFraction") "__init__") fd
  g_common : mg "common" = some (.ref (He.ga K "common"))
  d_common : ∃ fd, FunD K "common" "common" (defArgs s_common) (defBody s_common) (defScope s_common) [] [] (He.ga K "common") fd
  g_frac : mg "frac" = some (.ref (He.ga K "frac"))
  d_frac : ∃ fd, FunD K "frac" "frac" (defArgs s_frac) (defBody s_frac) (defScope s_frac) [.int 1] [] (He.ga K "frac") fd
  g_plus : mg "plus" = some (.ref (He.ga K "plus"))
  d_plus : ∃ fd, FunD K "plus" "plus" (defArgs s_plus) (defBody s_plus) (defScope s_plus) [] [] (He.ga K "plus") fd
  g_less : mg "less" = some (.ref (He.ga K "less"))
  d_less : ∃ fd, FunD K "less" "less" (defArgs s_less) (defBody s_less) (defScope s_less) [] [] (He.ga K "less") fd
  g_times : mg "times" = some (.ref (He.ga K "times"))
  d_times : ∃ fd, FunD K "times" "times" (defArgs s_times) (defBody s_times) (defScope s_times) [] [] (He.ga K "times") fd
  g_over : mg "over" = some (.ref (He.ga K "over"))
  d_over : ∃ fd, FunD K "over" "over" (defArgs s_over) (defBody s_over) (defScope s_over) [] [] (He.ga K "over") fd
  g_before : mg "before" = some (.ref (He.ga K "before"))
  d_before : ∃ fd, FunD K "before" "before" (defArgs s_before) (defBody s_before) (defScope s_before) [] [] (He.ga K "before") fd
  g_Lfeed : mg "_law_feed" = some (.ref (He.ga K "_law_feed"))
  d_Lfeed : ∃ fd, FunD K "_law_feed" "_law_feed" (defArgs s_Lfeed) (defBody s_Lfeed) (defScope s_Lfeed) [] [] (He.ga K "_law_feed") fd
  g_Ldraw : mg "_law_draw" = some (.ref (He.ga K "_law_draw"))
  d_Ldraw : ∃ fd, FunD K "_law_draw" "_law_draw" (defArgs s_Ldraw) (defBody s_Ldraw) (defScope s_Ldraw) [] [] (He.ga K "_law_draw") fd
  g_Lwhole : mg "_law_whole" = some (.ref (He.ga K "_law_whole"))
  d_Lwhole : ∃ fd, FunD K "_law_whole" "_law_whole" (defArgs s_Lwhole) (defBody s_Lwhole) (defScope s_Lwhole) [] [] (He.ga K "_law_whole") fd
  g_Lsays : mg "_law_says" = some (.ref (He.ga K "_law_says"))
  d_Lsays : ∃ fd, FunD K "_law_says" "_law_says" (defArgs s_Lsays) (defBody s_Lsays) (defScope s_Lsays) [] [] (He.ga K "_law_says") fd
  g_Lgcd : mg "_law_gcd" = some (.ref (He.ga K "_law_gcd"))
  d_Lgcd : ∃ fd, FunD K "_law_gcd" "_law_gcd" (defArgs s_Lgcd) (defBody s_Lgcd) (defScope s_Lgcd) [] [] (He.ga K "_law_gcd") fd
  g_Lfrac : mg "_law_frac" = some (.ref (He.ga K "_law_frac"))
  d_Lfrac : ∃ fd, FunD K "_law_frac" "_law_frac" (defArgs s_Lfrac) (defBody s_Lfrac) (defScope s_Lfrac) [] [] (He.ga K "_law_frac") fd
  g_Lplus : mg "_law_plus" = some (.ref (He.ga K "_law_plus"))
  d_Lplus : ∃ fd, FunD K "_law_plus" "_law_plus" (defArgs s_Lplus) (defBody s_Lplus) (defScope s_Lplus) [] [] (He.ga K "_law_plus") fd
  g_Lless : mg "_law_less" = some (.ref (He.ga K "_law_less"))
  d_Lless : ∃ fd, FunD K "_law_less" "_law_less" (defArgs s_Lless) (defBody s_Lless) (defScope s_Lless) [] [] (He.ga K "_law_less") fd
  g_Ltimes : mg "_law_times" = some (.ref (He.ga K "_law_times"))
  d_Ltimes : ∃ fd, FunD K "_law_times" "_law_times" (defArgs s_Ltimes) (defBody s_Ltimes) (defScope s_Ltimes) [] [] (He.ga K "_law_times") fd
  g_Llt : mg "_law_lt" = some (.ref (He.ga K "_law_lt"))
  d_Llt : ∃ fd, FunD K "_law_lt" "_law_lt" (defArgs s_Llt) (defBody s_Llt) (defScope s_Llt) [] [] (He.ga K "_law_lt") fd
  g_Lis_pair : mg "_law_is_pair" = some (.ref (He.ga K "_law_is_pair"))
  d_Lis_pair : ∃ fd, FunD K "_law_is_pair" "_law_is_pair" (defArgs s_Lis_pair) (defBody s_Lis_pair) (defScope s_Lis_pair) [] [] (He.ga K "_law_is_pair") fd
  g_Lis_frac : mg "_law_is_frac" = some (.ref (He.ga K "_law_is_frac"))
  d_Lis_frac : ∃ fd, FunD K "_law_is_frac" "_law_is_frac" (defArgs s_Lis_frac) (defBody s_Lis_frac) (defScope s_Lis_frac) [] [] (He.ga K "_law_is_frac") fd
  g_Lsome_frac : mg "_law_some_frac" = some (.ref (He.ga K "_law_some_frac"))
  d_Lsome_frac : ∃ fd, FunD K "_law_some_frac" "_law_some_frac" (defArgs s_Lsome_frac) (defBody s_Lsome_frac) (defScope s_Lsome_frac) [] [] (He.ga K "_law_some_frac") fd
  g_law : mg "law" = some (.ref (He.ga K "law"))
  d_law : ∃ fd, FunD K "law" "law" (defArgs s_law) (defBody s_law) (defScope s_law) [] [] (He.ga K "law") fd
  m_ValueError : mg "ValueError" = none
  m_abs : mg "abs" = none
  m_bool : mg "bool" = none
  m_int : mg "int" = none
  m_isinstance : mg "isinstance" = none
  m_len : mg "len" = none
  m_list : mg "list" = none
  m_tuple : mg "tuple" = none
  x_WeirError : DW.ExcX K mg "WeirError" ["word"]
  x_FormError : DW.ExcX K mg "FormError" ["word"]
  x_NoFraction : DW.ExcX K mg "NoFraction" ["word"]
  e_WeirError_NoFraction : PySem.W.exmOne K (.ref (He.ga K "WeirError")) (.ref (He.ga K "NoFraction")) = some false
  e_FormError_NoFraction : PySem.W.exmOne K (.ref (He.ga K "FormError")) (.ref (He.ga K "NoFraction")) = some false
  e_NoFraction_NoFraction : PySem.W.exmOne K (.ref (He.ga K "NoFraction")) (.ref (He.ga K "NoFraction")) = some true
  ve : PySem.W.findCls K (.type "ValueError") (.type "type") "__init__" = some (.val (.builtin "ValueError.__init__"))
/-! ## WeirError.__init__ -/
theorem sc_WeirError_UinitU : FnScope ["self", "word"] ["self", "word"] (defScope s_WeirError_UinitU) := ⟨rfl, rfl, rfl, by decide +kernel, rfl, by decide +kernel, by decide +kernel⟩
def t_WeirError_UinitU (K : PySem.W.Frag) : TS :=
  (tSeq (tDrop (tVeI K (tCons (tVar 0) (tCons (tVar 1) tNil))))
    (tOst K "word" (tVar 0) (tVar 1)))
def sp_WeirError_UinitU (K : PySem.W.Frag) : Sp := fun vs H Q _ => ∃ (a : Addr) (w : V), vs = [.ref a, w] ∧ spInitAt K a H Q [("word", w)]
theorem len_WeirError_UinitU (K : PySem.W.Frag) (vs : List V) (H : Hp) (Q : VK) (E : XK) (h : sp_WeirError_UinitU K vs H Q E) : vs.length = 2 := by
  obtain ⟨a, w, rfl, _⟩ := h; rfl
theorem pure_WeirError_UinitU (K : PySem.W.Frag) (vs : List V) (H : Hp) (Q : VK) (E : XK) (h : sp_WeirError_UinitU K vs H Q E) : t_WeirError_UinitU K ⟨fun _ H' => Q .non H', Q, fun _ _ => False, fun _ _ => False⟩ (start ["self", "word"] vs) H := by
  obtain ⟨a, w, rfl, C, ha, hC, hn, k⟩ := h
  show t_WeirError_UinitU K _ [some (.ref a), some w] H
  unfold t_WeirError_UinitU
  refine ⟨_, rfl, _, rfl, a, C, _, rfl, Nat.le_of_ble_eq_true rfl, hC, ha, ?_⟩
  exact ⟨_, rfl, _, rfl, a, C, rfl, hC, hn "word" (by simp), .inl ⟨ha, k⟩⟩
theorem fk_WeirError_UinitU {P : Program} {w : World} {K : PySem.W.Frag} {mg : Str → Option Value} {base : Heap} (T : Tx K mg) {fd : FuncData}
    (F : FunD K "__init__" "WeirError.__init__" (defArgs s_WeirError_UinitU) (defBody s_WeirError_UinitU) (defScope s_WeirError_UinitU) [] [] (He.ma K (He.ga K "WeirError") "__init__") fd) :
    FnOk P w K mg base CX0 1 (He.ma K (He.ga K "WeirError") "__init__") fd ["self", "word"] (sp_WeirError_UinitU K) := by
  refine F.ok sc_WeirError_UinitU (len_WeirError_UinitU K) (fun cdv A outer s H vs Q E hr h => ⟨t_WeirError_UinitU K, PSs.nox ?_, pure_WeirError_UinitU K vs H Q E h⟩)
  exact (pss_cons (ps_expr (pe_veinit (by rfl) T.m_ValueError T.ve (pa_cons (pv 0) (pa_cons (pv 1) pa_nil))))
      (pss_one (ps_ost (pv 0) (pv 1))))
theorem ok_WeirError_UinitU {P : Program} {w : World} {K : PySem.W.Frag} {mg : Str → Option Value} {base : Heap} (T : Tx K mg) :
    DW.FnM P w K mg base CX0 1 "WeirError" "__init__" ["self", "word"] (sp_WeirError_UinitU K) := by
  obtain ⟨fd, F⟩ := T.d_WeirError_UinitU
  exact ⟨fd, fk_WeirError_UinitU T  F, FunD.bindsN F (ps := ["self", "word"]) fun _ _ _ _ _ _ us hl => match us, hl with | [_, _], _ => rfl⟩

/-! ## FormError.__init__ -/
theorem sc_FormError_UinitU : FnScope ["self", "word"] ["self", "word"] (defScope s_FormError_UinitU) := ⟨rfl, rfl, rfl, by decide +kernel, rfl, by decide +kernel, by decide +kernel⟩
def t_FormError_UinitU (K : PySem.W.Frag) : TS :=
  (tDrop (tCall (sp_WeirError_UinitU K) [] E0 (tCons (tVar 0) (tCons (tVar 1) tNil))))
def sp_FormError_UinitU (K : PySem.W.Frag) : Sp := fun vs H Q _ => ∃ (a : Addr) (w : V), vs = [.ref a, w] ∧ spInitAt K a H Q [("word", w)]
theorem len_FormError_UinitU (K : PySem.W.Frag) (vs : List V) (H : Hp) (Q : VK) (E : XK) (h : sp_FormError_UinitU K vs H Q E) : vs.length = 2 := by
  obtain ⟨a, w, rfl, _⟩ := h; rfl
theorem pure_FormError_UinitU (K : PySem.W.Frag) (vs : List V) (H : Hp) (Q : VK) (E : XK) (h : sp_FormError_UinitU K vs H Q E) : t_FormError_UinitU K ⟨fun _ H' => Q .non H', Q, fun _ _ => False, fun _ _ => False⟩ (start ["self", "word"] vs) H := by
  obtain ⟨a, w, rfl, k⟩ := h
  show t_FormError_UinitU K _ [some (.ref a), some w] H
  unfold t_FormError_UinitU
  exact ⟨_, rfl, _, rfl, a, w, rfl, k⟩
theorem fk_FormError_UinitU {P : Program} {w : World} {K : PySem.W.Frag} {mg : Str → Option Value} {base : Heap} (T : Tx K mg)
    (G_WeirError_UinitU : DW.FnM P w K mg base CX0 1 "WeirError" "__init__" ["self", "word"] (sp_WeirError_UinitU K)) {fd : FuncData}
    (F : FunD K "__init__" "FormError.__init__" (defArgs s_FormError_UinitU) (defBody s_FormError_UinitU) (defScope s_FormError_UinitU) [] [] (He.ma K (He.ga K "FormError") "__init__") fd) :
    FnOk P w K mg base CX0 3 (He.ma K (He.ga K "FormError") "__init__") fd ["self", "word"] (sp_FormError_UinitU K) := by
  refine F.ok sc_FormError_UinitU (len_FormError_UinitU K) (fun cdv A outer s H vs Q E hr h => ⟨t_FormError_UinitU K, PSs.nox ?_, pure_FormError_UinitU K vs H Q E h⟩)
  exact (pss_one (ps_expr (DW.pe_init T.x_WeirError G_WeirError_UinitU (hr.mono (by decide)) (by rfl) pass0 (pa_cons (pv 0) (pa_cons (pv 1) pa_nil)))))
theorem ok_FormError_UinitU {P : Program} {w : World} {K : PySem.W.Frag} {mg : Str → Option Value} {base : Heap} (T : Tx K mg)
    (G_WeirError_UinitU : DW.FnM P w K mg base CX0 1 "WeirError" "__init__" ["self", "word"] (sp_WeirError_UinitU K)) :
    DW.FnM P w K mg base CX0 3 "FormError" "__init__" ["self", "word"] (sp_FormError_UinitU K) := by
  obtain ⟨fd, F⟩ := T.d_FormError_UinitU
  exact ⟨fd, fk_FormError_UinitU T G_WeirError_UinitU F, FunD.bindsN F (ps := ["self", "word"]) fun _ _ _ _ _ _ us hl => match us, hl with | [_, _], _ => rfl⟩

/-! ## NoFraction.__init__ -/
theorem sc_NoFraction_UinitU : FnScope ["self"] ["self"] (defScope s_NoFraction_UinitU) := ⟨rfl, rfl, rfl, by decide +kernel, rfl, by decide +kernel, by decide +kernel⟩
def t_NoFraction_UinitU (K : PySem.W.Frag) : TS :=
  (tDrop (tCall (sp_FormError_UinitU K) [] E0 (tCons (tVar 0) (tCons (tC (.str "no fraction")) tNil))))
def sp_NoFraction_UinitU (K : PySem.W.Frag) : Sp := fun vs H Q _ => ∃ (a : Addr), vs = [.ref a] ∧ spInitAt K a H Q [("word", .str "no fraction")]
theorem len_NoFraction_UinitU (K : PySem.W.Frag) (vs : List V) (H : Hp) (Q : VK) (E : XK) (h : sp_NoFraction_UinitU K vs H Q E) : vs.length = 1 := by
  obtain ⟨a, rfl, _⟩ := h; rfl
theorem pure_NoFraction_UinitU (K : PySem.W.Frag) (vs : List V) (H : Hp) (Q : VK) (E : XK) (h : sp_NoFraction_UinitU K vs H Q E) : t_NoFraction_UinitU K ⟨fun _ H' => Q .non H', Q, fun _ _ => False, fun _ _ => False⟩ (start ["self"] vs) H := by
  obtain ⟨a, rfl, k⟩ := h
  show t_NoFraction_UinitU K _ [some (.ref a)] H
  unfold t_NoFraction_UinitU
  exact ⟨_, rfl, a, _, rfl, k⟩
theorem fk_NoFraction_UinitU {P : Program} {w : World} {K : PySem.W.Frag} {mg : Str → Option Value} {base : Heap} (T : Tx K mg)
    (G_FormError_UinitU : DW.FnM P w K mg base CX0 3 "FormError" "__init__" ["self", "word"] (sp_FormError_UinitU K)) {fd : FuncData}
    (F : FunD K "__init__" "NoFraction.__init__" (defArgs s_NoFraction_UinitU) (defBody s_NoFraction_UinitU) (defScope s_NoFraction_UinitU) [] [] (He.ma K (He.ga K "NoFraction") "__init__") fd) :
    FnOk P w K mg base CX0 5 (He.ma K (He.ga K "NoFraction") "__init__") fd ["self"] (sp_NoFraction_UinitU K) := by
  refine F.ok sc_NoFraction_UinitU (len_NoFraction_UinitU K) (fun cdv A outer s H vs Q E hr h => ⟨t_NoFraction_UinitU K, PSs.nox ?_, pure_NoFraction_UinitU K vs H Q E h⟩)
  exact (pss_one (ps_expr (DW.pe_init T.x_FormError G_FormError_UinitU (hr.mono (by decide)) (by rfl) pass0 (pa_cons (pv 0) (pa_cons pe_str pa_nil)))))
theorem ok_NoFraction_UinitU {P : Program} {w : World} {K : PySem.W.Frag} {mg : Str → Option Value} {base : Heap} (T : Tx K mg)
    (G_FormError_UinitU : DW.FnM P w K mg base CX0 3 "FormError" "__init__" ["self", "word"] (sp_FormError_UinitU K)) :
    DW.FnM P w K mg base CX0 5 "NoFraction" "__init__" ["self"] (sp_NoFraction_UinitU K) := by
  obtain ⟨fd, F⟩ := T.d_NoFraction_UinitU
  exact ⟨fd, fk_NoFraction_UinitU T G_FormError_UinitU F, FunD.bindsN F (ps := ["self"]) fun _ _ _ _ _ _ us hl => match us, hl with | [_], _ => rfl⟩

/-! ## common -/
theorem sc_common : FnScope ["one", "other"] ["one", "other"] (defScope s_common) := ⟨rfl, rfl, rfl, by decide +kernel, rfl, by decide +kernel, by decide +kernel⟩
def t_common (K : PySem.W.Frag) : TS :=
  (tSeq (tWhile (DW.tTru K (tVar 1)) (tPar 0 1 (tCons (tVar 1) (tCons (tOp DW.rIntMod (tVar 0) (tVar 1)) tNil))))
    (tRet (tCB DW.rAbs (tCons (tVar 0) tNil))))
/-- the greatest number that divides both -/
def sp_common (_ : PySem.W.Frag) : Sp := fun vs H Q _ => ∃ a b : Int, vs = [.int a, .int b] ∧ Q (.int (Int.gcd a b : Int)) H
theorem len_common (K : PySem.W.Frag) (vs : List V) (H : Hp) (Q : VK) (E : XK) (h : sp_common K vs H Q E) : vs.length = 2 := by
  obtain ⟨a, b, rfl, _⟩ := h; rfl
theorem pure_common (K : PySem.W.Frag) (vs : List V) (H : Hp) (Q : VK) (E : XK) (h : sp_common K vs H Q E) : t_common K ⟨fun _ H' => Q .non H', Q, fun _ _ => False, fun _ _ => False⟩ (start ["one", "other"] vs) H := by
  obtain ⟨a, b, rfl, k⟩ := h
  show t_common K _ [some (.int a), some (.int b)] H
  unfold t_common
  walk_at "dw"
  refine s_while (fun m σ H1 => ∃ x y : Int, σ = [some (.int x), some (.int y)] ∧ m = y.natAbs ∧ Int.gcd x y = Int.gcd a b ∧ H1 = H) b.natAbs ⟨a, b, rfl, rfl, rfl, rfl⟩ ?_
  rintro m σ H1 ⟨x, y, rfl, rfl, hg, rfl⟩
  repeat walk_at "dw"
  refine s_whk (fun hb => ?_) (fun hb => ?_)
  · have hy : y ≠ 0 := by simpa using hb
    repeat walk_at "dw"
    refine d_i hy ?_
    repeat walk_at "dw"
    exact ⟨(x.fmod y).natAbs, fmod_small x hy, y, x.fmod y, rfl, rfl, by rw [gcd_step, hg], rfl⟩
  · have hy : y = 0 := by simpa using hb
    subst hy
    repeat walk_at "dw"
    have e : (if x < 0 then -x else x) = (Int.gcd a b : Int) := by
      rw [← hg, Int.gcd_zero_right]
      split <;> omega
    rw [e]
    exact k
theorem fk_common {P : Program} {w : World} {K : PySem.W.Frag} {mg : Str → Option Value} {base : Heap} (T : Tx K mg) {fd : FuncData}
    (F : FunD K "common" "common" (defArgs s_common) (defBody s_common) (defScope s_common) [] [] (He.ga K "common") fd) :
    FnOk P w K mg base CX0 1 (He.ga K "common") fd ["one", "other"] (sp_common K) := by
  refine F.ok sc_common (len_common K) (fun cdv A outer s H vs Q E hr h => ⟨t_common K, PSs.nox ?_, pure_common K vs H Q E h⟩)
  exact (pss_cons (ps_while PassesOwn.never (pt_truth (pv 1) (by intro _; rfl)) (pss_one (ps_par (i := 0) (j := 1) (by rfl) sc_common.nd rfl rfl (by decide) rfl rfl (pa_cons (pv 1) (pa_cons (pe_op op_modN (pv 0) (pv 1)) pa_nil)) (by rfl))))
      (pss_one (ps_ret (pe_callB call_abs (by rfl) T.m_abs (by decide +kernel) (pa_cons (pv 0) pa_nil)))))
theorem ok_common {P : Program} {w : World} {K : PySem.W.Frag} {mg : Str → Option Value} {base : Heap} (T : Tx K mg) :
    DW.Fn P w K mg base CX0 1 "common" ["one", "other"] [] (sp_common K) := by
  obtain ⟨fd, F⟩ := T.d_common
  exact ⟨⟨fd, [], fk_common T  F, .nil, FunD.bindsN F (ps := ["one", "other"]) fun _ _ _ _ _ _ us hl => match us, hl with | [_, _], _ => rfl⟩, T.g_common, F.kp⟩

/-! ## frac -/
theorem sc_frac : FnScope ["top", "under", "shared"] ["top", "under"] (defScope s_frac) := ⟨rfl, rfl, rfl, by decide +kernel, rfl, by decide +kernel, by decide +kernel⟩
def t_frac (K : PySem.W.Frag) (E : XK) : TS :=
  (tSeq (tIfS (tTest (tOp (DW.rEqq K) (tVar 1) (tC (.int 0)))) (DW.tRaiseE E (DW.tMkO0 (He.ga K "NoFraction") (sp_NoFraction_UinitU K))) tNext)
    (tSeq (tAsg (tCall (sp_common K) [] E0 (tCons (tVar 0) (tCons (tVar 1) tNil))) (gName 2))
    (tSeq (tIfS (tTest (tOp DW.rIntLt (tVar 1) (tC (.int 0)))) (tAsg (tUn DW.rIntNeg (tVar 2)) (gName 2)) tNext)
    (tRet (tTup (tCons (tOp DW.rIntDiv (tVar 0) (tVar 2)) (tCons (tOp DW.rIntDiv (tVar 1) (tVar 2)) tNil)))))))
/-- a fraction in lowest terms, or NoFraction where the under is 0 -/
def sp_frac (K : PySem.W.Frag) : Sp := fun vs H Q E => ∃ t u : Int, vs = [.int t, .int u] ∧ u.natAbs < 2 ^ 8000 ∧ (u ≠ 0 → ∀ v H', Fr K [] H H' → Tp K H' v (mv (fN t u) (fD t u)) → Q v H') ∧
  (u = 0 → ∀ d H', H d = none → Fr K [] H H' → H' d = some (.xd [("word", .str "no fraction")]) → E (.ref (He.ga K "NoFraction")) (some d) H')
theorem len_frac (K : PySem.W.Frag) (vs : List V) (H : Hp) (Q : VK) (E : XK) (h : sp_frac K vs H Q E) : vs.length = 2 := by
  obtain ⟨a, b, rfl, _⟩ := h; rfl
theorem pure_frac {mg : Str → Option Value} (K : PySem.W.Frag) (T : Tx K mg) (vs : List V) (H : Hp) (Q : VK) (E : XK) (h : sp_frac K vs H Q E) : t_frac K E ⟨fun _ H' => Q .non H', Q, fun _ _ => False, fun _ _ => False⟩ (start ["top", "under", "shared"] vs) H := by
  obtain ⟨t, u, rfl, hb, k, kE⟩ := h
  show t_frac K E _ [some (.int t), some (.int u), none] H
  unfold t_frac
  repeat walk_at "dw"
  refine if_d (fun z => ?_) (fun hu => ?_)
  · refine s_raiseE (mk0_of T.x_NoFraction (fun a H1 Q1 E1 z => ⟨a, rfl, z⟩) (by simp) (kE z))
  repeat walk_at "dw"
  refine ⟨t, u, rfl, ?_⟩
  repeat walk_at "dw"
  have hg : ∀ g : Int, g = gq t u → CDivX t g ∧ CDivX u g := fun g e => by
    subst e
    have := gq_le (t := t) hu
    exact ⟨cdiv_of (gq_ne hu) (by omega), cdiv_of (gq_ne hu) (by omega)⟩
  refine if_d (fun hn => ?_) (fun hn => ?_)
  · have e : -(Int.gcd t u : Int) = gq t u := by unfold gq; rw [if_pos hn]
    repeat walk_at "dw"
    refine d_i (hg _ e).1 ?_
    repeat walk_at "dw"
    refine d_i (hg _ e).2 ?_
    repeat walk_at "dw"
    refine d_tupk (ds := [.int (fN t u), .int (fD t u)]) ?_ (Nat.le_of_ble_eq_true rfl) (k hu)
    rw [e]
    exact .cons (.int _) (.cons (.int _) .nil)
  · have e : (Int.gcd t u : Int) = gq t u := by unfold gq; rw [if_neg hn]
    repeat walk_at "dw"
    refine d_i (hg _ e).1 ?_
    repeat walk_at "dw"
    refine d_i (hg _ e).2 ?_
    repeat walk_at "dw"
    refine d_tupk (ds := [.int (fN t u), .int (fD t u)]) ?_ (Nat.le_of_ble_eq_true rfl) (k hu)
    rw [e]
    exact .cons (.int _) (.cons (.int _) .nil)
theorem fk_frac {P : Program} {w : World} {K : PySem.W.Frag} {mg : Str → Option Value} {base : Heap} (T : Tx K mg)
    (G_NoFraction_UinitU : DW.FnM P w K mg base CX0 5 "NoFraction" "__init__" ["self"] (sp_NoFraction_UinitU K))
    (G_common : DW.Fn P w K mg base CX0 1 "common" ["one", "other"] [] (sp_common K)) {fd : FuncData}
    (F : FunD K "frac" "frac" (defArgs s_frac) (defBody s_frac) (defScope s_frac) [.int 1] [] (He.ga K "frac") fd) :
    FnOk P w K mg base (L2.CX P w) 7 (He.ga K "frac") fd ["top", "under"] (sp_frac K) := by
  refine F.ok sc_frac (len_frac K) (fun cdv A outer s H vs Q E hr h => ⟨t_frac K E, ?_, pure_frac K T vs H Q E h⟩)
  exact (pss_cons (ps_if (pt_cmpR (DW.op_eqq hr.units) (pv 1) pe_int (nomark _)) (pss_one (ps_raise (W := fun c d _ H => E c d H) rfl (takes_of rfl rfl rfl rfl) (DW.pmk_x0 T.x_NoFraction G_NoFraction_UinitU (hr.mono (by decide)) (by rfl)))) pss_nil)
      (pss_cons (ps_set (i := 2) sc_frac.nd rfl (Or.inl rfl) (DW.pe_fn G_common (hr.mono (by decide)) (by rfl) pass0 (pa_cons (pv 0) (pa_cons (pv 1) pa_nil))))
      (pss_cons (ps_if (pt_cmpR op_lt (pv 1) pe_int (nomark _)) (pss_one (ps_set (i := 2) sc_frac.nd rfl (Or.inl rfl) (pe_un un_neg (pv 2)))) pss_nil)
      (pss_one (ps_ret (pe_tup (pa_cons (pe_op DW.op_fdivX (pv 0) (pv 2)) (pa_cons (pe_op DW.op_fdivX (pv 1) (pv 2)) pa_nil))))))))
theorem ok_frac {P : Program} {w : World} {K : PySem.W.Frag} {mg : Str → Option Value} {base : Heap} (T : Tx K mg)
    (G_NoFraction_UinitU : DW.FnM P w K mg base CX0 5 "NoFraction" "__init__" ["self"] (sp_NoFraction_UinitU K))
    (G_common : DW.Fn P w K mg base CX0 1 "common" ["one", "other"] [] (sp_common K)) :
    DW.Fn P w K mg base (L2.CX P w) 7 "frac" ["top", "under"] [] (sp_frac K) := by
  obtain ⟨fd, F⟩ := T.d_frac
  obtain ⟨ds, hd, hb⟩ := FunD.binds1 F (ps := ["top", "under"]) 2 1 (by simp) (by decide) (fun T kV doc pm an cdv ct us its h1 h2 => match us, its, h1, h2 with | [_, _], [_], _, _ => ⟨_, rfl, rfl⟩)
  exact ⟨⟨fd, ds, fk_frac T G_NoFraction_UinitU G_common F, hd, hb⟩, T.g_frac, F.kp⟩

/-! ## plus -/
theorem sc_plus : FnScope ["a", "b"] ["a", "b"] (defScope s_plus) := ⟨rfl, rfl, rfl, by decide +kernel, rfl, by decide +kernel, by decide +kernel⟩
def t_plus (K : PySem.W.Frag) : TS :=
  (tRet (tCall (sp_frac K) [] E0 (tCons (tOp (DW.rPlus K) (tOp DW.rIntMul (tOp (rIx K) (tVar 0) (tC (.int 0))) (tOp (rIx K) (tVar 1) (tC (.int 1)))) (tOp DW.rIntMul (tOp (rIx K) (tVar 1) (tC (.int 0))) (tOp (rIx K) (tVar 0) (tC (.int 1))))) (tCons (tOp DW.rIntMul (tOp (rIx K) (tVar 0) (tC (.int 1))) (tOp (rIx K) (tVar 1) (tC (.int 1)))) tNil))))
def sp_plus (K : PySem.W.Frag) : Sp := fun vs H Q _ => ∃ (m n : V) (a0 a1 b0 b1 : Int), vs = [m, n] ∧ Tp K H m (mv a0 a1) ∧ Tp K H n (mv b0 b1) ∧ a1 ≠ 0 ∧ b1 ≠ 0 ∧ a1.natAbs < 2 ^ 64 ∧ b1.natAbs < 2 ^ 64 ∧
  ∀ v H', Fr K [] H H' → Tp K H' v (mv (fN (a0 * b1 + b0 * a1) (a1 * b1)) (fD (a0 * b1 + b0 * a1) (a1 * b1))) → Q v H'
theorem len_plus (K : PySem.W.Frag) (vs : List V) (H : Hp) (Q : VK) (E : XK) (h : sp_plus K vs H Q E) : vs.length = 2 := by
  obtain ⟨m, n, a, b, c, d, rfl, _⟩ := h; rfl
theorem pure_plus (K : PySem.W.Frag) (vs : List V) (H : Hp) (Q : VK) (E : XK) (h : sp_plus K vs H Q E) : t_plus K ⟨fun _ H' => Q .non H', Q, fun _ _ => False, fun _ _ => False⟩ (start ["a", "b"] vs) H := by
  obtain ⟨m, n, a0, a1, b0, b1, rfl, hm, hn, h1, h2, n1, n2, k⟩ := h
  show t_plus K _ [some m, some n] H
  unfold t_plus
  repeat walk_at "dd"
  refine d_i (cmul_r n2) ?_
  repeat walk_at "dd"
  refine d_i (cmul_r n1) ?_
  repeat walk_at "dd"
  refine d_i (cmul_r n2) ?_
  repeat walk_at "dd"
  exact ⟨_, _, rfl, big128 n1 n2, fun _ => k, fun z => absurd z (Int.mul_ne_zero h1 h2)⟩
theorem fk_plus {P : Program} {w : World} {K : PySem.W.Frag} {mg : Str → Option Value} {base : Heap} (T : Tx K mg)
    (G_frac : DW.Fn P w K mg base (L2.CX P w) 7 "frac" ["top", "under"] [] (sp_frac K)) {fd : FuncData}
    (F : FunD K "plus" "plus" (defArgs s_plus) (defBody s_plus) (defScope s_plus) [] [] (He.ga K "plus") fd) :
    FnOk P w K mg base CX0 8 (He.ga K "plus") fd ["a", "b"] (sp_plus K) := by
  refine F.ok sc_plus (len_plus K) (fun cdv A outer s H vs Q E hr h => ⟨t_plus K, PSs.nox ?_, pure_plus K vs H Q E h⟩)
  exact (pss_one (ps_ret (DW.pe_fn G_frac (hr.mono (by decide)) (by rfl) passL (pa_cons (pe_op DW.op_plus (pe_op op_mul (pe_ix ix_seq (pv 0) pe_int (fun _ _ => rfl)) (pe_ix ix_seq (pv 1) pe_int (fun _ _ => rfl))) (pe_op op_mul (pe_ix ix_seq (pv 1) pe_int (fun _ _ => rfl)) (pe_ix ix_seq (pv 0) pe_int (fun _ _ => rfl)))) (pa_cons (pe_op op_mul (pe_ix ix_seq (pv 0) pe_int (fun _ _ => rfl)) (pe_ix ix_seq (pv 1) pe_int (fun _ _ => rfl))) pa_nil)))))
theorem ok_plus {P : Program} {w : World} {K : PySem.W.Frag} {mg : Str → Option Value} {base : Heap} (T : Tx K mg)
    (G_frac : DW.Fn P w K mg base (L2.CX P w) 7 "frac" ["top", "under"] [] (sp_frac K)) :
    DW.Fn P w K mg base CX0 8 "plus" ["a", "b"] [] (sp_plus K) := by
  obtain ⟨fd, F⟩ := T.d_plus
  exact ⟨⟨fd, [], fk_plus T G_frac F, .nil, FunD.bindsN F (ps := ["a", "b"]) fun _ _ _ _ _ _ us hl => match us, hl with | [_, _], _ => rfl⟩, T.g_plus, F.kp⟩

/-! ## less -/
theorem sc_less : FnScope ["a", "b"] ["a", "b"] (defScope s_less) := ⟨rfl, rfl, rfl, by decide +kernel, rfl, by decide +kernel, by decide +kernel⟩
def t_less (K : PySem.W.Frag) : TS :=
  (tRet (tCall (sp_frac K) [] E0 (tCons (tOp DW.rIntSub (tOp DW.rIntMul (tOp (rIx K) (tVar 0) (tC (.int 0))) (tOp (rIx K) (tVar 1) (tC (.int 1)))) (tOp DW.rIntMul (tOp (rIx K) (tVar 1) (tC (.int 0))) (tOp (rIx K) (tVar 0) (tC (.int 1))))) (tCons (tOp DW.rIntMul (tOp (rIx K) (tVar 0) (tC (.int 1))) (tOp (rIx K) (tVar 1) (tC (.int 1)))) tNil))))
def sp_less (K : PySem.W.Frag) : Sp := fun vs H Q _ => ∃ (m n : V) (a0 a1 b0 b1 : Int), vs = [m, n] ∧ Tp K H m (mv a0 a1) ∧ Tp K H n (mv b0 b1) ∧ a1 ≠ 0 ∧ b1 ≠ 0 ∧ a1.natAbs < 2 ^ 64 ∧ b1.natAbs < 2 ^ 64 ∧
  ∀ v H', Fr K [] H H' → Tp K H' v (mv (fN (a0 * b1 - b0 * a1) (a1 * b1)) (fD (a0 * b1 - b0 * a1) (a1 * b1))) → Q v H'
theorem len_less (K : PySem.W.Frag) (vs : List V) (H : Hp) (Q : VK) (E : XK) (h : sp_less K vs H Q E) : vs.length = 2 := by
  obtain ⟨m, n, a, b, c, d, rfl, _⟩ := h; rfl
theorem pure_less (K : PySem.W.Frag) (vs : List V) (H : Hp) (Q : VK) (E : XK) (h : sp_less K vs H Q E) : t_less K ⟨fun _ H' => Q .non H', Q, fun _ _ => False, fun _ _ => False⟩ (start ["a", "b"] vs) H := by
  obtain ⟨m, n, a0, a1, b0, b1, rfl, hm, hn, h1, h2, n1, n2, k⟩ := h
  show t_less K _ [some m, some n] H
  unfold t_less
  repeat walk_at "dd"
  refine d_i (cmul_r n2) ?_
  repeat walk_at "dd"
  refine d_i (cmul_r n1) ?_
  repeat walk_at "dd"
  refine d_i (cmul_r n2) ?_
  repeat walk_at "dd"
  exact ⟨_, _, rfl, big128 n1 n2, fun _ => k, fun z => absurd z (Int.mul_ne_zero h1 h2)⟩
theorem fk_less {P : Program} {w : World} {K : PySem.W.Frag} {mg : Str → Option Value} {base : Heap} (T : Tx K mg)
    (G_frac : DW.Fn P w K mg base (L2.CX P w) 7 "frac" ["top", "under"] [] (sp_frac K)) {fd : FuncData}
    (F : FunD K "less" "less" (defArgs s_less) (defBody s_less) (defScope s_less) [] [] (He.ga K "less") fd) :
    FnOk P w K mg base CX0 8 (He.ga K "less") fd ["a", "b"] (sp_less K) := by
  refine F.ok sc_less (len_less K) (fun cdv A outer s H vs Q E hr h => ⟨t_less K, PSs.nox ?_, pure_less K vs H Q E h⟩)
  exact (pss_one (ps_ret (DW.pe_fn G_frac (hr.mono (by decide)) (by rfl) passL (pa_cons (pe_op op_sub (pe_op op_mul (pe_ix ix_seq (pv 0) pe_int (fun _ _ => rfl)) (pe_ix ix_seq (pv 1) pe_int (fun _ _ => rfl))) (pe_op op_mul (pe_ix ix_seq (pv 1) pe_int (fun _ _ => rfl)) (pe_ix ix_seq (pv 0) pe_int (fun _ _ => rfl)))) (pa_cons (pe_op op_mul (pe_ix ix_seq (pv 0) pe_int (fun _ _ => rfl)) (pe_ix ix_seq (pv 1) pe_int (fun _ _ => rfl))) pa_nil)))))
theorem ok_less {P : Program} {w : World} {K : PySem.W.Frag} {mg : Str → Option Value} {base : Heap} (T : Tx K mg)
    (G_frac : DW.Fn P w K mg base (L2.CX P w) 7 "frac" ["top", "under"] [] (sp_frac K)) :
    DW.Fn P w K mg base CX0 8 "less" ["a", "b"] [] (sp_less K) := by
  obtain ⟨fd, F⟩ := T.d_less
  exact ⟨⟨fd, [], fk_less T G_frac F, .nil, FunD.bindsN F (ps := ["a", "b"]) fun _ _ _ _ _ _ us hl => match us, hl with | [_, _], _ => rfl⟩, T.g_less, F.kp⟩

/-! ## times -/
theorem sc_times : FnScope ["a", "b"] ["a", "b"] (defScope s_times) := ⟨rfl, rfl, rfl, by decide +kernel, rfl, by decide +kernel, by decide +kernel⟩
def t_times (K : PySem.W.Frag) : TS :=
  (tRet (tCall (sp_frac K) [] E0 (tCons (tOp DW.rIntMul (tOp (rIx K) (tVar 0) (tC (.int 0))) (tOp (rIx K) (tVar 1) (tC (.int 0)))) (tCons (tOp DW.rIntMul (tOp (rIx K) (tVar 0) (tC (.int 1))) (tOp (rIx K) (tVar 1) (tC (.int 1)))) tNil))))
def sp_times (K : PySem.W.Frag) : Sp := fun vs H Q _ => ∃ (m n : V) (a0 a1 b0 b1 : Int), vs = [m, n] ∧ Tp K H m (mv a0 a1) ∧ Tp K H n (mv b0 b1) ∧ a1 ≠ 0 ∧ b1 ≠ 0 ∧ a1.natAbs < 2 ^ 64 ∧ b1.natAbs < 2 ^ 64 ∧ (a0.natAbs < 2 ^ 64 ∨ b0.natAbs < 2 ^ 64) ∧
  ∀ v H', Fr K [] H H' → Tp K H' v (mv (fN (a0 * b0) (a1 * b1)) (fD (a0 * b0) (a1 * b1))) → Q v H'
theorem len_times (K : PySem.W.Frag) (vs : List V) (H : Hp) (Q : VK) (E : XK) (h : sp_times K vs H Q E) : vs.length = 2 := by
  obtain ⟨m, n, a, b, c, d, rfl, _⟩ := h; rfl
theorem pure_times (K : PySem.W.Frag) (vs : List V) (H : Hp) (Q : VK) (E : XK) (h : sp_times K vs H Q E) : t_times K ⟨fun _ H' => Q .non H', Q, fun _ _ => False, fun _ _ => False⟩ (start ["a", "b"] vs) H := by
  obtain ⟨m, n, a0, a1, b0, b1, rfl, hm, hn, h1, h2, n1, n2, n3, k⟩ := h
  show t_times K _ [some m, some n] H
  unfold t_times
  repeat walk_at "dd"
  refine d_i (n3.elim cmul_l cmul_r) ?_
  repeat walk_at "dd"
  refine d_i (cmul_r n2) ?_
  repeat walk_at "dd"
  exact ⟨_, _, rfl, big128 n1 n2, fun _ => k, fun z => absurd z (Int.mul_ne_zero h1 h2)⟩
theorem fk_times {P : Program} {w : World} {K : PySem.W.Frag} {mg : Str → Option Value} {base : Heap} (T : Tx K mg)
    (G_frac : DW.Fn P w K mg base (L2.CX P w) 7 "frac" ["top", "under"] [] (sp_frac K)) {fd : FuncData}
    (F : FunD K "times" "times" (defArgs s_times) (defBody s_times) (defScope s_times) [] [] (He.ga K "times") fd) :
    FnOk P w K mg base CX0 8 (He.ga K "times") fd ["a", "b"] (sp_times K) := by
  refine F.ok sc_times (len_times K) (fun cdv A outer s H vs Q E hr h => ⟨t_times K, PSs.nox ?_, pure_times K vs H Q E h⟩)
  exact (pss_one (ps_ret (DW.pe_fn G_frac (hr.mono (by decide)) (by rfl) passL (pa_cons (pe_op op_mul (pe_ix ix_seq (pv 0) pe_int (fun _ _ => rfl)) (pe_ix ix_seq (pv 1) pe_int (fun _ _ => rfl))) (pa_cons (pe_op op_mul (pe_ix ix_seq (pv 0) pe_int (fun _ _ => rfl)) (pe_ix ix_seq (pv 1) pe_int (fun _ _ => rfl))) pa_nil)))))
theorem ok_times {P : Program} {w : World} {K : PySem.W.Frag} {mg : Str → Option Value} {base : Heap} (T : Tx K mg)
    (G_frac : DW.Fn P w K mg base (L2.CX P w) 7 "frac" ["top", "under"] [] (sp_frac K)) :
    DW.Fn P w K mg base CX0 8 "times" ["a", "b"] [] (sp_times K) := by
  obtain ⟨fd, F⟩ := T.d_times
  exact ⟨⟨fd, [], fk_times T G_frac F, .nil, FunD.bindsN F (ps := ["a", "b"]) fun _ _ _ _ _ _ us hl => match us, hl with | [_, _], _ => rfl⟩, T.g_times, F.kp⟩

/-! ## over -/
theorem sc_over : FnScope ["a", "b"] ["a", "b"] (defScope s_over) := ⟨rfl, rfl, rfl, by decide +kernel, rfl, by decide +kernel, by decide +kernel⟩
def t_over (K : PySem.W.Frag) (E : XK) : TS :=
  (tRet (tCall (sp_frac K) [] E (tCons (tOp DW.rIntMul (tOp (rIx K) (tVar 0) (tC (.int 0))) (tOp (rIx K) (tVar 1) (tC (.int 1)))) (tCons (tOp DW.rIntMul (tOp (rIx K) (tVar 0) (tC (.int 1))) (tOp (rIx K) (tVar 1) (tC (.int 0)))) tNil))))
def sp_over (K : PySem.W.Frag) : Sp := fun vs H Q E => ∃ (m n : V) (a0 a1 b0 b1 : Int), vs = [m, n] ∧ Tp K H m (mv a0 a1) ∧ Tp K H n (mv b0 b1) ∧ a1 ≠ 0 ∧ b1.natAbs < 2 ^ 64 ∧ a1.natAbs < 2 ^ 64 ∧ b0.natAbs < 2 ^ 64 ∧
  (b0 ≠ 0 → ∀ v H', Fr K [] H H' → Tp K H' v (mv (fN (a0 * b1) (a1 * b0)) (fD (a0 * b1) (a1 * b0))) → Q v H') ∧
  (b0 = 0 → ∀ d H', H d = none → Fr K [] H H' → H' d = some (.xd [("word", .str "no fraction")]) → E (.ref (He.ga K "NoFraction")) (some d) H')
theorem len_over (K : PySem.W.Frag) (vs : List V) (H : Hp) (Q : VK) (E : XK) (h : sp_over K vs H Q E) : vs.length = 2 := by
  obtain ⟨m, n, a, b, c, d, rfl, _⟩ := h; rfl
theorem pure_over (K : PySem.W.Frag) (vs : List V) (H : Hp) (Q : VK) (E : XK) (h : sp_over K vs H Q E) : t_over K E ⟨fun _ H' => Q .non H', Q, fun _ _ => False, fun _ _ => False⟩ (start ["a", "b"] vs) H := by
  obtain ⟨m, n, a0, a1, b0, b1, rfl, hm, hn, h1, n2, n1, n3, k, kE⟩ := h
  show t_over K E _ [some m, some n] H
  unfold t_over
  repeat walk_at "dd"
  refine d_i (cmul_r n2) ?_
  repeat walk_at "dd"
  refine d_i (cmul_r n3) ?_
  repeat walk_at "dd"
  refine ⟨_, _, rfl, big128 n1 n3, fun hz => k fun z => hz (by rw [z, Int.mul_zero]), fun hz => kE ?_⟩
  rcases Int.mul_eq_zero.mp hz with z | z
  · exact absurd z h1
  · exact z
theorem fk_over {P : Program} {w : World} {K : PySem.W.Frag} {mg : Str → Option Value} {base : Heap} (T : Tx K mg)
    (G_frac : DW.Fn P w K mg base (L2.CX P w) 7 "frac" ["top", "under"] [] (sp_frac K)) {fd : FuncData}
    (F : FunD K "over" "over" (defArgs s_over) (defBody s_over) (defScope s_over) [] [] (He.ga K "over") fd) :
    FnOk P w K mg base (L2.CX P w) 8 (He.ga K "over") fd ["a", "b"] (sp_over K) := by
  refine F.ok sc_over (len_over K) (fun cdv A outer s H vs Q E hr h => ⟨t_over K E, ?_, pure_over K vs H Q E h⟩)
  exact (pss_one (ps_ret (DW.pe_fn G_frac (hr.mono (by decide)) (by rfl) (passes_call (W := fun c d _ H => E c d H) (takes_of rfl rfl rfl rfl) (fun _ _ _ _ h => h)) (pa_cons (pe_op op_mul (pe_ix ix_seq (pv 0) pe_int (fun _ _ => rfl)) (pe_ix ix_seq (pv 1) pe_int (fun _ _ => rfl))) (pa_cons (pe_op op_mul (pe_ix ix_seq (pv 0) pe_int (fun _ _ => rfl)) (pe_ix ix_seq (pv 1) pe_int (fun _ _ => rfl))) pa_nil)))))
theorem ok_over {P : Program} {w : World} {K : PySem.W.Frag} {mg : Str → Option Value} {base : Heap} (T : Tx K mg)
    (G_frac : DW.Fn P w K mg base (L2.CX P w) 7 "frac" ["top", "under"] [] (sp_frac K)) :
    DW.Fn P w K mg base (L2.CX P w) 8 "over" ["a", "b"] [] (sp_over K) := by
  obtain ⟨fd, F⟩ := T.d_over
  exact ⟨⟨fd, [], fk_over T G_frac F, .nil, FunD.bindsN F (ps := ["a", "b"]) fun _ _ _ _ _ _ us hl => match us, hl with | [_, _], _ => rfl⟩, T.g_over, F.kp⟩

/-! ## before -/
theorem sc_before : FnScope ["a", "b"] ["a", "b"] (defScope s_before) := ⟨rfl, rfl, rfl, by decide +kernel, rfl, by decide +kernel, by decide +kernel⟩
def t_before (K : PySem.W.Frag) : TS :=
  (tRet (tOp DW.rIntLt (tOp DW.rIntMul (tOp (rIx K) (tVar 0) (tC (.int 0))) (tOp (rIx K) (tVar 1) (tC (.int 1)))) (tOp DW.rIntMul (tOp (rIx K) (tVar 1) (tC (.int 0))) (tOp (rIx K) (tVar 0) (tC (.int 1))))))
def sp_before (K : PySem.W.Frag) : Sp := fun vs H Q _ => ∃ (m n : V) (a0 a1 b0 b1 : Int), vs = [m, n] ∧ Tp K H m (mv a0 a1) ∧ Tp K H n (mv b0 b1) ∧ a1.natAbs < 2 ^ 64 ∧ b1.natAbs < 2 ^ 64 ∧ Q (.bl (decide (a0 * b1 < b0 * a1))) H
theorem len_before (K : PySem.W.Frag) (vs : List V) (H : Hp) (Q : VK) (E : XK) (h : sp_before K vs H Q E) : vs.length = 2 := by
  obtain ⟨m, n, a, b, c, d, rfl, _⟩ := h; rfl
theorem pure_before (K : PySem.W.Frag) (vs : List V) (H : Hp) (Q : VK) (E : XK) (h : sp_before K vs H Q E) : t_before K ⟨fun _ H' => Q .non H', Q, fun _ _ => False, fun _ _ => False⟩ (start ["a", "b"] vs) H := by
  obtain ⟨m, n, a0, a1, b0, b1, rfl, hm, hn, n1, n2, k⟩ := h
  show t_before K _ [some m, some n] H
  unfold t_before
  repeat walk_at "dd"
  refine d_i (cmul_r n2) ?_
  repeat walk_at "dd"
  refine d_i (cmul_r n1) ?_
  repeat walk_at "dd"
  exact k
theorem fk_before {P : Program} {w : World} {K : PySem.W.Frag} {mg : Str → Option Value} {base : Heap} (T : Tx K mg) {fd : FuncData}
    (F : FunD K "before" "before" (defArgs s_before) (defBody s_before) (defScope s_before) [] [] (He.ga K "before") fd) :
    FnOk P w K mg base CX0 1 (He.ga K "before") fd ["a", "b"] (sp_before K) := by
  refine F.ok sc_before (len_before K) (fun cdv A outer s H vs Q E hr h => ⟨t_before K, PSs.nox ?_, pure_before K vs H Q E h⟩)
  exact (pss_one (ps_ret (pe_cmpR op_lt (pe_op op_mul (pe_ix ix_seq (pv 0) pe_int (fun _ _ => rfl)) (pe_ix ix_seq (pv 1) pe_int (fun _ _ => rfl))) (pe_op op_mul (pe_ix ix_seq (pv 1) pe_int (fun _ _ => rfl)) (pe_ix ix_seq (pv 0) pe_int (fun _ _ => rfl))) (nomark _))))
theorem ok_before {P : Program} {w : World} {K : PySem.W.Frag} {mg : Str → Option Value} {base : Heap} (T : Tx K mg) :
    DW.Fn P w K mg base CX0 1 "before" ["a", "b"] [] (sp_before K) := by
  obtain ⟨fd, F⟩ := T.d_before
  exact ⟨⟨fd, [], fk_before T  F, .nil, FunD.bindsN F (ps := ["a", "b"]) fun _ _ _ _ _ _ us hl => match us, hl with | [_, _], _ => rfl⟩, T.g_before, F.kp⟩

/-! ## _law_feed -/
theorem sc_Lfeed : FnScope ["_law_script"] ["_law_script"] (defScope s_Lfeed) := ⟨rfl, rfl, rfl, by decide +kernel, rfl, by decide +kernel, by decide +kernel⟩
def t_Lfeed (K : PySem.W.Frag) : TS :=
  (tRet (tLst (tCons (tCB (DW.rListOf K) (tCons (tSl (rSlL K) (tVar 0) tNoPart (tPart (tC (.int 63)))) tNil)) (tCons (tC (.int 0)) (tCons (tC (.int 0)) (tCons (tC (.int 1)) tNil))))))
def sp_Lfeed (K : PySem.W.Frag) : Sp := fun vs H Q _ => ∃ (a : Addr) (ns : List Int), vs = [.ref a] ∧ SqL K H a (ns.map V.int) ∧ ∀ p H', H p = none → Fr K [] H H' → Feed H' p → Q (.ref p) H'
theorem len_Lfeed (K : PySem.W.Frag) (vs : List V) (H : Hp) (Q : VK) (E : XK) (h : sp_Lfeed K vs H Q E) : vs.length = 1 := by
  obtain ⟨a, ns, rfl, _⟩ := h; rfl
theorem pure_Lfeed (K : PySem.W.Frag) (vs : List V) (H : Hp) (Q : VK) (E : XK) (h : sp_Lfeed K vs H Q E) : t_Lfeed K ⟨fun _ H' => Q .non H', Q, fun _ _ => False, fun _ _ => False⟩ (start ["_law_script"] vs) H := by
  obtain ⟨a, ns, rfl, hs, k⟩ := h
  show t_Lfeed K _ [some (.ref a)] H
  unfold t_Lfeed
  repeat walk_at "dd"
  obtain ⟨cs, ec⟩ := cut_ints ns none (some 63)
  refine ⟨a, _, rfl, hs, fun c hc => ?_⟩
  repeat walk_at "dd"
  rw [ec]
  refine d_listOf (SqL.of upd_same) fun q H1 hq e1 h1 => ?_
  repeat walk_at "dd"
  refine d_lstk (K := K) (Nat.le_of_ble_eq_true rfl) fun p H2 hp e2 h2 => ?_
  have e0 : Fr K [] H (upd H c (.lst (cs.map V.int))) := Fr.new hc
  have e := (e0.trans e1).trans e2
  refine k p H2 ((e0.trans e1).same.free hp) e ?_
  refine ⟨q, cs, 0, 0, 1, h2, e2.get0 h1, ?_, by decide, by decide, by decide⟩
  intro z
  rw [z, hp] at h1
  cases h1
theorem fk_Lfeed {P : Program} {w : World} {K : PySem.W.Frag} {mg : Str → Option Value} {base : Heap} (T : Tx K mg) {fd : FuncData}
    (F : FunD K "_law_feed" "_law_feed" (defArgs s_Lfeed) (defBody s_Lfeed) (defScope s_Lfeed) [] [] (He.ga K "_law_feed") fd) :
    FnOk P w K mg base CX0 1 (He.ga K "_law_feed") fd ["_law_script"] (sp_Lfeed K) := by
  refine F.ok sc_Lfeed (len_Lfeed K) (fun cdv A outer s H vs Q E hr h => ⟨t_Lfeed K, PSs.nox ?_, pure_Lfeed K vs H Q E h⟩)
  exact (pss_one (ps_ret (pe_lst (pa_cons (pe_callTy call_list_of (by rfl) T.m_list (by decide +kernel) (pa_cons (pe_slice sl_list (pv 0) po_none (po_some pe_int)) pa_nil)) (pa_cons pe_int (pa_cons pe_int (pa_cons pe_int pa_nil)))))))
theorem ok_Lfeed {P : Program} {w : World} {K : PySem.W.Frag} {mg : Str → Option Value} {base : Heap} (T : Tx K mg) :
    DW.Fn P w K mg base CX0 1 "_law_feed" ["_law_script"] [] (sp_Lfeed K) := by
  obtain ⟨fd, F⟩ := T.d_Lfeed
  exact ⟨⟨fd, [], fk_Lfeed T  F, .nil, FunD.bindsN F (ps := ["_law_script"]) fun _ _ _ _ _ _ us hl => match us, hl with | [_], _ => rfl⟩, T.g_Lfeed, F.kp⟩

/-! ## _law_draw -/
theorem sc_Ldraw : FnScope ["_law_feed_here", "_law_many", "_law_got", "_law_cell", "_law_spread"] ["_law_feed_here", "_law_many"] (defScope s_Ldraw) := ⟨rfl, rfl, rfl, by decide +kernel, rfl, by decide +kernel, by decide +kernel⟩
def t_Ldraw (K : PySem.W.Frag) : TS :=
  (tSeq (tIfS (tTest (tOp DW.rIntGt (tOp (rIx K) (tVar 0) (tC (.int 2))) (tC (.int 0)))) (tSeq (tAsg (tOp DW.rIntMod (tOp (rIx K) (tVar 0) (tC (.int 2))) (tVar 1)) (gName 2))
    (tSeq (tAsg (tOp DW.rIntDiv (tOp (rIx K) (tVar 0) (tC (.int 2))) (tVar 1)) (gSub (tVar 0) (tC (.int 2)) rSetL))
    (tRet (tVar 2)))) tNext)
    (tSeq (tAsg (tC (.int 0)) (gName 3))
    (tSeq (tIfS (tTest (tOp DW.rIntLt (tOp (rIx K) (tVar 0) (tC (.int 1))) (tCB (rLen K) (tCons (tOp (rIx K) (tVar 0) (tC (.int 0))) tNil)))) (tSeq (tAsg (tOp (rIx K) (tOp (rIx K) (tVar 0) (tC (.int 0))) (tOp (rIx K) (tVar 0) (tC (.int 1)))) (gName 3))
    (tAsg (tOp (DW.rPlus K) (tOp (rIx K) (tVar 0) (tC (.int 1))) (tC (.int 1))) (gSub (tVar 0) (tC (.int 1)) rSetL))) tNext)
    (tSeq (tIfS (tTest (tOp DW.rIntGe (tVar 3) (tC (.int 1000000000000000000)))) (tSeq (tAsg (tOp DW.rIntDiv (tVar 3) (tVar 1)) (gSub (tVar 0) (tC (.int 2)) rSetL))
    (tRet (tOp DW.rIntMod (tVar 3) (tVar 1)))) tNext)
    (tSeq (tAsg (tOp DW.rIntMod (tOp (DW.rPlus K) (tOp (DW.rPlus K) (tOp DW.rIntMul (tOp (rIx K) (tVar 0) (tC (.int 3))) (tC (.int 48271))) (tOp DW.rIntMod (tVar 3) (tC (.int 1000003)))) (tC (.int 11))) (tC (.int 2147483647))) (gSub (tVar 0) (tC (.int 3)) rSetL))
    (tSeq (tAsg (tOp (rIx K) (tLst (tCons (tOp (rIx K) (tVar 0) (tC (.int 3))) (tCons (tOp DW.rIntPow (tOp (rIx K) (tVar 0) (tC (.int 3))) (tC (.int 4))) tNil))) (tCB DW.rInt1 (tCons (tOp DW.rIntGt (tVar 1) (tC (.int 100000))) tNil))) (gName 4))
    (tRet (tOp DW.rIntMod (tOp (DW.rPlus K) (tOp DW.rIntDiv (tVar 4) (tC (.int 16))) (tVar 3)) (tVar 1)))))))))
/-- a draw: any number below many; the feed stays one, all else as it was -/
def sp_Ldraw (K : PySem.W.Frag) : Sp := fun vs H Q _ => ∃ (p : Addr) (m : Int), vs = [.ref p, .int m] ∧ Feed H p ∧ 0 < m ∧ m.natAbs < 2 ^ 8000 ∧ ∀ (r : Int) (H' : Hp), 0 ≤ r → r < m → Fr K [p] H H' → Feed H' p → Q (.int r) H'
theorem len_Ldraw (K : PySem.W.Frag) (vs : List V) (H : Hp) (Q : VK) (E : XK) (h : sp_Ldraw K vs H Q E) : vs.length = 2 := by
  obtain ⟨a, ns, rfl, _⟩ := h; rfl
theorem fmod_in_Ldraw (a : Int) {m : Int} (h : 0 < m) : 0 ≤ a.fmod m ∧ a.fmod m < m := ⟨Int.fmod_nonneg_of_pos a h, Int.fmod_lt_of_pos a h⟩
theorem pure_Ldraw (K : PySem.W.Frag) (vs : List V) (H : Hp) (Q : VK) (E : XK) (h : sp_Ldraw K vs H Q E) : t_Ldraw K ⟨fun _ H' => Q .non H', Q, fun _ _ => False, fun _ _ => False⟩ (start ["_law_feed_here", "_law_many", "_law_got", "_law_cell", "_law_spread"] vs) H := by
  obtain ⟨p, m, rfl, ⟨q, cs, i, r, s, h1, h2, hne, hi, hs0, hs1⟩, hm, hb, k⟩ := h
  show t_Ldraw K _ [some (.ref p), some (.int m), none, none, none] H
  unfold t_Ldraw
  have hm0 : m ≠ 0 := by omega
  repeat walk_at "dd"
  refine d_ixL (SqL.of h1) rfl ?_
  repeat walk_at "dd"
  refine if_d (fun hr => ?_) (fun hr => ?_)
  · repeat walk_at "dd"
    refine d_ixL (SqL.of h1) rfl ?_
    repeat walk_at "dd"
    refine d_i hm0 ?_
    repeat walk_at "dd"
    refine s_asgSub ?_
    repeat walk_at "dd"
    refine d_ixL (SqL.of h1) rfl ?_
    repeat walk_at "dd"
    refine d_i (cdiv_of hm0 hb) ?_
    repeat walk_at "dd"
    refine d_setL h1 (Nat.le_of_ble_eq_true rfl) ?_
    repeat walk_at "dd"
    obtain ⟨a1, a2⟩ := fmod_in_Ldraw r hm
    refine k _ _ a1 a2 (Fr.put h1) ⟨q, cs, i, _, s, upd_same, ?_, hne, hi, hs0, hs1⟩
    rw [upd_ne hne]
    exact h2
  · repeat walk_at "dd"
    refine d_ixL (SqL.of h1) rfl ?_
    repeat walk_at "dd"
    refine d_ixL (SqL.of h1) rfl ?_
    repeat walk_at "dd"
    refine d_lenL (SqL.of h2) ?_
    repeat walk_at "dd"
    -- the rest, from the cell c, the feed's place i'
    have rest : ∀ (H1 : Hp) (c i' : Int), 0 ≤ i' → H1 p = some (.lst [.ref q, .int i', .int r, .int s]) → H1 q = some (.lst (cs.map V.int)) → Fr K [p] H H1 →
        tSeq (tIfS (tTest (tOp rIntGe (tVar 3) (tC (.int 1000000000000000000)))) (tSeq (tAsg (tOp rIntDiv (tVar 3) (tVar 1)) (gSub (tVar 0) (tC (.int 2)) rSetL))
          (tRet (tOp rIntMod (tVar 3) (tVar 1)))) tNext)
        (tSeq (tAsg (tOp rIntMod (tOp (rPlus K) (tOp (rPlus K) (tOp rIntMul (tOp (rIx K) (tVar 0) (tC (.int 3))) (tC (.int 48271))) (tOp rIntMod (tVar 3) (tC (.int 1000003)))) (tC (.int 11))) (tC (.int 2147483647))) (gSub (tVar 0) (tC (.int 3)) rSetL))
        (tSeq (tAsg (tOp (rIx K) (tLst (tCons (tOp (rIx K) (tVar 0) (tC (.int 3))) (tCons (tOp rIntPow (tOp (rIx K) (tVar 0) (tC (.int 3))) (tC (.int 4))) tNil))) (tCB rInt1 (tCons (tOp rIntGt (tVar 1) (tC (.int 100000))) tNil))) (gName 4))
        (tRet (tOp rIntMod (tOp (rPlus K) (tOp rIntDiv (tVar 4) (tC (.int 16))) (tVar 3)) (tVar 1)))))
          ⟨fun _ H' => Q .non H', Q, fun _ _ => False, fun _ _ => False⟩ [some (.ref p), some (.int m), none, some (.int c), none] H1 := by
      intro H1 c i' hi' g1 g2 e1
      repeat walk_at "dd"
      refine if_d (fun hc => ?_) (fun hc => ?_)
      · repeat walk_at "dd"
        refine s_asgSub ?_
        repeat walk_at "dd"
        refine d_i (cdiv_of hm0 hb) ?_
        repeat walk_at "dd"
        refine d_setL g1 (Nat.le_of_ble_eq_true rfl) ?_
        repeat walk_at "dd"
        refine d_i hm0 ?_
        obtain ⟨a1, a2⟩ := fmod_in_Ldraw c hm
        refine k _ _ a1 a2 (e1.trans (Fr.put g1)) ⟨q, cs, i', _, s, upd_same, ?_, hne, hi', hs0, hs1⟩
        rw [upd_ne hne]
        exact g2
      · repeat walk_at "dd"
        refine s_asgSub ?_
        repeat walk_at "dd"
        refine d_ixL (SqL.of g1) rfl ?_
        repeat walk_at "dd"
        refine d_i (cmul_r (by decide)) ?_
        repeat walk_at "dd"
        refine d_i (by decide) ?_
        repeat walk_at "dd"
        refine d_i (by decide) ?_
        repeat walk_at "dd"
        refine d_setL g1 (Nat.le_of_ble_eq_true rfl) ?_
        obtain ⟨b1, b2⟩ := fmod_in_Ldraw (s * 48271 + c.fmod 1000003 + 11) (show (0 : Int) < 2147483647 by decide)
        generalize (s * 48271 + c.fmod 1000003 + 11).fmod 2147483647 = s' at b1 b2 ⊢
        have g1' : (upd H1 p (.lst [.ref q, .int i', .int r, .int s'])) p = some (.lst [.ref q, .int i', .int r, .int s']) := upd_same
        have g2' : (upd H1 p (.lst [.ref q, .int i', .int r, .int s'])) q = some (.lst (cs.map V.int)) := by rw [upd_ne hne]; exact g2
        have e2 := e1.trans (Fr.put (K := K) (o := .lst [.ref q, .int i', .int r, .int s']) g1)
        show tSeq _ _ _ _ (upd H1 p (.lst [.ref q, .int i', .int r, .int s']))
        generalize upd H1 p (.lst [.ref q, .int i', .int r, .int s']) = H2 at g1' g2' e2 ⊢
        repeat walk_at "dd"
        refine d_ixL (SqL.of g1') rfl ?_
        repeat walk_at "dd"
        refine d_ixL (SqL.of g1') rfl ?_
        repeat walk_at "dd"
        refine d_i ⟨by decide, by decide, by omega⟩ ?_
        repeat walk_at "dd"
        refine d_lstk (K := K) (Nat.le_of_ble_eq_true rfl) fun l H3 hl e3 h3 => ?_
        repeat walk_at "dd"
        have fin : ∀ sp : Int, (tRet (tOp rIntMod (tOp (rPlus K) (tOp rIntDiv (tVar 4) (tC (.int 16))) (tVar 3)) (tVar 1))) ⟨fun _ H' => Q .non H', Q, fun _ _ => False, fun _ _ => False⟩ [some (.ref p), some (.int m), none, some (.int c), some (.int sp)] H3 := by
          intro sp
          repeat walk_at "dd"
          refine d_i (cdiv_of (by decide) (small64 (by decide))) ?_
          repeat walk_at "dd"
          refine d_i hm0 ?_
          obtain ⟨a1, a2⟩ := fmod_in_Ldraw (sp.fdiv 16 + c) hm
          exact k _ _ a1 a2 (e2.trans e3.any) (Feed.up e3 ⟨q, cs, i', r, s', g1', g2', hne, hi', b1, b2⟩)
        by_cases hbig : (100000 : Int) < m
        · rw [decide_eq_true hbig]
          exact d_ixL (k := 1) (SqL.of h3) rfl (fin _)
        · rw [decide_eq_false hbig]
          exact d_ixL (k := 0) (SqL.of h3) rfl (fin _)
    refine if_d (fun hl => ?_) (fun hl => ?_)
    · repeat walk_at "dd"
      refine d_ixL (SqL.of h1) rfl ?_
      repeat walk_at "dd"
      refine d_ixL (SqL.of h1) rfl ?_
      have hlt : i.toNat < cs.length := by
        rw [List.length_map] at hl
        omega
      refine d_ixLz (SqL.of h2) hi (ints_get hlt) ?_
      repeat walk_at "dd"
      refine s_asgSub ?_
      repeat walk_at "dd"
      refine d_ixL (SqL.of h1) rfl ?_
      repeat walk_at "dd"
      refine d_setL h1 (Nat.le_of_ble_eq_true rfl) ?_
      exact rest _ _ (i + 1) (by omega) upd_same (by rw [upd_ne hne]; exact h2) (Fr.put h1)
    · walk_at "dw"
      exact rest _ _ i hi h1 h2 Fr.rf
theorem fk_Ldraw {P : Program} {w : World} {K : PySem.W.Frag} {mg : Str → Option Value} {base : Heap} (T : Tx K mg) {fd : FuncData}
    (F : FunD K "_law_draw" "_law_draw" (defArgs s_Ldraw) (defBody s_Ldraw) (defScope s_Ldraw) [] [] (He.ga K "_law_draw") fd) :
    FnOk P w K mg base CX0 1 (He.ga K "_law_draw") fd ["_law_feed_here", "_law_many"] (sp_Ldraw K) := by
  refine F.ok sc_Ldraw (len_Ldraw K) (fun cdv A outer s H vs Q E hr h => ⟨t_Ldraw K, PSs.nox ?_, pure_Ldraw K vs H Q E h⟩)
  exact (pss_cons (ps_if (pt_cmpR op_gt (pe_ix ix_seq (pv 0) pe_int (fun _ _ => rfl)) pe_int (nomark _)) (pss_cons (ps_set (i := 2) sc_Ldraw.nd rfl (Or.inl rfl) (pe_op op_modN (pe_ix ix_seq (pv 0) pe_int (fun _ _ => rfl)) (pv 1)))
      (pss_cons (ps_asg (pe_op DW.op_fdivX (pe_ix ix_seq (pv 0) pe_int (fun _ _ => rfl)) (pv 1)) (pg_sub (pv 0) pe_int set_list))
      (pss_one (ps_ret (pv 2))))) pss_nil)
      (pss_cons (ps_set (i := 3) sc_Ldraw.nd rfl (Or.inl rfl) pe_int)
      (pss_cons (ps_if (pt_cmpR op_lt (pe_ix ix_seq (pv 0) pe_int (fun _ _ => rfl)) (pe_callB call_len (by rfl) T.m_len (by decide +kernel) (pa_cons (pe_ix ix_seq (pv 0) pe_int (fun _ _ => rfl)) pa_nil)) (nomark _)) (pss_cons (ps_set (i := 3) sc_Ldraw.nd rfl (Or.inl rfl) (pe_ix ix_seq (pe_ix ix_seq (pv 0) pe_int (fun _ _ => rfl)) (pe_ix ix_seq (pv 0) pe_int (fun _ _ => rfl)) (fun _ _ => rfl)))
      (pss_one (ps_asg (pe_op DW.op_plus (pe_ix ix_seq (pv 0) pe_int (fun _ _ => rfl)) pe_int) (pg_sub (pv 0) pe_int set_list)))) pss_nil)
      (pss_cons (ps_if (pt_cmpR op_ge (pv 3) pe_int (nomark _)) (pss_cons (ps_asg (pe_op DW.op_fdivX (pv 3) (pv 1)) (pg_sub (pv 0) pe_int set_list))
      (pss_one (ps_ret (pe_op op_modN (pv 3) (pv 1))))) pss_nil)
      (pss_cons (ps_asg (pe_op op_modN (pe_op DW.op_plus (pe_op DW.op_plus (pe_op op_mul (pe_ix ix_seq (pv 0) pe_int (fun _ _ => rfl)) pe_int) (pe_op op_modN (pv 3) pe_int)) pe_int) pe_int) (pg_sub (pv 0) pe_int set_list))
      (pss_cons (ps_set (i := 4) sc_Ldraw.nd rfl (Or.inl rfl) (pe_ix ix_seq (pe_lst (pa_cons (pe_ix ix_seq (pv 0) pe_int (fun _ _ => rfl)) (pa_cons (pe_op op_pow (pe_ix ix_seq (pv 0) pe_int (fun _ _ => rfl)) pe_int) pa_nil))) (pe_callTy call_int1 (by rfl) T.m_int (by decide +kernel) (pa_cons (pe_cmpR op_gt (pv 1) pe_int (nomark _)) pa_nil)) (fun _ _ => rfl)))
      (pss_one (ps_ret (pe_op op_modN (pe_op DW.op_plus (pe_op DW.op_fdivX (pv 4) pe_int) (pv 3)) (pv 1))))))))))
theorem ok_Ldraw {P : Program} {w : World} {K : PySem.W.Frag} {mg : Str → Option Value} {base : Heap} (T : Tx K mg) :
    DW.Fn P w K mg base CX0 1 "_law_draw" ["_law_feed_here", "_law_many"] [] (sp_Ldraw K) := by
  obtain ⟨fd, F⟩ := T.d_Ldraw
  exact ⟨⟨fd, [], fk_Ldraw T  F, .nil, FunD.bindsN F (ps := ["_law_feed_here", "_law_many"]) fun _ _ _ _ _ _ us hl => match us, hl with | [_, _], _ => rfl⟩, T.g_Ldraw, F.kp⟩

/-! ## _law_whole -/
theorem sc_Lwhole : FnScope ["_law_found"] ["_law_found"] (defScope s_Lwhole) := ⟨rfl, rfl, rfl, by decide +kernel, rfl, by decide +kernel, by decide +kernel⟩
def t_Lwhole (K : PySem.W.Frag) : TS :=
  (tRet (tAndV (tCB (rIsi K) (tCons (tVar 0) (tCons (tC (.ty "int")) tNil))) (tNotV (tCB (rIsi K) (tCons (tVar 0) (tCons (tC (.ty "bool")) tNil))))))
def sp_Lwhole (_ : PySem.W.Frag) : Sp := fun vs H Q _ => ∃ i : Int, vs = [.int i] ∧ Q (.bl true) H
theorem len_Lwhole (K : PySem.W.Frag) (vs : List V) (H : Hp) (Q : VK) (E : XK) (h : sp_Lwhole K vs H Q E) : vs.length = 1 := by
  obtain ⟨i, rfl, _⟩ := h; rfl
theorem pure_Lwhole (K : PySem.W.Frag) (vs : List V) (H : Hp) (Q : VK) (E : XK) (h : sp_Lwhole K vs H Q E) : t_Lwhole K ⟨fun _ H' => Q .non H', Q, fun _ _ => False, fun _ _ => False⟩ (start ["_law_found"] vs) H := by
  obtain ⟨i, rfl, k⟩ := h
  show t_Lwhole K _ [some (.int i)] H
  unfold t_Lwhole
  repeat walk_at "dd"
  exact k
theorem fk_Lwhole {P : Program} {w : World} {K : PySem.W.Frag} {mg : Str → Option Value} {base : Heap} (T : Tx K mg) {fd : FuncData}
    (F : FunD K "_law_whole" "_law_whole" (defArgs s_Lwhole) (defBody s_Lwhole) (defScope s_Lwhole) [] [] (He.ga K "_law_whole") fd) :
    FnOk P w K mg base CX0 1 (He.ga K "_law_whole") fd ["_law_found"] (sp_Lwhole K) := by
  refine F.ok sc_Lwhole (len_Lwhole K) (fun cdv A outer s H vs Q E hr h => ⟨t_Lwhole K, PSs.nox ?_, pure_Lwhole K vs H Q E h⟩)
  exact (pss_one (ps_ret (pe_and (pe_callB call_isi (by rfl) T.m_isinstance (by decide +kernel) (pa_cons (pv 0) (pa_cons (pe_bltn (v := .ty "int") (by rfl) T.m_int (by decide +kernel) rfl) pa_nil))) (pe_one (pe_not (pe_callB call_isi (by rfl) T.m_isinstance (by decide +kernel) (pa_cons (pv 0) (pa_cons (pe_bltn (v := .ty "bool") (by rfl) T.m_bool (by decide +kernel) rfl) pa_nil))))))))
theorem ok_Lwhole {P : Program} {w : World} {K : PySem.W.Frag} {mg : Str → Option Value} {base : Heap} (T : Tx K mg) :
    DW.Fn P w K mg base CX0 1 "_law_whole" ["_law_found"] [] (sp_Lwhole K) := by
  obtain ⟨fd, F⟩ := T.d_Lwhole
  exact ⟨⟨fd, [], fk_Lwhole T  F, .nil, FunD.bindsN F (ps := ["_law_found"]) fun _ _ _ _ _ _ us hl => match us, hl with | [_], _ => rfl⟩, T.g_Lwhole, F.kp⟩

/-! ## _law_says -/
theorem sc_Lsays : FnScope ["_law_found", "_law_due"] ["_law_found", "_law_due"] (defScope s_Lsays) := ⟨rfl, rfl, rfl, by decide +kernel, rfl, by decide +kernel, by decide +kernel⟩
def t_Lsays (K : PySem.W.Frag) : TS :=
  (tSeq (tIfS (DW.tTru K (tVar 1)) (tRet (tOp rIsB (tVar 0) (tC (.bl true)))) tNext)
    (tRet (tOp rIsB (tVar 0) (tC (.bl false)))))
def sp_Lsays (_ : PySem.W.Frag) : Sp := fun vs H Q _ => ∃ b : Bool, vs = [.bl b, .bl b] ∧ Q (.bl true) H
theorem len_Lsays (K : PySem.W.Frag) (vs : List V) (H : Hp) (Q : VK) (E : XK) (h : sp_Lsays K vs H Q E) : vs.length = 2 := by
  obtain ⟨b, rfl, _⟩ := h; rfl
theorem pure_Lsays (K : PySem.W.Frag) (vs : List V) (H : Hp) (Q : VK) (E : XK) (h : sp_Lsays K vs H Q E) : t_Lsays K ⟨fun _ H' => Q .non H', Q, fun _ _ => False, fun _ _ => False⟩ (start ["_law_found", "_law_due"] vs) H := by
  obtain ⟨b, rfl, k⟩ := h
  show t_Lsays K _ [some (.bl b), some (.bl b)] H
  unfold t_Lsays
  repeat walk_at "dd"
  refine if_b (fun hb => ?_) (fun hb => ?_)
  · subst hb
    repeat walk_at "dd"
    exact d_isB k
  · subst hb
    repeat walk_at "dd"
    exact d_isB k
theorem fk_Lsays {P : Program} {w : World} {K : PySem.W.Frag} {mg : Str → Option Value} {base : Heap} (T : Tx K mg) {fd : FuncData}
    (F : FunD K "_law_says" "_law_says" (defArgs s_Lsays) (defBody s_Lsays) (defScope s_Lsays) [] [] (He.ga K "_law_says") fd) :
    FnOk P w K mg base CX0 1 (He.ga K "_law_says") fd ["_law_found", "_law_due"] (sp_Lsays K) := by
  refine F.ok sc_Lsays (len_Lsays K) (fun cdv A outer s H vs Q E hr h => ⟨t_Lsays K, PSs.nox ?_, pure_Lsays K vs H Q E h⟩)
  exact (pss_cons (ps_if (pt_truth (pv 1) (by intro _; rfl)) (pss_one (ps_ret (pe_cmpR op_isBl (pv 0) pe_bl (nomark _)))) pss_nil)
      (pss_one (ps_ret (pe_cmpR op_isBl (pv 0) pe_bl (nomark _)))))
theorem ok_Lsays {P : Program} {w : World} {K : PySem.W.Frag} {mg : Str → Option Value} {base : Heap} (T : Tx K mg) :
    DW.Fn P w K mg base CX0 1 "_law_says" ["_law_found", "_law_due"] [] (sp_Lsays K) := by
  obtain ⟨fd, F⟩ := T.d_Lsays
  exact ⟨⟨fd, [], fk_Lsays T  F, .nil, FunD.bindsN F (ps := ["_law_found", "_law_due"]) fun _ _ _ _ _ _ us hl => match us, hl with | [_, _], _ => rfl⟩, T.g_Lsays, F.kp⟩

/-! ## _law_gcd -/
theorem sc_Lgcd : FnScope ["_law_one", "_law_other"] ["_law_one", "_law_other"] (defScope s_Lgcd) := ⟨rfl, rfl, rfl, by decide +kernel, rfl, by decide +kernel, by decide +kernel⟩
def t_Lgcd (K : PySem.W.Frag) : TS :=
  (tSeq (tWhile (DW.tTru K (tVar 1)) (tPar 0 1 (tCons (tVar 1) (tCons (tOp DW.rIntMod (tVar 0) (tVar 1)) tNil))))
    (tRet (tCB DW.rAbs (tCons (tVar 0) tNil))))
/-- the greatest number that divides both -/
def sp_Lgcd (_ : PySem.W.Frag) : Sp := fun vs H Q _ => ∃ a b : Int, vs = [.int a, .int b] ∧ Q (.int (Int.gcd a b : Int)) H
theorem len_Lgcd (K : PySem.W.Frag) (vs : List V) (H : Hp) (Q : VK) (E : XK) (h : sp_Lgcd K vs H Q E) : vs.length = 2 := by
  obtain ⟨a, b, rfl, _⟩ := h; rfl
theorem pure_Lgcd (K : PySem.W.Frag) (vs : List V) (H : Hp) (Q : VK) (E : XK) (h : sp_Lgcd K vs H Q E) : t_Lgcd K ⟨fun _ H' => Q .non H', Q, fun _ _ => False, fun _ _ => False⟩ (start ["_law_one", "_law_other"] vs) H := by
  obtain ⟨a, b, rfl, k⟩ := h
  show t_Lgcd K _ [some (.int a), some (.int b)] H
  unfold t_Lgcd
  walk_at "dw"
  refine s_while (fun m σ H1 => ∃ x y : Int, σ = [some (.int x), some (.int y)] ∧ m = y.natAbs ∧ Int.gcd x y = Int.gcd a b ∧ H1 = H) b.natAbs ⟨a, b, rfl, rfl, rfl, rfl⟩ ?_
  rintro m σ H1 ⟨x, y, rfl, rfl, hg, rfl⟩
  repeat walk_at "dw"
  refine s_whk (fun hb => ?_) (fun hb => ?_)
  · have hy : y ≠ 0 := by simpa using hb
    repeat walk_at "dw"
    refine d_i hy ?_
    repeat walk_at "dw"
    exact ⟨(x.fmod y).natAbs, fmod_small x hy, y, x.fmod y, rfl, rfl, by rw [gcd_step, hg], rfl⟩
  · have hy : y = 0 := by simpa using hb
    subst hy
    repeat walk_at "dw"
    have e : (if x < 0 then -x else x) = (Int.gcd a b : Int) := by
      rw [← hg, Int.gcd_zero_right]
      split <;> omega
    rw [e]
    exact k
theorem fk_Lgcd {P : Program} {w : World} {K : PySem.W.Frag} {mg : Str → Option Value} {base : Heap} (T : Tx K mg) {fd : FuncData}
    (F : FunD K "_law_gcd" "_law_gcd" (defArgs s_Lgcd) (defBody s_Lgcd) (defScope s_Lgcd) [] [] (He.ga K "_law_gcd") fd) :
    FnOk P w K mg base CX0 1 (He.ga K "_law_gcd") fd ["_law_one", "_law_other"] (sp_Lgcd K) := by
  refine F.ok sc_Lgcd (len_Lgcd K) (fun cdv A outer s H vs Q E hr h => ⟨t_Lgcd K, PSs.nox ?_, pure_Lgcd K vs H Q E h⟩)
  exact (pss_cons (ps_while PassesOwn.never (pt_truth (pv 1) (by intro _; rfl)) (pss_one (ps_par (i := 0) (j := 1) (by rfl) sc_Lgcd.nd rfl rfl (by decide) rfl rfl (pa_cons (pv 1) (pa_cons (pe_op op_modN (pv 0) (pv 1)) pa_nil)) (by rfl))))
      (pss_one (ps_ret (pe_callB call_abs (by rfl) T.m_abs (by decide +kernel) (pa_cons (pv 0) pa_nil)))))
theorem ok_Lgcd {P : Program} {w : World} {K : PySem.W.Frag} {mg : Str → Option Value} {base : Heap} (T : Tx K mg) :
    DW.Fn P w K mg base CX0 1 "_law_gcd" ["_law_one", "_law_other"] [] (sp_Lgcd K) := by
  obtain ⟨fd, F⟩ := T.d_Lgcd
  exact ⟨⟨fd, [], fk_Lgcd T  F, .nil, FunD.bindsN F (ps := ["_law_one", "_law_other"]) fun _ _ _ _ _ _ us hl => match us, hl with | [_, _], _ => rfl⟩, T.g_Lgcd, F.kp⟩

/-! ## _law_frac -/
theorem sc_Lfrac : FnScope ["_law_top", "_law_under", "_law_shared"] ["_law_top", "_law_under"] (defScope s_Lfrac) := ⟨rfl, rfl, rfl, by decide +kernel, rfl, by decide +kernel, by decide +kernel⟩
def t_Lfrac (K : PySem.W.Frag) : TS :=
  (tSeq (tAsg (tCall (sp_Lgcd K) [] E0 (tCons (tVar 0) (tCons (tVar 1) tNil))) (gName 2))
    (tSeq (tIfS (tTest (tOp DW.rIntLt (tVar 1) (tC (.int 0)))) (tAsg (tUn DW.rIntNeg (tVar 2)) (gName 2)) tNext)
    (tRet (tTup (tCons (tOp DW.rIntDiv (tVar 0) (tVar 2)) (tCons (tOp DW.rIntDiv (tVar 1) (tVar 2)) tNil))))))
/-- a fraction in lowest terms; the under is not 0 -/
def sp_Lfrac (K : PySem.W.Frag) : Sp := fun vs H Q _ => ∃ t u : Int, vs = [.int t, .int u] ∧ u ≠ 0 ∧ u.natAbs < 2 ^ 8000 ∧ ∀ v H', Fr K [] H H' → Tp K H' v (mv (fN t u) (fD t u)) → Q v H'
theorem len_Lfrac (K : PySem.W.Frag) (vs : List V) (H : Hp) (Q : VK) (E : XK) (h : sp_Lfrac K vs H Q E) : vs.length = 2 := by
  obtain ⟨a, b, rfl, _⟩ := h; rfl
theorem pure_Lfrac (K : PySem.W.Frag) (vs : List V) (H : Hp) (Q : VK) (E : XK) (h : sp_Lfrac K vs H Q E) : t_Lfrac K ⟨fun _ H' => Q .non H', Q, fun _ _ => False, fun _ _ => False⟩ (start ["_law_top", "_law_under", "_law_shared"] vs) H := by
  obtain ⟨t, u, rfl, hu, hb, k⟩ := h
  show t_Lfrac K _ [some (.int t), some (.int u), none] H
  unfold t_Lfrac
  repeat walk_at "dw"
  refine ⟨t, u, rfl, ?_⟩
  repeat walk_at "dw"
  have hg : ∀ g : Int, g = gq t u → CDivX t g ∧ CDivX u g := fun g e => by
    subst e
    have := gq_le (t := t) hu
    exact ⟨cdiv_of (gq_ne hu) (by omega), cdiv_of (gq_ne hu) (by omega)⟩
  refine if_d (fun hn => ?_) (fun hn => ?_)
  · have e : -(Int.gcd t u : Int) = gq t u := by unfold gq; rw [if_pos hn]
    repeat walk_at "dw"
    refine d_i (hg _ e).1 ?_
    repeat walk_at "dw"
    refine d_i (hg _ e).2 ?_
    repeat walk_at "dw"
    refine d_tupk (ds := [.int (fN t u), .int (fD t u)]) ?_ (Nat.le_of_ble_eq_true rfl) k
    rw [e]
    exact .cons (.int _) (.cons (.int _) .nil)
  · have e : (Int.gcd t u : Int) = gq t u := by unfold gq; rw [if_neg hn]
    repeat walk_at "dw"
    refine d_i (hg _ e).1 ?_
    repeat walk_at "dw"
    refine d_i (hg _ e).2 ?_
    repeat walk_at "dw"
    refine d_tupk (ds := [.int (fN t u), .int (fD t u)]) ?_ (Nat.le_of_ble_eq_true rfl) k
    rw [e]
    exact .cons (.int _) (.cons (.int _) .nil)
theorem fk_Lfrac {P : Program} {w : World} {K : PySem.W.Frag} {mg : Str → Option Value} {base : Heap} (T : Tx K mg)
    (G_Lgcd : DW.Fn P w K mg base CX0 1 "_law_gcd" ["_law_one", "_law_other"] [] (sp_Lgcd K)) {fd : FuncData}
    (F : FunD K "_law_frac" "_law_frac" (defArgs s_Lfrac) (defBody s_Lfrac) (defScope s_Lfrac) [] [] (He.ga K "_law_frac") fd) :
    FnOk P w K mg base CX0 2 (He.ga K "_law_frac") fd ["_law_top", "_law_under"] (sp_Lfrac K) := by
  refine F.ok sc_Lfrac (len_Lfrac K) (fun cdv A outer s H vs Q E hr h => ⟨t_Lfrac K, PSs.nox ?_, pure_Lfrac K vs H Q E h⟩)
  exact (pss_cons (ps_set (i := 2) sc_Lfrac.nd rfl (Or.inl rfl) (DW.pe_fn G_Lgcd (hr.mono (by decide)) (by rfl) pass0 (pa_cons (pv 0) (pa_cons (pv 1) pa_nil))))
      (pss_cons (ps_if (pt_cmpR op_lt (pv 1) pe_int (nomark _)) (pss_one (ps_set (i := 2) sc_Lfrac.nd rfl (Or.inl rfl) (pe_un un_neg (pv 2)))) pss_nil)
      (pss_one (ps_ret (pe_tup (pa_cons (pe_op DW.op_fdivX (pv 0) (pv 2)) (pa_cons (pe_op DW.op_fdivX (pv 1) (pv 2)) pa_nil)))))))
theorem ok_Lfrac {P : Program} {w : World} {K : PySem.W.Frag} {mg : Str → Option Value} {base : Heap} (T : Tx K mg)
    (G_Lgcd : DW.Fn P w K mg base CX0 1 "_law_gcd" ["_law_one", "_law_other"] [] (sp_Lgcd K)) :
    DW.Fn P w K mg base CX0 2 "_law_frac" ["_law_top", "_law_under"] [] (sp_Lfrac K) := by
  obtain ⟨fd, F⟩ := T.d_Lfrac
  exact ⟨⟨fd, [], fk_Lfrac T G_Lgcd F, .nil, FunD.bindsN F (ps := ["_law_top", "_law_under"]) fun _ _ _ _ _ _ us hl => match us, hl with | [_, _], _ => rfl⟩, T.g_Lfrac, F.kp⟩

/-! ## _law_plus -/
theorem sc_Lplus : FnScope ["_law_a", "_law_b"] ["_law_a", "_law_b"] (defScope s_Lplus) := ⟨rfl, rfl, rfl, by decide +kernel, rfl, by decide +kernel, by decide +kernel⟩
def t_Lplus (K : PySem.W.Frag) : TS :=
  (tRet (tCall (sp_Lfrac K) [] E0 (tCons (tOp (DW.rPlus K) (tOp DW.rIntMul (tOp (rIx K) (tVar 0) (tC (.int 0))) (tOp (rIx K) (tVar 1) (tC (.int 1)))) (tOp DW.rIntMul (tOp (rIx K) (tVar 1) (tC (.int 0))) (tOp (rIx K) (tVar 0) (tC (.int 1))))) (tCons (tOp DW.rIntMul (tOp (rIx K) (tVar 0) (tC (.int 1))) (tOp (rIx K) (tVar 1) (tC (.int 1)))) tNil))))
def sp_Lplus (K : PySem.W.Frag) : Sp := fun vs H Q _ => ∃ (m n : V) (a0 a1 b0 b1 : Int), vs = [m, n] ∧ Tp K H m (mv a0 a1) ∧ Tp K H n (mv b0 b1) ∧ a1 ≠ 0 ∧ b1 ≠ 0 ∧ a1.natAbs < 2 ^ 64 ∧ b1.natAbs < 2 ^ 64 ∧
  ∀ v H', Fr K [] H H' → Tp K H' v (mv (fN (a0 * b1 + b0 * a1) (a1 * b1)) (fD (a0 * b1 + b0 * a1) (a1 * b1))) → Q v H'
theorem len_Lplus (K : PySem.W.Frag) (vs : List V) (H : Hp) (Q : VK) (E : XK) (h : sp_Lplus K vs H Q E) : vs.length = 2 := by
  obtain ⟨m, n, a, b, c, d, rfl, _⟩ := h; rfl
theorem pure_Lplus (K : PySem.W.Frag) (vs : List V) (H : Hp) (Q : VK) (E : XK) (h : sp_Lplus K vs H Q E) : t_Lplus K ⟨fun _ H' => Q .non H', Q, fun _ _ => False, fun _ _ => False⟩ (start ["_law_a", "_law_b"] vs) H := by
  obtain ⟨m, n, a0, a1, b0, b1, rfl, hm, hn, h1, h2, n1, n2, k⟩ := h
  show t_Lplus K _ [some m, some n] H
  unfold t_Lplus
  repeat walk_at "dd"
  refine d_i (cmul_r n2) ?_
  repeat walk_at "dd"
  refine d_i (cmul_r n1) ?_
  repeat walk_at "dd"
  refine d_i (cmul_r n2) ?_
  repeat walk_at "dd"
  exact ⟨_, _, rfl, Int.mul_ne_zero h1 h2, big128 n1 n2, k⟩
theorem fk_Lplus {P : Program} {w : World} {K : PySem.W.Frag} {mg : Str → Option Value} {base : Heap} (T : Tx K mg)
    (G_Lfrac : DW.Fn P w K mg base CX0 2 "_law_frac" ["_law_top", "_law_under"] [] (sp_Lfrac K)) {fd : FuncData}
    (F : FunD K "_law_plus" "_law_plus" (defArgs s_Lplus) (defBody s_Lplus) (defScope s_Lplus) [] [] (He.ga K "_law_plus") fd) :
    FnOk P w K mg base CX0 3 (He.ga K "_law_plus") fd ["_law_a", "_law_b"] (sp_Lplus K) := by
  refine F.ok sc_Lplus (len_Lplus K) (fun cdv A outer s H vs Q E hr h => ⟨t_Lplus K, PSs.nox ?_, pure_Lplus K vs H Q E h⟩)
  exact (pss_one (ps_ret (DW.pe_fn G_Lfrac (hr.mono (by decide)) (by rfl) pass0 (pa_cons (pe_op DW.op_plus (pe_op op_mul (pe_ix ix_seq (pv 0) pe_int (fun _ _ => rfl)) (pe_ix ix_seq (pv 1) pe_int (fun _ _ => rfl))) (pe_op op_mul (pe_ix ix_seq (pv 1) pe_int (fun _ _ => rfl)) (pe_ix ix_seq (pv 0) pe_int (fun _ _ => rfl)))) (pa_cons (pe_op op_mul (pe_ix ix_seq (pv 0) pe_int (fun _ _ => rfl)) (pe_ix ix_seq (pv 1) pe_int (fun _ _ => rfl))) pa_nil)))))
theorem ok_Lplus {P : Program} {w : World} {K : PySem.W.Frag} {mg : Str → Option Value} {base : Heap} (T : Tx K mg)
    (G_Lfrac : DW.Fn P w K mg base CX0 2 "_law_frac" ["_law_top", "_law_under"] [] (sp_Lfrac K)) :
    DW.Fn P w K mg base CX0 3 "_law_plus" ["_law_a", "_law_b"] [] (sp_Lplus K) := by
  obtain ⟨fd, F⟩ := T.d_Lplus
  exact ⟨⟨fd, [], fk_Lplus T G_Lfrac F, .nil, FunD.bindsN F (ps := ["_law_a", "_law_b"]) fun _ _ _ _ _ _ us hl => match us, hl with | [_, _], _ => rfl⟩, T.g_Lplus, F.kp⟩

/-! ## _law_less -/
theorem sc_Lless : FnScope ["_law_a", "_law_b"] ["_law_a", "_law_b"] (defScope s_Lless) := ⟨rfl, rfl, rfl, by decide +kernel, rfl, by decide +kernel, by decide +kernel⟩
def t_Lless (K : PySem.W.Frag) : TS :=
  (tRet (tCall (sp_Lfrac K) [] E0 (tCons (tOp DW.rIntSub (tOp DW.rIntMul (tOp (rIx K) (tVar 0) (tC (.int 0))) (tOp (rIx K) (tVar 1) (tC (.int 1)))) (tOp DW.rIntMul (tOp (rIx K) (tVar 1) (tC (.int 0))) (tOp (rIx K) (tVar 0) (tC (.int 1))))) (tCons (tOp DW.rIntMul (tOp (rIx K) (tVar 0) (tC (.int 1))) (tOp (rIx K) (tVar 1) (tC (.int 1)))) tNil))))
def sp_Lless (K : PySem.W.Frag) : Sp := fun vs H Q _ => ∃ (m n : V) (a0 a1 b0 b1 : Int), vs = [m, n] ∧ Tp K H m (mv a0 a1) ∧ Tp K H n (mv b0 b1) ∧ a1 ≠ 0 ∧ b1 ≠ 0 ∧ a1.natAbs < 2 ^ 64 ∧ b1.natAbs < 2 ^ 64 ∧
  ∀ v H', Fr K [] H H' → Tp K H' v (mv (fN (a0 * b1 - b0 * a1) (a1 * b1)) (fD (a0 * b1 - b0 * a1) (a1 * b1))) → Q v H'
theorem len_Lless (K : PySem.W.Frag) (vs : List V) (H : Hp) (Q : VK) (E : XK) (h : sp_Lless K vs H Q E) : vs.length = 2 := by
  obtain ⟨m, n, a, b, c, d, rfl, _⟩ := h; rfl
theorem pure_Lless (K : PySem.W.Frag) (vs : List V) (H : Hp) (Q : VK) (E : XK) (h : sp_Lless K vs H Q E) : t_Lless K ⟨fun _ H' => Q .non H', Q, fun _ _ => False, fun _ _ => False⟩ (start ["_law_a", "_law_b"] vs) H := by
  obtain ⟨m, n, a0, a1, b0, b1, rfl, hm, hn, h1, h2, n1, n2, k⟩ := h
  show t_Lless K _ [some m, some n] H
  unfold t_Lless
  repeat walk_at "dd"
  refine d_i (cmul_r n2) ?_
  repeat walk_at "dd"
  refine d_i (cmul_r n1) ?_
  repeat walk_at "dd"
  refine d_i (cmul_r n2) ?_
  repeat walk_at "dd"
  exact ⟨_, _, rfl, Int.mul_ne_zero h1 h2, big128 n1 n2, k⟩
theorem fk_Lless {P : Program} {w : World} {K : PySem.W.Frag} {mg : Str → Option Value} {base : Heap} (T : Tx K mg)
    (G_Lfrac : DW.Fn P w K mg base CX0 2 "_law_frac" ["_law_top", "_law_under"] [] (sp_Lfrac K)) {fd : FuncData}
    (F : FunD K "_law_less" "_law_less" (defArgs s_Lless) (defBody s_Lless) (defScope s_Lless) [] [] (He.ga K "_law_less") fd) :
    FnOk P w K mg base CX0 3 (He.ga K "_law_less") fd ["_law_a", "_law_b"] (sp_Lless K) := by
  refine F.ok sc_Lless (len_Lless K) (fun cdv A outer s H vs Q E hr h => ⟨t_Lless K, PSs.nox ?_, pure_Lless K vs H Q E h⟩)
  exact (pss_one (ps_ret (DW.pe_fn G_Lfrac (hr.mono (by decide)) (by rfl) pass0 (pa_cons (pe_op op_sub (pe_op op_mul (pe_ix ix_seq (pv 0) pe_int (fun _ _ => rfl)) (pe_ix ix_seq (pv 1) pe_int (fun _ _ => rfl))) (pe_op op_mul (pe_ix ix_seq (pv 1) pe_int (fun _ _ => rfl)) (pe_ix ix_seq (pv 0) pe_int (fun _ _ => rfl)))) (pa_cons (pe_op op_mul (pe_ix ix_seq (pv 0) pe_int (fun _ _ => rfl)) (pe_ix ix_seq (pv 1) pe_int (fun _ _ => rfl))) pa_nil)))))
theorem ok_Lless {P : Program} {w : World} {K : PySem.W.Frag} {mg : Str → Option Value} {base : Heap} (T : Tx K mg)
    (G_Lfrac : DW.Fn P w K mg base CX0 2 "_law_frac" ["_law_top", "_law_under"] [] (sp_Lfrac K)) :
    DW.Fn P w K mg base CX0 3 "_law_less" ["_law_a", "_law_b"] [] (sp_Lless K) := by
  obtain ⟨fd, F⟩ := T.d_Lless
  exact ⟨⟨fd, [], fk_Lless T G_Lfrac F, .nil, FunD.bindsN F (ps := ["_law_a", "_law_b"]) fun _ _ _ _ _ _ us hl => match us, hl with | [_, _], _ => rfl⟩, T.g_Lless, F.kp⟩

/-! ## _law_times -/
theorem sc_Ltimes : FnScope ["_law_a", "_law_b"] ["_law_a", "_law_b"] (defScope s_Ltimes) := ⟨rfl, rfl, rfl, by decide +kernel, rfl, by decide +kernel, by decide +kernel⟩
def t_Ltimes (K : PySem.W.Frag) : TS :=
  (tRet (tCall (sp_Lfrac K) [] E0 (tCons (tOp DW.rIntMul (tOp (rIx K) (tVar 0) (tC (.int 0))) (tOp (rIx K) (tVar 1) (tC (.int 0)))) (tCons (tOp DW.rIntMul (tOp (rIx K) (tVar 0) (tC (.int 1))) (tOp (rIx K) (tVar 1) (tC (.int 1)))) tNil))))
def sp_Ltimes (K : PySem.W.Frag) : Sp := fun vs H Q _ => ∃ (m n : V) (a0 a1 b0 b1 : Int), vs = [m, n] ∧ Tp K H m (mv a0 a1) ∧ Tp K H n (mv b0 b1) ∧ a1 ≠ 0 ∧ b1 ≠ 0 ∧ a1.natAbs < 2 ^ 64 ∧ b1.natAbs < 2 ^ 64 ∧ (a0.natAbs < 2 ^ 64 ∨ b0.natAbs < 2 ^ 64) ∧
  ∀ v H', Fr K [] H H' → Tp K H' v (mv (fN (a0 * b0) (a1 * b1)) (fD (a0 * b0) (a1 * b1))) → Q v H'
theorem len_Ltimes (K : PySem.W.Frag) (vs : List V) (H : Hp) (Q : VK) (E : XK) (h : sp_Ltimes K vs H Q E) : vs.length = 2 := by
  obtain ⟨m, n, a, b, c, d, rfl, _⟩ := h; rfl
theorem pure_Ltimes (K : PySem.W.Frag) (vs : List V) (H : Hp) (Q : VK) (E : XK) (h : sp_Ltimes K vs H Q E) : t_Ltimes K ⟨fun _ H' => Q .non H', Q, fun _ _ => False, fun _ _ => False⟩ (start ["_law_a", "_law_b"] vs) H := by
  obtain ⟨m, n, a0, a1, b0, b1, rfl, hm, hn, h1, h2, n1, n2, n3, k⟩ := h
  show t_Ltimes K _ [some m, some n] H
  unfold t_Ltimes
  repeat walk_at "dd"
  refine d_i (n3.elim cmul_l cmul_r) ?_
  repeat walk_at "dd"
  refine d_i (cmul_r n2) ?_
  repeat walk_at "dd"
  exact ⟨_, _, rfl, Int.mul_ne_zero h1 h2, big128 n1 n2, k⟩
theorem fk_Ltimes {P : Program} {w : World} {K : PySem.W.Frag} {mg : Str → Option Value} {base : Heap} (T : Tx K mg)
    (G_Lfrac : DW.Fn P w K mg base CX0 2 "_law_frac" ["_law_top", "_law_under"] [] (sp_Lfrac K)) {fd : FuncData}
    (F : FunD K "_law_times" "_law_times" (defArgs s_Ltimes) (defBody s_Ltimes) (defScope s_Ltimes) [] [] (He.ga K "_law_times") fd) :
    FnOk P w K mg base CX0 3 (He.ga K "_law_times") fd ["_law_a", "_law_b"] (sp_Ltimes K) := by
  refine F.ok sc_Ltimes (len_Ltimes K) (fun cdv A outer s H vs Q E hr h => ⟨t_Ltimes K, PSs.nox ?_, pure_Ltimes K vs H Q E h⟩)
  exact (pss_one (ps_ret (DW.pe_fn G_Lfrac (hr.mono (by decide)) (by rfl) pass0 (pa_cons (pe_op op_mul (pe_ix ix_seq (pv 0) pe_int (fun _ _ => rfl)) (pe_ix ix_seq (pv 1) pe_int (fun _ _ => rfl))) (pa_cons (pe_op op_mul (pe_ix ix_seq (pv 0) pe_int (fun _ _ => rfl)) (pe_ix ix_seq (pv 1) pe_int (fun _ _ => rfl))) pa_nil)))))
theorem ok_Ltimes {P : Program} {w : World} {K : PySem.W.Frag} {mg : Str → Option Value} {base : Heap} (T : Tx K mg)
    (G_Lfrac : DW.Fn P w K mg base CX0 2 "_law_frac" ["_law_top", "_law_under"] [] (sp_Lfrac K)) :
    DW.Fn P w K mg base CX0 3 "_law_times" ["_law_a", "_law_b"] [] (sp_Ltimes K) := by
  obtain ⟨fd, F⟩ := T.d_Ltimes
  exact ⟨⟨fd, [], fk_Ltimes T G_Lfrac F, .nil, FunD.bindsN F (ps := ["_law_a", "_law_b"]) fun _ _ _ _ _ _ us hl => match us, hl with | [_, _], _ => rfl⟩, T.g_Ltimes, F.kp⟩

/-! ## _law_lt -/
theorem sc_Llt : FnScope ["_law_a", "_law_b"] ["_law_a", "_law_b"] (defScope s_Llt) := ⟨rfl, rfl, rfl, by decide +kernel, rfl, by decide +kernel, by decide +kernel⟩
def t_Llt (K : PySem.W.Frag) : TS :=
  (tRet (tOp DW.rIntLt (tOp DW.rIntMul (tOp (rIx K) (tVar 0) (tC (.int 0))) (tOp (rIx K) (tVar 1) (tC (.int 1)))) (tOp DW.rIntMul (tOp (rIx K) (tVar 1) (tC (.int 0))) (tOp (rIx K) (tVar 0) (tC (.int 1))))))
def sp_Llt (K : PySem.W.Frag) : Sp := fun vs H Q _ => ∃ (m n : V) (a0 a1 b0 b1 : Int), vs = [m, n] ∧ Tp K H m (mv a0 a1) ∧ Tp K H n (mv b0 b1) ∧ a1.natAbs < 2 ^ 64 ∧ b1.natAbs < 2 ^ 64 ∧ Q (.bl (decide (a0 * b1 < b0 * a1))) H
theorem len_Llt (K : PySem.W.Frag) (vs : List V) (H : Hp) (Q : VK) (E : XK) (h : sp_Llt K vs H Q E) : vs.length = 2 := by
  obtain ⟨m, n, a, b, c, d, rfl, _⟩ := h; rfl
theorem pure_Llt (K : PySem.W.Frag) (vs : List V) (H : Hp) (Q : VK) (E : XK) (h : sp_Llt K vs H Q E) : t_Llt K ⟨fun _ H' => Q .non H', Q, fun _ _ => False, fun _ _ => False⟩ (start ["_law_a", "_law_b"] vs) H := by
  obtain ⟨m, n, a0, a1, b0, b1, rfl, hm, hn, n1, n2, k⟩ := h
  show t_Llt K _ [some m, some n] H
  unfold t_Llt
  repeat walk_at "dd"
  refine d_i (cmul_r n2) ?_
  repeat walk_at "dd"
  refine d_i (cmul_r n1) ?_
  repeat walk_at "dd"
  exact k
theorem fk_Llt {P : Program} {w : World} {K : PySem.W.Frag} {mg : Str → Option Value} {base : Heap} (T : Tx K mg) {fd : FuncData}
    (F : FunD K "_law_lt" "_law_lt" (defArgs s_Llt) (defBody s_Llt) (defScope s_Llt) [] [] (He.ga K "_law_lt") fd) :
    FnOk P w K mg base CX0 1 (He.ga K "_law_lt") fd ["_law_a", "_law_b"] (sp_Llt K) := by
  refine F.ok sc_Llt (len_Llt K) (fun cdv A outer s H vs Q E hr h => ⟨t_Llt K, PSs.nox ?_, pure_Llt K vs H Q E h⟩)
  exact (pss_one (ps_ret (pe_cmpR op_lt (pe_op op_mul (pe_ix ix_seq (pv 0) pe_int (fun _ _ => rfl)) (pe_ix ix_seq (pv 1) pe_int (fun _ _ => rfl))) (pe_op op_mul (pe_ix ix_seq (pv 1) pe_int (fun _ _ => rfl)) (pe_ix ix_seq (pv 0) pe_int (fun _ _ => rfl))) (nomark _))))
theorem ok_Llt {P : Program} {w : World} {K : PySem.W.Frag} {mg : Str → Option Value} {base : Heap} (T : Tx K mg) :
    DW.Fn P w K mg base CX0 1 "_law_lt" ["_law_a", "_law_b"] [] (sp_Llt K) := by
  obtain ⟨fd, F⟩ := T.d_Llt
  exact ⟨⟨fd, [], fk_Llt T  F, .nil, FunD.bindsN F (ps := ["_law_a", "_law_b"]) fun _ _ _ _ _ _ us hl => match us, hl with | [_, _], _ => rfl⟩, T.g_Llt, F.kp⟩

/-! ## _law_is_pair -/
theorem sc_Lis_pair : FnScope ["_law_found"] ["_law_found"] (defScope s_Lis_pair) := ⟨rfl, rfl, rfl, by decide +kernel, rfl, by decide +kernel, by decide +kernel⟩
def t_Lis_pair (K : PySem.W.Frag) : TS :=
  (tRet (tAndV (tCB (rIsi K) (tCons (tVar 0) (tCons (tC (.ty "tuple")) tNil))) (tAndV (tOp (DW.rEqq K) (tCB (rLen K) (tCons (tVar 0) tNil)) (tC (.int 2))) (tAndV (tCall (sp_Lwhole K) [] E0 (tCons (tOp (rIx K) (tVar 0) (tC (.int 0))) tNil)) (tCall (sp_Lwhole K) [] E0 (tCons (tOp (rIx K) (tVar 0) (tC (.int 1))) tNil))))))
def sp_Lis_pair (K : PySem.W.Frag) : Sp := fun vs H Q _ => ∃ (m : V) (a b : Int), vs = [m] ∧ Tp K H m (mv a b) ∧ Q (.bl true) H
theorem len_Lis_pair (K : PySem.W.Frag) (vs : List V) (H : Hp) (Q : VK) (E : XK) (h : sp_Lis_pair K vs H Q E) : vs.length = 1 := by
  obtain ⟨m, a, b, rfl, _⟩ := h; rfl
theorem pure_Lis_pair (K : PySem.W.Frag) (vs : List V) (H : Hp) (Q : VK) (E : XK) (h : sp_Lis_pair K vs H Q E) : t_Lis_pair K ⟨fun _ H' => Q .non H', Q, fun _ _ => False, fun _ _ => False⟩ (start ["_law_found"] vs) H := by
  obtain ⟨m, a, b, rfl, hm, k⟩ := h
  show t_Lis_pair K _ [some m] H
  unfold t_Lis_pair
  repeat walk_at "dd"
  refine if_d (fun _ => ?_) (fun z => absurd rfl z)
  repeat walk_at "dd"
  refine ⟨_, rfl, ?_⟩
  repeat walk_at "dd"
  exact ⟨_, rfl, k⟩
theorem fk_Lis_pair {P : Program} {w : World} {K : PySem.W.Frag} {mg : Str → Option Value} {base : Heap} (T : Tx K mg)
    (G_Lwhole : DW.Fn P w K mg base CX0 1 "_law_whole" ["_law_found"] [] (sp_Lwhole K)) {fd : FuncData}
    (F : FunD K "_law_is_pair" "_law_is_pair" (defArgs s_Lis_pair) (defBody s_Lis_pair) (defScope s_Lis_pair) [] [] (He.ga K "_law_is_pair") fd) :
    FnOk P w K mg base CX0 2 (He.ga K "_law_is_pair") fd ["_law_found"] (sp_Lis_pair K) := by
  refine F.ok sc_Lis_pair (len_Lis_pair K) (fun cdv A outer s H vs Q E hr h => ⟨t_Lis_pair K, PSs.nox ?_, pure_Lis_pair K vs H Q E h⟩)
  exact (pss_one (ps_ret (pe_and (pe_callB call_isi (by rfl) T.m_isinstance (by decide +kernel) (pa_cons (pv 0) (pa_cons (pe_bltn (v := .ty "tuple") (by rfl) T.m_tuple (by decide +kernel) rfl) pa_nil))) (pe_and (pe_cmpR (DW.op_eqq hr.units) (pe_callB call_len (by rfl) T.m_len (by decide +kernel) (pa_cons (pv 0) pa_nil)) pe_int (nomark _)) (pe_and (DW.pe_fn G_Lwhole (hr.mono (by decide)) (by rfl) pass0 (pa_cons (pe_ix ix_seq (pv 0) pe_int (fun _ _ => rfl)) pa_nil)) (pe_one (DW.pe_fn G_Lwhole (hr.mono (by decide)) (by rfl) pass0 (pa_cons (pe_ix ix_seq (pv 0) pe_int (fun _ _ => rfl)) pa_nil))))))))
theorem ok_Lis_pair {P : Program} {w : World} {K : PySem.W.Frag} {mg : Str → Option Value} {base : Heap} (T : Tx K mg)
    (G_Lwhole : DW.Fn P w K mg base CX0 1 "_law_whole" ["_law_found"] [] (sp_Lwhole K)) :
    DW.Fn P w K mg base CX0 2 "_law_is_pair" ["_law_found"] [] (sp_Lis_pair K) := by
  obtain ⟨fd, F⟩ := T.d_Lis_pair
  exact ⟨⟨fd, [], fk_Lis_pair T G_Lwhole F, .nil, FunD.bindsN F (ps := ["_law_found"]) fun _ _ _ _ _ _ us hl => match us, hl with | [_], _ => rfl⟩, T.g_Lis_pair, F.kp⟩

/-! ## _law_is_frac -/
theorem sc_Lis_frac : FnScope ["_law_found"] ["_law_found"] (defScope s_Lis_frac) := ⟨rfl, rfl, rfl, by decide +kernel, rfl, by decide +kernel, by decide +kernel⟩
def t_Lis_frac (K : PySem.W.Frag) : TS :=
  (tRet (tAndV (tCall (sp_Lis_pair K) [] E0 (tCons (tVar 0) tNil)) (tAndV (tOp DW.rIntGe (tOp (rIx K) (tVar 0) (tC (.int 1))) (tC (.int 1))) (tOp (DW.rEqq K) (tCall (sp_Lgcd K) [] E0 (tCons (tOp (rIx K) (tVar 0) (tC (.int 0))) (tCons (tOp (rIx K) (tVar 0) (tC (.int 1))) tNil))) (tC (.int 1))))))
def sp_Lis_frac (K : PySem.W.Frag) : Sp := fun vs H Q _ => ∃ (m : V) (a b : Int), vs = [m] ∧ Tp K H m (mv a b) ∧ 0 < b ∧ Int.gcd a b = 1 ∧ Q (.bl true) H
theorem len_Lis_frac (K : PySem.W.Frag) (vs : List V) (H : Hp) (Q : VK) (E : XK) (h : sp_Lis_frac K vs H Q E) : vs.length = 1 := by
  obtain ⟨m, a, b, rfl, _⟩ := h; rfl
theorem pure_Lis_frac (K : PySem.W.Frag) (vs : List V) (H : Hp) (Q : VK) (E : XK) (h : sp_Lis_frac K vs H Q E) : t_Lis_frac K ⟨fun _ H' => Q .non H', Q, fun _ _ => False, fun _ _ => False⟩ (start ["_law_found"] vs) H := by
  obtain ⟨m, a, b, rfl, hm, hb, hg, k⟩ := h
  show t_Lis_frac K _ [some m] H
  unfold t_Lis_frac
  repeat walk_at "dd"
  refine ⟨m, a, b, rfl, hm, ?_⟩
  repeat walk_at "dd"
  refine if_d (fun _ => ?_) (fun z => absurd (show (1 : Int) ≤ b by omega) z)
  repeat walk_at "dd"
  refine ⟨_, _, rfl, ?_⟩
  repeat walk_at "dd"
  refine q_is (c := true) ?_ k
  rw [hg]
  rfl
theorem fk_Lis_frac {P : Program} {w : World} {K : PySem.W.Frag} {mg : Str → Option Value} {base : Heap} (T : Tx K mg)
    (G_Lgcd : DW.Fn P w K mg base CX0 1 "_law_gcd" ["_law_one", "_law_other"] [] (sp_Lgcd K))
    (G_Lis_pair : DW.Fn P w K mg base CX0 2 "_law_is_pair" ["_law_found"] [] (sp_Lis_pair K)) {fd : FuncData}
    (F : FunD K "_law_is_frac" "_law_is_frac" (defArgs s_Lis_frac) (defBody s_Lis_frac) (defScope s_Lis_frac) [] [] (He.ga K "_law_is_frac") fd) :
    FnOk P w K mg base CX0 3 (He.ga K "_law_is_frac") fd ["_law_found"] (sp_Lis_frac K) := by
  refine F.ok sc_Lis_frac (len_Lis_frac K) (fun cdv A outer s H vs Q E hr h => ⟨t_Lis_frac K, PSs.nox ?_, pure_Lis_frac K vs H Q E h⟩)
  exact (pss_one (ps_ret (pe_and (DW.pe_fn G_Lis_pair (hr.mono (by decide)) (by rfl) pass0 (pa_cons (pv 0) pa_nil)) (pe_and (pe_cmpR op_ge (pe_ix ix_seq (pv 0) pe_int (fun _ _ => rfl)) pe_int (nomark _)) (pe_one (pe_cmpR (DW.op_eqq hr.units) (DW.pe_fn G_Lgcd (hr.mono (by decide)) (by rfl) pass0 (pa_cons (pe_ix ix_seq (pv 0) pe_int (fun _ _ => rfl)) (pa_cons (pe_ix ix_seq (pv 0) pe_int (fun _ _ => rfl)) pa_nil))) pe_int (nomark _)))))))
theorem ok_Lis_frac {P : Program} {w : World} {K : PySem.W.Frag} {mg : Str → Option Value} {base : Heap} (T : Tx K mg)
    (G_Lgcd : DW.Fn P w K mg base CX0 1 "_law_gcd" ["_law_one", "_law_other"] [] (sp_Lgcd K))
    (G_Lis_pair : DW.Fn P w K mg base CX0 2 "_law_is_pair" ["_law_found"] [] (sp_Lis_pair K)) :
    DW.Fn P w K mg base CX0 3 "_law_is_frac" ["_law_found"] [] (sp_Lis_frac K) := by
  obtain ⟨fd, F⟩ := T.d_Lis_frac
  exact ⟨⟨fd, [], fk_Lis_frac T G_Lgcd G_Lis_pair F, .nil, FunD.bindsN F (ps := ["_law_found"]) fun _ _ _ _ _ _ us hl => match us, hl with | [_], _ => rfl⟩, T.g_Lis_frac, F.kp⟩

/-! ## _law_some_frac -/
theorem sc_Lsome_frac : FnScope ["_law_feed_here", "_law_far", "_law_under"] ["_law_feed_here", "_law_far"] (defScope s_Lsome_frac) := ⟨rfl, rfl, rfl, by decide +kernel, rfl, by decide +kernel, by decide +kernel⟩
def t_Lsome_frac (K : PySem.W.Frag) : TS :=
  (tSeq (tAsg (tOp (DW.rPlus K) (tC (.int 1)) (tCall (sp_Ldraw K) [] E0 (tCons (tVar 0) (tCons (tC (.int 7)) tNil)))) (gName 2))
    (tSeq (tIfS (tTest (tOp (DW.rEqq K) (tCall (sp_Ldraw K) [] E0 (tCons (tVar 0) (tCons (tC (.int 8)) tNil))) (tC (.int 0)))) (tAsg (tOp (DW.rPlus K) (tVar 2) (tVar 1)) (gName 2)) tNext)
    (tRet (tCall (sp_Lfrac K) [] E0 (tCons (tOp DW.rIntSub (tCall (sp_Ldraw K) [] E0 (tCons (tVar 0) (tCons (tOp (DW.rPlus K) (tOp DW.rIntMul (tC (.int 2)) (tVar 1)) (tC (.int 1))) tNil))) (tVar 1)) (tCons (tVar 2) tNil))))))
def sp_Lsome_frac (K : PySem.W.Frag) : Sp := fun vs H Q _ => ∃ (p : Addr) (f : Int), vs = [.ref p, .int f] ∧ Feed H p ∧ 0 ≤ f ∧ f.natAbs < 2 ^ 60 ∧
  ∀ (a b : Int) (v : V) (H' : Hp), a.natAbs ≤ f.natAbs → 0 < b → b ≤ f + 7 → Int.gcd a b = 1 → Fr K [p] H H' → Feed H' p → Tp K H' v (mv a b) → Q v H'
theorem len_Lsome_frac (K : PySem.W.Frag) (vs : List V) (H : Hp) (Q : VK) (E : XK) (h : sp_Lsome_frac K vs H Q E) : vs.length = 2 := by
  obtain ⟨a, ns, rfl, _⟩ := h; rfl
theorem pure_Lsome_frac (K : PySem.W.Frag) (vs : List V) (H : Hp) (Q : VK) (E : XK) (h : sp_Lsome_frac K vs H Q E) : t_Lsome_frac K ⟨fun _ H' => Q .non H', Q, fun _ _ => False, fun _ _ => False⟩ (start ["_law_feed_here", "_law_far", "_law_under"] vs) H := by
  obtain ⟨p, f, rfl, hF, hf, hb, k⟩ := h
  show t_Lsome_frac K _ [some (.ref p), some (.int f), none] H
  unfold t_Lsome_frac
  repeat walk_at "dd"
  refine ⟨p, _, rfl, hF, by decide, small64 (by decide), fun r H1 r0 r1 e1 F1 => ?_⟩
  repeat walk_at "dd"
  refine ⟨p, _, rfl, F1, by decide, small64 (by decide), fun r' H2 r0' r1' e2 F2 => ?_⟩
  repeat walk_at "dd"
  have fin : ∀ u : Int, 0 < u → u ≤ f + 7 → (tRet (tCall (sp_Lfrac K) [] E0 (tCons (tOp rIntSub (tCall (sp_Ldraw K) [] E0 (tCons (tVar 0) (tCons (tOp (rPlus K) (tOp rIntMul (tC (.int 2)) (tVar 1)) (tC (.int 1))) tNil))) (tVar 1)) (tCons (tVar 2) tNil)))) ⟨fun _ H' => Q .non H', Q, fun _ _ => False, fun _ _ => False⟩ [some (.ref p), some (.int f), some (.int u)] H2 := by
    intro u u0 u1
    repeat walk_at "dd"
    refine d_i (cmul_l (by decide)) ?_
    repeat walk_at "dd"
    refine ⟨p, _, rfl, F2, by omega, small64 (by omega), fun t H3 t0 t1 e3 F3 => ?_⟩
    repeat walk_at "dd"
    have hu0 : u ≠ 0 := by omega
    refine ⟨_, _, rfl, hu0, small64 (by omega), fun v H4 e4 h4 => ?_⟩
    have n1 := fN_abs (t := t - f) hu0
    have n2 := fD_abs (t := t - f) hu0
    have n3 := fD_pos (t := t - f) hu0
    exact k _ _ v H4 (by omega) n3 (by omega) (f_low hu0) (((e1.trans e2).trans e3).trans e4.any) (Feed.up e4 F3) h4
  refine if_d (fun _ => ?_) (fun _ => ?_)
  · refine s_asg (d_op (d_var rfl (d_var rfl (d_plus ?_))))
    exact fin _ (by omega) (by omega)
  · walk_at "dw"
    exact fin _ (by omega) (by omega)
theorem fk_Lsome_frac {P : Program} {w : World} {K : PySem.W.Frag} {mg : Str → Option Value} {base : Heap} (T : Tx K mg)
    (G_Ldraw : DW.Fn P w K mg base CX0 1 "_law_draw" ["_law_feed_here", "_law_many"] [] (sp_Ldraw K))
    (G_Lfrac : DW.Fn P w K mg base CX0 2 "_law_frac" ["_law_top", "_law_under"] [] (sp_Lfrac K)) {fd : FuncData}
    (F : FunD K "_law_some_frac" "_law_some_frac" (defArgs s_Lsome_frac) (defBody s_Lsome_frac) (defScope s_Lsome_frac) [] [] (He.ga K "_law_some_frac") fd) :
    FnOk P w K mg base CX0 3 (He.ga K "_law_some_frac") fd ["_law_feed_here", "_law_far"] (sp_Lsome_frac K) := by
  refine F.ok sc_Lsome_frac (len_Lsome_frac K) (fun cdv A outer s H vs Q E hr h => ⟨t_Lsome_frac K, PSs.nox ?_, pure_Lsome_frac K vs H Q E h⟩)
  exact (pss_cons (ps_set (i := 2) sc_Lsome_frac.nd rfl (Or.inl rfl) (pe_op DW.op_plus pe_int (DW.pe_fn G_Ldraw (hr.mono (by decide)) (by rfl) pass0 (pa_cons (pv 0) (pa_cons pe_int pa_nil)))))
      (pss_cons (ps_if (pt_cmpR (DW.op_eqq hr.units) (DW.pe_fn G_Ldraw (hr.mono (by decide)) (by rfl) pass0 (pa_cons (pv 0) (pa_cons pe_int pa_nil))) pe_int (nomark _)) (pss_one (ps_set (i := 2) sc_Lsome_frac.nd rfl (Or.inl rfl) (pe_op DW.op_plus (pv 2) (pv 1)))) pss_nil)
      (pss_one (ps_ret (DW.pe_fn G_Lfrac (hr.mono (by decide)) (by rfl) pass0 (pa_cons (pe_op op_sub (DW.pe_fn G_Ldraw (hr.mono (by decide)) (by rfl) pass0 (pa_cons (pv 0) (pa_cons (pe_op DW.op_plus (pe_op op_mul pe_int (pv 1)) pe_int) pa_nil))) (pv 1)) (pa_cons (pv 2) pa_nil)))))))
theorem ok_Lsome_frac {P : Program} {w : World} {K : PySem.W.Frag} {mg : Str → Option Value} {base : Heap} (T : Tx K mg)
    (G_Ldraw : DW.Fn P w K mg base CX0 1 "_law_draw" ["_law_feed_here", "_law_many"] [] (sp_Ldraw K))
    (G_Lfrac : DW.Fn P w K mg base CX0 2 "_law_frac" ["_law_top", "_law_under"] [] (sp_Lfrac K)) :
    DW.Fn P w K mg base CX0 3 "_law_some_frac" ["_law_feed_here", "_law_far"] [] (sp_Lsome_frac K) := by
  obtain ⟨fd, F⟩ := T.d_Lsome_frac
  exact ⟨⟨fd, [], fk_Lsome_frac T G_Ldraw G_Lfrac F, .nil, FunD.bindsN F (ps := ["_law_feed_here", "_law_far"]) fun _ _ _ _ _ _ us hl => match us, hl with | [_, _], _ => rfl⟩, T.g_Lsome_frac, F.kp⟩

/-! ## law -/
theorem sc_law : FnScope ["_law_script", "_law_feed_here", "_law_a", "_law_b", "_law_other", "_law_found", "_law_word", "e"] ["_law_script"] (defScope s_law) := ⟨rfl, rfl, rfl, by decide +kernel, rfl, by decide +kernel, by decide +kernel⟩
def t_law (K : PySem.W.Frag) : TS :=
  (tSeq (tAsg (tCall (sp_Lfeed K) [] E0 (tCons (tVar 0) tNil)) (gName 1))
    (tSeq (tAsg (tCall (sp_Lsome_frac K) [] E0 (tCons (tVar 1) (tCons (tC (.int 1000000000)) tNil))) (gName 2))
    (tSeq (tAsg (tCall (sp_Lsome_frac K) [] E0 (tCons (tVar 1) (tCons (tC (.int 1000000000)) tNil))) (gName 3))
    (tSeq (tAsg (tCall (sp_Ldraw K) [] E0 (tCons (tVar 1) (tCons (tC (.int 5)) tNil))) (gName 4))
    (C8.tCut (tIfS (tTest (tOp (DW.rEqq K) (tVar 4) (tC (.int 0)))) (tAsg (tVar 2) (gName 3)) tNext)
    (C8.tCut (tIfS (tTest (tOp (DW.rEqq K) (tVar 4) (tC (.int 1)))) (tAsg (tTup (tCons (tC (.int 0)) (tCons (tC (.int 1)) tNil))) (gName 3)) tNext)
    (tSeq (tIfS (tOr (tTest (tOp (DW.rNee K) (tCall (sp_plus K) [] E0 (tCons (tVar 2) (tCons (tVar 3) tNil))) (tCall (sp_Lplus K) [] E0 (tCons (tVar 2) (tCons (tVar 3) tNil))))) (tOr (tTest (tOp (DW.rNee K) (tCall (sp_less K) [] E0 (tCons (tVar 2) (tCons (tVar 3) tNil))) (tCall (sp_Lless K) [] E0 (tCons (tVar 2) (tCons (tVar 3) tNil))))) (tTest (tOp (DW.rNee K) (tCall (sp_times K) [] E0 (tCons (tVar 2) (tCons (tVar 3) tNil))) (tCall (sp_Ltimes K) [] E0 (tCons (tVar 2) (tCons (tVar 3) tNil))))))) (tRet (tC (.bl false))) tNext)
    (tSeq (tFor (iTup K (tTup (tCons (tCall (sp_plus K) [] E0 (tCons (tVar 2) (tCons (tVar 3) tNil))) (tCons (tCall (sp_less K) [] E0 (tCons (tVar 2) (tCons (tVar 3) tNil))) (tCons (tCall (sp_times K) [] E0 (tCons (tVar 2) (tCons (tVar 3) tNil))) tNil))))) (gName 5) (tIfS (tNot (DW.tTru K (tCall (sp_Lis_frac K) [] E0 (tCons (tVar 5) tNil)))) (tRet (tC (.bl false))) tNext))
    (tSeq (tIfS (tOr (tNot (DW.tTru K (tCall (sp_Lsays K) [] E0 (tCons (tCall (sp_before K) [] E0 (tCons (tVar 2) (tCons (tVar 3) tNil))) (tCons (tCall (sp_Llt K) [] E0 (tCons (tVar 2) (tCons (tVar 3) tNil))) tNil))))) (tNot (DW.tTru K (tCall (sp_Lsays K) [] E0 (tCons (tCall (sp_before K) [] E0 (tCons (tVar 3) (tCons (tVar 2) tNil))) (tCons (tCall (sp_Llt K) [] E0 (tCons (tVar 3) (tCons (tVar 2) tNil))) tNil)))))) (tRet (tC (.bl false))) tNext)
    (tSeq (tAsg (tC (.str "")) (gName 6))
    (tSeq (tAsg (tTup (tCons (tC (.int 0)) (tCons (tC (.int 1)) tNil))) (gName 5))
    (C8.tCut (DW.tTry K (.ref (He.ga K "NoFraction")) 7 (fun W => (tAsg (tCallSD (sp_over K) [] (WE W) (tCons (tVar 2) (tCons (tVar 3) tNil))) (gName 5))) (fun a cls d => (tAsg (DW.tXfA K a cls d "word" (tVar 7)) (gName 6))))
    (tSeq (tIfS (tTest (tOp (DW.rEqq K) (tOp (rIx K) (tVar 3) (tC (.int 0))) (tC (.int 0)))) (tRet (tOp (DW.rEqq K) (tVar 6) (tC (.str "no fraction")))) tNext)
    (tRet (tAndV (tOp (DW.rEqq K) (tVar 6) (tC (.str ""))) (tAndV (tCall (sp_Lis_frac K) [] E0 (tCons (tVar 5) tNil)) (tOp (DW.rEqq K) (tVar 5) (tCall (sp_Lfrac K) [] E0 (tCons (tOp DW.rIntMul (tOp (rIx K) (tVar 2) (tC (.int 0))) (tOp (rIx K) (tVar 3) (tC (.int 1)))) (tCons (tOp DW.rIntMul (tOp (rIx K) (tVar 2) (tC (.int 1))) (tOp (rIx K) (tVar 3) (tC (.int 0)))) tNil))))))))))))))))))))
def sp_law (K : PySem.W.Frag) : Sp := fun vs H Q _ => ∃ (a : Addr) (ns : List Int), vs = [.ref a] ∧ SqL K H a (ns.map V.int) ∧ ∀ H', Q (.bl true) H'
theorem law_start (K : PySem.W.Frag) (H : Hp) (a : Addr) (ns : List Int) (_ : ns.length ≤ 63) (hS : SqL K H a (ns.map V.int)) : sp_law K [.ref a] H (fun v _ => v = .bl true) fun _ _ _ => False :=
  ⟨a, ns, rfl, hS, fun _ => rfl⟩
theorem len_law (K : PySem.W.Frag) (vs : List V) (H : Hp) (Q : VK) (E : XK) (h : sp_law K vs H Q E) : vs.length = 1 := by
  obtain ⟨a, ns, rfl, _⟩ := h; rfl
theorem pure_law {mg : Str → Option Value} (K : PySem.W.Frag) (T : Tx K mg) (vs : List V) (H : Hp) (Q : VK) (E : XK) (h : sp_law K vs H Q E) : t_law K ⟨fun _ H' => Q .non H', Q, fun _ _ => False, fun _ _ => False⟩ (start ["_law_script", "_law_feed_here", "_law_a", "_law_b", "_law_other", "_law_found", "_law_word", "e"] vs) H := by
  obtain ⟨a, ns, rfl, hS, k⟩ := h
  show t_law K _ [some (.ref a), none, none, none, none, none, none, none] H
  unfold t_law
  repeat walk_at "dd"
  refine ⟨a, ns, rfl, hS, fun p H1 hp e1 F1 => ?_⟩
  repeat walk_at "dd"
  refine ⟨p, _, rfl, F1, by decide, by decide, fun a0 a1 va H2 a2 a3 a4 a5 e2 F2 ha => ?_⟩
  repeat walk_at "dd"
  refine ⟨p, _, rfl, F2, by decide, by decide, fun b0 b1 vb H3 b2 b3 b4 b5 e3 F3 hb => ?_⟩
  repeat walk_at "dd"
  refine ⟨p, _, rfl, F3, by decide, small64 (by decide), fun o H4 o1 o2 e4 F4 => ?_⟩
  have ha4 : Tp K H4 va (mv a0 a1) := by walk_at "tp"
  have hb4 : Tp K H4 vb (mv b0 b1) := by walk_at "tp"
  clear e1 e2 e3 e4 F1 F2 F3 ha hb hS
  refine s_cut (M := fun σ H => ∃ (w : V) (x y : Int), σ = [some (.ref a), some (.ref p), some va, some w, some (.int o), none, none, none] ∧ Tp K H va (mv a0 a1) ∧ Tp K H w (mv x y) ∧ x.natAbs ≤ 1000000000 ∧ 0 < y ∧ y ≤ 1000000007 ∧ Int.gcd x y = 1) ?_ ?_
  · repeat walk_at "dd"
    refine if_d (fun _ => ?_) (fun _ => ?_)
    · repeat walk_at "dw"
      exact ⟨_, _, _, rfl, ha4, ha4, a2, a3, a4, a5⟩
    · repeat walk_at "dw"
      exact ⟨_, _, _, rfl, ha4, hb4, b2, b3, b4, b5⟩
  clear ha4 hb4 b2 b3 b4 b5
  rintro σ H5 ⟨w, x, y, rfl, ha, hw, x1, y1, y2, g1⟩
  refine s_cut (M := fun σ H => ∃ (w : V) (x y : Int), σ = [some (.ref a), some (.ref p), some va, some w, some (.int o), none, none, none] ∧ Tp K H va (mv a0 a1) ∧ Tp K H w (mv x y) ∧ x.natAbs ≤ 1000000000 ∧ 0 < y ∧ y ≤ 1000000007 ∧ Int.gcd x y = 1) ?_ ?_
  · repeat walk_at "dd"
    refine if_d (fun _ => ?_) (fun _ => ?_)
    · repeat walk_at "dd"
      exact ⟨_, _, _, rfl, ha.up (by assumption), by assumption, by decide, by decide, by decide, by decide⟩
    · repeat walk_at "dw"
      exact ⟨_, _, _, rfl, ha, hw, x1, y1, y2, g1⟩
  clear ha hw x1 y1 y2 g1
  rintro σ H6 ⟨w, x, y, rfl, ha, hw, x1, y1, y2, g1⟩
  have A1 : a1 ≠ 0 := by omega
  have Y1 : y ≠ 0 := by omega
  have A2 : a1.natAbs < 2 ^ 64 := by omega
  have Y2 : y.natAbs < 2 ^ 64 := by omega
  have X2 : x.natAbs < 2 ^ 64 := by omega
  have A3 : a0.natAbs < 2 ^ 64 := by omega
  have AY : a1 * y ≠ 0 := Int.mul_ne_zero A1 Y1
  repeat walk_at "dd"
  refine ⟨_, _, _, _, _, _, rfl, ha, hw, A1, Y1, A2, Y2, fun v7 H7 e7 h7 => ?_⟩
  repeat walk_at "dd"
  refine ⟨_, _, _, _, _, _, rfl, by walk_at "tp", by walk_at "tp", A1, Y1, A2, Y2, fun v8 H8 e8 h8 => ?_⟩
  repeat walk_at "dd"
  refine ⟨_, _, _, _, _, _, rfl, by walk_at "tp", by walk_at "tp", A1, Y1, A2, Y2, fun v9 H9 e9 h9 => ?_⟩
  repeat walk_at "dd"
  refine ⟨_, _, _, _, _, _, rfl, by walk_at "tp", by walk_at "tp", A1, Y1, A2, Y2, fun v10 H10 e10 h10 => ?_⟩
  repeat walk_at "dd"
  refine ⟨_, _, _, _, _, _, rfl, by walk_at "tp", by walk_at "tp", A1, Y1, A2, Y2, .inl A3, fun v11 H11 e11 h11 => ?_⟩
  repeat walk_at "dd"
  refine ⟨_, _, _, _, _, _, rfl, by walk_at "tp", by walk_at "tp", A1, Y1, A2, Y2, .inl A3, fun v12 H12 e12 h12 => ?_⟩
  repeat walk_at "dd"
  have ha12 : Tp K H12 va (mv a0 a1) := by walk_at "tp"
  have hw12 : Tp K H12 w (mv x y) := by walk_at "tp"
  clear ha hw e7 e8 e9 e10 e11 e12 h7 h8 h9 h10 h11 h12
  refine ⟨_, _, _, _, _, _, rfl, ha12, hw12, A1, Y1, A2, Y2, fun v13 H13 e13 h13 => ?_⟩
  repeat walk_at "dd"
  refine ⟨_, _, _, _, _, _, rfl, by walk_at "tp", by walk_at "tp", A1, Y1, A2, Y2, fun v14 H14 e14 h14 => ?_⟩
  repeat walk_at "dd"
  refine ⟨_, _, _, _, _, _, rfl, by walk_at "tp", by walk_at "tp", A1, Y1, A2, Y2, .inl A3, fun v15 H15 e15 h15 => ?_⟩
  repeat walk_at "dd"
  rename_i vt Ht et ht
  have hat : Tp K Ht va (mv a0 a1) := by walk_at "tp"
  have hwt : Tp K Ht w (mv x y) := by walk_at "tp"
  clear ha12 hw12 e13 e14 e15 et h13 h14 h15
  refine for_tp (S := []) ht (fun _ σ H => ∃ f, σ = [some (.ref a), some (.ref p), some va, some w, some (.int o), f, none, none] ∧ Fr K [] Ht H) ⟨_, rfl, Fr.rf⟩ (fun _ _ _ _ ⟨_, _, e⟩ => e) ?_ ?_
  · rintro i d y1 σ H' hd ⟨f, rfl, e⟩ hy1
    have hall : ∃ t, d = mv (fN t (a1 * y)) (fD t (a1 * y)) := by
      match i, hd with
      | 0, hd => exact ⟨_, (Option.some.inj hd).symm⟩
      | 1, hd => exact ⟨_, (Option.some.inj hd).symm⟩
      | 2, hd => exact ⟨_, (Option.some.inj hd).symm⟩
      | i + 3, hd => simp at hd
    obtain ⟨t, rfl⟩ := hall
    refine g_name ?_
    repeat walk_at "dd"
    refine ⟨_, _, _, rfl, hy1, fD_pos AY, f_low AY, ?_⟩
    repeat walk_at "dd"
    exact ⟨_, rfl, e⟩
  rintro σ H16 ⟨f, rfl, e16⟩
  have ha16 := hat.up e16
  have hw16 := hwt.up e16
  clear hat hwt ht e16
  repeat walk_at "dd"
  refine ⟨_, _, _, _, _, _, rfl, ha16, hw16, A2, Y2, ?_⟩
  repeat walk_at "dd"
  refine ⟨_, _, _, _, _, _, rfl, ha16, hw16, A2, Y2, ?_⟩
  repeat walk_at "dd"
  refine ⟨_, rfl, ?_⟩
  repeat walk_at "dd"
  refine ⟨_, _, _, _, _, _, rfl, hw16, ha16, Y2, A2, ?_⟩
  repeat walk_at "dd"
  refine ⟨_, _, _, _, _, _, rfl, hw16, ha16, Y2, A2, ?_⟩
  repeat walk_at "dd"
  refine ⟨_, rfl, ?_⟩
  repeat walk_at "dd"
  rename_i v17 H17 e17 h17
  have ha17 := ha16.up e17
  have hw17 := hw16.up e17
  refine s_cut (M := fun σ H => ∃ (q : Str) (r : V), σ = [some (.ref a), some (.ref p), some va, some w, some (.int o), some r, some (.str q), none] ∧ Fr K [] H17 H ∧
    ((x = 0 ∧ q = "no fraction") ∨ (x ≠ 0 ∧ q = "" ∧ Tp K H r (mv (fN (a0 * y) (a1 * x)) (fD (a0 * y) (a1 * x)))))) ?_ ?_
  · repeat walk_at "dd"
    refine ⟨_, _, _, _, _, _, rfl, ha17, hw17, A1, Y2, A2, X2, fun hz v H18 e18 h18 => ?_, fun hz d H18 hd e18 h18 => ?_⟩
    · exact ⟨_, _, rfl, e18, .inr ⟨hz, rfl, h18⟩⟩
    · refine w_caught T.e_NoFraction_NoFraction fun x hx => ?_
      refine s_asg (d_xf T.x_NoFraction (by simp) rfl h18 rfl ?_)
      exact ⟨_, _, rfl, e18, .inl ⟨hz, rfl⟩⟩
  rintro σ H18 ⟨q, r, rfl, e18, hq⟩
  repeat walk_at "dd"
  rcases hq with ⟨hx, rfl⟩ | ⟨hx, rfl, hr⟩
  · refine if_d (fun _ => ?_) (fun z => absurd hx z)
    repeat walk_at "dd"
    exact k _
  · have AX : a1 * x ≠ 0 := Int.mul_ne_zero A1 hx
    refine if_d (fun z => absurd z hx) (fun _ => ?_)
    repeat walk_at "dd"
    refine if_d (fun _ => ?_) (fun z => absurd rfl z)
    repeat walk_at "dd"
    refine ⟨_, _, _, rfl, hr, fD_pos AX, f_low AX, ?_⟩
    repeat walk_at "dd"
    refine d_i (cmul_r Y2) ?_
    repeat walk_at "dd"
    refine d_i (cmul_r X2) ?_
    repeat walk_at "dd"
    refine ⟨_, _, rfl, AX, big128 A2 X2, fun v19 H19 e19 h19 => ?_⟩
    repeat walk_at "dd"
    exact k _
theorem fk_law {P : Program} {w : World} {K : PySem.W.Frag} {mg : Str → Option Value} {base : Heap} (T : Tx K mg)
    (G_Ldraw : DW.Fn P w K mg base CX0 1 "_law_draw" ["_law_feed_here", "_law_many"] [] (sp_Ldraw K))
    (G_Lfeed : DW.Fn P w K mg base CX0 1 "_law_feed" ["_law_script"] [] (sp_Lfeed K))
    (G_Lfrac : DW.Fn P w K mg base CX0 2 "_law_frac" ["_law_top", "_law_under"] [] (sp_Lfrac K))
    (G_Lis_frac : DW.Fn P w K mg base CX0 3 "_law_is_frac" ["_law_found"] [] (sp_Lis_frac K))
    (G_Lless : DW.Fn P w K mg base CX0 3 "_law_less" ["_law_a", "_law_b"] [] (sp_Lless K))
    (G_Llt : DW.Fn P w K mg base CX0 1 "_law_lt" ["_law_a", "_law_b"] [] (sp_Llt K))
    (G_Lplus : DW.Fn P w K mg base CX0 3 "_law_plus" ["_law_a", "_law_b"] [] (sp_Lplus K))
    (G_Lsays : DW.Fn P w K mg base CX0 1 "_law_says" ["_law_found", "_law_due"] [] (sp_Lsays K))
    (G_Lsome_frac : DW.Fn P w K mg base CX0 3 "_law_some_frac" ["_law_feed_here", "_law_far"] [] (sp_Lsome_frac K))
    (G_Ltimes : DW.Fn P w K mg base CX0 3 "_law_times" ["_law_a", "_law_b"] [] (sp_Ltimes K))
    (G_before : DW.Fn P w K mg base CX0 1 "before" ["a", "b"] [] (sp_before K))
    (G_less : DW.Fn P w K mg base CX0 8 "less" ["a", "b"] [] (sp_less K))
    (G_over : DW.Fn P w K mg base (L2.CX P w) 8 "over" ["a", "b"] [] (sp_over K))
    (G_plus : DW.Fn P w K mg base CX0 8 "plus" ["a", "b"] [] (sp_plus K))
    (G_times : DW.Fn P w K mg base CX0 8 "times" ["a", "b"] [] (sp_times K)) {fd : FuncData}
    (F : FunD K "law" "law" (defArgs s_law) (defBody s_law) (defScope s_law) [] [] (He.ga K "law") fd) :
    FnOk P w K mg base CX0 9 (He.ga K "law") fd ["_law_script"] (sp_law K) := by
  refine F.ok sc_law (len_law K) (fun cdv A outer s H vs Q E hr h => ⟨t_law K, PSs.nox ?_, pure_law K T vs H Q E h⟩)
  exact (pss_cons (ps_set (i := 1) sc_law.nd rfl (Or.inl rfl) (DW.pe_fn G_Lfeed (hr.mono (by decide)) (by rfl) pass0 (pa_cons (pv 0) pa_nil)))
      (pss_cons (ps_set (i := 2) sc_law.nd rfl (Or.inl rfl) (DW.pe_fn G_Lsome_frac (hr.mono (by decide)) (by rfl) pass0 (pa_cons (pv 1) (pa_cons pe_int pa_nil))))
      (pss_cons (ps_set (i := 3) sc_law.nd rfl (Or.inl rfl) (DW.pe_fn G_Lsome_frac (hr.mono (by decide)) (by rfl) pass0 (pa_cons (pv 1) (pa_cons pe_int pa_nil))))
      (pss_cons (ps_set (i := 4) sc_law.nd rfl (Or.inl rfl) (DW.pe_fn G_Ldraw (hr.mono (by decide)) (by rfl) pass0 (pa_cons (pv 1) (pa_cons pe_int pa_nil))))
      (C8.pss_cut (ps_if (pt_cmpR (DW.op_eqq hr.units) (pv 4) pe_int (nomark _)) (pss_one (ps_set (i := 3) sc_law.nd rfl (Or.inl rfl) (pv 2))) pss_nil)
      (C8.pss_cut (ps_if (pt_cmpR (DW.op_eqq hr.units) (pv 4) pe_int (nomark _)) (pss_one (ps_set (i := 3) sc_law.nd rfl (Or.inl rfl) (pe_tup (pa_cons pe_int (pa_cons pe_int pa_nil))))) pss_nil)
      (pss_cons (ps_if (PW.pt (pw_or (pt_cmpR (DW.op_nee hr.units) (DW.pe_fn G_plus (hr.mono (by decide)) (by rfl) pass0 (pa_cons (pv 2) (pa_cons (pv 3) pa_nil))) (DW.pe_fn G_Lplus (hr.mono (by decide)) (by rfl) pass0 (pa_cons (pv 2) (pa_cons (pv 3) pa_nil))) (nomark _)) (pw_or (pt_cmpR (DW.op_nee hr.units) (DW.pe_fn G_less (hr.mono (by decide)) (by rfl) pass0 (pa_cons (pv 2) (pa_cons (pv 3) pa_nil))) (DW.pe_fn G_Lless (hr.mono (by decide)) (by rfl) pass0 (pa_cons (pv 2) (pa_cons (pv 3) pa_nil))) (nomark _)) (pw_or1 (pt_cmpR (DW.op_nee hr.units) (DW.pe_fn G_times (hr.mono (by decide)) (by rfl) pass0 (pa_cons (pv 2) (pa_cons (pv 3) pa_nil))) (DW.pe_fn G_Ltimes (hr.mono (by decide)) (by rfl) pass0 (pa_cons (pv 2) (pa_cons (pv 3) pa_nil))) (nomark _)))))) (pss_one (ps_ret pe_bl)) pss_nil)
      (pss_cons (ps_for PassesOwn.never rfl (pi_tup (pe_tup (pa_cons (DW.pe_fn G_plus (hr.mono (by decide)) (by rfl) pass0 (pa_cons (pv 2) (pa_cons (pv 3) pa_nil))) (pa_cons (DW.pe_fn G_less (hr.mono (by decide)) (by rfl) pass0 (pa_cons (pv 2) (pa_cons (pv 3) pa_nil))) (pa_cons (DW.pe_fn G_times (hr.mono (by decide)) (by rfl) pass0 (pa_cons (pv 2) (pa_cons (pv 3) pa_nil))) pa_nil))))) (pg_name (i := 5) sc_law.nd rfl (Or.inl rfl)) (pss_one (ps_if (pt_not (pt_truth (DW.pe_fn G_Lis_frac (hr.mono (by decide)) (by rfl) pass0 (pa_cons (pv 5) pa_nil)) (by intro _; rfl))) (pss_one (ps_ret pe_bl)) pss_nil)))
      (pss_cons (ps_if (PW.pt (pw_or (pt_not (pt_truth (DW.pe_fn G_Lsays (hr.mono (by decide)) (by rfl) pass0 (pa_cons (DW.pe_fn G_before (hr.mono (by decide)) (by rfl) pass0 (pa_cons (pv 2) (pa_cons (pv 3) pa_nil))) (pa_cons (DW.pe_fn G_Llt (hr.mono (by decide)) (by rfl) pass0 (pa_cons (pv 2) (pa_cons (pv 3) pa_nil))) pa_nil))) (by intro _; rfl))) (pw_or1 (pt_not (pt_truth (DW.pe_fn G_Lsays (hr.mono (by decide)) (by rfl) pass0 (pa_cons (DW.pe_fn G_before (hr.mono (by decide)) (by rfl) pass0 (pa_cons (pv 3) (pa_cons (pv 2) pa_nil))) (pa_cons (DW.pe_fn G_Llt (hr.mono (by decide)) (by rfl) pass0 (pa_cons (pv 3) (pa_cons (pv 2) pa_nil))) pa_nil))) (by intro _; rfl)))))) (pss_one (ps_ret pe_bl)) pss_nil)
      (pss_cons (ps_set (i := 6) sc_law.nd rfl (Or.inl rfl) pe_str)
      (pss_cons (ps_set (i := 5) sc_law.nd rfl (Or.inl rfl) (pe_tup (pa_cons pe_int (pa_cons pe_int pa_nil))))
      (C8.pss_cut (ps_try_as (i := 7) (tb := fun W => (tAsg (tCallSD (sp_over K) [] (WE W) (tCons (tVar 2) (tCons (tVar 3) tNil))) (gName 5))) (ts := fun a cls d => (tAsg (DW.tXfA K a cls d "word" (tVar 7)) (gName 6))) (Wout := fun _ _ _ _ => False) rfl rfl sc_law.nd rfl rfl ⟨rfl, by decide, Or.inl T.x_NoFraction.g⟩ takes0
      (fun W pn xe tk _ => (pss_one (ps_set (i := 5) sc_law.nd rfl (Or.inl rfl) (DW.pe_fnS G_over (hr.mono (by decide)) (by rfl) (fun σ => passAt tk σ) (pa_cons (pv 2) (pa_cons (pv 3) pa_nil))))))
      (fun a oe cls d pn hz hf => (pss_one (ps_set (i := 6) sc_law.nd rfl (Or.inl rfl) (DW.pe_xfA hz hf (pv 7))))))
      (pss_cons (ps_if (pt_cmpR (DW.op_eqq hr.units) (pe_ix ix_seq (pv 3) pe_int (fun _ _ => rfl)) pe_int (nomark _)) (pss_one (ps_ret (pe_cmpR (DW.op_eqq hr.units) (pv 6) pe_str (nomark _)))) pss_nil)
      (pss_one (ps_ret (pe_and (pe_cmpR (DW.op_eqq hr.units) (pv 6) pe_str (nomark _)) (pe_and (DW.pe_fn G_Lis_frac (hr.mono (by decide)) (by rfl) pass0 (pa_cons (pv 5) pa_nil)) (pe_one (pe_cmpR (DW.op_eqq hr.units) (pv 5) (DW.pe_fn G_Lfrac (hr.mono (by decide)) (by rfl) pass0 (pa_cons (pe_op op_mul (pe_ix ix_seq (pv 2) pe_int (fun _ _ => rfl)) (pe_ix ix_seq (pv 3) pe_int (fun _ _ => rfl))) (pa_cons (pe_op op_mul (pe_ix ix_seq (pv 2) pe_int (fun _ _ => rfl)) (pe_ix ix_seq (pv 3) pe_int (fun _ _ => rfl))) pa_nil))) (nomark _))))))))))))))))))))

/-! ## the head -/
def dd_WeirError_UinitU : He.DefD := ⟨("WeirError", some "__init__"), "__init__", "WeirError.__init__", defArgs s_WeirError_UinitU, defBody s_WeirError_UinitU, defScope s_WeirError_UinitU, [], []⟩
def dd_FormError_UinitU : He.DefD := ⟨("FormError", some "__init__"), "__init__", "FormError.__init__", defArgs s_FormError_UinitU, defBody s_FormError_UinitU, defScope s_FormError_UinitU, [], []⟩
def dd_NoFraction_UinitU : He.DefD := ⟨("NoFraction", some "__init__"), "__init__", "NoFraction.__init__", defArgs s_NoFraction_UinitU, defBody s_NoFraction_UinitU, defScope s_NoFraction_UinitU, [], []⟩
def dd_common : He.DefD := ⟨("common", none), "common", "common", defArgs s_common, defBody s_common, defScope s_common, [], []⟩
def dd_frac : He.DefD := ⟨("frac", none), "frac", "frac", defArgs s_frac, defBody s_frac, defScope s_frac, [.int 1], []⟩
def dd_plus : He.DefD := ⟨("plus", none), "plus", "plus", defArgs s_plus, defBody s_plus, defScope s_plus, [], []⟩
def dd_less : He.DefD := ⟨("less", none), "less", "less", defArgs s_less, defBody s_less, defScope s_less, [], []⟩
def dd_times : He.DefD := ⟨("times", none), "times", "times", defArgs s_times, defBody s_times, defScope s_times, [], []⟩
def dd_over : He.DefD := ⟨("over", none), "over", "over", defArgs s_over, defBody s_over, defScope s_over, [], []⟩
def dd_before : He.DefD := ⟨("before", none), "before", "before", defArgs s_before, defBody s_before, defScope s_before, [], []⟩
def dd_Lfeed : He.DefD := ⟨("_law_feed", none), "_law_feed", "_law_feed", defArgs s_Lfeed, defBody s_Lfeed, defScope s_Lfeed, [], []⟩
def dd_Ldraw : He.DefD := ⟨("_law_draw", none), "_law_draw", "_law_draw", defArgs s_Ldraw, defBody s_Ldraw, defScope s_Ldraw, [], []⟩
def dd_Lwhole : He.DefD := ⟨("_law_whole", none), "_law_whole", "_law_whole", defArgs s_Lwhole, defBody s_Lwhole, defScope s_Lwhole, [], []⟩
def dd_Lsays : He.DefD := ⟨("_law_says", none), "_law_says", "_law_says", defArgs s_Lsays, defBody s_Lsays, defScope s_Lsays, [], []⟩
def dd_Lgcd : He.DefD := ⟨("_law_gcd", none), "_law_gcd", "_law_gcd", defArgs s_Lgcd, defBody s_Lgcd, defScope s_Lgcd, [], []⟩
def dd_Lfrac : He.DefD := ⟨("_law_frac", none), "_law_frac", "_law_frac", defArgs s_Lfrac, defBody s_Lfrac, defScope s_Lfrac, [], []⟩
def dd_Lplus : He.DefD := ⟨("_law_plus", none), "_law_plus", "_law_plus", defArgs s_Lplus, defBody s_Lplus, defScope s_Lplus, [], []⟩
def dd_Lless : He.DefD := ⟨("_law_less", none), "_law_less", "_law_less", defArgs s_Lless, defBody s_Lless, defScope s_Lless, [], []⟩
def dd_Ltimes : He.DefD := ⟨("_law_times", none), "_law_times", "_law_times", defArgs s_Ltimes, defBody s_Ltimes, defScope s_Ltimes, [], []⟩
def dd_Llt : He.DefD := ⟨("_law_lt", none), "_law_lt", "_law_lt", defArgs s_Llt, defBody s_Llt, defScope s_Llt, [], []⟩
def dd_Lis_pair : He.DefD := ⟨("_law_is_pair", none), "_law_is_pair", "_law_is_pair", defArgs s_Lis_pair, defBody s_Lis_pair, defScope s_Lis_pair, [], []⟩
def dd_Lis_frac : He.DefD := ⟨("_law_is_frac", none), "_law_is_frac", "_law_is_frac", defArgs s_Lis_frac, defBody s_Lis_frac, defScope s_Lis_frac, [], []⟩
def dd_Lsome_frac : He.DefD := ⟨("_law_some_frac", none), "_law_some_frac", "_law_some_frac", defArgs s_Lsome_frac, defBody s_Lsome_frac, defScope s_Lsome_frac, [], []⟩
def dd_law : He.DefD := ⟨("law", none), "law", "law", defArgs s_law, defBody s_law, defScope s_law, [], []⟩
def fnL : List He.DefD := [dd_WeirError_UinitU, dd_FormError_UinitU, dd_NoFraction_UinitU, dd_common, dd_frac, dd_plus, dd_less, dd_times, dd_over, dd_before, dd_Lfeed, dd_Ldraw, dd_Lwhole, dd_Lsays, dd_Lgcd, dd_Lfrac, dd_Lplus, dd_Lless, dd_Ltimes, dd_Llt, dd_Lis_pair, dd_Lis_frac, dd_Lsome_frac, dd_law]
def faL : List He.Fa := [.glo "common", .glo "frac", .glo "plus", .glo "less", .glo "times", .glo "over", .glo "before", .glo "_law_feed", .glo "_law_draw", .glo "_law_whole", .glo "_law_says", .glo "_law_gcd", .glo "_law_frac", .glo "_law_plus", .glo "_law_less", .glo "_law_times", .glo "_law_lt", .glo "_law_is_pair", .glo "_law_is_frac", .glo "_law_some_frac", .glo "law", .free "ValueError", .free "abs", .free "bool", .free "int", .free "isinstance", .free "len", .free "list", .free "tuple", .glo "WeirError", .glo "FormError", .glo "NoFraction", .exm "WeirError" "NoFraction" false, .exm "FormError" "NoFraction" false, .exm "NoFraction" "NoFraction" true]
def exL (K : PySem.W.Frag) : List Bool := [DW.excXB K "WeirError" ["word"], DW.excXB K "FormError" ["word"], DW.excXB K "NoFraction" ["word"], DW.veB K]
theorem tx_mk {K : PySem.W.Frag} {h : Heap} {mg : Str → Option Value} (X : K.In h) (G : h.Ns mainGlobals mg) (c : DW.SaysE faL fnL (fun K => DW.allT (exL K)) K) : Tx K mg :=
  ⟨c.d.def_ 0 (d := dd_WeirError_UinitU) rfl,
   c.d.def_ 1 (d := dd_FormError_UinitU) rfl,
   c.d.def_ 2 (d := dd_NoFraction_UinitU) rfl,
   He.glo_ok X G (c.d.fact 0 (f := .glo "common") rfl),
   c.d.def_ 3 (d := dd_common) rfl,
   He.glo_ok X G (c.d.fact 1 (f := .glo "frac") rfl),
   c.d.def_ 4 (d := dd_frac) rfl,
   He.glo_ok X G (c.d.fact 2 (f := .glo "plus") rfl),
   c.d.def_ 5 (d := dd_plus) rfl,
   He.glo_ok X G (c.d.fact 3 (f := .glo "less") rfl),
   c.d.def_ 6 (d := dd_less) rfl,
   He.glo_ok X G (c.d.fact 4 (f := .glo "times") rfl),
   c.d.def_ 7 (d := dd_times) rfl,
   He.glo_ok X G (c.d.fact 5 (f := .glo "over") rfl),
   c.d.def_ 8 (d := dd_over) rfl,
   He.glo_ok X G (c.d.fact 6 (f := .glo "before") rfl),
   c.d.def_ 9 (d := dd_before) rfl,
   He.glo_ok X G (c.d.fact 7 (f := .glo "_law_feed") rfl),
   c.d.def_ 10 (d := dd_Lfeed) rfl,
   He.glo_ok X G (c.d.fact 8 (f := .glo "_law_draw") rfl),
   c.d.def_ 11 (d := dd_Ldraw) rfl,
   He.glo_ok X G (c.d.fact 9 (f := .glo "_law_whole") rfl),
   c.d.def_ 12 (d := dd_Lwhole) rfl,
   He.glo_ok X G (c.d.fact 10 (f := .glo "_law_says") rfl),
   c.d.def_ 13 (d := dd_Lsays) rfl,
   He.glo_ok X G (c.d.fact 11 (f := .glo "_law_gcd") rfl),
   c.d.def_ 14 (d := dd_Lgcd) rfl,
   He.glo_ok X G (c.d.fact 12 (f := .glo "_law_frac") rfl),
   c.d.def_ 15 (d := dd_Lfrac) rfl,
   He.glo_ok X G (c.d.fact 13 (f := .glo "_law_plus") rfl),
   c.d.def_ 16 (d := dd_Lplus) rfl,
   He.glo_ok X G (c.d.fact 14 (f := .glo "_law_less") rfl),
   c.d.def_ 17 (d := dd_Lless) rfl,
   He.glo_ok X G (c.d.fact 15 (f := .glo "_law_times") rfl),
   c.d.def_ 18 (d := dd_Ltimes) rfl,
   He.glo_ok X G (c.d.fact 16 (f := .glo "_law_lt") rfl),
   c.d.def_ 19 (d := dd_Llt) rfl,
   He.glo_ok X G (c.d.fact 17 (f := .glo "_law_is_pair") rfl),
   c.d.def_ 20 (d := dd_Lis_pair) rfl,
   He.glo_ok X G (c.d.fact 18 (f := .glo "_law_is_frac") rfl),
   c.d.def_ 21 (d := dd_Lis_frac) rfl,
   He.glo_ok X G (c.d.fact 19 (f := .glo "_law_some_frac") rfl),
   c.d.def_ 22 (d := dd_Lsome_frac) rfl,
   He.glo_ok X G (c.d.fact 20 (f := .glo "law") rfl),
   c.d.def_ 23 (d := dd_law) rfl,
   He.free_ok X G (c.d.fact 21 (f := .free "ValueError") rfl),
   He.free_ok X G (c.d.fact 22 (f := .free "abs") rfl),
   He.free_ok X G (c.d.fact 23 (f := .free "bool") rfl),
   He.free_ok X G (c.d.fact 24 (f := .free "int") rfl),
   He.free_ok X G (c.d.fact 25 (f := .free "isinstance") rfl),
   He.free_ok X G (c.d.fact 26 (f := .free "len") rfl),
   He.free_ok X G (c.d.fact 27 (f := .free "list") rfl),
   He.free_ok X G (c.d.fact 28 (f := .free "tuple") rfl),
   DW.excXB_ok (He.glo_ok X G (c.d.fact 29 (f := .glo "WeirError") rfl)) (DW.allT_get c.more 0 rfl),
   DW.excXB_ok (He.glo_ok X G (c.d.fact 30 (f := .glo "FormError") rfl)) (DW.allT_get c.more 1 rfl),
   DW.excXB_ok (He.glo_ok X G (c.d.fact 31 (f := .glo "NoFraction") rfl)) (DW.allT_get c.more 2 rfl),
   of_decide_eq_true (c.d.fact 32 (f := .exm "WeirError" "NoFraction" false) rfl),
   of_decide_eq_true (c.d.fact 33 (f := .exm "FormError" "NoFraction" false) rfl),
   of_decide_eq_true (c.d.fact 34 (f := .exm "NoFraction" "NoFraction" true) rfl),
   DW.veB_ok (DW.allT_get c.more 3 rfl)⟩
theorem all_ok {P : Program} {w : World} {K : PySem.W.Frag} {mg : Str → Option Value} (T : Tx K mg) (base : Heap) {fd : FuncData} (F : FunD K "law" "law" (defArgs s_law) (defBody s_law) (defScope s_law) [] [] (He.ga K "law") fd) : FnOk P w K mg base CX0 9 (He.ga K "law") fd ["_law_script"] (sp_law K) := by
  have G_WeirError_UinitU := ok_WeirError_UinitU (P := P) (w := w) (base := base) T 
  have G_FormError_UinitU := ok_FormError_UinitU (P := P) (w := w) (base := base) T G_WeirError_UinitU
  have G_NoFraction_UinitU := ok_NoFraction_UinitU (P := P) (w := w) (base := base) T G_FormError_UinitU
  have G_common := ok_common (P := P) (w := w) (base := base) T 
  have G_frac := ok_frac (P := P) (w := w) (base := base) T G_NoFraction_UinitU G_common
  have G_plus := ok_plus (P := P) (w := w) (base := base) T G_frac
  have G_less := ok_less (P := P) (w := w) (base := base) T G_frac
  have G_times := ok_times (P := P) (w := w) (base := base) T G_frac
  have G_over := ok_over (P := P) (w := w) (base := base) T G_frac
  have G_before := ok_before (P := P) (w := w) (base := base) T 
  have G_Lfeed := ok_Lfeed (P := P) (w := w) (base := base) T 
  have G_Ldraw := ok_Ldraw (P := P) (w := w) (base := base) T 
  have G_Lwhole := ok_Lwhole (P := P) (w := w) (base := base) T 
  have G_Lsays := ok_Lsays (P := P) (w := w) (base := base) T 
  have G_Lgcd := ok_Lgcd (P := P) (w := w) (base := base) T 
  have G_Lfrac := ok_Lfrac (P := P) (w := w) (base := base) T G_Lgcd
  have G_Lplus := ok_Lplus (P := P) (w := w) (base := base) T G_Lfrac
  have G_Lless := ok_Lless (P := P) (w := w) (base := base) T G_Lfrac
  have G_Ltimes := ok_Ltimes (P := P) (w := w) (base := base) T G_Lfrac
  have G_Llt := ok_Llt (P := P) (w := w) (base := base) T 
  have G_Lis_pair := ok_Lis_pair (P := P) (w := w) (base := base) T G_Lwhole
  have G_Lis_frac := ok_Lis_frac (P := P) (w := w) (base := base) T G_Lgcd G_Lis_pair
  have G_Lsome_frac := ok_Lsome_frac (P := P) (w := w) (base := base) T G_Ldraw G_Lfrac
  exact fk_law T G_Ldraw G_Lfeed G_Lfrac G_Lis_frac G_Lless G_Llt G_Lplus G_Lsays G_Lsome_frac G_Ltimes G_before G_less G_over G_plus G_times F
abbrev R : PySem.W.OpenRow := PySem.W.OpenLaw.row PySem.Challenge.rw_dialweir_k02_fractions_reckoned
abbrev hk : PySem.W.Hook := DW.hookE 5 faL fnL (fun K => DW.allT (exL K))
def ob (s : PySem.W.SharedT) : DW.AlE := DW.obsE 5 faL fnL (fun K => DW.allT (exL K)) (HandSHeadRun.getT s)
theorem ob_eq (s : PySem.W.SharedT) : ob s = hk.obs s.abs := DW.obsE_eq (HandSHeadRun.getT_eq s)
def looseL : List Str := ["WeirError", "FormError", "NoFraction", "common", "frac", "plus", "less", "times", "over", "before", "_law_feed", "_law_draw", "_law_whole", "_law_says", "_law_gcd", "_law_frac", "_law_plus", "_law_less", "_law_times", "_law_lt", "_law_is_pair", "_law_is_frac", "_law_some_frac"]
theorem run (w : World) : HandSHeadRun.RunEq R (PySem.W.view R.prog [26]) hk ob 4000 looseL w := by
  intro os
  kernel_rfl
end Prf
open PySem PySem.W PySem.Calls PyProof.Rows
theorem PySem.Challenge.cw_dialweir_k02_fractions_reckoned_holds : PySem.Challenge.rw_dialweir_k02_fractions_reckoned.Holds := by
  w_on; o_law
  refine HandSHeadRun.head_any (r := OpenLaw.row PySem.Challenge.rw_dialweir_k02_fractions_reckoned) (q := view (OpenLaw.row PySem.Challenge.rw_dialweir_k02_fractions_reckoned).prog [26]) (H := Prf.hk) (ob := Prf.ob) (M := 4000) (loose := Prf.looseL) (d := HandSHeadRun.topDef (OpenLaw.row PySem.Challenge.rw_dialweir_k02_fractions_reckoned).prog 26) (kwd := []) Prf.ob_eq
    (by kernel_rfl) (fun s => by kernel_rfl) Prf.run (by kernel_rfl) (by kernel_rfl) (by kernel_rfl) (by rfl) (by first | assumption | decide +kernel) (by decide +kernel) ⟨rfl, rfl, rfl, rfl, rfl, by decide +kernel⟩ ?hw ?hc
  case hw => w_witness2
  case hc =>
    refine L2.walk_ofE (l := PySem.Challenge.rw_dialweir_k02_fractions_reckoned) (n := 63) (k := 9) (x := "_law_script") (CX := L2.CX0) rfl (by decide) (by kernel_rfl) ⟨rfl, by decide, by decide⟩ ?F (fun _ _ _ _ z => z)
    intro w mg fa h Y G hmg0
    obtain ⟨K, KX, c⟩ := Y
    have hmg : mg ("law" : PySem.Str) = some (.ref fa) := by
      have e : (HandSHeadRun.topDef (OpenLaw.row PySem.Challenge.rw_dialweir_k02_fractions_reckoned).prog 26).name = ("law" : PySem.Str) := by kernel_rfl
      rw [← e]
      exact hmg0
    have T := Prf.tx_mk KX G c
    have e := hmg.symm.trans T.g_law
    cases e
    obtain ⟨fd, F⟩ := T.d_law
    refine ⟨K, fd, Prf.sp_law K, KX, fun s v => L2.FunD.bindsA (ps := ["_law_script"]) F (fun _ _ _ _ _ _ us hl => match us, hl with | [_], _ => rfl) s [v] rfl, fun H a ns hl hO hS => Prf.law_start K H a ns hl hS, fun base _ _ => ?_⟩
    exact Prf.all_ok T base F
