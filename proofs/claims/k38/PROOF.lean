import PyProof.Rows.All
import Wide.All
import OpenK.AllK
import Wide.FinOn
import PyProof.EqAt
import PyProof.EqKinds
import PyProof.TupleCall
import KE.KStateDown
import HandS.ForMost
import HandS.ForExc
import HandS.More
import HandS.Wide
import HandS.Style
import HandS.TupAny
import HandS.IsInst
import HandS.Defaults
import HandS.Conv
import HandS.Steps
import HandS.Codes
import HandS.Head0
import HandS.Head1
import HandS.Head2
import HandS.HeadEnd
import HandS.HeadHook1
import HandS.HeadHook2
import HandS.ExcInit
import HandS.ExcField
import HandS.CallSlots
import HandS.TryMany
import HandS.HeadHook3
import HandS.HeadHook4
import KE.GoesEnum
import PyProof.Draws
import PyProof.EnumMake
import HandS.Comp
import HandS.Iter
import HandS.Zip
import HandS.ListItems
import HandS.ListEq
import HandS.Deep
import HandS.DictComp
import HandS.RaiseMore
import HandS.WordsDict
import HandS.FStr
import HandS.RaiseOp
import HandS.StrMore
import HandS.MakeKwOnly
import HandS.MakeKw
import HandS.Small
import HandS.RaiseFrom
import KE.KCallOwn
import HandS.DictTup
import KE.DataFind
import HandS.Finally
import KE.GoesComp
import HandS.ReplaceLit
import HandS.TupLe
import KE.KSortTup
import HandS.Lambda
import HandS.Nested
import HandS.HeadWalk
import HandS.HeadHook4
import PySem.Challenge.RW_dialweir_k38_whole_nothing_cheaper_on_a
set_option Elab.async false
set_option linter.all false
set_option maxRecDepth 100000
set_option maxHeartbeats 40000000
namespace DW
open PySem L2
section
variable {X : Cx}
/-- // by any divisor but 0, of less than 9000 bits -/
def CDivX (_ j : Int) : Prop := j ≠ 0 ∧ j.natAbs.log2 < 9000
theorem op_fdivX : OpR X (binaryOp .FloorDiv) (rI CDivX fun i j => .int (i.fdiv j)) :=
  opI fun _ _ _ _ _ _ _ hc q => PyProof.Rows.floordiv_int hc.1 q (.inl (PyProof.noPylong_of_log2 hc.2))
end
def Fr (K : PySem.W.Frag) (S : List Addr) (H H' : Hp) : Prop := (∀ a o, a ∉ S → H a = some o → H' a = some o) ∧ ∀ a xs, SqT K H a xs → SqT K H' a xs
theorem Same.tup {K : PySem.W.Frag} {H H' : Hp} {a : Addr} {xs : List V} (e : Same H H') (h : SqT K H a xs) : SqT K H' a xs := by
  rcases h with (h | ⟨o, h⟩) | h
  · exact .inl (.inl (e _ _ h))
  · exact .inl (.inr ⟨o, e _ _ h⟩)
  · exact .inr h
section
variable {K : PySem.W.Frag} {S S' : List Addr} {H H' H1 H2 : Hp} {a p : Addr} {o u : HO} {xs : List V}
theorem Fr.of (e : Same H H') : Fr K [] H H' := ⟨fun a o _ h => e a o h, fun _ _ h => Same.tup e h⟩
theorem Fr.refl (H : Hp) : Fr K [] H H := ⟨fun _ _ _ h => h, fun _ _ h => h⟩
theorem Fr.trans (a : Fr K S H H1) (b : Fr K S H1 H2) : Fr K S H H2 := ⟨fun c o n h => b.1 c o n (a.1 c o n h), fun c xs h => b.2 c xs (a.2 c xs h)⟩
theorem Fr.sub (a : Fr K S H H1) (h : ∀ x, x ∈ S → x ∈ S') : Fr K S' H H1 := ⟨fun c o n => a.1 c o fun z => n (h c z), a.2⟩
theorem Fr.any (a : Fr K [] H H1) : Fr K S H H1 := a.sub (fun _ h => absurd h (by simp))
theorem Fr.new (h : H p = none) : Fr K S H (upd H p o) := (Fr.of (fun b o e => by rw [upd_ne (ne_of_none e h)]; exact e)).any
theorem Fr.get (e : Fr K S H H') (h : H a = some o) (n : a ∉ S) : H' a = some o := e.1 a o n h
/-- a list at p is written -/
theorem Fr.put {xs : List V} (h : H p = some (.lst xs)) : Fr K [p] H (upd H p o) := ⟨fun c u n e => by rw [upd_ne (fun z => n (by rw [z]; simp))]; exact e, fun c ys e => by
  rcases e with (e | ⟨q, e⟩) | e
  · exact .inl (.inl (by rw [upd_ne (fun z => by rw [z, h] at e; cases e)]; exact e))
  · exact .inl (.inr ⟨q, by rw [upd_ne (fun z => by rw [z, h] at e; cases e)]; exact e⟩)
  · exact .inr e⟩
end
mutual
inductive Tp (K : PySem.W.Frag) (H : Hp) : V → PyData → Prop
  | non : Tp K H .non .none
  | bl (b : Bool) : Tp K H (.bl b) (.bool b)
  | int (i : Int) : Tp K H (.int i) (.int i)
  | str (x : Str) : Tp K H (.str x) (.str x)
  | tup {a : Addr} {xs : List V} {ds : List PyData} : SqT K H a xs → TpAll K H xs ds → Tp K H (.ref a) (.tuple ds)
inductive TpAll (K : PySem.W.Frag) (H : Hp) : List V → List PyData → Prop
  | nil : TpAll K H [] []
  | cons {v : V} {vs : List V} {d : PyData} {ds : List PyData} : Tp K H v d → TpAll K H vs ds → TpAll K H (v :: vs) (d :: ds)
end
section
variable {K : PySem.W.Frag} {H H' : Hp}
mutual
theorem Tp.up {S : List Addr} (e : Fr K S H H') : ∀ {v : V} {d : PyData}, Tp K H v d → Tp K H' v d
  | _, _, .non => .non
  | _, _, .bl b => .bl b
  | _, _, .int i => .int i
  | _, _, .str x => .str x
  | _, _, .tup h a => .tup (e.2 _ _ h) (TpAll.up e a)
theorem TpAll.up {S : List Addr} (e : Fr K S H H') : ∀ {vs : List V} {ds : List PyData}, TpAll K H vs ds → TpAll K H' vs ds
  | _, _, .nil => .nil
  | _, _, .cons h a => .cons (Tp.up e h) (TpAll.up e a)
end
mutual
theorem Tp.dp : ∀ {v : V} {d : PyData}, Tp K H v d → Dp K H v d
  | _, _, .non => .non
  | _, _, .bl b => .bl b
  | _, _, .int i => .int i
  | _, _, .str x => .str x
  | _, _, .tup h a => .tup h (TpAll.dp a)
theorem TpAll.dp : ∀ {vs : List V} {ds : List PyData}, TpAll K H vs ds → DpAll K H vs ds
  | _, _, .nil => .nil
  | _, _, .cons h a => .cons (Tp.dp h) (TpAll.dp a)
end
theorem TpAll.get {vs : List V} {ds : List PyData} (h : TpAll K H vs ds) : ∀ {i : Nat} {d : PyData}, ds[i]? = some d → ∃ v, vs[i]? = some v ∧ Tp K H v d := by
  induction ds generalizing vs with
  | nil => intro i d e; simp at e
  | cons d0 ds ih =>
    intro i d e
    cases h with
    | cons h1 h2 =>
      cases i with
      | zero =>
        simp only [List.getElem?_cons_zero, Option.some.injEq] at e
        subst e
        exact ⟨_, rfl, h1⟩
      | succ i => exact ih h2 e
theorem TpAll.len {vs : List V} {ds : List PyData} (h : TpAll K H vs ds) : vs.length = ds.length := by
  induction ds generalizing vs with
  | nil => cases h; rfl
  | cons d0 ds ih =>
    cases h with
    | cons h1 h2 => simp only [List.length_cons, ih h2]
end
abbrev mv (a b : Int) : PyData := .tuple [.int a, .int b]
structure Fn (P : Program) (w : World) (K : PySem.W.Frag) (mg : Str → Option Value) (base : Heap) (CX : CXT) (k : Nat) (x : Str) (ps : List Str) (dvs : List V) (sp : Sp) : Prop where
  ok : ∃ fd ds, FnOk P w K mg base CX k (He.ga K x) fd ps sp ∧ Vals dvs ds ∧ Binds K fd ps ds
  g : mg x = some (.ref (He.ga K x))
  kp : PySem.W.keepIn K (.ref (He.ga K x)) = true
def rPlus (K : PySem.W.Frag) : R2 := fun x y H Q => rI0 (fun i j => .int (i + j)) x y H Q ∨ (∃ i j, x = .str i ∧ y = .str j ∧ i.length + j.length ≤ sizeLine ∧ Q (.str (i ++ j)) H) ∨ rCatA K x y H Q ∨ rCat x y H Q
theorem op_plus {X : Cx} : OpR X (binaryOp .Add) (rPlus X.K) := OpR.or op_add (OpR.or op_add_str (OpR.or op_catA op_cat))
def rEqq (K : PySem.W.Frag) : R2 := fun x y H Q => rEq x y H Q ∨ rEqD K x y H Q
theorem op_eqq {X : Cx} (hu : X.A.units + 64 < cLine) : OpR X (compareOp .Eq) (rEqq X.K) := OpR.or op_eq (op_eqD hu)
def rNee (K : PySem.W.Frag) : R2 := fun x y H Q => rNe x y H Q ∨ rNeD K x y H Q
theorem op_nee {X : Cx} (hu : X.A.units + 64 < cLine) : OpR X (compareOp .NotEq) (rNee X.K) := OpR.or op_ne (op_neD hu)
def rAbs : List V → Hp → VK → Prop := fun xs H Q => ∃ i, xs = [.int i] ∧ Q (.int (if i < 0 then -i else i)) H
def rMin2 : List V → Hp → VK → Prop := fun xs H Q => ∃ i j, xs = [.int i, .int j] ∧ Q (.int (if j < i then j else i)) H
def rInt1 : List V → Hp → VK → Prop := fun xs H Q => (∃ i, xs = [.int i] ∧ Q (.int i) H) ∨ ∃ k, xs = [.bl k] ∧ Q (.int (if k then 1 else 0)) H
def rListOf (K : PySem.W.Frag) : List V → Hp → VK → Prop := fun xs H Q => ∃ p ys, xs = [.ref p] ∧ (SqL K H p ys ∨ SqT K H p ys) ∧ ∀ l, H l = none → Q (.ref l) (upd H l (.lst ys))
def rIntStr : List V → Hp → VK → Prop := fun xs H Q => ∃ a n, xs = [.str a] ∧ PySem.intText? a = some n ∧ a.length ≤ 640 ∧ Q (.int n) H
end DW
namespace DW
open PySem L2
structure ClsFn (K : PySem.W.Frag) (C f : Addr) (m : Str) : Prop where
  rd : PySem.W.readsIn K C (.type "type") = true
  ga : PySem.W.specialIn K (.ref C) "__getattribute__" = some (some (.builtin "type.__getattribute__"))
  at_ : PySem.W.findCls K (.ref C) (.type "type") m = some (.val (.ref f))
  kp : PySem.W.keepIn K (.ref f) = true
/-- all that is wanted of an exception class by its name; fs: the names of its fields -/
structure ExcX (K : PySem.W.Frag) (mg : Str → Option Value) (x : Str) (fs : List Str) : Prop where
  g : mg x = some (.ref (He.ga K x))
  oex : OexC K (He.ga K x)
  xf : XfC K (He.ga K x)
  no : ∀ f ∈ fs, PySem.W.findIn K (.ref (He.ga K x)) f = some none
  init : PySem.W.findIn K (.ref (He.ga K x)) "__init__" = some (some (.ref (He.ma K (He.ga K x) "__init__")))
  tI : PySem.W.typeIn K (.ref (He.ma K (He.ga K x) "__init__")) = some (.type "function")
  cf : ClsFn K (He.ga K x) (He.ma K (He.ga K x) "__init__") "__init__"
end DW
namespace DW
open PySem L2
structure FnM (P : Program) (w : World) (K : PySem.W.Frag) (mg : Str → Option Value) (base : Heap) (CX : CXT) (k : Nat) (x m : Str) (ps : List Str) (sp : Sp) : Prop where
  ok : ∃ fd, FnOk P w K mg base CX k (He.ma K (He.ga K x) m) fd ps sp ∧ Binds K fd ps []
section
variable {X : Cx} {CX : CXT} {k : Nat} {ps : List Str} {sp : Sp} {E : XK} {x : Str} {fs : List Str} {p p1 p2 pos : Pos} {e : Expr} {es : List Expr} {ta t : TA}
end
section
variable {K : PySem.W.Frag} {σ : St} {H H' : Hp} {Q : VK} {N B C : St → Hp → Prop} {R : VK} {sp : Sp} {dvs : List V} {ES : St → XK} {tr : TA} {te : TE} {E : XK} {W : WX} {tm : St → Hp → XK → Prop} {QX : XK} {x : Str} {fs : List Str} {mg : Str → Option Value}
end
end DW
namespace DW
def allT : List Bool → Bool
  | [] => true
  | b :: r => b && allT r
theorem allT_get : ∀ {l : List Bool}, allT l = true → ∀ (i : Nat) {b : Bool}, l[i]? = some b → b = true
  | [], _, i, _, e => by simp at e
  | c :: r, h, 0, b, e => by
    obtain ⟨h1, _⟩ := Bool.and_eq_true_iff.mp (show (c && allT r) = true from h)
    have e2 : c = b := Option.some.inj e
    rw [← e2]; exact h1
  | c :: r, h, i + 1, b, e => allT_get (Bool.and_eq_true_iff.mp (show (c && allT r) = true from h)).2 i (show r[i]? = some b from e)
end DW
namespace DW
open PySem L2
section
variable {K : PySem.W.Frag} {σ : St} {H H' : Hp} {Q : VK} {N B C : St → Hp → Prop} {R : VK} {c cls : Value} {i : Nat} {tb : WX → TS} {ts : Addr → Value → Option Addr → TS} {Wout : WX} {d : Option Addr} {x f : Str} {fs : List Str} {mg : Str → Option Value} {v : V} {fl : List (Str × V)} {a dd : Addr}
end
end DW
namespace DW
open PySem L2
/-- the classes and their dicts first: they are looked up most -/
def asE (g : Addr → Option Obj) (n : Nat) : List Addr :=
  let base := (List.range n).reverse
  let cs := base.filter fun a => match g a with | some ⟨_, _, .cls _, _⟩ => true | _ => false
  mainGlobals :: cs ++ (cs.filterMap fun a => match g a with | some ⟨_, _, .cls cd, _⟩ => some cd.ns | _ => none) ++ base
structure SaysE (fa : List He.Fa) (fn : List He.DefD) (ex : PySem.W.Frag → Bool) (K : PySem.W.Frag) : Prop where
  d : He.SaysD fa fn K
  more : ex K = true
end DW
namespace DW
open PySem PySem.Spec PyProof.Rows L2
open Sem (wp)
end DW
namespace MVX
open PySem PySem.W PySem.Spec PySem.Calls PyProof.Rows
section
variable {M : Model} {K : Frag}
end
end MVX
namespace MV
open PySem PySem.Spec PyProof.Rows L2
inductive D where
  | non
  | bl (b : Bool)
  | int (i : Int)
  | str (x : Str)
  | tup (ds : List D)
  | ref (n : Nat)
  | ty (n : String)
  | g (x : Str)
  | exn (a dd : Addr) (c : Str) (ns : List Str) (ds : List D)
  | kl (ds : List D)
  | clo (f : Addr) (F : NdefX.NF) (ws : List V) (es : List D)
/-- tab: the table of a code object in which the functions made by it are kept, all of one name; lst: a list; frz: a list that is only read; dct, dtt: a dict with keys of ints and texts, of tuples of these (lk: a loop walks it); ins: an instance -/
inductive O where
  | lst (ds : List D)
  | frz (ds : List D)
  | dct (lk : Bool) (kvs : List (Key × D))
  | dtt (lk : Bool) (kvs : List (List Key × D))
  | ins (c : Str) (fs : List (Str × D))
  | tab (d q : Str)
abbrev Mem := List O
abbrev Ev := List (Option D)
structure Exn where
  c : Str
  ns : List Str
  ds : List D
/-- a list that is never written: the script -/
def RdL (K : PySem.W.Frag) (H : Hp) (a : Addr) (xs : List V) : Prop := (∃ ob, H a = some (.frz ob (.lst xs))) ∨
  ∃ (o : Obj) (its : Array Value) (n : Nat), K.lookup a = some o ∧ o.cls = .type "list" ∧ o.dict = none ∧ o.data = .seq its n ∧ its.size ≤ sizeLine ∧ Vals xs its.toList
theorem RdL.sq {K : PySem.W.Frag} {H : Hp} {a : Addr} {xs : List V} (h : RdL K H a xs) : SqL K H a xs := by
  rcases h with h | h
  · exact .inl (.inr h)
  · exact .inr h
/-- a tuple that begins with a text (keys of dicts do): no written one -/
def hdS : List D → Bool
  | .str _ :: _ => true
  | _ => false
def Tq (K : PySem.W.Frag) (H : Hp) (a : Addr) (ds : List D) (xs : List V) : Prop := SqT K H a xs ∧ (hdS ds = true → H a = some (.tup xs))
mutual
inductive Rel (K : PySem.W.Frag) (as : List Addr) (H : Hp) : D → V → Prop
  | non : Rel K as H .non .non
  | bl (b : Bool) : Rel K as H (.bl b) (.bl b)
  | int (i : Int) : Rel K as H (.int i) (.int i)
  | str (x : Str) : Rel K as H (.str x) (.str x)
  | tup {a : Addr} {xs : List V} {ds : List D} : Tq K H a ds xs → RelL K as H ds xs → Rel K as H (.tup ds) (.ref a)
  | ref {n : Nat} {a : Addr} : as[n]? = some a → Rel K as H (.ref n) (.ref a)
  | ty (n : String) : Rel K as H (.ty n) (.ty n)
  | g (x : Str) : Rel K as H (.g x) (.ref (He.ga K x))
  | exn {a dd : Addr} {c : Str} {ns : List Str} {ds : List D} {xs : List V} : H dd = some (.xd (ns.zip xs)) → RelL K as H ds xs → Rel K as H (.exn a dd c ns ds) (.ref a)
  | kl {a : Addr} {xs : List V} {ds : List D} : RdL K H a xs → RelL K as H ds xs → Rel K as H (.kl ds) (.ref a)
  | clo {f : Addr} {F : NdefX.NF} {ws : List V} {es : List D} : H f = some (NdefX.FnO f F) → H F.c = some (LamX.CodeO F.c F.qual) → RelL K as H es ws → Rel K as H (.clo f F ws es) (.ref f)
inductive RelL (K : PySem.W.Frag) (as : List Addr) (H : Hp) : List D → List V → Prop
  | nil : RelL K as H [] []
  | cons {d : D} {ds : List D} {v : V} {vs : List V} : Rel K as H d v → RelL K as H ds vs → RelL K as H (d :: ds) (v :: vs)
end
structure Ext (K : PySem.W.Frag) (as : List Addr) (H : Hp) (as' : List Addr) (H' : Hp) : Prop where
  pre : as <+: as'
  tup : ∀ a xs, SqT K H a xs → SqT K H' a xs
  xd : ∀ a fs, H a = some (.xd fs) → H' a = some (.xd fs)
  frz : ∀ a ob u, H a = some (.frz ob u) → H' a = some (.frz ob u)
  tp : ∀ a xs, H a = some (.tup xs) → H' a = some (.tup xs)
  co : ∀ a φ, H a = some (.ext φ) → H' a = some (.ext φ)
section
variable {K : PySem.W.Frag} {as as' as2 : List Addr} {H H' H2 : Hp}
theorem Ext.refl : Ext K as H as H := ⟨List.prefix_refl _, fun _ _ h => h, fun _ _ h => h, fun _ _ _ h => h, fun _ _ h => h, fun _ _ h => h⟩
theorem Ext.trans (a : Ext K as H as' H') (b : Ext K as' H' as2 H2) : Ext K as H as2 H2 :=
  ⟨a.pre.trans b.pre, fun c xs h => b.tup c xs (a.tup c xs h), fun c fs h => b.xd c fs (a.xd c fs h), fun c o u h => b.frz c o u (a.frz c o u h), fun c xs h => b.tp c xs (a.tp c xs h), fun c q h => b.co c q (a.co c q h)⟩
theorem Tq.up {a : Addr} {ds : List D} {xs : List V} (e : Ext K as H as' H') (h : Tq K H a ds xs) : Tq K H' a ds xs := ⟨e.tup _ _ h.1, fun q => e.tp _ _ (h.2 q)⟩
theorem Tq.new {p : Addr} {ds : List D} {xs : List V} : Tq K (upd H p (.tup xs)) p ds xs := ⟨SqT.of upd_same, fun _ => upd_same⟩
theorem pre_get {n : Nat} {a : Addr} (p : as <+: as') (h : as[n]? = some a) : as'[n]? = some a := by
  obtain ⟨t, rfl⟩ := p
  obtain ⟨hn, _⟩ := List.getElem?_eq_some_iff.mp h
  rw [List.getElem?_append_left hn]; exact h
theorem RdL.up (e : Ext K as H as' H') {a : Addr} {xs : List V} (h : RdL K H a xs) : RdL K H' a xs := by
  rcases h with ⟨ob, h⟩ | h
  · exact .inl ⟨ob, e.frz _ _ _ h⟩
  · exact .inr h
mutual
theorem Rel.up (e : Ext K as H as' H') : ∀ {d : D} {v : V}, Rel K as H d v → Rel K as' H' d v
  | _, _, .non => .non
  | _, _, .bl b => .bl b
  | _, _, .int i => .int i
  | _, _, .str x => .str x
  | _, _, .tup h r => .tup (h.up e) (RelL.up e r)
  | _, _, .ref h => .ref (pre_get e.pre h)
  | _, _, .ty n => .ty n
  | _, _, .g x => .g x
  | _, _, .exn h r => .exn (e.xd _ _ h) (RelL.up e r)
  | _, _, .kl h r => .kl (RdL.up e h) (RelL.up e r)
  | _, _, .clo h c r => .clo (e.co _ _ h) (e.co _ _ c) (RelL.up e r)
theorem RelL.up (e : Ext K as H as' H') : ∀ {ds : List D} {vs : List V}, RelL K as H ds vs → RelL K as' H' ds vs
  | _, _, .nil => .nil
  | _, _, .cons h r => .cons (Rel.up e h) (RelL.up e r)
end
theorem RelL.len : ∀ {ds : List D} {vs : List V}, RelL K as H ds vs → ds.length = vs.length
  | _, _, .nil => rfl
  | _, _, .cons _ r => by simp only [List.length_cons, RelL.len r]
theorem RelL.get {d : D} : ∀ {ds : List D} {vs : List V} {i : Nat}, RelL K as H ds vs → ds[i]? = some d → ∃ v, vs[i]? = some v ∧ Rel K as H d v
  | _, _, _, .nil, e => by simp at e
  | _, _, 0, .cons h _, e => by
    simp only [List.getElem?_cons_zero, Option.some.injEq] at e
    subst e; exact ⟨_, rfl, h⟩
  | _, _, i + 1, .cons _ r, e => by
    simp only [List.getElem?_cons_succ] at e ⊢
    exact RelL.get r e
theorem RelL.app : ∀ {ds es : List D} {vs ws : List V}, RelL K as H ds vs → RelL K as H es ws → RelL K as H (ds ++ es) (vs ++ ws)
  | _, _, _, _, .nil, s => s
  | _, _, _, _, .cons h r, s => .cons h (RelL.app r s)
theorem RelL.take (n : Nat) : ∀ {ds : List D} {vs : List V}, RelL K as H ds vs → RelL K as H (ds.take n) (vs.take n)
  | _, _, .nil => by simp only [List.take_nil]; exact .nil
  | _, _, .cons h r => by
    cases n with
    | zero => exact .nil
    | succ n => simp only [List.take_succ_cons]; exact .cons h (RelL.take n r)
theorem RelL.drop (n : Nat) : ∀ {ds : List D} {vs : List V}, RelL K as H ds vs → RelL K as H (ds.drop n) (vs.drop n)
  | _, _, .nil => by simp only [List.drop_nil]; exact .nil
  | _, _, .cons h r => by
    cases n with
    | zero => exact .cons h r
    | succ n => simp only [List.drop_succ_cons]; exact RelL.drop n r
theorem RelL.set {d : D} {v : V} (h : Rel K as H d v) : ∀ {ds : List D} {vs : List V} (i : Nat), RelL K as H ds vs → RelL K as H (ds.set i d) (vs.set i v)
  | _, _, _, .nil => by simp only [List.set_nil]; exact .nil
  | _, _, 0, .cons _ r => .cons h r
  | _, _, i + 1, .cons q r => .cons q (RelL.set h i r)
end
/-- pairs of a name or a key and a value -/
def KVR (K : PySem.W.Frag) (as : List Addr) (H : Hp) {κ : Type} (l : List (κ × D)) (m : List (κ × V)) : Prop := Paired (fun (p : κ × D) (q : κ × V) => p.1 = q.1 ∧ Rel K as H p.2 q.2) l m
/-- the table of the code object of main's def d -/
def tabAd (K : PySem.W.Frag) (d : Str) : Addr := He.tabOf K (He.codeOf K (d, none))
def OR (K : PySem.W.Frag) (as : List Addr) (H : Hp) (o : O) (a : Addr) : Prop := match o with
  | .lst ds => ∃ xs, H a = some (.lst xs) ∧ RelL K as H ds xs
  | .frz ds => ∃ ob xs, H a = some (.frz ob (.lst xs)) ∧ RelL K as H ds xs
  | .dct lk kvs => ∃ ks, KVR K as H kvs ks ∧ match lk with
    | true => ∃ ob, H a = some (.frz ob (.dK ks))
    | false => H a = some (.dK ks)
  | .dtt lk kvs => ∃ ks, KVR K as H kvs ks ∧ match lk with
    | true => ∃ ob, H a = some (.frz ob (.dT ks))
    | false => H a = some (.dT ks)
  | .ins c fs => ∃ dx ys, H a = some (.ins (He.ga K c) dx ys) ∧ KVR K as H fs ys
  | .tab d q => a = tabAd K d ∧ LamX.TabS H a q
structure RepM (K : PySem.W.Frag) (as : List Addr) (H : Hp) (M : Mem) : Prop where
  len : as.length = M.length
  nd : as.Nodup
  ob : ∀ (n : Nat) (a : Addr) (o : O), as[n]? = some a → M[n]? = some o → OR K as H o a
section
variable {K : PySem.W.Frag} {as as' : List Addr} {H H' : Hp} {M : Mem} {κ : Type}
theorem KVR.up (e : Ext K as H as' H') {l : List (κ × D)} {m : List (κ × V)} (h : KVR K as H l m) : KVR K as' H' l m := Paired.mapP h fun _ _ q => ⟨q.1, q.2.up e⟩
theorem KVR.len {l : List (κ × D)} {m : List (κ × V)} (h : KVR K as H l m) : l.length = m.length := Paired.length h
theorem OR.up {o : O} {a : Addr} (e : Ext K as H as' H') (s : H' a = H a) (h : OR K as H o a) : OR K as' H' o a := by
  cases o with
  | lst ds => obtain ⟨xs, h1, h2⟩ := h; exact ⟨xs, s.trans h1, h2.up e⟩
  | frz ds => obtain ⟨ob, xs, h1, h2⟩ := h; exact ⟨ob, xs, s.trans h1, h2.up e⟩
  | dct lk kvs =>
    obtain ⟨ks, h1, h2⟩ := h
    refine ⟨ks, h1.up e, ?_⟩
    cases lk with
    | true => obtain ⟨ob, h2⟩ := h2; exact ⟨ob, s.trans h2⟩
    | false => exact s.trans h2
  | dtt lk kvs =>
    obtain ⟨ks, h1, h2⟩ := h
    refine ⟨ks, h1.up e, ?_⟩
    cases lk with
    | true => obtain ⟨ob, h2⟩ := h2; exact ⟨ob, s.trans h2⟩
    | false => exact s.trans h2
  | ins c fs => obtain ⟨dx, ys, h1, h2⟩ := h; exact ⟨dx, ys, s.trans h1, h2.up e⟩
  | tab d q =>
    obtain ⟨h0, ps, h1, h2, h3⟩ := h
    exact ⟨h0, ps, s.trans h1, h2, fun pos cv hc => by
      obtain ⟨c, e1, e2⟩ := h3 pos cv hc
      exact ⟨c, e1, e.co _ _ e2⟩⟩
theorem OR.there {o : O} {a : Addr} (h : OR K as H o a) : ∃ u, H a = some u ∧ (∀ xs, u ≠ .tup xs) ∧ (∀ fs, u ≠ .xd fs) ∧ ∀ φ, u ≠ .ext φ := by
  cases o with
  | lst ds => obtain ⟨xs, h1, _⟩ := h; exact ⟨_, h1, (fun _ z => nomatch z), (fun _ z => nomatch z), fun _ z => nomatch z⟩
  | frz ds => obtain ⟨ob, xs, h1, _⟩ := h; exact ⟨_, h1, (fun _ z => nomatch z), (fun _ z => nomatch z), fun _ z => nomatch z⟩
  | dct lk kvs =>
    obtain ⟨ks, _, h2⟩ := h
    cases lk with
    | true => obtain ⟨ob, h2⟩ := h2; exact ⟨_, h2, (fun _ z => nomatch z), (fun _ z => nomatch z), fun _ z => nomatch z⟩
    | false => exact ⟨_, h2, (fun _ z => nomatch z), (fun _ z => nomatch z), fun _ z => nomatch z⟩
  | dtt lk kvs =>
    obtain ⟨ks, _, h2⟩ := h
    cases lk with
    | true => obtain ⟨ob, h2⟩ := h2; exact ⟨_, h2, (fun _ z => nomatch z), (fun _ z => nomatch z), fun _ z => nomatch z⟩
    | false => exact ⟨_, h2, (fun _ z => nomatch z), (fun _ z => nomatch z), fun _ z => nomatch z⟩
  | ins c fs => obtain ⟨dx, ys, h1, _⟩ := h; exact ⟨_, h1, (fun _ z => nomatch z), (fun _ z => nomatch z), fun _ z => nomatch z⟩
  | tab d q => obtain ⟨_, ps, h1, _⟩ := h; exact ⟨_, h1, (fun _ z => nomatch z), (fun _ z => nomatch z), fun _ z => nomatch z⟩
theorem RepM.at_ (r : RepM K as H M) {n : Nat} {o : O} (h : M[n]? = some o) : ∃ a, as[n]? = some a ∧ OR K as H o a := by
  obtain ⟨hn, _⟩ := List.getElem?_eq_some_iff.mp h
  have : n < as.length := by rw [r.len]; exact hn
  exact ⟨as[n], List.getElem?_eq_getElem this, r.ob n _ o (List.getElem?_eq_getElem this) h⟩
theorem RepM.some_ (r : RepM K as H M) {n : Nat} {a : Addr} (h : as[n]? = some a) : ∃ u, H a = some u ∧ (∀ xs, u ≠ .tup xs) ∧ (∀ fs, u ≠ .xd fs) ∧ ∀ φ, u ≠ .ext φ := by
  obtain ⟨hn, _⟩ := List.getElem?_eq_some_iff.mp h
  have hm : n < M.length := by rw [← r.len]; exact hn
  exact (r.ob n a _ h (List.getElem?_eq_getElem hm)).there
/-- a new thing at p -/
theorem ext_new {p : Addr} {o : HO} (hp : H p = none) : Ext K as H as (upd H p o) :=
  ⟨List.prefix_refl _, fun a xs h => DW.Same.tup (fun b u e => by rw [upd_ne (ne_of_none e hp)]; exact e) h, fun a fs h => by rw [upd_ne (ne_of_none h hp)]; exact h, fun a o u h => by rw [upd_ne (ne_of_none h hp)]; exact h, fun a xs h => by rw [upd_ne (ne_of_none h hp)]; exact h, fun a q h => by rw [upd_ne (ne_of_none h hp)]; exact h⟩
theorem ext_app {l : List Addr} : Ext K as H (as ++ l) H := ⟨List.prefix_append _ _, fun _ _ h => h, fun _ _ h => h, fun _ _ _ h => h, fun _ _ h => h, fun _ _ h => h⟩
theorem RepM.laid {p : Addr} {o : HO} (r : RepM K as H M) (hp : H p = none) : RepM K as (upd H p o) M :=
  ⟨r.len, r.nd, fun n a u h1 h2 => (r.ob n a u h1 h2).up (ext_new hp) (by
    obtain ⟨w, hw, _⟩ := r.some_ h1
    rw [upd_ne (ne_of_none hw hp)])⟩
theorem RepM.new {p : Addr} {o : O} {u : HO} (r : RepM K as H M) (hp : H p = none) (ho : OR K (as ++ [p]) (upd H p u) o p) : RepM K (as ++ [p]) (upd H p u) (M ++ [o]) := by
  have hn : p ∉ as := fun z => by
    obtain ⟨n, hn, e⟩ := List.getElem_of_mem z
    obtain ⟨w, hw, _⟩ := r.some_ (n := n) (a := p) (by rw [List.getElem?_eq_getElem hn, e])
    rw [hw] at hp; cases hp
  refine ⟨by simp [r.len], ?_, fun n a q h1 h2 => ?_⟩
  · rw [List.nodup_append]
    exact ⟨r.nd, by simp, fun a ha b hb => by simp at hb; subst hb; exact fun z => hn (z ▸ ha)⟩
  · by_cases hl : n < as.length
    · rw [List.getElem?_append_left hl] at h1
      rw [List.getElem?_append_left (by rw [← r.len]; exact hl)] at h2
      refine (r.ob n a q h1 h2).up ((ext_new hp).trans ext_app) ?_
      obtain ⟨w, hw, _⟩ := r.some_ h1
      rw [upd_ne (ne_of_none hw hp)]
    · obtain ⟨h3, _⟩ := List.getElem?_eq_some_iff.mp h1
      have h4 : n = as.length := by simp at h3; omega
      subst h4
      rw [List.getElem?_append_right (Nat.le_refl _)] at h1
      rw [r.len, List.getElem?_append_right (Nat.le_refl _)] at h2
      simp at h1 h2
      subst h1 h2
      exact ho
theorem ext_put {n : Nat} {a : Addr} {u : HO} (r : RepM K as H M) (h : as[n]? = some a) (hz : ∀ ob w, H a ≠ some (.frz ob w)) : Ext K as H as (upd H a u) := by
  obtain ⟨w, hw, nt, nx, nc⟩ := r.some_ h
  refine ⟨List.prefix_refl _, fun b xs q => ?_, fun b fs q => ?_, fun b ob w q => ?_, fun b xs q => ?_, fun b z q => ?_⟩
  · rcases q with (q | ⟨o, q⟩) | q
    · exact .inl (.inl (by rw [upd_ne (fun z => by rw [z, hw] at q; exact nt _ (Option.some.inj q))]; exact q))
    · exact .inl (.inr ⟨o, by rw [upd_ne (fun z => by rw [z] at q; exact hz _ _ q)]; exact q⟩)
    · exact .inr q
  · rw [upd_ne (fun z => by rw [z, hw] at q; exact nx _ (Option.some.inj q))]; exact q
  · rw [upd_ne (fun z => by rw [z] at q; exact hz _ _ q)]; exact q
  · rw [upd_ne (fun z => by rw [z, hw] at q; exact nt _ (Option.some.inj q))]; exact q
  · rw [upd_ne (fun y => by rw [y, hw] at q; exact nc _ (Option.some.inj q))]; exact q
/-- the thing at a is written -/
theorem RepM.put {n : Nat} {a : Addr} {o : O} {u : HO} (r : RepM K as H M) (h : as[n]? = some a) (hz : ∀ ob w, H a ≠ some (.frz ob w)) (ho : OR K as (upd H a u) o a) : RepM K as (upd H a u) (M.set n o) := by
  refine ⟨by rw [List.length_set]; exact r.len, r.nd, fun m b q h1 h2 => ?_⟩
  by_cases hm : m = n
  · subst hm
    obtain ⟨hn, _⟩ := List.getElem?_eq_some_iff.mp h
    rw [List.getElem?_set_self (by rw [← r.len]; exact hn)] at h2
    cases h2
    rw [h] at h1
    cases h1
    exact ho
  · rw [List.getElem?_set_ne (Ne.symm hm)] at h2
    refine (r.ob m b q h1 h2).up (ext_put r h hz) ?_
    refine upd_ne fun z => hm ?_
    subst z
    obtain ⟨l1, e1⟩ := List.getElem?_eq_some_iff.mp h1
    obtain ⟨l2, e2⟩ := List.getElem?_eq_some_iff.mp h
    exact (List.getElem_inj r.nd).mp (e1.trans e2.symm)
end
def RelS (K : PySem.W.Frag) (as : List Addr) (H : Hp) (ρ : Ev) (σ : L2.St) : Prop := ρ.length = σ.length ∧ ∀ (i : Nat) (d : D), ρ[i]? = some (some d) → ∃ v, σ[i]? = some (some v) ∧ Rel K as H d v
def RelX (K : PySem.W.Frag) (as : List Addr) (H : Hp) (x : Exn) (cls : Value) (d : Option Addr) : Prop :=
  cls = .ref (He.ga K x.c) ∧ ∃ dd xs, d = some dd ∧ H dd = some (.xd (x.ns.zip xs)) ∧ RelL K as H x.ds xs
section
variable {K : PySem.W.Frag} {as as' : List Addr} {H H' : Hp} {ρ : Ev} {σ : L2.St}
theorem RelS.up (e : Ext K as H as' H') (r : RelS K as H ρ σ) : RelS K as' H' ρ σ := ⟨r.1, fun i d h => let ⟨v, h1, h2⟩ := r.2 i d h; ⟨v, h1, h2.up e⟩⟩
theorem RelS.set {i : Nat} {d : D} {v : V} (r : RelS K as H ρ σ) (h : Rel K as H d v) : RelS K as H (ρ.set i (some d)) (σ.set i (some v)) := by
  refine ⟨by simp [r.1], fun j e q => ?_⟩
  by_cases hj : i = j
  · subst hj
    by_cases hl : i < ρ.length
    · rw [List.getElem?_set_self hl] at q
      cases q
      exact ⟨v, List.getElem?_set_self (by rw [← r.1]; exact hl), h⟩
    · rw [List.getElem?_eq_none_iff.mpr (by simp; omega)] at q; cases q
  · rw [List.getElem?_set_ne hj] at q
    obtain ⟨w, h1, h2⟩ := r.2 j e q
    exact ⟨w, by rw [List.getElem?_set_ne hj]; exact h1, h2⟩
theorem RelS.unset {i : Nat} (r : RelS K as H ρ σ) : RelS K as H (ρ.set i none) (σ.set i none) := by
  refine ⟨by simp [r.1], fun j e q => ?_⟩
  by_cases hj : i = j
  · subst hj
    by_cases hl : i < ρ.length
    · rw [List.getElem?_set_self hl] at q; cases q
    · rw [List.getElem?_eq_none_iff.mpr (by simp; omega)] at q; cases q
  · rw [List.getElem?_set_ne hj] at q
    obtain ⟨w, h1, h2⟩ := r.2 j e q
    exact ⟨w, by rw [List.getElem?_set_ne hj]; exact h1, h2⟩
end
end MV
namespace MV
open PySem PySem.Spec PyProof.Rows L2
abbrev DK := D → Mem → Prop
abbrev XM := Exn → Mem → Prop
abbrev ME := Ev → Mem → DK → XM → Prop
abbrev MT := Ev → Mem → (Bool → Mem → Prop) → XM → Prop
abbrev MA := Ev → Mem → (List D → Mem → Prop) → XM → Prop
structure Nd where
  nx : Ev → Mem → Prop
  rt : DK
  bk : Ev → Mem → Prop
  ct : Ev → Mem → Prop
  ex : Exn → Ev → Mem → Prop
abbrev MS := Nd → Ev → Mem → Prop
def LQ (K : PySem.W.Frag) (as : List Addr) (H : Hp) (Q : VK) : DK := fun d M' => ∀ as' H' v, Ext K as H as' H' → RepM K as' H' M' → Rel K as' H' d v → Q v H'
def LT (K : PySem.W.Frag) (as : List Addr) (H : Hp) (Q : Bool → Hp → Prop) : Bool → Mem → Prop := fun b M' => ∀ as' H', Ext K as H as' H' → RepM K as' H' M' → Q b H'
def LA (K : PySem.W.Frag) (as : List Addr) (H : Hp) (Q : List V → Hp → Prop) : List D → Mem → Prop := fun ds M' => ∀ as' H' vs, Ext K as H as' H' → RepM K as' H' M' → RelL K as' H' ds vs → Q vs H'
def LX (K : PySem.W.Frag) (as : List Addr) (H : Hp) (W : XK) : XM := fun x M' => ∀ as' H' cls d, Ext K as H as' H' → RepM K as' H' M' → RelX K as' H' x cls d → W cls d H'
def LS (K : PySem.W.Frag) (as : List Addr) (H : Hp) (N : L2.St → Hp → Prop) : Ev → Mem → Prop := fun ρ M' => ∀ as' H' σ, Ext K as H as' H' → RepM K as' H' M' → RelS K as' H' ρ σ → N σ H'
def LXS (K : PySem.W.Frag) (as : List Addr) (H : Hp) (W : WX) : Exn → Ev → Mem → Prop := fun x ρ M' => ∀ as' H' σ cls d, Ext K as H as' H' → RepM K as' H' M' → RelS K as' H' ρ σ → RelX K as' H' x cls d → W cls d σ H'
section
variable {K : PySem.W.Frag} {as as' : List Addr} {H H' : Hp} {Q : VK} {d : D} {M : Mem}
theorem LQ.mono (h : LQ K as H Q d M) (e : Ext K as H as' H') : LQ K as' H' Q d M := fun as2 H2 v e2 r q => h as2 H2 v (e.trans e2) r q
theorem LT.mono {Q : Bool → Hp → Prop} {b : Bool} (h : LT K as H Q b M) (e : Ext K as H as' H') : LT K as' H' Q b M := fun as2 H2 e2 r => h as2 H2 (e.trans e2) r
theorem LA.mono {Q : List V → Hp → Prop} {ds : List D} (h : LA K as H Q ds M) (e : Ext K as H as' H') : LA K as' H' Q ds M := fun as2 H2 v e2 r q => h as2 H2 v (e.trans e2) r q
theorem LX.mono {W : XK} {x : Exn} (h : LX K as H W x M) (e : Ext K as H as' H') : LX K as' H' W x M := fun as2 H2 c d e2 r q => h as2 H2 c d (e.trans e2) r q
theorem LS.mono {N : L2.St → Hp → Prop} {ρ : Ev} (h : LS K as H N ρ M) (e : Ext K as H as' H') : LS K as' H' N ρ M := fun as2 H2 c e2 r q => h as2 H2 c (e.trans e2) r q
theorem LXS.mono {W : WX} {x : Exn} {ρ : Ev} (h : LXS K as H W x ρ M) (e : Ext K as H as' H') : LXS K as' H' W x ρ M := fun as2 H2 c d y e2 r q => h as2 H2 c d y (e.trans e2) r q
end
def lf (K : PySem.W.Frag) (W : WX) (m : ME) : TE := fun σ H Q => ∃ as M ρ Q' X', RepM K as H M ∧ RelS K as H ρ σ ∧ m ρ M Q' X' ∧ (∀ d M', Q' d M' → LQ K as H Q d M') ∧ ∀ x M', X' x M' → LX K as H (fun c d H => W c d σ H) x M'
def lfT (K : PySem.W.Frag) (W : WX) (m : MT) : TT := fun σ H Q => ∃ as M ρ Q' X', RepM K as H M ∧ RelS K as H ρ σ ∧ m ρ M Q' X' ∧ (∀ d M', Q' d M' → LT K as H Q d M') ∧ ∀ x M', X' x M' → LX K as H (fun c d H => W c d σ H) x M'
def lfA (K : PySem.W.Frag) (W : WX) (m : MA) : TA := fun σ H Q => ∃ as M ρ Q' X', RepM K as H M ∧ RelS K as H ρ σ ∧ m ρ M Q' X' ∧ (∀ d M', Q' d M' → LA K as H Q d M') ∧ ∀ x M', X' x M' → LX K as H (fun c d H => W c d σ H) x M'
/-- ends of the mirror that are as good as D's -/
structure NdOk (K : PySem.W.Frag) (W : WX) (as : List Addr) (H : Hp) (E : Nd) (D : Ends) : Prop where
  nx : ∀ ρ M, E.nx ρ M → LS K as H D.nx ρ M
  rt : ∀ d M, E.rt d M → LQ K as H D.rt d M
  bk : ∀ ρ M, E.bk ρ M → LS K as H D.bk ρ M
  ct : ∀ ρ M, E.ct ρ M → LS K as H D.ct ρ M
  ex : ∀ x ρ M, E.ex x ρ M → LXS K as H W x ρ M
theorem NdOk.mono {K : PySem.W.Frag} {W : WX} {as as' : List Addr} {H H' : Hp} {E : Nd} {D : Ends} (h : NdOk K W as H E D) (e : Ext K as H as' H') : NdOk K W as' H' E D :=
  ⟨fun _ _ q => (h.nx _ _ q).mono e, fun _ _ q => (h.rt _ _ q).mono e, fun _ _ q => (h.bk _ _ q).mono e, fun _ _ q => (h.ct _ _ q).mono e, fun _ _ _ q => (h.ex _ _ _ q).mono e⟩
def lfS (K : PySem.W.Frag) (W : WX) (m : MS) : TS := fun D σ H => ∃ as M ρ E, RepM K as H M ∧ RelS K as H ρ σ ∧ m E ρ M ∧ NdOk K W as H E D
abbrev QE (X : Cx) (W : WX) (e : Expr) (m : ME) : Prop := PE X e (lf X.K W m)
abbrev QT (X : Cx) (W : WX) (e : Expr) (m : MT) : Prop := PT X e (lfT X.K W m)
abbrev QW (X : Cx) (W : WX) (e : Expr) (m : MT) : Prop := PW X e (lfT X.K W m)
abbrev QA (X : Cx) (W : WX) (es : List Expr) (m : MA) : Prop := PA X es (lfA X.K W m)
abbrev QS (X : Cx) (W : WX) (st : Stmt) (m : MS) : Prop := PS X st (lfS X.K W m)
abbrev QSs (X : Cx) (W : WX) (sts : List Stmt) (m : MS) : Prop := PSs X sts (lfS X.K W m)
section
variable {X : Cx} {e : Expr} {es : List Expr} {st : Stmt} {sts : List Stmt}
theorem PEi {t t' : TE} (h : PE X e t) (i : ∀ σ H Q, t' σ H Q → t σ H Q) : PE X e t' := ⟨fun pins s σ H Q I q => h.run pins s σ H Q I (i σ H Q q)⟩
theorem PTi {t t' : TT} (h : PT X e t) (i : ∀ σ H Q, t' σ H Q → t σ H Q) : PT X e t' := ⟨fun pins s σ H Q I q => h.run pins s σ H Q I (i σ H Q q)⟩
theorem PWi {t t' : TT} (h : PW X e t) (i : ∀ σ H Q, t' σ H Q → t σ H Q) : PW X e t' := ⟨fun wh pins s σ H Q I q => h.run wh pins s σ H Q I (i σ H Q q)⟩
theorem PAi {t t' : TA} (h : PA X es t) (i : ∀ σ H Q, t' σ H Q → t σ H Q) : PA X es t' := ⟨fun pos pins s σ H Q I q => h.run pos pins s σ H Q I (i σ H Q q)⟩
theorem PSi {t t' : TS} (h : PS X st t) (i : ∀ D σ H, t' D σ H → t D σ H) : PS X st t' := ⟨fun pins s σ H D I q => h.run pins s σ H D I (i D σ H q)⟩
theorem PSsi {t t' : TS} (h : PSs X sts t) (i : ∀ D σ H, t' D σ H → t D σ H) : PSs X sts t' := ⟨fun pins s σ H D I q => h.run pins s σ H D I (i D σ H q)⟩
end
section
variable {K : PySem.W.Frag} {W : WX} {as : List Addr} {H : Hp} {M : Mem} {ρ : Ev} {σ : L2.St} {X' : XM}
/-- a value has come: go on -/
theorem lf_bind {m : ME} {k : DK} {Q : VK} (r : RepM K as H M) (rs : RelS K as H ρ σ) (h : m ρ M k X') (hx : ∀ x M', X' x M' → LX K as H (fun c d H => W c d σ H) x M')
    (hk : ∀ d M' as' H' v, k d M' → Ext K as H as' H' → RepM K as' H' M' → RelS K as' H' ρ σ → Rel K as' H' d v → Q v H') : lf K W m σ H Q :=
  ⟨as, M, ρ, k, X', r, rs, h, fun d M' q as' H' v e r' q' => hk d M' as' H' v q e r' (rs.up e) q', hx⟩
theorem lfT_bind {m : MT} {k : Bool → Mem → Prop} {Q : Bool → Hp → Prop} (r : RepM K as H M) (rs : RelS K as H ρ σ) (h : m ρ M k X') (hx : ∀ x M', X' x M' → LX K as H (fun c d H => W c d σ H) x M')
    (hk : ∀ b M' as' H', k b M' → Ext K as H as' H' → RepM K as' H' M' → RelS K as' H' ρ σ → Q b H') : lfT K W m σ H Q :=
  ⟨as, M, ρ, k, X', r, rs, h, fun d M' q as' H' e r' => hk d M' as' H' q e r' (rs.up e), hx⟩
theorem lfA_bind {m : MA} {k : List D → Mem → Prop} {Q : List V → Hp → Prop} (r : RepM K as H M) (rs : RelS K as H ρ σ) (h : m ρ M k X') (hx : ∀ x M', X' x M' → LX K as H (fun c d H => W c d σ H) x M')
    (hk : ∀ ds M' as' H' vs, k ds M' → Ext K as H as' H' → RepM K as' H' M' → RelS K as' H' ρ σ → RelL K as' H' ds vs → Q vs H') : lfA K W m σ H Q :=
  ⟨as, M, ρ, k, X', r, rs, h, fun d M' q as' H' v e r' q' => hk d M' as' H' v q e r' (rs.up e) q', hx⟩
end
section
variable {X : Cx} {W : WX} {pos : Pos}
def mVar (i : Nat) : ME := fun ρ M Q _ => match ρ[i]? with | some (some d) => Q d M | _ => False
def mC (d : D) : ME := fun _ M Q _ => Q d M
theorem qe_var {i : Nat} {x : Str} (hN : X.N[i]? = some x) (hv : Vis X.env.scope x) (hd : (x == ("__debug__" : Str)) = false := by decide) (hcd : (x == ("__classdict__" : Str)) = false := by decide) : QE X W (.Name x pos) (mVar i) :=
  PEi (pe_var hN hv hd hcd) fun σ H Q ⟨as, M, ρ, Q', X', r, rs, h, hq, hx⟩ => by
    unfold mVar at h
    split at h
    · rename_i d e
      obtain ⟨v, e2, rv⟩ := rs.2 i d e
      exact ⟨v, e2, hq d M h as H v .refl r rv⟩
    · exact h.elim
theorem lf_c {K : PySem.W.Frag} {d : D} {v : V} (hr : ∀ as H, Rel K as H d v) (σ : L2.St) (H : Hp) (Q : VK) (h : lf K W (mC d) σ H Q) : tC v σ H Q := by
  obtain ⟨as, M, ρ, Q', X', r, rs, h, hq, hx⟩ := h
  exact hq d M h as H v .refl r (hr as H)
theorem qe_int {i : Int} {j : Nat} : QE X W (.Constant (.int i) j pos) (mC (.int i)) := PEi pe_int (lf_c fun _ _ => .int i)
theorem qe_bl {b : Bool} {j : Nat} : QE X W (.Constant (.bool b) j pos) (mC (.bl b)) := PEi pe_bl (lf_c fun _ _ => .bl b)
theorem qe_non {j : Nat} : QE X W (.Constant .none j pos) (mC .non) := PEi pe_non (lf_c fun _ _ => .non)
/-- a constant of the module by its datum -/
theorem qe_gdat {x : Str} {d : D} (hg : Gl X x) (hm : X.mg x = some (.ref (He.ga X.K x))) (hr : ∀ as H, Rel X.K as H d (.ref (He.ga X.K x))) (hd : (x == ("__debug__" : Str)) = false := by decide) : QE X W (.Name x pos) (mC d) := PEi (pe_glob (v := .ref (He.ga X.K x)) hg hm rfl hd) (lf_c hr)
end
abbrev OP := D → D → Mem → DK → Prop
abbrev OU := D → Mem → DK → Prop
abbrev OA := List D → Mem → DK → Prop
def SimO (K : PySem.W.Frag) (r : R2) (o : OP) : Prop := ∀ (as : List Addr) (H : Hp) (M : Mem) (dx dy : D) (x y : V) (k : DK) (Q : VK), RepM K as H M → Rel K as H dx x → Rel K as H dy y → o dx dy M k → (∀ d M', k d M' → LQ K as H Q d M') → r x y H Q
def SimU (K : PySem.W.Frag) (r : V → Hp → VK → Prop) (o : OU) : Prop := ∀ (as : List Addr) (H : Hp) (M : Mem) (dx : D) (x : V) (k : DK) (Q : VK), RepM K as H M → Rel K as H dx x → o dx M k → (∀ d M', k d M' → LQ K as H Q d M') → r x H Q
def SimA (K : PySem.W.Frag) (r : List V → Hp → VK → Prop) (o : OA) : Prop := ∀ (as : List Addr) (H : Hp) (M : Mem) (ds : List D) (vs : List V) (k : DK) (Q : VK), RepM K as H M → RelL K as H ds vs → o ds M k → (∀ d M', k d M' → LQ K as H Q d M') → r vs H Q
def mOp (o : OP) (ma mb : ME) : ME := fun ρ M Q X => ma ρ M (fun x M1 => mb ρ M1 (fun y M2 => o x y M2 Q) X) X
def mUn (o : OU) (ma : ME) : ME := fun ρ M Q X => ma ρ M (fun x M1 => o x M1 Q) X
def mCB (o : OA) (ma : MA) : ME := fun ρ M Q X => ma ρ M (fun xs M1 => o xs M1 Q) X
section
variable {K : PySem.W.Frag} {W : WX}
theorem lf_op {r : R2} {o : OP} {ma mb : ME} (hs : SimO K r o) (σ : L2.St) (H : Hp) (Q : VK) (h : lf K W (mOp o ma mb) σ H Q) : tOp r (lf K W ma) (lf K W mb) σ H Q := by
  obtain ⟨as, M, ρ, Q', X', rp, rs, h, hq, hx⟩ := h
  refine lf_bind rp rs h hx fun dx M1 as1 H1 x h1 e1 r1 rs1 rx => ?_
  refine lf_bind r1 rs1 h1 (fun x M' q => (hx x M' q).mono e1) fun dy M2 as2 H2 y h2 e2 r2 rs2 ry => ?_
  exact hs as2 H2 M2 dx dy x y Q' Q r2 (rx.up e2) ry h2 fun d M' q => (hq d M' q).mono (e1.trans e2)
theorem lf_un {r : V → Hp → VK → Prop} {o : OU} {ma : ME} (hs : SimU K r o) (σ : L2.St) (H : Hp) (Q : VK) (h : lf K W (mUn o ma) σ H Q) : tUn r (lf K W ma) σ H Q := by
  obtain ⟨as, M, ρ, Q', X', rp, rs, h, hq, hx⟩ := h
  refine lf_bind rp rs h hx fun dx M1 as1 H1 x h1 e1 r1 rs1 rx => ?_
  exact hs as1 H1 M1 dx x Q' Q r1 rx h1 fun d M' q => (hq d M' q).mono e1
theorem lf_cb {r : List V → Hp → VK → Prop} {o : OA} {ma : MA} (hs : SimA K r o) (σ : L2.St) (H : Hp) (Q : VK) (h : lf K W (mCB o ma) σ H Q) : tCB r (lfA K W ma) σ H Q := by
  obtain ⟨as, M, ρ, Q', X', rp, rs, h, hq, hx⟩ := h
  refine lfA_bind rp rs h hx fun ds M1 as1 H1 vs h1 e1 r1 rs1 rv => ?_
  exact hs as1 H1 M1 ds vs Q' Q r1 rv h1 fun d M' q => (hq d M' q).mono e1
theorem SimO.or {r r' : R2} {o o' : OP} (h : SimO K r o) (h' : SimO K r' o') : SimO K (fun x y H Q => r x y H Q ∨ r' x y H Q) (fun x y M Q => o x y M Q ∨ o' x y M Q) := fun as H M dx dy x y k Q rp rx ry q hk => by
  rcases q with q | q
  · exact .inl (h as H M dx dy x y k Q rp rx ry q hk)
  · exact .inr (h' as H M dx dy x y k Q rp rx ry q hk)
end
section
variable {X : Cx} {W : WX} {a b : Expr} {es : List Expr} {ma mb mc : ME} {pos : Pos}
theorem qe_op {op : Operator} {r : R2} {o : OP} (ho : OpR X (binaryOp op) r) (hs : SimO X.K r o) (ha : QE X W a ma) (hb : QE X W b mb) : QE X W (.BinOp a op b pos) (mOp o ma mb) := PEi (pe_op ho ha hb) (lf_op hs)
theorem qe_un {op : UnaryOp} {r : V → Hp → VK → Prop} {o : OU} (ho : UnR X (unaryOp op) r) (hs : SimU X.K r o) (ha : QE X W a ma) : QE X W (.UnaryOp op a pos) (mUn o ma) := PEi (pe_un ho ha) (lf_un hs)
theorem qe_cmp {op : CmpOp} {r : R2} {o : OP} (ho : OpR X (compareOp op) r) (hs : SimO X.K r o) (ha : QE X W a ma) (hb : QE X W b mb) (hm : behindInMarks op b = false) : QE X W (.Compare a [op] [b] pos) (mOp o ma mb) := PEi (pe_cmpR ho ha hb hm) (lf_op hs)
theorem qe_ix {r : R2} {o : OP} (hr : IxR X r) (hs : SimO X.K r o) (ha : QE X W a ma) (hb : QE X W b mb) (hp : PlainIx b) : QE X W (.Subscript a b pos) (mOp o ma mb) := PEi (pe_ix hr ha hb hp) (lf_op hs)
def mNil : MA := fun _ M Q _ => Q [] M
def mCons (ma : ME) (mr : MA) : MA := fun ρ M Q X => ma ρ M (fun x M1 => mr ρ M1 (fun xs M2 => Q (x :: xs) M2) X) X
theorem qa_nil : QA X W [] mNil := PAi pa_nil fun σ H Q ⟨as, M, ρ, Q', X', r, rs, h, hq, hx⟩ => hq [] M h as H [] .refl r .nil
theorem qa_cons {mr : MA} (ha : QE X W a ma) (hr : QA X W es mr) (hs : starEach (a :: es) X.env = (false, eval a X.env) :: starEach es X.env := by rfl) : QA X W (a :: es) (mCons ma mr) :=
  PAi (pa_cons ha hr hs) fun σ H Q ⟨as, M, ρ, Q', X', r, rs, h, hq, hx⟩ => by
    refine lf_bind r rs h hx fun dx M1 as1 H1 x h1 e1 r1 rs1 rx => ?_
    refine lfA_bind r1 rs1 h1 (fun x M' q => (hx x M' q).mono e1) fun ds M2 as2 H2 vs h2 e2 r2 rs2 rv => ?_
    exact hq _ _ h2 as2 H2 _ (e1.trans e2) r2 (.cons (rx.up e2) rv)
def oTup : OA := fun ds M Q => ds.length ≤ 1000 ∧ Q (.tup ds) M
def oLst : OA := fun ds M Q => ds.length ≤ 1000 ∧ Q (.ref M.length) (M ++ [.lst ds])
theorem app_at {α : Type} {l : List α} {a : α} : (l ++ [a])[l.length]? = some a := by simp
theorem le_size {n : Nat} (h : n ≤ 1000) : n ≤ sizeLine := Nat.le_trans h (by decide)
/-- a new tuple is laid -/
theorem new_tup {K : PySem.W.Frag} {as : List Addr} {H : Hp} {M : Mem} {ds : List D} {xs : List V} {p : Addr} {k : DK} {Q : VK} (r : RepM K as H M) (rv : RelL K as H ds xs) (hp : H p = none) (h : k (.tup ds) M) (hk : ∀ d M', k d M' → LQ K as H Q d M') : Q (.ref p) (upd H p (.tup xs)) :=
  hk _ _ h as _ _ (ext_new hp) (r.laid hp) (.tup Tq.new (rv.up (ext_new hp)))
theorem new_obj {K : PySem.W.Frag} {as : List Addr} {H : Hp} {M : Mem} {o : O} {u : HO} {p : Addr} {k : DK} {Q : VK} (r : RepM K as H M) (hp : H p = none) (ho : OR K (as ++ [p]) (upd H p u) o p) (h : k (.ref M.length) (M ++ [o])) (hk : ∀ d M', k d M' → LQ K as H Q d M') : Q (.ref p) (upd H p u) :=
  hk _ _ h (as ++ [p]) _ _ ((ext_new hp).trans ext_app) (r.new hp ho) (.ref (by rw [← r.len]; exact app_at))
theorem new_lst {K : PySem.W.Frag} {as : List Addr} {H : Hp} {M : Mem} {ds : List D} {xs : List V} {p : Addr} {k : DK} {Q : VK} (r : RepM K as H M) (rv : RelL K as H ds xs) (hp : H p = none) (h : k (.ref M.length) (M ++ [.lst ds])) (hk : ∀ d M', k d M' → LQ K as H Q d M') : Q (.ref p) (upd H p (.lst xs)) :=
  new_obj (o := .lst ds) r hp ⟨xs, upd_same, rv.up ((ext_new hp).trans ext_app)⟩ h hk
theorem qe_tup {n : Nat} {ma : MA} (ha : QA X W es ma) : QE X W (.Tuple es n pos) (mCB oTup ma) := PEi (pe_tup ha) fun σ H Q ⟨as, M, ρ, Q', X', r, rs, h, hq, hx⟩ => by
  refine lfA_bind r rs h hx fun ds M1 as1 H1 vs h1 e1 r1 rs1 rv => ?_
  exact ⟨by rw [← rv.len]; exact le_size h1.1, fun p hp => new_tup r1 rv hp h1.2 fun d M' q => (hq d M' q).mono e1⟩
theorem qe_lst {ma : MA} (ha : QA X W es ma) : QE X W (.List es pos) (mCB oLst ma) := PEi (pe_lst ha) fun σ H Q ⟨as, M, ρ, Q', X', r, rs, h, hq, hx⟩ => by
  refine lfA_bind r rs h hx fun ds M1 as1 H1 vs h1 e1 r1 rs1 rv => ?_
  exact ⟨by rw [← rv.len]; exact le_size h1.1, fun p hp => new_lst r1 rv hp h1.2 fun d M' q => (hq d M' q).mono e1⟩
end
section
variable {X : Cx} {W : WX} {a b c : Expr} {rest : List Expr} {ma mb mc : ME} {ta tb tc : MT} {pos : Pos}
def mB (ma : ME) : MT := fun ρ M Q X => ma ρ M (fun x M1 => match x with | .bl k => Q k M1 | _ => False) X
def mAnd (t u : MT) : MT := fun ρ M Q X => t ρ M (fun k M1 => if k = true then u ρ M1 Q X else Q false M1) X
def mOr (t u : MT) : MT := fun ρ M Q X => t ρ M (fun k M1 => if k = true then Q true M1 else u ρ M1 Q X) X
def mNot (t : MT) : MT := fun ρ M Q X => t ρ M (fun k M1 => Q (!k) M1) X
theorem lfT_b {K : PySem.W.Frag} {σ : L2.St} {H : Hp} {Q : Bool → Hp → Prop} (h : lfT K W (mB ma) σ H Q) : tTest (lf K W ma) σ H Q := by
  obtain ⟨as, M, ρ, Q', X', r, rs, h, hq, hx⟩ := h
  refine lf_bind r rs h hx fun dx M1 as1 H1 x h1 e1 r1 rs1 rx => ?_
  cases rx with
  | bl k => exact ⟨k, rfl, hq k M1 h1 as1 H1 e1 r1⟩
  | _ => exact h1.elim
theorem qt_cmp {op : CmpOp} {r : R2} {o : OP} (ho : OpR X (compareOp op) r) (hs : SimO X.K r o) (ha : QE X W a ma) (hb : QE X W b mb) (hm : behindInMarks op b = false) : QT X W (.Compare a [op] [b] pos) (mB (mOp o ma mb)) :=
  PTi (pt_cmpR ho ha hb hm) fun σ H Q h => by
    have h2 := lfT_b h
    exact lf_op hs σ H _ h2
theorem qw_and1 (ha : QT X W a ta) : QW X W (.BoolOp .And [a] pos) ta := pw_and1 ha
theorem qw_or1 (ha : QT X W a ta) : QW X W (.BoolOp .Or [a] pos) ta := pw_or1 ha
theorem qw_and (ha : QT X W a ta) (hb : QW X W (.BoolOp .And (b :: rest) pos) tb) : QW X W (.BoolOp .And (a :: b :: rest) pos) (mAnd ta tb) := PWi (pw_and ha hb) fun σ H Q ⟨as, M, ρ, Q', X', r, rs, h, hq, hx⟩ => by
  refine lfT_bind r rs h hx fun k M1 as1 H1 h1 e1 r1 rs1 => ?_
  cases k with
  | true => exact ⟨as1, M1, ρ, Q', X', r1, rs1, h1, fun d M' q => (hq d M' q).mono e1, fun x M' q => (hx x M' q).mono e1⟩
  | false => exact hq false M1 h1 as1 H1 e1 r1
theorem qw_or (ha : QT X W a ta) (hb : QW X W (.BoolOp .Or (b :: rest) pos) tb) : QW X W (.BoolOp .Or (a :: b :: rest) pos) (mOr ta tb) := PWi (pw_or ha hb) fun σ H Q ⟨as, M, ρ, Q', X', r, rs, h, hq, hx⟩ => by
  refine lfT_bind r rs h hx fun k M1 as1 H1 h1 e1 r1 rs1 => ?_
  cases k with
  | true => exact hq true M1 h1 as1 H1 e1 r1
  | false => exact ⟨as1, M1, ρ, Q', X', r1, rs1, h1, fun d M' q => (hq d M' q).mono e1, fun x M' q => (hx x M' q).mono e1⟩
theorem qt_not (ha : QT X W a ta) : QT X W (.UnaryOp .Not a pos) (mNot ta) := PTi (pt_not ha) fun σ H Q ⟨as, M, ρ, Q', X', r, rs, h, hq, hx⟩ =>
  lfT_bind r rs h hx fun k M1 as1 H1 h1 e1 r1 _ => hq (!k) M1 h1 as1 H1 e1 r1
/-- a value's truth -/
def tru (x : D) (M : Mem) (Q : Bool → Mem → Prop) : Prop := match x with
  | .non => Q false M
  | .bl b => Q b M
  | .int i => Q (i != 0) M
  | .str y => y.length ≤ 16000000 ∧ Q ((y.length : Int) != 0) M
  | .tup ds => Q (!ds.isEmpty) M
  | .ref n => match M[n]? with
    | some (.lst ds) => Q (!ds.isEmpty) M
    | some (.dct false kvs) => Q (!kvs.isEmpty) M
    | _ => False
  | _ => False
def mTru (ma : ME) : MT := fun ρ M Q X => ma ρ M (fun x M1 => tru x M1 Q) X
theorem RelL.isEmpty {K : PySem.W.Frag} {as : List Addr} {H : Hp} {ds : List D} {vs : List V} (h : RelL K as H ds vs) : ds.isEmpty = vs.isEmpty := by cases h <;> rfl
theorem KVR.isEmpty {K : PySem.W.Frag} {as : List Addr} {H : Hp} {κ : Type} {ds : List (κ × D)} {vs : List (κ × V)} (h : KVR K as H ds vs) : ds.isEmpty = vs.isEmpty := by cases h <;> rfl
theorem tru_ok {K : PySem.W.Frag} {as : List Addr} {H : Hp} {M : Mem} {d : D} {x : V} {k : Bool → Mem → Prop} {Q : Bool → Hp → Prop} (rp : RepM K as H M) (rx : Rel K as H d x) (h : tru d M k) (hk : ∀ b M', k b M' → LT K as H Q b M') : ∃ b, TruV K x H b ∧ Q b H := by
  cases rx with
  | non => exact ⟨false, rfl, hk _ _ h as H .refl rp⟩
  | bl b => exact ⟨b, rfl, hk _ _ h as H .refl rp⟩
  | int i => exact ⟨_, rfl, hk _ _ h as H .refl rp⟩
  | str y => exact ⟨_, ⟨Nat.le_trans h.1 (by decide), rfl⟩, hk _ _ h.2 as H .refl rp⟩
  | tup hs hl => exact ⟨_, .inr (.inl ⟨_, hs.1, rfl⟩), by rw [← hl.isEmpty]; exact hk _ _ h as H .refl rp⟩
  | ref hn =>
    rename_i n a
    dsimp only [tru] at h
    split at h
    · rename_i ds e
      obtain ⟨a', ha, xs, h1, h2⟩ := rp.at_ e
      rw [hn] at ha; cases ha
      exact ⟨_, .inl ⟨xs, SqL.of h1, rfl⟩, by rw [← h2.isEmpty]; exact hk _ _ h as H .refl rp⟩
    · rename_i kvs e
      obtain ⟨a', ha, ks, h1, h2⟩ := rp.at_ e
      rw [hn] at ha; cases ha
      exact ⟨_, .inr (.inr ⟨ks, h2, rfl⟩), by rw [← h1.isEmpty]; exact hk _ _ h as H .refl rp⟩
    · exact h.elim
  | _ => exact h.elim
theorem qt_tru (ha : QE X W a ma) (he : ∀ whole, isTrue a X.env whole = (do let v ← whole; standAt a.pos; holding [v] (truthy v))) : QT X W a (mTru ma) := PTi (pt_truth ha he) fun σ H Q ⟨as, M, ρ, Q', X', r, rs, h, hq, hx⟩ => by
  refine lf_bind r rs h hx fun dx M1 as1 H1 x h1 e1 r1 rs1 rx => ?_
  exact tru_ok r1 rx h1 fun b M' q => (hq b M' q).mono e1
def mAndV (ma mb : ME) : ME := fun ρ M Q X => ma ρ M (fun x M1 => match x with | .bl k => if k = true then mb ρ M1 Q X else Q (.bl false) M1 | _ => False) X
def mOrV (ma mb : ME) : ME := fun ρ M Q X => ma ρ M (fun x M1 => match x with | .bl k => if k = true then Q (.bl true) M1 else mb ρ M1 Q X | _ => False) X
def mIf (t : MT) (ma mb : ME) : ME := fun ρ M Q X => t ρ M (fun k M1 => if k = true then ma ρ M1 Q X else mb ρ M1 Q X) X
theorem qe_ifExp (hc : QT X W c tc) (ha : QE X W a ma) (hb : QE X W b mb) : QE X W (.IfExp c a b pos) (mIf tc ma mb) := PEi (pe_ifExp hc ha hb) fun σ H Q ⟨as, M, ρ, Q', X', r, rs, h, hq, hx⟩ => by
  refine lfT_bind r rs h hx fun k M1 as1 H1 h1 e1 r1 rs1 => ?_
  cases k with
  | true => exact ⟨as1, M1, ρ, Q', X', r1, rs1, h1, fun d M' q => (hq d M' q).mono e1, fun x M' q => (hx x M' q).mono e1⟩
  | false => exact ⟨as1, M1, ρ, Q', X', r1, rs1, h1, fun d M' q => (hq d M' q).mono e1, fun x M' q => (hx x M' q).mono e1⟩
end
end MV
namespace MV
open PySem PySem.Spec PyProof.Rows L2
/-- from c on, the contexts are those at the addresses l, the last one's is None -/
def Lks (G : Heap) : List Addr → Value → Prop
  | [], c => c = .none
  | x :: l, c => c = .ref x ∧ ∃ o vs c', G.get? x = some o ∧ o.data = .fields vs ∧ vs[2]? = some c' ∧ Lks G l c'
theorem Lks.up {G G' : Heap} : ∀ {l : List Addr} {c : Value}, (∀ x ∈ l, ∀ o, G.get? x = some o → G'.get? x = some o) → Lks G l c → Lks G' l c
  | [], _, _, h => h
  | x :: l, _, k, ⟨e, o, vs, c', h1, h2, h3, r⟩ => ⟨e, o, vs, c', k x (by simp) o h1, h2, h3, Lks.up (fun y hy => k y (by simp [hy])) r⟩
theorem Lks.at_ {G : Heap} : ∀ {l : List Addr} {c : Value}, Lks G l c → ∀ x ∈ l, ∃ o vs, G.get? x = some o ∧ o.data = .fields vs
  | [], _, _, _, hx => by cases hx
  | y :: l, _, ⟨_, o, vs, _, h1, h2, _, r⟩, x, hx => by
    rcases List.mem_cons.mp hx with rfl | hx
    · exact ⟨o, vs, h1, h2⟩
    · exact r.at_ x hx
/-- the object's context leads to None within B; none of its links is tracked -/
def CtxL (B : Heap) (H : Hp) (o : Obj) : Prop := ∀ vs : Array Value, o.data = .fields vs → ∃ c l, vs[2]? = some c ∧ Lks B l c ∧ ∀ x ∈ l, H x = none
theorem CtxL.none {B : Heap} {H : Hp} {o : Obj} {vs : Array Value} (hd : o.data = .fields vs) (h : vs[2]? = some .none) : CtxL B H o := fun vs' e => by
  rw [hd] at e; cases e
  exact ⟨.none, [], h, rfl, fun _ z => by cases z⟩
def Zk (B : Heap) (H : Hp) (cls : Value) (d : Option Addr) : Obj → Prop := fun o => o.cls = cls ∧ o.dict = d ∧ CtxL B H o
theorem Zk.steady {B : Heap} {H : Hp} {cls : Value} {d : Option Addr} : PXN.Steady1 (Zk B H cls d) := fun o v ⟨h1, h2, h3⟩ => by
  refine ⟨PXN.steady_cls o v h1, PXN.steady_dict o v h2, fun vs e => ?_⟩
  obtain ⟨oc, od, dt, sl⟩ := o
  cases dt with
  | fields v0 =>
    have e2 : v0.setIfInBounds 1 v = vs := Data.fields.inj e
    subst e2
    obtain ⟨c, l, g1, g2⟩ := h3 v0 rfl
    exact ⟨c, l, by rw [Array.getElem?_setIfInBounds_ne (by decide)]; exact g1, g2⟩
  | _ => cases e
/-- an exception in the air of X -/
structure AirAt (X : Cx) (W : WX) (s' : Shared) (a : Addr) (B : Heap) (sI : Shared) (pins : List (Addr × Obj)) (σ : L2.St) (H : Hp) (cls : Value) (d : Option Addr) : Prop where
  inv : Inv X pins σ H sI
  low : ∀ b o, sI.heap.get? b = some o → b ∉ frs X.stack → B.get? b = some o
  up : sI.heap.UpToSlots s'.heap
  sky : Sky B X.stack a (Zk B H cls d) X.env.locals s'.heap
  na : H a = none
  os : s'.os = sI.os
  ag : AllBare s'.gens
  w : W cls d σ H
def XE (X : Cx) (W : WX) (u : Value) (s' : Shared) : Prop := ∃ a B sI pins σ H cls d, u = .ref a ∧ AirAt X W s' a B sI pins σ H cls d
def Takes (X : Cx) (W : WX) : Prop := ∀ u s', XE X W u s' → X.xe u s'
/-- behind a call that let one out -/
structure OutAt (P : Program) (w : World) (outer : List Env) (H : Hp) (s : Shared) (E : XK) (s' : Shared) (a : Addr) (B : Heap) (H' : Hp) (cls : Value) (d : Option Addr) : Prop where
  fl : HandSPX.FlyingZ B outer a (Zk B H' cls d) s'.heap
  hok : HOk P w H' B
  ub : UB (frs outer) H H' s.heap B s'.heap
  na : H' a = none
  os : s'.os = s.os
  ag : AllBare s'.gens
  e : E cls d H'
def CX (P : Program) (w : World) : CXT := fun outer H s E u s' => ∃ a B H' cls d, u = .ref a ∧ OutAt P w outer H s E s' a B H' cls d
section
variable {X : Cx} {pins : List (Addr × Obj)} {σ : L2.St} {H : Hp} {sI s s' : Shared} {B : Heap} {W : WX} {E : XK}
theorem XE.of_call (I : Inv X pins σ H s) (hW : ∀ cls d H', E cls d H' → W cls d σ H') {u : Value} (c : CX X.prog X.w X.stack H s E u s') : XE X W u s' := by
  obtain ⟨a, B, H', cls, d, rfl, c⟩ := c
  obtain ⟨G, gy, gn⟩ := restrict s'.heap fun b => (B.get? b).isSome || decide (b ∈ frs X.stack)
  have inB : ∀ b o, B.get? b = some o → G.get? b = some o := fun b o z => (gy b (by simp [z])).trans (c.fl.1 b o z)
  have inF : ∀ b, b ∈ frs X.stack → G.get? b = s'.heap.get? b := fun b z => gy b (by simp [z])
  have out : ∀ b o, G.get? b = some o → s'.heap.get? b = some o ∧ (b ∉ frs X.stack → B.get? b = some o) := fun b o z => by
    by_cases hF : b ∈ frs X.stack
    · exact ⟨(inF b hF).symm.trans z, fun n => absurd hF n⟩
    · cases q : B.get? b with
      | none =>
        have := gn b (by simp [q, hF])
        rw [this] at z; cases z
      | some o' =>
        have := inB b o' q
        rw [this] at z; cases z
        exact ⟨c.fl.1 b _ q, fun _ => rfl⟩
  refine ⟨a, B, { s with heap := G, gens := s'.gens, drawn := s'.drawn, toks := s'.toks }, pins, σ, H', cls, d, rfl, ?_, fun b o z n => (out b o z).2 n, Heap.UpToSlots.of_keeps fun b o z => (out b o z).1, .inr (.inl c.fl), c.na, c.os, c.ag, hW _ _ _ c.e⟩
  have U : Un (frs X.stack) [] H H' s.heap G := {
    keep := fun b o z n hb _ => inB b o (c.ub.keep b o z n hb)
    slot := fun b o z n hb _ => by
      obtain ⟨sl, q⟩ := c.ub.slot b o z hb
      exact ⟨sl, (inF b hb).trans q⟩
    free := fun b o z n _ => c.ub.free b o z n
    there := fun b o z _ => by
      by_cases hF : b ∈ frs X.stack
      · obtain ⟨sl, q⟩ := c.ub.slot b o z hF
        exact ⟨_, (inF b hF).trans q⟩
      · obtain ⟨o', q⟩ := c.ub.there b o z hF
        exact ⟨o', inB b o' q⟩
    tups := c.ub.tups
    frzs := c.ub.frzs
    tbls := c.ub.tbls }
  exact I.call (ch := []) U (c.hok.kept inB) c.ag (fun _ z => by cases z)
/-- a new one -/
theorem XE.new {a : Addr} {oe : Obj} {vs : Array Value} {cls : Value} {d : Option Addr} {l : List Addr} {c : Value} (I : Inv X pins σ H sI) (k : ∀ b o, sI.heap.get? b = some o → s'.heap.get? b = some o) (hne : sI.heap.get? a = none) (he : s'.heap.get? a = some oe)
    (hc : oe.cls = cls) (hdd : oe.dict = d) (hd : oe.data = .fields vs) (h1 : vs[1]? = some .none) (h2 : vs[2]? = some c) (hl : Lks sI.heap l c) (hF : ∀ x ∈ l, x ∉ frs X.stack) (hH : ∀ x ∈ l, H x = none)
    (na : H a = none) (os : s'.os = sI.os) (ag : AllBare s'.gens) (w : W cls d σ H) : XE X W (.ref a) s' := by
  have hB : (PySem.W.hideAll sI.heap (frs X.stack)).get? a = none := by
    cases q : (PySem.W.hideAll sI.heap (frs X.stack)).get? a with
    | none => rfl
    | some o =>
      have z := PySem.W.of_hideAll _ q
      rw [hne] at z; cases z
  have hz : Zk (PySem.W.hideAll sI.heap (frs X.stack)) H cls d oe := ⟨hc, hdd, fun vs' e => by
    rw [hd] at e; cases e
    exact ⟨c, l, h2, hl.up fun x hx o z => PySem.W.hideAll_get _ z (hF x hx), hH⟩⟩
  refine ⟨a, PySem.W.hideAll sI.heap (frs X.stack), sI, pins, σ, H, cls, d, rfl, I, fun b o e hb => PySem.W.hideAll_get _ e hb, Heap.UpToSlots.of_keeps k, .inl ⟨fun b o e => k b o (PySem.W.of_hideAll _ e), hB, ?_, oe, vs, he, hz, hd, h1⟩, na, os, ag, w⟩
  exact Heap.FunFrames.of_keeps (fun b o e _ => ⟨o, k b o e, rfl⟩) (funFrames_none I.stack fun b hb => PySem.W.hideAll_none _ hb)
/-- it leaves the def -/
theorem XE.leave (hs : X.stack = X.env :: X.outer) (hf : X.env.frame = some X.env.locals) (hex : X.ex = []) {E₁ : Value → Shared → Prop} (hW : ∀ cls d σ H, W cls d σ H → E cls d H) {u : Value} (x : XE X W u s') :
    wpAny (model X.prog X.w) X.A (leaving X.env u) (fun _ s'' => CX X.prog X.w X.outer X.H_0 X.s_0 E u s'') E₁ s' := by
  obtain ⟨a, B, sI, pins, σ, H, cls, d, rfl, x⟩ := x
  have I := x.inv
  have hfr : X.A.frames = some (X.env :: X.outer) := by rw [I.ok.frames, hs]
  have off : ∀ b o, X.s_0.heap.get? b = some o → b ∉ X.fs → b ∉ frs X.stack := fun b o e hb hm => by
    rcases List.mem_cons.mp (I.stkSub b hm) with z | z
    · have h1 := Heap.lt_size e
      have h2 := I.ok.above
      rw [z] at h1
      exact Nat.not_lt.mpr h2 h1
    · exact hb z
  have noex : ∀ b, b ∉ X.ex := fun b hb => by rw [hex] at hb; cases hb
  have fin : ∀ h', HandSPX.FlyingZ B X.outer a (Zk B H cls d) h' → s'.heap.UpToSlots h' → CX X.prog X.w X.outer X.H_0 X.s_0 E (.ref a) { s' with heap := h' } := fun h' fl up' => by
    refine ⟨a, B, H, cls, d, rfl, fl, I.inGround x.low, ?_, x.na, x.os.trans I.os, x.ag, hW _ _ _ _ x.w⟩
    exact {
      keep := fun b o e n hb => x.low b o (I.base.keep b o e n hb (noex b)) (off b o e hb)
      slot := fun b o e hb => by
        obtain ⟨_, o₀, e₀, hnf⟩ := I.ok.funs.mem hb
        rw [e] at e₀; cases e₀
        obtain ⟨sl, e1⟩ := I.base.slot b o e (I.ok.frf b hb) hb (noex b)
        obtain ⟨sl2, e2⟩ := x.up b _ e1 hnf
        obtain ⟨sl3, e3⟩ := up' b _ e2 hnf
        exact ⟨sl3, e3⟩
      free := fun b o e n => I.base.free b o e n (noex b)
      there := fun b o e hb => by
        obtain ⟨o', e1⟩ := I.base.there b o e (noex b)
        exact ⟨o', x.low b o' e1 (off b o e hb)⟩
      tups := I.base.tups
      frzs := I.base.frzs
      tbls := I.base.tbls }
  have sky := x.sky
  rw [hs] at sky
  rcases sky with ⟨hB, hn, hl, oe, vs, he, hz, hd, h1⟩ | fl | hd
  · exact PXN.leaving_firstZ Zk.steady hfr hl hf he hB hn hd h1 hz fin
  · exact PXN.leaves_onZ Zk.steady hfr hf fl fin
  · exact HandSPX.leaves_heldZ hf hd fin
theorem takes_of (hs : X.stack = X.env :: X.outer) (hf : X.env.frame = some X.env.locals) (hex : X.ex = []) {E₁ : Value → Shared → Prop}
    (hx : X.xe = fun e s' => wpAny (model X.prog X.w) X.A (leaving X.env e) (fun _ s'' => CX X.prog X.w X.outer X.H_0 X.s_0 E e s'') E₁ s') : Takes X (fun cls d _ H => E cls d H) := fun u s' x => by
  rw [hx]
  exact XE.leave (W := fun cls d _ H => E cls d H) (E := E) hs hf hex (fun _ _ _ _ h => h) x
theorem passAt (tk : Takes X W) (σ : L2.St) : PassesAt (CX X.prog X.w) X σ (WE W σ) := fun _ _ _ e s' I c => tk e s' (XE.of_call I (fun _ _ _ h => h) c)
end
/-- what stands at a behind raise .. from .. -/
structure RaisedAt (h h' : Heap) (a x1 : Addr) (cls : Value) (d : Option Addr) : Prop where
  keep : ∀ b, b ≠ a → h'.get? b = h.get? b
  obj : ∃ o vs, h'.get? a = some o ∧ o.cls = cls ∧ o.dict = d ∧ o.data = .fields vs ∧ vs[1]? = some .none ∧ vs[2]? = some (.ref x1)
end MV
namespace MV
open PySem PySem.Spec PyProof.Rows L2
abbrev RoomU := L2H.RoomH
structure FnU (P : Program) (w : World) (K : PySem.W.Frag) (mg : Str → Option Value) (base : Heap) (k : Nat) (f : Addr) (fd : FuncData) (ps : List Str) (sp : Sp) : Prop where
  len : ∀ vs H Q E, sp vs H Q E → vs.length = ps.length
  run : ∀ (A : Around) (outer : List Env) (s : Shared) (H : Hp) (args : Args) (us : List Value) (vs : List V) (Q : VK) (E : XK), RoomU k A → Env0 P w K mg base A outer s H → BindsTo s fd args (ps.zip us) → Vals vs us → sp vs H Q E →
    codeAny (model P w) A (.call (.ref f) args) (CR CX0 outer P w H s Q E) s
section
variable {P : Program} {w : World} {K : PySem.W.Frag} {mg : Str → Option Value} {base : Heap} {k : Nat} {f : Addr} {fd : FuncData} {ps : List Str} {sp : Sp}
theorem FnU.ok (F : FnU P w K mg base k f fd ps sp) : FnOk P w K mg base CX0 k f fd ps sp := ⟨F.len, fun A outer s H args us vs Q E hr => F.run A outer s H args us vs Q E (L2H.roomH_of hr)⟩
end
/-- methods by class and name -/
structure FnMU (P : Program) (w : World) (K : PySem.W.Frag) (mg : Str → Option Value) (base : Heap) (k : Nat) (x m : Str) (ps : List Str) (sp : Sp) : Prop where
  ok : ∃ fd, FnU P w K mg base k (He.ma K (He.ga K x) m) fd ps sp ∧ Binds K fd ps []
section
variable {X : Cx} {k : Nat} {f : Addr} {fd : FuncData} {ps : List Str} {sp : Sp} {x : Str} {fs : List Str} {p p1 p2 pos : Pos} {e : Expr} {es : List Expr} {ta t : TA}
end
section
variable {X : Cx} {k : Nat} {ps : List Str} {sp : Sp} {x : Str} {fs : List Str} {p pos : Pos} {e : Expr} {es : List Expr} {ta : TA}
end
end MV
namespace MV
open PySem PySem.Spec PyProof.Rows L2
/-- the pins hold the exception that is handled and what its contexts lead to -/
def LksP (pn : List (Addr × Obj)) : List Addr → Value → Prop
  | [], c => c = .none
  | x :: l, c => c = .ref x ∧ ∃ o vs c', (x, o) ∈ pn ∧ o.data = .fields vs ∧ vs[2]? = some c' ∧ LksP pn l c'
theorem LksP.mem {pn : List (Addr × Obj)} : ∀ {l : List Addr} {c : Value}, LksP pn l c → ∀ x ∈ l, ∃ o, (x, o) ∈ pn
  | [], _, _, _, hx => by cases hx
  | y :: l, _, ⟨_, o, vs, _, h1, _, _, r⟩, x, hx => by
    rcases List.mem_cons.mp hx with rfl | hx
    · exact ⟨o, h1⟩
    · exact r.mem x hx
theorem LksP.more {pn pn' : List (Addr × Obj)} (k : ∀ p ∈ pn, p ∈ pn') : ∀ {l : List Addr} {c : Value}, LksP pn l c → LksP pn' l c
  | [], _, h => h
  | x :: l, _, ⟨e, o, vs, c', h1, h2, h3, r⟩ => ⟨e, o, vs, c', k _ h1, h2, h3, LksP.more k r⟩
/-- such pins out of a heap -/
theorem LksP.of {G : Heap} : ∀ {l : List Addr} {c : Value}, Lks G l c → ∃ pl : List (Addr × Obj), LksP pl l c ∧ ∀ p ∈ pl, p.1 ∈ l ∧ G.get? p.1 = some p.2 ∧ ∃ vs, p.2.data = .fields vs
  | [], _, h => ⟨[], h, fun _ z => by cases z⟩
  | x :: l, _, ⟨e, o, vs, c', h1, h2, h3, r⟩ => by
    obtain ⟨pl, g1, g2⟩ := LksP.of r
    refine ⟨(x, o) :: pl, ⟨e, o, vs, c', by simp, h2, h3, g1.more fun p hp => by simp [hp]⟩, fun p hp => ?_⟩
    rcases List.mem_cons.mp hp with rfl | hp
    · exact ⟨by simp, h1, vs, h2⟩
    · obtain ⟨q1, q2⟩ := g2 p hp
      exact ⟨by simp [q1], q2⟩
def HotK (X : Cx) : Prop := ∃ x1 l, X.A.handled = some (.ref x1) ∧ LksP X.pn (x1 :: l) (.ref x1)
end MV
namespace MV
open PySem PySem.Spec PyProof.Rows L2
/-- noted: on the stack l, its flight is fl -/
structure TrZ (B : Heap) (l : List Env) (a : Addr) (Z : Obj → Prop) (fl : Value) (h : Heap) : Prop where
  st : B.StaysIn h
  no : B.get? a = none
  ff : h.FunFrames B l
  tr : HandSPX.TracedZ h B a Z fl
section
variable {X : Cx} {pins : List (Addr × Obj)} {W : WX}
end
end MV
namespace MV
open PySem PySem.Spec PyProof.Rows L2
section
variable {prog : Program} {w : World} {A : Around} {E : Value → Shared → Prop} {s : Shared}
end
section
variable {X : Cx} {es : List Expr} {k n : Nat} {t : TGs} {pos : Pos}
end
section
variable {prog : Program} {w : World} {A : Around} {E : Value → Shared → Prop}
end
section
variable {X : Cx} {es : List Expr} {k n : Nat} {t : TGs} {pos : Pos}
end
end MV
namespace MV
open PySem PySem.Spec PyProof.Rows L2
mutual
def deq : D → D → Bool
  | .non, .non => true
  | .bl a, .bl b => a == b
  | .bl a, .int j => (if a then 1 else 0) == j
  | .int i, .bl b => i == (if b then 1 else 0)
  | .int i, .int j => i == j
  | .str x, .str y => x == y
  | .tup xs, .tup ys => deqL xs ys
  | _, _ => false
def deqL : List D → List D → Bool
  | [], [] => true
  | x :: xs, y :: ys => deq x y && deqL xs ys
  | _, _ => false
end
def fine : Nat → D → Bool
  | _, .non => true
  | _, .bl _ => true
  | _, .int _ => true
  | _, .str x => PyData.strOk x
  | k + 1, .tup ds => ds.all (fine k)
  | _, _ => false
mutual
def toPy : D → PyData
  | .non => .none
  | .bl b => .bool b
  | .int i => .int i
  | .str x => .str x
  | .tup ds => .tuple (toPyL ds)
  | _ => .none
def toPyL : List D → List PyData
  | [] => []
  | d :: ds => toPy d :: toPyL ds
end
section
variable {K : PySem.W.Frag} {as : List Addr} {H : Hp}
theorem fine_ok (k : Nat) : ∀ {d : D} {v : V}, fine k d = true → Rel K as H d v → Dp K H v (toPy d) ∧ (toPy d).canLay0 = true ∧ (toPy d).depth ≤ k := by
  induction k with
  | zero =>
    intro d v f r
    cases r with
    | non => exact ⟨.non, by simp [toPy, PyData.canLay0], by simp [toPy, PyData.depth]⟩
    | bl b => exact ⟨.bl b, by simp [toPy, PyData.canLay0], by simp [toPy, PyData.depth]⟩
    | int b => exact ⟨.int b, by simp [toPy, PyData.canLay0], by simp [toPy, PyData.depth]⟩
    | str b => exact ⟨.str b, by simp only [toPy, PyData.canLay0]; exact f, by simp [toPy, PyData.depth]⟩
    | _ => simp [fine] at f
  | succ k ih =>
    intro d v f r
    cases r with
    | non => exact ⟨.non, by simp [toPy, PyData.canLay0], by simp [toPy, PyData.depth]⟩
    | bl b => exact ⟨.bl b, by simp [toPy, PyData.canLay0], by simp [toPy, PyData.depth]⟩
    | int b => exact ⟨.int b, by simp [toPy, PyData.canLay0], by simp [toPy, PyData.depth]⟩
    | str b => exact ⟨.str b, by simp only [toPy, PyData.canLay0]; exact f, by simp [toPy, PyData.depth]⟩
    | tup hs hl =>
      rename_i a xs ds
      have key : ∀ (ds : List D) (xs : List V), RelL K as H ds xs → ds.all (fine k) = true → DpAll K H xs (toPyL ds) ∧ PyData.canLayAll0 (toPyL ds) = true ∧ PyData.depthAll (toPyL ds) ≤ k := by
        intro ds
        induction ds with
        | nil => intro xs h _; cases h; exact ⟨.nil, by simp [toPyL, PyData.canLayAll0], by simp [toPyL, PyData.depthAll]⟩
        | cons d ds ihd =>
          intro xs h f
          cases h with
          | cons h1 h2 =>
            simp only [List.all_cons, Bool.and_eq_true] at f
            obtain ⟨a1, a2, a3⟩ := ih f.1 h1
            obtain ⟨b1, b2, b3⟩ := ihd _ h2 f.2
            refine ⟨.cons a1 b1, by simp [toPyL, PyData.canLayAll0, a2, b2], ?_⟩
            simp only [toPyL, PyData.depthAll]
            omega
      obtain ⟨a1, a2, a3⟩ := key ds xs hl (by simpa [fine] using f)
      exact ⟨.tup hs.1 a1, by simp only [toPy, PyData.canLay0]; exact a2, by simp only [toPy, PyData.depth]; omega⟩
    | _ => simp [fine] at f
theorem fineL_ok (k : Nat) : ∀ {ds : List D} {xs : List V}, RelL K as H ds xs → ds.all (fine k) = true → DpAll K H xs (toPyL ds) ∧ PyData.canLayAll0 (toPyL ds) = true ∧ PyData.depthAll (toPyL ds) ≤ k
  | _, _, .nil, _ => ⟨.nil, by simp [toPyL, PyData.canLayAll0], by simp [toPyL, PyData.depthAll]⟩
  | _, _, .cons h1 h2, f => by
    simp only [List.all_cons, Bool.and_eq_true] at f
    obtain ⟨a1, a2, a3⟩ := fine_ok k f.1 h1
    obtain ⟨b1, b2, b3⟩ := fineL_ok k h2 f.2
    refine ⟨.cons a1 b1, by simp [toPyL, PyData.canLayAll0, a2, b2], ?_⟩
    simp only [toPyL, PyData.depthAll]
    omega
theorem shaped_of {p : PyData} {k : Nat} (h : p.canLay0 = true) (hd : p.depth ≤ k) (hk : k ≤ 64) : SeqAt.shaped p = true := by
  simp only [SeqAt.shaped, Bool.and_eq_true, decide_eq_true_eq]
  exact ⟨h, Nat.le_trans hd hk⟩
end
theorem eqv_deq (k : Nat) : ∀ {d e : D}, fine k d = true → fine k e = true → PyData.eqv (toPy d) (toPy e) = deq d e := by
  induction k with
  | zero =>
    intro d e f g
    cases d <;> cases e <;> first | (simp [fine] at f; done) | (simp [fine] at g; done) | simp [toPy, PyData.eqv, deq]
  | succ k ih =>
    intro d e f g
    cases d <;> cases e <;> first | (simp [fine] at f; done) | (simp [fine] at g; done) | skip
    case tup.tup ds es =>
      simp only [toPy, PyData.eqv, deq]
      simp only [fine] at f g
      revert es
      induction ds with
      | nil => intro es g; cases es <;> simp [toPyL, PyData.eqvAll, deqL]
      | cons d ds ihd =>
        intro es g
        cases es with
        | nil => simp [toPyL, PyData.eqvAll, deqL]
        | cons e es =>
          simp only [List.all_cons, Bool.and_eq_true] at f g
          simp only [toPyL, PyData.eqvAll, deqL]
          rw [ih f.1 g.1, ihd f.2 es g.2]
    all_goals simp [toPy, PyData.eqv, deq]
def okMul (i j : Int) : Prop := CMul i j ∨ CMulW i j
def okDiv (j : Int) : Prop := j ≠ 0 ∧ j.natAbs.log2 < 9000
def oAdd : OP := fun x y M Q => match x, y with
  | .int i, .int j => Q (.int (i + j)) M
  | .str a, .str b => a.length + b.length ≤ 16000000 ∧ Q (.str (a ++ b)) M
  | .tup a, .tup b => a.length + b.length ≤ 16000000 ∧ Q (.tup (a ++ b)) M
  | .ref m, .ref n => match M[m]?, M[n]? with
    | some (.lst a), some (.lst b) => a.length + b.length ≤ 16000000 ∧ Q (.ref M.length) (M ++ [.lst (a ++ b)])
    | _, _ => False
  | _, _ => False
def oSub : OP := fun x y M Q => match x, y with | .int i, .int j => Q (.int (i - j)) M | _, _ => False
def oMul : OP := fun x y M Q => match x, y with | .int i, .int j => okMul i j ∧ Q (.int (i * j)) M | _, _ => False
def oDiv : OP := fun x y M Q => match x, y with | .int i, .int j => okDiv j ∧ Q (.int (i.fdiv j)) M | _, _ => False
def oMod : OP := fun x y M Q => match x, y with | .int i, .int j => j ≠ 0 ∧ Q (.int (i.fmod j)) M | _, _ => False
def oPow : OP := fun x y M Q => match x, y with | .int i, .int j => CPow i j ∧ Q (.int (i ^ j.toNat)) M | _, _ => False
def oNeg : OU := fun x M Q => match x with | .int i => Q (.int (-i)) M | _ => False
def oLt : OP := fun x y M Q => match x, y with | .int i, .int j => Q (.bl (decide (i < j))) M | _, _ => False
def oLe : OP := fun x y M Q => match x, y with | .int i, .int j => Q (.bl (decide (i ≤ j))) M | _, _ => False
def oGt : OP := fun x y M Q => match x, y with | .int i, .int j => Q (.bl (decide (j < i))) M | _, _ => False
def oGe : OP := fun x y M Q => match x, y with | .int i, .int j => Q (.bl (decide (j ≤ i))) M | _, _ => False
mutual
/-- d, with all that it holds, is the plain data p -/
inductive See (M : Mem) : Nat → D → PyData → Prop
  | non (k : Nat) : See M k .non .none
  | bl (k : Nat) (b : Bool) : See M k (.bl b) (.bool b)
  | int (k : Nat) (i : Int) : See M k (.int i) (.int i)
  | str (k : Nat) {x : Str} : PyData.strOk x = true → See M k (.str x) (.str x)
  | tup {k : Nat} {ds : List D} {ps : List PyData} : SeeL M k ds ps → See M (k + 1) (.tup ds) (.tuple ps)
  | lst {k n : Nat} {ds : List D} {ps : List PyData} : M[n]? = some (.lst ds) → SeeL M k ds ps → See M (k + 1) (.ref n) (.list ps)
inductive SeeL (M : Mem) : Nat → List D → List PyData → Prop
  | nil {k : Nat} : SeeL M k [] []
  | cons {k : Nat} {d : D} {ds : List D} {p : PyData} {ps : List PyData} : See M k d p → SeeL M k ds ps → SeeL M k (d :: ds) (p :: ps)
end
/-- x == y (of all that can be seen as plain data) -/
def oEqB (x y : D) (M : Mem) (k : Bool → Prop) : Prop := match x, y with
  | .str a, .str b => k (decide (a = b))
  | .int i, .int j => k (decide (i = j))
  | x, y => ∃ p q, See M 20 x p ∧ See M 20 y q ∧ k (PyData.eqv p q)
def oEq : OP := fun x y M Q => oEqB x y M fun b => Q (.bl b) M
def oNe : OP := fun x y M Q => oEqB x y M fun b => Q (.bl (!b)) M
def oIsN : OU := fun x M Q => Q (.bl (match x with | .non => true | _ => false)) M
def oNotN : OU := fun x M Q => Q (.bl (match x with | .non => false | _ => true)) M
section
variable {K : PySem.W.Frag}
theorem at_lst {as : List Addr} {H : Hp} {M : Mem} {n : Nat} {a : Addr} {ds : List D} (rp : RepM K as H M) (hn : as[n]? = some a) (e : M[n]? = some (.lst ds)) : ∃ xs, H a = some (.lst xs) ∧ RelL K as H ds xs := by
  obtain ⟨a', ha, xs, h1, h2⟩ := rp.at_ e
  rw [hn] at ha; cases ha
  exact ⟨xs, h1, h2⟩
theorem sim_i0 {f : Int → Int → Int} {o : OP} (ho : ∀ x y M Q, o x y M Q → ∃ i j, x = .int i ∧ y = .int j ∧ Q (.int (f i j)) M) : SimO K (rI0 fun i j => .int (f i j)) o := fun as H M dx dy x y k Q rp rx ry h hk => by
  obtain ⟨i, j, rfl, rfl, q⟩ := ho _ _ _ _ h
  cases rx; cases ry
  exact ⟨i, j, rfl, rfl, hk _ _ q as H _ .refl rp (.int _)⟩
theorem sim_b0 {f : Int → Int → Bool} {o : OP} (ho : ∀ x y M Q, o x y M Q → ∃ i j, x = .int i ∧ y = .int j ∧ Q (.bl (f i j)) M) : SimO K (rI0 fun i j => .bl (f i j)) o := fun as H M dx dy x y k Q rp rx ry h hk => by
  obtain ⟨i, j, rfl, rfl, q⟩ := ho _ _ _ _ h
  cases rx; cases ry
  exact ⟨i, j, rfl, rfl, hk _ _ q as H _ .refl rp (.bl _)⟩
theorem sim_i {C : Int → Int → Prop} {f : Int → Int → Int} {o : OP} (ho : ∀ x y M Q, o x y M Q → ∃ i j, x = .int i ∧ y = .int j ∧ C i j ∧ Q (.int (f i j)) M) : SimO K (rI C fun i j => .int (f i j)) o := fun as H M dx dy x y k Q rp rx ry h hk => by
  obtain ⟨i, j, rfl, rfl, c, q⟩ := ho _ _ _ _ h
  cases rx; cases ry
  exact ⟨i, j, rfl, rfl, c, hk _ _ q as H _ .refl rp (.int _)⟩
theorem sim_sub : SimO K (rI0 fun i j => .int (i - j)) oSub := sim_i0 fun x y M Q h => by
  cases x <;> cases y <;> first | exact h.elim | exact ⟨_, _, rfl, rfl, h⟩
theorem sim_mod : SimO K (rI (fun _ j => j ≠ 0) fun i j => .int (i.fmod j)) oMod := sim_i fun x y M Q h => by
  cases x <;> cases y <;> first | exact h.elim | exact ⟨_, _, rfl, rfl, h⟩
theorem sim_div : SimO K (rI DW.CDivX fun i j => .int (i.fdiv j)) oDiv := sim_i fun x y M Q h => by
  cases x <;> cases y <;> first | exact h.elim | exact ⟨_, _, rfl, rfl, h⟩
theorem sim_pow : SimO K (rI CPow fun i j => .int (i ^ j.toNat)) oPow := sim_i fun x y M Q h => by
  cases x <;> cases y <;> first | exact h.elim | exact ⟨_, _, rfl, rfl, h⟩
theorem sim_lt : SimO K (rI0 fun i j => .bl (decide (i < j))) oLt := sim_b0 fun x y M Q h => by
  cases x <;> cases y <;> first | exact h.elim | exact ⟨_, _, rfl, rfl, h⟩
theorem sim_gt : SimO K (rI0 fun i j => .bl (decide (j < i))) oGt := sim_b0 fun x y M Q h => by
  cases x <;> cases y <;> first | exact h.elim | exact ⟨_, _, rfl, rfl, h⟩
theorem sim_ge : SimO K (rI0 fun i j => .bl (decide (j ≤ i))) oGe := sim_b0 fun x y M Q h => by
  cases x <;> cases y <;> first | exact h.elim | exact ⟨_, _, rfl, rfl, h⟩
def rMulA : R2 := fun x y H Q => rI CMul (fun i j => .int (i * j)) x y H Q ∨ rI CMulW (fun i j => .int (i * j)) x y H Q
theorem op_mulA {X : Cx} : OpR X (binaryOp .Mult) rMulA := OpR.or op_mul op_mulW
theorem sim_mul : SimO K rMulA oMul := fun as H M dx dy x y k Q rp rx ry h hk => by
  cases dx <;> cases dy <;> first | exact h.elim | skip
  cases rx; cases ry
  rcases h.1 with c | c
  · exact .inl ⟨_, _, rfl, rfl, c, hk _ _ h.2 as H _ .refl rp (.int _)⟩
  · exact .inr ⟨_, _, rfl, rfl, c, hk _ _ h.2 as H _ .refl rp (.int _)⟩
theorem sim_neg : SimU K (rU fun i => .int (-i)) oNeg := fun as H M dx x k Q rp rx h hk => by
  cases dx <;> first | exact h.elim | skip
  cases rx
  exact ⟨_, rfl, hk _ _ h as H _ .refl rp (.int _)⟩
theorem sim_add : SimO K (DW.rPlus K) oAdd := fun as H M dx dy x y k Q rp rx ry h hk => by
  cases rx with
  | int i =>
    cases ry with
    | int j => exact .inl ⟨i, j, rfl, rfl, hk _ _ h as H _ .refl rp (.int _)⟩
    | _ => exact h.elim
  | str a =>
    cases ry with
    | str b => exact .inr (.inl ⟨a, b, rfl, rfl, Nat.le_trans h.1 (by decide), hk _ _ h.2 as H _ .refl rp (.str _)⟩)
    | _ => exact h.elim
  | tup hs hl =>
    cases ry with
    | tup hs2 hl2 =>
      refine .inr (.inr (.inl ⟨_, _, _, _, rfl, rfl, hs.1, hs2.1, ?_, fun z => ?_, fun _ z => ?_, fun _ _ p hp => ?_⟩))
      · rw [← hl.len, ← hl2.len]; exact Nat.le_trans h.1 (by decide)
      · subst z
        cases hl
        exact hk _ _ h.2 as H _ .refl rp (.tup hs2 hl2)
      · subst z
        cases hl2
        exact hk _ _ h.2 as H _ .refl rp (by rw [List.append_nil]; exact .tup hs hl)
      · exact new_tup rp (hl.app hl2) hp h.2 hk
    | _ => exact h.elim
  | ref hn =>
    cases ry with
    | ref hm =>
      dsimp only [oAdd] at h
      split at h
      · rename_i a b e1 e2
        obtain ⟨xs, h1, h2⟩ := at_lst rp hn e1
        obtain ⟨ys, h3, h4⟩ := at_lst rp hm e2
        refine .inr (.inr (.inr ⟨_, _, xs, ys, rfl, rfl, h1, h3, ?_, fun p hp => new_lst rp (h2.app h4) hp h.2 hk⟩))
        rw [← h2.len, ← h4.len]; exact Nat.le_trans h.1 (by decide)
      · exact h.elim
    | _ => exact h.elim
  | _ => cases ry <;> exact h.elim
end
end MV
namespace MV
open PySem PySem.Spec PyProof.Rows L2
section
variable {K : PySem.W.Frag} {as : List Addr} {H : Hp} {M : Mem}
theorem dat_ok {d : D} {v : V} (f : fine 20 d = true) (r : Rel K as H d v) : Dp K H v (toPy d) ∧ SeqAt.shaped (toPy d) = true :=
  let ⟨a, b, c⟩ := fine_ok 20 f r; ⟨a, shaped_of b c (by decide)⟩
theorem datL_ok {ds : List D} {xs : List V} {a : Addr} (h : H a = some (.lst xs)) (f : ds.all (fine 20) = true) (r : RelL K as H ds xs) : Dp K H (.ref a) (.list (toPyL ds)) ∧ SeqAt.shaped (.list (toPyL ds)) = true := by
  obtain ⟨h1, h2, h3⟩ := fineL_ok 20 r f
  exact ⟨.lst (SqL.of h) h1, shaped_of (k := 21) (by simp only [PyData.canLay0]; exact h2) (by simp only [PyData.depth]; omega) (by decide)⟩
mutual
theorem See.ok (rp : RepM K as H M) : ∀ {k : Nat} {d : D} {p : PyData} {v : V}, See M k d p → Rel K as H d v → Dp K H v p ∧ p.canLay0 = true ∧ p.depth ≤ k
  | _, _, _, _, .non _, .non => ⟨.non, by simp [PyData.canLay0], by simp [PyData.depth]⟩
  | _, _, _, _, .bl _ b, .bl _ => ⟨.bl b, by simp [PyData.canLay0], by simp [PyData.depth]⟩
  | _, _, _, _, .int _ b, .int _ => ⟨.int b, by simp [PyData.canLay0], by simp [PyData.depth]⟩
  | _, _, _, _, .str _ f, .str _ => ⟨.str _, by simp only [PyData.canLay0]; exact f, by simp [PyData.depth]⟩
  | _, _, _, _, .tup l, .tup hs hl => by
    obtain ⟨a1, a2, a3⟩ := SeeL.ok rp l hl
    exact ⟨.tup hs.1 a1, by simp only [PyData.canLay0]; exact a2, by simp only [PyData.depth]; omega⟩
  | _, _, _, _, .lst e l, .ref hn => by
    obtain ⟨xs, h1, h2⟩ := at_lst rp hn e
    obtain ⟨a1, a2, a3⟩ := SeeL.ok rp l h2
    exact ⟨.lst (SqL.of h1) a1, by simp only [PyData.canLay0]; exact a2, by simp only [PyData.depth]; omega⟩
theorem SeeL.ok (rp : RepM K as H M) : ∀ {k : Nat} {ds : List D} {ps : List PyData} {vs : List V}, SeeL M k ds ps → RelL K as H ds vs → DpAll K H vs ps ∧ PyData.canLayAll0 ps = true ∧ PyData.depthAll ps ≤ k
  | _, _, _, _, .nil, .nil => ⟨.nil, by simp [PyData.canLayAll0], by simp [PyData.depthAll]⟩
  | _, _, _, _, .cons a b, .cons h1 h2 => by
    obtain ⟨a1, a2, a3⟩ := See.ok rp a h1
    obtain ⟨b1, b2, b3⟩ := SeeL.ok rp b h2
    refine ⟨.cons a1 b1, by simp [PyData.canLayAll0, a2, b2], ?_⟩
    simp only [PyData.depthAll]
    omega
end
theorem eqB_ok {dx dy : D} {x y : V} {k : Bool → Prop} (rp : RepM K as H M) (rx : Rel K as H dx x) (ry : Rel K as H dy y) (h : oEqB dx dy M k) :
    (scal x y = true ∧ k (decide (x = y))) ∨ ∃ d e, Dp K H x d ∧ Dp K H y e ∧ SeqAt.shaped d = true ∧ SeqAt.shaped e = true ∧ k (PyData.eqv d e) := by
  unfold oEqB at h
  split at h
  · rename_i a b
    cases rx
    cases ry
    refine .inl ⟨rfl, ?_⟩
    have e : decide ((V.str a) = V.str b) = decide (a = b) := by simp
    rw [e]; exact h
  · rename_i a b
    cases rx
    cases ry
    · refine .inr ⟨.int a, .int b, .int a, .int b, by simp [SeqAt.shaped, PyData.canLay0, PyData.depth], by simp [SeqAt.shaped, PyData.canLay0, PyData.depth], ?_⟩
      simp only [PyData.eqv]
      have e : (a == b) = decide (a = b) := rfl
      rw [e]; exact h
  · obtain ⟨p, q, s1, s2, h⟩ := h
    obtain ⟨a1, a2, a3⟩ := s1.ok rp rx
    obtain ⟨b1, b2, b3⟩ := s2.ok rp ry
    exact .inr ⟨p, q, a1, b1, shaped_of a2 a3 (by decide), shaped_of b2 b3 (by decide), h⟩
theorem sim_eq : SimO K (DW.rEqq K) oEq := fun as H M dx dy x y k Q rp rx ry h hk => by
  rcases eqB_ok rp rx ry h with ⟨s, q⟩ | ⟨d, e, h1, h2, h3, h4, q⟩
  · exact .inl ⟨s, hk _ _ q as H _ .refl rp (.bl _)⟩
  · exact .inr ⟨d, e, h1, h2, h3, h4, hk _ _ q as H _ .refl rp (.bl _)⟩
theorem sim_ne : SimO K (DW.rNee K) oNe := fun as H M dx dy x y k Q rp rx ry h hk => by
  rcases eqB_ok rp rx ry h with ⟨s, q⟩ | ⟨d, e, h1, h2, h3, h4, q⟩
  · exact .inl ⟨s, hk _ _ q as H _ .refl rp (.bl _)⟩
  · exact .inr ⟨d, e, h1, h2, h3, h4, hk _ _ q as H _ .refl rp (.bl _)⟩
end
def oIs : OP := fun x y M Q => match y with | .non => oIsN x M Q | _ => False
def oIsNot : OP := fun x y M Q => match y with | .non => oNotN x M Q | _ => False
section
variable {K : PySem.W.Frag}
theorem sim_is : SimO K rIsN oIs := fun as H M dx dy x y k Q rp rx ry h hk => by
  cases ry <;> first | exact h.elim | skip
  refine ⟨rfl, ?_⟩
  cases rx <;> exact hk _ _ h as H _ .refl rp (.bl _)
theorem sim_isnot : SimO K rNotN oIsNot := fun as H M dx dy x y k Q rp rx ry h hk => by
  cases ry <;> first | exact h.elim | skip
  refine ⟨rfl, ?_⟩
  cases rx <;> exact hk _ _ h as H _ .refl rp (.bl _)
end
def keyOf : D → Option Key
  | .int i => some (.inl i)
  | .str x => some (.inr x)
  | _ => none
def dget {κ : Type} [DecidableEq κ] (kvs : List (κ × D)) (k : κ) : Option D := (kvs.find? fun kv => decide (kv.1 = k)).map (·.2)
def dput {κ : Type} [DecidableEq κ] (kvs : List (κ × D)) (k : κ) (v : D) : List (κ × D) := if (kvs.any fun kv => decide (kv.1 = k)) then kvs.map (fun kv => if kv.1 = k then (kv.1, v) else kv) else kvs ++ [(k, v)]
def ddrop {κ : Type} [DecidableEq κ] (kvs : List (κ × D)) (k : κ) : List (κ × D) := kvs.filter fun kv => decide (kv.1 ≠ k)
section
variable {K : PySem.W.Frag} {as : List Addr} {H : Hp} {M : Mem} {κ : Type} [DecidableEq κ]
theorem KVR.get {l : List (κ × D)} {m : List (κ × V)} (h : KVR K as H l m) (k : κ) : (dget l k = none ∧ valV m k = none) ∨ ∃ d v, dget l k = some d ∧ valV m k = some v ∧ Rel K as H d v := by
  induction h with
  | nil => exact .inl ⟨rfl, rfl⟩
  | cons h t ih =>
    rename_i p q l m
    obtain ⟨h1, h2⟩ := h
    by_cases e : q.1 = k
    · refine .inr ⟨p.2, q.2, ?_, valV_pos e, h2⟩
      simp [dget, List.find?_cons, h1, e]
    · have e2 : ¬ p.1 = k := by rw [h1]; exact e
      have e3 : dget (p :: l) k = dget l k := by simp [dget, List.find?_cons, e2]
      rw [e3, valV_neg e]; exact ih
theorem KVR.any {l : List (κ × D)} {m : List (κ × V)} (h : KVR K as H l m) (k : κ) : (l.any fun kv => decide (kv.1 = k)) = m.any fun kv => decide (kv.1 = k) := by
  induction h with
  | nil => rfl
  | cons h t ih => simp only [List.any_cons, h.1, ih]
theorem KVR.put {l : List (κ × D)} {m : List (κ × V)} (h : KVR K as H l m) (k : κ) {d : D} {v : V} (r : Rel K as H d v) : KVR K as H (dput l k d) (putK m k v) := by
  unfold dput putK
  rw [h.any k]
  split
  · rename_i hx; clear hx
    induction h with
    | nil => exact .nil
    | cons h t ih =>
      rename_i p q l m
      simp only [List.map_cons]
      refine .cons ?_ ih
      rw [h.1]
      split
      · exact ⟨rfl, r⟩
      · exact h
  · exact Paired.snoc h ⟨rfl, r⟩
theorem KVR.drop {l : List (κ × D)} {m : List (κ × V)} (h : KVR K as H l m) (k : κ) : KVR K as H (ddrop l k) (dropK m k) := by
  unfold ddrop dropK
  induction h with
  | nil => exact .nil
  | cons h t ih =>
    rename_i p q l m
    simp only [List.filter_cons, h.1]
    split
    · exact .cons h ih
    · exact ih
theorem keyOf_ok {d : D} {v : V} {k : Key} (r : Rel K as H d v) (e : keyOf d = some k) : v = kV k := by
  cases r <;> simp [keyOf] at e <;> subst e <;> rfl
/-- the dict at n, read -/
theorem at_dct {n : Nat} {a : Addr} {lk : Bool} {kvs : List (Key × D)} (rp : RepM K as H M) (hn : as[n]? = some a) (e : M[n]? = some (.dct lk kvs)) : ∃ ks, KVR K as H kvs ks ∧ Rd H a (.dK ks) := by
  obtain ⟨a', ha, ks, h1, h2⟩ := rp.at_ e
  rw [hn] at ha; cases ha
  cases lk with
  | true => obtain ⟨ob, h2⟩ := h2; exact ⟨ks, h1, .inr ⟨ob, h2⟩⟩
  | false => exact ⟨ks, h1, .inl h2⟩
theorem at_frz {n : Nat} {a : Addr} {ds : List D} (rp : RepM K as H M) (hn : as[n]? = some a) (e : M[n]? = some (.frz ds)) : ∃ ob xs, H a = some (.frz ob (.lst xs)) ∧ RelL K as H ds xs := by
  obtain ⟨a', ha, ob, xs, h1, h2⟩ := rp.at_ e
  rw [hn] at ha; cases ha
  exact ⟨ob, xs, h1, h2⟩
end
def flat : D → Bool
  | .non => true
  | .bl _ => true
  | .int _ => true
  | .str _ => true
  | _ => false
def inOk (x : D) (ds : List D) : Prop := ((flat x && ds.all flat) || (fine 20 x && ds.all (fine 20))) = true
def oInB (x y : D) (M : Mem) (k : Bool → Prop) : Prop := match y with
  | .str z => match x with
    | .str c => match c.cps.toList with
      | [c] => k (decide (c ∈ z.cps.toList))
      | _ => False
    | _ => False
  | .tup ds => (flat x && ds.all flat) = true ∧ k (ds.any fun e => deq e x)
  | .ref n => match M[n]? with
    | some (.lst ds) => inOk x ds ∧ k (ds.any fun e => deq e x)
    | some (.dct _ kvs) => match keyOf x with
      | some q => k (dget kvs q).isSome
      | none => False
    | _ => False
  | _ => False
def oIn : OP := fun x y M Q => oInB x y M fun b => Q (.bl b) M
def oNotIn : OP := fun x y M Q => oInB x y M fun b => Q (.bl (!b)) M
def rDIn : R2 := fun y x H Q => ∃ a o, x = .ref a ∧ DGet H a y o ∧ Q (.bl o.isSome) H
def rDNotIn : R2 := fun y x H Q => ∃ a o, x = .ref a ∧ DGet H a y o ∧ Q (.bl (!o.isSome)) H
def rInA (K : PySem.W.Frag) : R2 := fun x y H Q => rInS x y H Q ∨ rIn K false x y H Q ∨ rInD K x y H Q ∨ rDIn x y H Q
def rNotInA (K : PySem.W.Frag) : R2 := fun x y H Q => rNotInS x y H Q ∨ rIn K true x y H Q ∨ rNotInD K x y H Q ∨ rDNotIn x y H Q
section
variable {X : Cx}
theorem op_din (hu : X.A.units + 1 < cLine) : OpR X (compareOp .In) rDIn := fun pins s σ H x y v u Q I rx ry h => by
  obtain ⟨a, o, rfl, g, q⟩ := h
  obtain rfl : u = Value.ref a := ry
  exact d_in hu I g rx fun s3 I3 => ⟨.bl o.isSome, H, I3, rfl, q⟩
theorem op_dnotin (hu : X.A.units + 1 < cLine) : OpR X (compareOp .NotIn) rDNotIn := fun pins s σ H x y v u Q I rx ry h => by
  obtain ⟨a, o, rfl, g, q⟩ := h
  obtain rfl : u = Value.ref a := ry
  exact d_notIn hu I g rx fun s3 I3 => ⟨.bl (!o.isSome), H, I3, rfl, q⟩
theorem op_inA (hu : X.A.units + 65 < cLine) : OpR X (compareOp .In) (rInA X.K) := OpR.or op_inS (OpR.or op_in_seq (OpR.or (op_inD hu) (op_din (by omega))))
theorem op_notInA (hu : X.A.units + 65 < cLine) : OpR X (compareOp .NotIn) (rNotInA X.K) := OpR.or op_notInS (OpR.or op_notIn_seq (OpR.or (op_notInD hu) (op_dnotin (by omega))))
end
section
variable {K : PySem.W.Frag} {as : List Addr} {H : Hp} {M : Mem}
theorem flat_ok {d : D} {v : V} (r : Rel K as H d v) (f : flat d = true) : flatV v = true := by
  cases r <;> first | rfl | (simp [flat] at f)
theorem eqV_deq {d e : D} {v w : V} (r : Rel K as H d v) (s : Rel K as H e w) (f : flat d = true) (g : flat e = true) : eqV v w = deq d e := by
  cases r <;> first | (simp [flat] at f; done) | skip
  all_goals (cases s <;> first | (simp [flat] at g; done) | simp [eqV, deq])
theorem inV_any {e : D} {w : V} (s : Rel K as H e w) (g : flat e = true) : ∀ {ds : List D} {vs : List V}, RelL K as H ds vs → ds.all flat = true → inV w vs = ds.any (fun d => deq d e) ∧ vs.all flatV = true
  | _, _, .nil, _ => ⟨rfl, rfl⟩
  | _, _, .cons h r, f => by
    simp only [List.all_cons, Bool.and_eq_true] at f
    obtain ⟨h1, h2⟩ := inV_any s g r f.2
    simp only [inV, List.any_cons] at h1 ⊢
    rw [h1, eqV_deq h s f.1 g]
    exact ⟨rfl, by simp [flat_ok h f.1, h2]⟩
theorem any_eqv {e : D} (g : fine 20 e = true) : ∀ {ds : List D}, ds.all (fine 20) = true → ((toPyL ds).any fun z => PyData.eqv z (toPy e)) = ds.any fun d => deq d e
  | [], _ => by simp [toPyL]
  | d :: ds, f => by
    simp only [List.all_cons, Bool.and_eq_true] at f
    simp only [toPyL, List.any_cons, eqv_deq 20 f.1 g, any_eqv g f.2]
theorem inB_ok {neg : Bool} {dx dy : D} {x y : V} {k : Bool → Prop} (rp : RepM K as H M) (rx : Rel K as H dx x) (ry : Rel K as H dy y) (h : oInB dx dy M k) :
    (∃ (c : Nat) (z : Str), x = .str ⟨#[c]⟩ ∧ y = .str z ∧ k (decide (c ∈ z.cps.toList))) ∨
    (∃ p xs, y = .ref p ∧ (SqL K H p xs ∨ SqT K H p xs) ∧ flatV x = true ∧ xs.all flatV = true ∧ k (inV x xs)) ∨
    (∃ d ds, Dp K H x d ∧ Dp K H y (.list ds) ∧ SeqAt.shaped d = true ∧ SeqAt.shaped (.list ds) = true ∧ k (ds.any fun z => PyData.eqv z d)) ∨
    ∃ a o, y = .ref a ∧ DGet H a x o ∧ k o.isSome := by
  cases ry with
  | str z =>
    cases rx <;> first | exact h.elim | skip
    rename_i c
    dsimp only [oInB] at h
    split at h
    · rename_i c0 e
      refine .inl ⟨c0, z, ?_, rfl, h⟩
      obtain ⟨⟨l⟩⟩ := c
      have e2 : l = [c0] := e
      subst e2
      rfl
    · exact h.elim
  | tup hs hl =>
    obtain ⟨f, q⟩ := h
    simp only [Bool.and_eq_true] at f
    obtain ⟨h1, h2⟩ := inV_any rx f.1 hl f.2
    exact .inr (.inl ⟨_, _, rfl, .inr hs.1, flat_ok rx f.1, h2, by rw [h1]; exact q⟩)
  | ref hn =>
    dsimp only [oInB] at h
    split at h
    · rename_i ds e
      obtain ⟨xs, h1, h2⟩ := at_lst rp hn e
      obtain ⟨f, q⟩ := h
      rcases Bool.or_eq_true_iff.mp f with f | f
      · simp only [Bool.and_eq_true] at f
        obtain ⟨h3, h4⟩ := inV_any rx f.1 h2 f.2
        exact .inr (.inl ⟨_, _, rfl, .inl (SqL.of h1), flat_ok rx f.1, h4, by rw [h3]; exact q⟩)
      · simp only [Bool.and_eq_true] at f
        obtain ⟨a1, a2⟩ := dat_ok f.1 rx
        obtain ⟨b1, b2⟩ := datL_ok h1 f.2 h2
        exact .inr (.inr (.inl ⟨_, _, a1, b1, a2, b2, by rw [any_eqv f.1 f.2]; exact q⟩))
    · rename_i lk kvs e
      split at h
      · rename_i q0 eq
        obtain ⟨ks, h1, h2⟩ := at_dct rp hn e
        refine .inr (.inr (.inr ⟨_, valV ks q0, rfl, .inl ⟨ks, q0, h2, keyOf_ok rx eq, rfl⟩, ?_⟩))
        rcases h1.get q0 with ⟨g1, g2⟩ | ⟨d, v, g1, g2, _⟩
        · rw [g2]; rw [g1] at h; exact h
        · rw [g2]; rw [g1] at h; exact h
      · exact h.elim
    · exact h.elim
  | _ => exact h.elim
theorem sim_in : SimO K (rInA K) oIn := fun as H M dx dy x y k Q rp rx ry h hk => by
  have fin : ∀ b, k (.bl b) M → Q (.bl b) H := fun b q => hk _ _ q as H _ .refl rp (.bl _)
  rcases inB_ok (neg := false) rp rx ry h with ⟨c, z, h1, h2, q⟩ | ⟨p, xs, h1, h2, h3, h4, q⟩ | ⟨d, ds, h1, h2, h3, h4, q⟩ | ⟨a, o, h1, h2, q⟩
  · exact .inl ⟨c, z, h1, h2, fin _ q⟩
  · exact .inr (.inl ⟨p, xs, h1, h2, h3, h4, fin _ q⟩)
  · exact .inr (.inr (.inl ⟨d, ds, h1, h2, h3, h4, fin _ q⟩))
  · exact .inr (.inr (.inr ⟨a, o, h1, h2, fin _ q⟩))
theorem sim_notin : SimO K (rNotInA K) oNotIn := fun as H M dx dy x y k Q rp rx ry h hk => by
  have fin : ∀ b, k (.bl b) M → Q (.bl b) H := fun b q => hk _ _ q as H _ .refl rp (.bl _)
  rcases inB_ok (neg := false) rp rx ry h with ⟨c, z, h1, h2, q⟩ | ⟨p, xs, h1, h2, h3, h4, q⟩ | ⟨d, ds, h1, h2, h3, h4, q⟩ | ⟨a, o, h1, h2, q⟩
  · exact .inl ⟨c, z, h1, h2, fin _ q⟩
  · exact .inr (.inl ⟨p, xs, h1, h2, h3, h4, fin _ q⟩)
  · exact .inr (.inr (.inl ⟨d, ds, h1, h2, h3, h4, fin _ q⟩))
  · exact .inr (.inr (.inr ⟨a, o, h1, h2, fin _ q⟩))
end
def oIx : OP := fun x y M Q => match x with
  | .tup ds => match y with
    | .int i => match atI ds i with | some d => Q d M | none => False
    | _ => False
  | .str z => match y with
    | .int i => z.length ≤ 16000000 ∧ match atI z.cps.toList i with | some c => Q (.str ⟨#[c]⟩) M | none => False
    | _ => False
  | .ref n => match M[n]? with
    | some (.lst ds) => match y with
      | .int i => match atI ds i with | some d => Q d M | none => False
      | _ => False
    | some (.frz ds) => match y with
      | .int i => match atI ds i with | some d => Q d M | none => False
      | _ => False
    | some (.dct _ kvs) => match keyOf y with
      | some q => match dget kvs q with | some d => Q d M | none => False
      | none => False
    | _ => False
  | _ => False
def rIxD : R2 := fun x y H Q => ∃ a v, x = .ref a ∧ DGet H a y (some v) ∧ Q v H
theorem ix_dict {X : Cx} (hu : X.A.units + 1 < cLine) : IxR X rIxD := by
  intro value slice pins s σ H x y v u Q I rx ry h hs
  obtain ⟨a, w, rfl, g, q⟩ := h
  obtain rfl : v = Value.ref a := rx
  have hT := dict_typeIs I g
  unfold subscriptTail
  refine wpAny_bind ?_
  rw [getitemInPython_of_ne hT.not_modules]
  refine wpAny_bind (wpAny_specialOf hT PySem.F.slot_dict_getitem.lookup ?_)
  have fin : wpAny (model X.prog X.w) X.A (subscripted slice false (.ref a) u) (fun r s₃ => wpAny (model X.prog X.w) X.A (letTemporaryGo value (.ref a) r >>= fun _ => pure r) (EP X pins σ Q) X.xe s₃) X.xe s := by
    rw [hs]
    exact wpAny_operating (wpAny_mono (d_getItem hu I g ry fun w' s3 I3 rw' => (⟨w, H, I3, rw', q⟩ : EP X pins σ Q w' s3)) (fun r s₃ h₃ => wpAny_bind (wpAny_letTemporaryGo (wpAny_pure h₃))) fun _ _ x => x)
  first
    | exact wpAny_pure (wpAny_bind fin)
    | exact wpAny_bind (wpAny_pure (wpAny_bind fin))
    | exact wpAny_bind fin
def rIxA (K : PySem.W.Frag) : R2 := fun x y H Q => rIx K x y H Q ∨ rIxD x y H Q
theorem ix_any {X : Cx} (hu : X.A.units + 1 < cLine) : IxR X (rIxA X.K) := IxR.or ix_seq (ix_dict hu)
section
variable {K : PySem.W.Frag} {as : List Addr} {H : Hp} {M : Mem}
theorem atI_rel {ds : List D} {vs : List V} {i : Int} {d : D} (r : RelL K as H ds vs) (e : atI ds i = some d) : ∃ v, atI vs i = some v ∧ Rel K as H d v := by
  unfold atI at e ⊢
  rw [← r.len]
  cases h : ixN ds.length i with
  | none => rw [h] at e; cases e
  | some j =>
    rw [h] at e
    exact r.get (show ds[j]? = some d from e)
theorem sim_ix : SimO K (rIxA K) oIx := fun as H M dx dy x y k Q rp rx ry h hk => by
  cases rx with
  | tup hs hl =>
    cases ry <;> first | exact h.elim | skip
    rename_i i
    dsimp only [oIx] at h
    split at h
    · rename_i d e
      obtain ⟨v, e2, rv⟩ := atI_rel hl e
      exact .inl (.inr (.inl ⟨_, _, i, v, rfl, rfl, hs.1, e2, hk _ _ h as H _ .refl rp rv⟩))
    · exact h.elim
  | str z =>
    cases ry <;> first | exact h.elim | skip
    rename_i i
    obtain ⟨hz, h⟩ := h
    split at h
    · rename_i c e
      exact .inl (.inr (.inr ⟨z, i, c, rfl, rfl, Nat.le_trans hz (by decide), e, hk _ _ h as H _ .refl rp (.str _)⟩))
    · exact h.elim
  | ref hn =>
    dsimp only [oIx] at h
    split at h
    · rename_i ds e
      cases ry <;> first | exact h.elim | skip
      rename_i i
      dsimp only at h
      split at h
      · rename_i d e1
        obtain ⟨xs, h1, h2⟩ := at_lst rp hn e
        obtain ⟨v, e2, rv⟩ := atI_rel h2 e1
        exact .inl (.inl ⟨_, xs, i, v, rfl, rfl, SqL.of h1, e2, hk _ _ h as H _ .refl rp rv⟩)
      · exact h.elim
    · rename_i ds e
      cases ry <;> first | exact h.elim | skip
      rename_i i
      dsimp only at h
      split at h
      · rename_i d e1
        obtain ⟨ob, xs, h1, h2⟩ := at_frz rp hn e
        obtain ⟨v, e2, rv⟩ := atI_rel h2 e1
        exact .inl (.inl ⟨_, xs, i, v, rfl, rfl, .inl (.inr ⟨ob, h1⟩), e2, hk _ _ h as H _ .refl rp rv⟩)
      · exact h.elim
    · rename_i lk kvs e
      split at h
      · rename_i q0 eq
        split at h
        · rename_i d e1
          obtain ⟨ks, h1, h2⟩ := at_dct rp hn e
          rcases h1.get q0 with ⟨g1, g2⟩ | ⟨d', v, g1, g2, rv⟩
          · rw [g1] at e1; cases e1
          · rw [g1] at e1; cases e1
            exact .inr ⟨_, v, rfl, .inl ⟨ks, q0, h2, keyOf_ok ry eq, g2.symm⟩, hk _ _ h as H _ .refl rp rv⟩
        · exact h.elim
      · exact h.elim
    · exact h.elim
  | _ => exact h.elim
end
end MV
namespace MV
open PySem PySem.Spec PyProof.Rows L2
abbrev MO := Ev → Mem → (Option Int → Mem → Prop) → XM → Prop
def lfO (K : PySem.W.Frag) (W : WX) (m : MO) : TO := fun σ H Q => ∃ as M ρ Q' X', RepM K as H M ∧ RelS K as H ρ σ ∧ m ρ M Q' X' ∧ (∀ d M', Q' d M' → ∀ as' H', Ext K as H as' H' → RepM K as' H' M' → Q d H') ∧ ∀ x M', X' x M' → LX K as H (fun c d H => W c d σ H) x M'
abbrev QO (X : Cx) (W : WX) (e : Option Expr) (m : MO) : Prop := PO X e (lfO X.K W m)
def mNoPart : MO := fun _ M Q _ => Q none M
def mPart (m : ME) : MO := fun ρ M Q X => m ρ M (fun x M1 => match x with | .int i => Q (some i) M1 | _ => False) X
def cutD {α : Type} (xs : List α) (lo hi : Option Int) : List α := (xs.drop (HT.sIx xs.length 0 lo)).take (HT.sIx xs.length xs.length hi - HT.sIx xs.length 0 lo)
def oSl (x : D) (lo hi : Option Int) (M : Mem) (Q : DK) : Prop := match x with
  | .str z => z.length ≤ 16000000 ∧ Q (.str (cutS z lo hi)) M
  | .tup ds => Q (.tup (cutD ds lo hi)) M
  | .kl ds => Q (.ref M.length) (M ++ [.lst (cutD ds lo hi)])
  | .ref n => match M[n]? with
    | some (.lst ds) => Q (.ref M.length) (M ++ [.lst (cutD ds lo hi)])
    | some (.frz ds) => Q (.ref M.length) (M ++ [.lst (cutD ds lo hi)])
    | _ => False
  | _ => False
def mSl (me : ME) (ml mh : MO) : ME := fun ρ M Q X => me ρ M (fun x M1 => ml ρ M1 (fun l M2 => mh ρ M2 (fun h M3 => oSl x l h M3 Q) X) X) X
def rSlAll (K : PySem.W.Frag) : V → Option Int → Option Int → Hp → VK → Prop := fun x lo hi H Q => rSlS x lo hi H Q ∨ rSlA K x lo hi H Q ∨ rSlL K x lo hi H Q
section
variable {X : Cx} {W : WX} {e : Expr} {lo hi : Option Expr} {me : ME} {ml mh : MO} {pos p2 : Pos}
theorem po_imp {t t' : TO} {o : Option Expr} (h : PO X o t) (i : ∀ σ H Q, t' σ H Q → t σ H Q) : PO X o t' := ⟨fun pins s σ H Q I q => h.run pins s σ H Q I (i σ H Q q)⟩
theorem qo_none : QO X W none mNoPart := po_imp po_none fun σ H Q ⟨as, M, ρ, Q', X', r, rs, h, hq, hx⟩ => hq _ _ h as H .refl r
theorem qo_some (he : QE X W e me) : QO X W (some e) (mPart me) := po_imp (po_some he) fun σ H Q ⟨as, M, ρ, Q', X', r, rs, h, hq, hx⟩ => by
  refine lf_bind r rs h hx fun dx M1 as1 H1 x h1 e1 r1 rs1 rx => ?_
  cases rx <;> first | exact h1.elim | skip
  exact ⟨_, rfl, hq _ _ h1 as1 H1 e1 r1⟩
theorem SlR_or {r r' : V → Option Int → Option Int → Hp → VK → Prop} (h : SlR X r) (h' : SlR X r') : SlR X (fun x lo hi H Q => r x lo hi H Q ∨ r' x lo hi H Q) := by
  intro pins s σ H x v vl vu lo hi sl Q I rx hs pl pu q
  rcases q with q | q
  · exact h pins s σ H x v vl vu lo hi sl Q I rx hs pl pu q
  · exact h' pins s σ H x v vl vu lo hi sl Q I rx hs pl pu q
theorem cut_rel {K : PySem.W.Frag} {as : List Addr} {H : Hp} {ds : List D} {vs : List V} (r : RelL K as H ds vs) (lo hi : Option Int) : RelL K as H (cutD ds lo hi) (cutV vs lo hi) := by
  unfold cutD cutV
  rw [← r.len]
  exact (r.drop _).take _
theorem cut_whole {α : Type} {xs : List α} {lo hi : Option Int} (h : HT.sIx xs.length 0 lo = 0 ∧ HT.sIx xs.length xs.length hi = xs.length) : cutD xs lo hi = xs := by
  unfold cutD; rw [h.1, h.2]; simp
theorem sim_sl {K : PySem.W.Frag} {as : List Addr} {H : Hp} {M : Mem} {dx : D} {x : V} {lo hi : Option Int} {k : DK} {Q : VK} (rp : RepM K as H M) (rx : Rel K as H dx x) (h : oSl dx lo hi M k) (hk : ∀ d M', k d M' → LQ K as H Q d M') : rSlAll K x lo hi H Q := by
  cases rx with
  | str z => exact .inl ⟨z, rfl, Nat.le_trans h.1 (by decide), hk _ _ h.2 as H _ .refl rp (.str _)⟩
  | tup hs hl =>
    refine .inr (.inl ⟨_, _, rfl, hs.1, fun w => ?_, fun _ p hp => new_tup rp (cut_rel hl lo hi) hp h hk⟩)
    refine hk _ _ h as H _ .refl rp ?_
    rw [← hl.len] at w
    rw [cut_whole w]
    exact .tup hs hl
  | kl hs hl => exact .inr (.inr ⟨_, _, rfl, hs.sq, fun p hp => new_lst rp (cut_rel hl lo hi) hp h hk⟩)
  | ref hn =>
    dsimp only [oSl] at h
    split at h
    · rename_i ds e
      obtain ⟨xs, h1, h2⟩ := at_lst rp hn e
      exact .inr (.inr ⟨_, xs, rfl, SqL.of h1, fun p hp => new_lst rp (cut_rel h2 lo hi) hp h hk⟩)
    · rename_i ds e
      obtain ⟨ob, xs, h1, h2⟩ := at_frz rp hn e
      exact .inr (.inr ⟨_, xs, rfl, .inl (.inr ⟨ob, h1⟩), fun p hp => new_lst rp (cut_rel h2 lo hi) hp h hk⟩)
    · exact h.elim
  | _ => exact h.elim
theorem qe_slice (he : QE X W e me) (hl : QO X W lo ml) (hh : QO X W hi mh) : QE X W (.Subscript e (.Slice lo hi none p2) pos) (mSl me ml mh) :=
  PEi (pe_slice (r := rSlAll X.K) (SlR_or sl_str (SlR_or sl_tupA sl_list)) he hl hh) fun σ H Q ⟨as, M, ρ, Q', X', r, rs, h, hq, hx⟩ => by
    refine lf_bind r rs h hx fun dx M1 as1 H1 x h1 e1 r1 rs1 rx => ?_
    refine ⟨as1, M1, ρ, _, X', r1, rs1, h1, fun l M2 h2 as2 H2 e2 r2 => ?_, fun x M' q => (hx x M' q).mono e1⟩
    refine ⟨as2, M2, ρ, _, X', r2, rs1.up e2, h2, fun h M3 h3 as3 H3 e3 r3 => ?_, fun x M' q => (hx x M' q).mono (e1.trans e2)⟩
    exact sim_sl r3 (rx.up (e2.trans e3)) h3 fun d M' q => (hq d M' q).mono ((e1.trans e2).trans e3)
end
def oLen : OA := fun xs M Q => match xs with
  | [.str z] => z.length ≤ 16000000 ∧ Q (.int z.length) M
  | [.tup ds] => Q (.int ds.length) M
  | [.ref n] => match M[n]? with
    | some (.lst ds) => Q (.int ds.length) M
    | some (.frz ds) => Q (.int ds.length) M
    | some (.dct _ kvs) => Q (.int kvs.length) M
    | _ => False
  | _ => False
def oAbs : OA := fun xs M Q => match xs with | [.int i] => Q (.int (if i < 0 then -i else i)) M | _ => False
def oMin2 : OA := fun xs M Q => match xs with | [.int i, .int j] => Q (.int (if j < i then j else i)) M | _ => False
def oMax2 : OA := fun xs M Q => match xs with | [.int i, .int j] => Q (.int (if j > i then j else i)) M | _ => False
def oInt1 : OA := fun xs M Q => match xs with
  | [.int i] => Q (.int i) M
  | [.bl k] => Q (.int (if k then 1 else 0)) M
  | [.str a] => match PySem.intText? a with | some n => a.length ≤ 640 ∧ Q (.int n) M | none => False
  | _ => False
def oStr1 : OA := fun xs M Q => match xs with
  | [.int i] => i.natAbs.log2 < 1920 ∧ Q (.str (toString i)) M
  | [.str a] => Q (.str a) M
  | _ => False
def kD : Key → D
  | .inl i => .int i
  | .inr x => .str x
def oList1 : OA := fun xs M Q => match xs with
  | [.tup ds] => Q (.ref M.length) (M ++ [.lst ds])
  | [.ref n] => match M[n]? with
    | some (.lst ds) => Q (.ref M.length) (M ++ [.lst ds])
    | some (.frz ds) => Q (.ref M.length) (M ++ [.lst ds])
    | some (.dct false kvs) => Q (.ref M.length) (M ++ [.lst (kvs.map fun kv => kD kv.1)])
    | _ => False
  | _ => False
def oTuple1 : OA := fun xs M Q => match xs with
  | [.tup ds] => Q (.tup ds) M
  | [.ref n] => match M[n]? with
    | some (.lst ds) => Q (.tup ds) M
    | some (.frz ds) => Q (.tup ds) M
    | _ => False
  | _ => False
def oDict1 : OA := fun xs M Q => match xs with
  | [.ref n] => match M[n]? with
    | some (.dct _ kvs) => Q (.ref M.length) (M ++ [.dct false kvs])
    | _ => False
  | _ => False
def rLenA (K : PySem.W.Frag) : List V → Hp → VK → Prop := fun xs H Q => (∃ x n, xs = [x] ∧ LenV K x H n ∧ Q (.int n) H) ∨ ∃ a kvs, xs = [V.ref a] ∧ Rd H a (.dK kvs) ∧ Q (.int kvs.length) H
theorem CallR_or {X : Cx} {f : Value} {r r' : List V → Hp → VK → Prop} (h : CallR X f r) (h' : CallR X f r') : CallR X f (fun xs H Q => r xs H Q ∨ r' xs H Q) := by
  intro pins s σ H xs us Q I r q
  rcases q with q | q
  · exact h pins s σ H xs us Q I r q
  · exact h' pins s σ H xs us Q I r q
section
variable {X : Cx} {K : PySem.W.Frag}
theorem call_lenR : CallR X (.builtin "len") (fun xs H Q => ∃ a kvs, xs = [V.ref a] ∧ Rd H a (.dK kvs) ∧ Q (.int kvs.length) H) := by
  intro pins s σ H xs us Q I r h
  obtain ⟨a, kvs, rfl, e, q⟩ := h
  obtain ⟨u, rfl, rx⟩ := vals1 r
  cases rx
  exact d_len I e fun t s' I' => ⟨.int _, H, I', ⟨_, rfl⟩, q⟩
theorem call_lenA : CallR X (.builtin "len") (rLenA X.K) := CallR_or call_len call_lenR
theorem RelL.one {as : List Addr} {H : Hp} {d : D} {vs : List V} (h : RelL K as H [d] vs) : ∃ v, vs = [v] ∧ Rel K as H d v := by
  cases h with
  | cons h r => cases r; exact ⟨_, rfl, h⟩
theorem RelL.two {as : List Addr} {H : Hp} {d e : D} {vs : List V} (h : RelL K as H [d, e] vs) : ∃ v w, vs = [v, w] ∧ Rel K as H d v ∧ Rel K as H e w := by
  cases h with
  | cons h r => obtain ⟨w, rfl, h2⟩ := r.one; exact ⟨_, _, rfl, h, h2⟩
theorem sim_len : SimA K (rLenA K) oLen := fun as H M ds vs k Q rp rv h hk => by
  unfold oLen at h
  split at h
  · obtain ⟨v, rfl, rx⟩ := rv.one
    cases rx
    exact .inl ⟨_, _, rfl, ⟨Nat.le_trans h.1 (by decide), rfl⟩, hk _ _ h.2 as H _ .refl rp (.int _)⟩
  · obtain ⟨v, rfl, rx⟩ := rv.one
    cases rx with
    | tup hs hl => exact .inl ⟨_, _, rfl, .inr ⟨_, hs.1, rfl⟩, by rw [← hl.len]; exact hk _ _ h as H _ .refl rp (.int _)⟩
  · obtain ⟨v, rfl, rx⟩ := rv.one
    cases rx with
    | ref hn =>
      split at h
      · rename_i ds e
        obtain ⟨xs, h1, h2⟩ := at_lst rp hn e
        exact .inl ⟨_, _, rfl, .inl ⟨_, SqL.of h1, rfl⟩, by rw [← h2.len]; exact hk _ _ h as H _ .refl rp (.int _)⟩
      · rename_i ds e
        obtain ⟨ob, xs, h1, h2⟩ := at_frz rp hn e
        exact .inl ⟨_, _, rfl, .inl ⟨_, .inl (.inr ⟨ob, h1⟩), rfl⟩, by rw [← h2.len]; exact hk _ _ h as H _ .refl rp (.int _)⟩
      · rename_i lk kvs e
        obtain ⟨ks, h1, h2⟩ := at_dct rp hn e
        exact .inr ⟨_, ks, rfl, h2, by rw [← h1.len]; exact hk _ _ h as H _ .refl rp (.int _)⟩
      · exact h.elim
  · exact h.elim
theorem sim_abs : SimA K DW.rAbs oAbs := fun as H M ds vs k Q rp rv h hk => by
  unfold oAbs at h
  split at h
  · obtain ⟨v, rfl, rx⟩ := rv.one
    cases rx
    exact ⟨_, rfl, hk _ _ h as H _ .refl rp (.int _)⟩
  · exact h.elim
theorem sim_min2 : SimA K DW.rMin2 oMin2 := fun as H M ds vs k Q rp rv h hk => by
  unfold oMin2 at h
  split at h
  · obtain ⟨v, w, rfl, rx, ry⟩ := rv.two
    cases rx; cases ry
    exact ⟨_, _, rfl, hk _ _ h as H _ .refl rp (.int _)⟩
  · exact h.elim
def rIntA : List V → Hp → VK → Prop := fun xs H Q => DW.rInt1 xs H Q ∨ DW.rIntStr xs H Q
theorem call_intA : CallR X (.type "int") rIntA := CallR_or call_int1 call_int_str
theorem sim_int : SimA K rIntA oInt1 := fun as H M ds vs k Q rp rv h hk => by
  unfold oInt1 at h
  split at h
  · obtain ⟨v, rfl, rx⟩ := rv.one
    cases rx
    exact .inl (.inl ⟨_, rfl, hk _ _ h as H _ .refl rp (.int _)⟩)
  · obtain ⟨v, rfl, rx⟩ := rv.one
    cases rx
    exact .inl (.inr ⟨_, rfl, hk _ _ h as H _ .refl rp (.int _)⟩)
  · obtain ⟨v, rfl, rx⟩ := rv.one
    cases rx
    split at h
    · rename_i n e
      exact .inr ⟨_, n, rfl, e, h.1, hk _ _ h.2 as H _ .refl rp (.int _)⟩
    · exact h.elim
  · exact h.elim
theorem kD_rel {as : List Addr} {H : Hp} (k : Key) : Rel K as H (kD k) (kV k) := by
  cases k with
  | inl i => exact .int i
  | inr x => exact .str x
theorem KVR.keys {as : List Addr} {H : Hp} {l : List (Key × D)} {m : List (Key × V)} (h : KVR K as H l m) : RelL K as H (l.map fun kv => kD kv.1) (m.map fun kv => kV kv.1) := by
  induction h with
  | nil => exact .nil
  | cons h t ih =>
    simp only [List.map_cons]
    rw [h.1]
    exact .cons (kD_rel _) ih
def rListA (K : PySem.W.Frag) : List V → Hp → VK → Prop := fun xs H Q => DW.rListOf K xs H Q ∨ rListD xs H Q
theorem sim_list : SimA K (rListA K) oList1 := fun as H M ds vs k Q rp rv h hk => by
  unfold oList1 at h
  split at h
  · obtain ⟨v, rfl, rx⟩ := rv.one
    cases rx with
    | tup hs hl => exact .inl ⟨_, _, rfl, .inr hs.1, fun p hp => new_lst rp hl hp h hk⟩
  · obtain ⟨v, rfl, rx⟩ := rv.one
    cases rx with
    | ref hn =>
      split at h
      · rename_i ds e
        obtain ⟨xs, h1, h2⟩ := at_lst rp hn e
        exact .inl ⟨_, _, rfl, .inl (SqL.of h1), fun p hp => new_lst rp h2 hp h hk⟩
      · rename_i ds e
        obtain ⟨ob, xs, h1, h2⟩ := at_frz rp hn e
        exact .inl ⟨_, _, rfl, .inl (.inl (.inr ⟨ob, h1⟩)), fun p hp => new_lst rp h2 hp h hk⟩
      · rename_i kvs e
        obtain ⟨a', ha, ks, h1, h2⟩ := rp.at_ e
        rw [hn] at ha; cases ha
        exact .inr ⟨_, ks, rfl, h2, fun p hp => new_lst rp h1.keys hp h hk⟩
      · exact h.elim
  · exact h.elim
end
section
variable {X : Cx} {W : WX} {e : Expr} {es : List Expr} {ma : MA} {p pos : Pos} {x : Str}
theorem qe_callB {id : String} {r : List V → Hp → VK → Prop} {o : OA} (hc : CallR X (.builtin id) r) (hs : SimA X.K r o) (hg : Gl X x) (hm : X.mg x = none) (hv : bootBuiltins x = some (.builtin id)) (ha : QA X W (e :: es) ma) (hn : x ≠ "__name__" := by decide) (hdb : (x == ("__debug__" : Str)) = false := by decide)
    (he : starEach (e :: es) X.env = (false, eval e X.env) :: starEach es X.env := by rfl) (hpl : (backTo pos (starEach es X.env)).any (·.1) = false := by rfl) : QE X W (.Call (.Name x p) (e :: es) [] pos) (mCB o ma) :=
  PEi (pe_callB hc hg hm hv ha hn hdb he hpl) (lf_cb hs)
theorem qe_callTy {T : String} {r : List V → Hp → VK → Prop} {o : OA} (hc : CallR X (.type T) r) (hs : SimA X.K r o) (hg : Gl X x) (hm : X.mg x = none) (hv : bootBuiltins x = some (.type T)) (ha : QA X W (e :: es) ma) (hn : x ≠ "__name__" := by decide) (hdb : (x == ("__debug__" : Str)) = false := by decide)
    (he : starEach (e :: es) X.env = (false, eval e X.env) :: starEach es X.env := by rfl) (hpl : (backTo pos (starEach es X.env)).any (·.1) = false := by rfl) : QE X W (.Call (.Name x p) (e :: es) [] pos) (mCB o ma) :=
  PEi (pe_callTy hc hg hm hv ha hn hdb he hpl) (lf_cb hs)
end
end MV
namespace MV
open PySem PySem.Spec PyProof.Rows L2
def mNext : MS := fun E ρ M => E.nx ρ M
def mBreak : MS := fun E ρ M => E.bk ρ M
def mCont : MS := fun E ρ M => E.ct ρ M
def mRetN : MS := fun E _ M => E.rt .non M
def mSeq (a b : MS) : MS := fun E ρ M => a ⟨fun ρ' M' => b E ρ' M', E.rt, E.bk, E.ct, E.ex⟩ ρ M
def mDrop (m : ME) : MS := fun E ρ M => m ρ M (fun _ M1 => E.nx ρ M1) (fun x M1 => E.ex x ρ M1)
def mRet (m : ME) : MS := fun E ρ M => m ρ M E.rt (fun x M1 => E.ex x ρ M1)
def mIfS (t : MT) (a b : MS) : MS := fun E ρ M => t ρ M (fun k M1 => if k = true then a E ρ M1 else b E ρ M1) (fun x M1 => E.ex x ρ M1)
section
variable {X : Cx} {W : WX} {st : Stmt} {rest a b : List Stmt} {m n : MS} {e c : Expr} {me : ME} {mt : MT} {pos : Pos}
theorem exS {K : PySem.W.Frag} {as : List Addr} {H : Hp} {E : Nd} {D : Ends} {ρ : Ev} {σ : L2.St} (hE : NdOk K W as H E D) (rs : RelS K as H ρ σ) : ∀ x M', E.ex x ρ M' → LX K as H (fun c d H => W c d σ H) x M' :=
  fun x M' q as' H' c d e r' rx => hE.ex x ρ M' q as' H' σ c d e r' (rs.up e) rx
theorem qss_nil : QSs X W [] mNext := PSsi pss_nil fun D σ H ⟨as, M, ρ, E, r, rs, h, hE⟩ => hE.nx _ _ h as H σ .refl r rs
theorem qss_cons (h1 : QS X W st m) (h2 : QSs X W rest n) : QSs X W (st :: rest) (mSeq m n) := PSsi (pss_cons h1 h2) fun D σ H ⟨as, M, ρ, E, r, rs, h, hE⟩ =>
  ⟨as, M, ρ, _, r, rs, h, ⟨fun ρ' M' q as' H' σ' e' r' rs' => ⟨as', M', ρ', E, r', rs', q, hE.mono e'⟩, hE.rt, hE.bk, hE.ct, hE.ex⟩⟩
theorem qss_one (h1 : QS X W st m) : QSs X W [st] m := pss_one h1
theorem qs_break : QS X W (.Break pos) mBreak := PSi ps_break fun D σ H ⟨as, M, ρ, E, r, rs, h, hE⟩ => hE.bk _ _ h as H σ .refl r rs
theorem qs_cont : QS X W (.Continue pos) mCont := PSi ps_continue fun D σ H ⟨as, M, ρ, E, r, rs, h, hE⟩ => hE.ct _ _ h as H σ .refl r rs
theorem qs_expr (he : QE X W e me) (hs : swapsWith e none pos.line X.env = pure false := by rfl) : QS X W (.Expr e pos) (mDrop me) := PSi (ps_expr he hs) fun D σ H ⟨as, M, ρ, E, r, rs, h, hE⟩ =>
  lf_bind r rs h (exS hE rs) fun d M1 as1 H1 v h1 e1 r1 rs1 rv => hE.nx _ _ h1 as1 H1 σ e1 r1 rs1
theorem qs_ret (he : QE X W e me) : QS X W (.Return (some e) pos) (mRet me) := PSi (ps_ret he) fun D σ H ⟨as, M, ρ, E, r, rs, h, hE⟩ =>
  lf_bind r rs h (exS hE rs) fun d M1 as1 H1 v h1 e1 r1 rs1 rv => hE.rt _ _ h1 as1 H1 v e1 r1 rv
theorem qs_if (hc : QT X W c mt) (ha : QSs X W a m) (hb : QSs X W b n) : QS X W (.If c a b pos) (mIfS mt m n) := PSi (ps_if hc ha hb) fun D σ H ⟨as, M, ρ, E, r, rs, h, hE⟩ => by
  refine lfT_bind r rs h (exS hE rs) fun k M1 as1 H1 h1 e1 r1 rs1 => ?_
  cases k with
  | true => exact ⟨as1, M1, ρ, E, r1, rs1, h1, hE.mono e1⟩
  | false => exact ⟨as1, M1, ρ, E, r1, rs1, h1, hE.mono e1⟩
end
mutual
inductive Tg where
  | nm (i : Nat)
  | tp (n : Nat) (l : Tgs)
inductive Tgs where
  | nil
  | cons (t : Tg) (l : Tgs)
end
abbrev MG := D → Ev → Mem → (Ev → Prop) → Prop
abbrev MGs := List D → Ev → Mem → (Ev → Prop) → Prop
mutual
/-- HandS's reading of a target -/
def Tg.rd (K : PySem.W.Frag) : Tg → TG
  | .nm i => gName i
  | .tp n l => fun v σ H Q => gTup K n (l.rd K) v σ H Q ∨ gLst K n (l.rd K) v σ H Q
def Tgs.rd (K : PySem.W.Frag) : Tgs → TGs
  | .nil => gNil
  | .cons t l => gCons (t.rd K) (l.rd K)
end
mutual
/-- the mirror's -/
def Tg.mg : Tg → MG
  | .nm i => fun d ρ _ N => N (ρ.set i (some d))
  | .tp n l => fun d ρ M N => match d with
    | .tup ds => ds.length = n ∧ l.mg ds ρ M N
    | .ref a => match M[a]? with
      | some (.lst ds) => ds.length = n ∧ l.mg ds ρ M N
      | _ => False
    | _ => False
def Tgs.mg : Tgs → MGs
  | .nil => fun ds ρ _ N => match ds with | [] => N ρ | _ => False
  | .cons t l => fun ds ρ M N => match ds with | d :: r => t.mg d ρ M fun ρ' => l.mg r ρ' M N | _ => False
end
mutual
def Tg.slots : Tg → List Nat
  | .nm i => [i]
  | .tp _ l => l.slots
def Tgs.slots : Tgs → List Nat
  | .nil => []
  | .cons t l => t.slots ++ l.slots
end
mutual
theorem Tg.sim {K : PySem.W.Frag} : ∀ (T : Tg) {as : List Addr} {H : Hp} {M : Mem} {ρ : Ev} {σ : L2.St} {d : D} {v : V} {N : Ev → Prop} {Q : L2.St → Hp → Prop}, RepM K as H M → RelS K as H ρ σ → Rel K as H d v → T.mg d ρ M N →
    (∀ ρ' σ', N ρ' → RelS K as H ρ' σ' → Q σ' H) → T.rd K v σ H Q
  | .nm i, as, H, M, ρ, σ, d, v, N, Q, r, rs, rd, h, hq => by
    simp only [Tg.mg] at h
    simp only [Tg.rd]
    exact hq _ _ h (rs.set rd)
  | .tp n l, as, H, M, ρ, σ, d, v, N, Q, r, rs, rd, h, hq => by
    simp only [Tg.mg] at h
    simp only [Tg.rd]
    cases rd with
    | tup hs hl => exact .inl ⟨_, _, rfl, hs.1, by rw [← hl.len]; exact h.1, Tgs.sim l r rs hl h.2 hq⟩
    | ref ha =>
      dsimp only at h
      split at h
      · rename_i ds e
        obtain ⟨xs, h1, h2⟩ := at_lst r ha e
        exact .inr ⟨_, xs, rfl, SqL.of h1, by rw [← h2.len]; exact h.1, Tgs.sim l r rs h2 h.2 hq⟩
      · exact h.elim
    | _ => exact h.elim
theorem Tgs.sim {K : PySem.W.Frag} : ∀ (T : Tgs) {as : List Addr} {H : Hp} {M : Mem} {ρ : Ev} {σ : L2.St} {ds : List D} {vs : List V} {N : Ev → Prop} {Q : L2.St → Hp → Prop}, RepM K as H M → RelS K as H ρ σ → RelL K as H ds vs → T.mg ds ρ M N →
    (∀ ρ' σ', N ρ' → RelS K as H ρ' σ' → Q σ' H) → T.rd K vs σ H Q
  | .nil, as, H, M, ρ, σ, ds, vs, N, Q, r, rs, rd, h, hq => by
    simp only [Tgs.mg] at h
    simp only [Tgs.rd]
    cases rd with
    | nil => exact ⟨rfl, hq _ _ h rs⟩
    | cons _ _ => exact h.elim
  | .cons t l, as, H, M, ρ, σ, ds, vs, N, Q, r, rs, rd, h, hq => by
    simp only [Tgs.mg] at h
    simp only [Tgs.rd]
    cases rd with
    | nil => exact h.elim
    | cons rd rr => exact ⟨_, _, rfl, Tg.sim t r rs rd h fun ρ' σ' h' rs' => Tgs.sim l r rs' rr h' hq⟩
end
theorem set_set_comm {α : Type} (l : List α) {i j : Nat} (a b : α) (h : i ≠ j) : (l.set i a).set j b = (l.set j b).set i a := by
  apply List.ext_getElem?
  intro k
  simp only [List.getElem?_set]
  split <;> split <;> simp_all
theorem wipe_set {σ : L2.St} {i : Nat} {v : Option V} : ∀ {vs : List Nat}, i ∈ vs → wipe (σ.set i v) vs = wipe σ vs
  | w :: vs, h => by
    show (wipe (σ.set i v) vs).set w none = (wipe σ vs).set w none
    by_cases e : i ∈ vs
    · rw [wipe_set e]
    · have hw : i = w := by
        rcases List.mem_cons.mp h with z | z
        · exact z
        · exact absurd z e
      subst hw
      have key : ∀ vs : List Nat, i ∉ vs → wipe (σ.set i v) vs = (wipe σ vs).set i v := by
        intro vs
        induction vs with
        | nil => intro _; rfl
        | cons u vs ih =>
          intro hn
          show (wipe (σ.set i v) vs).set u none = ((wipe σ vs).set u none).set i v
          rw [ih (fun z => hn (List.mem_cons_of_mem _ z)), set_set_comm _ _ _ (fun z => hn (by rw [z]; exact List.mem_cons_self))]
      rw [key vs e, List.set_set]
mutual
/-- only the slots vs are stored -/
theorem Tg.keep {K : PySem.W.Frag} {vs : List Nat} : ∀ (T : Tg), (∀ i ∈ T.slots, i ∈ vs) → ∀ {v : V} {σ : L2.St} {H : Hp} {Q Q' : L2.St → Hp → Prop}, (∀ σ2 H2, wipe σ2 vs = wipe σ vs → Q σ2 H2 → Q' σ2 H2) → T.rd K v σ H Q → T.rd K v σ H Q'
  | .nm i, hi, v, σ, H, Q, Q', im, h => by
    simp only [Tg.rd] at h ⊢
    exact im _ _ (wipe_set (hi i (by simp [Tg.slots]))) h
  | .tp n l, hi, v, σ, H, Q, Q', im, h => by
    simp only [Tg.rd] at h ⊢
    have hi' : ∀ i ∈ l.slots, i ∈ vs := fun i z => hi i (by simpa [Tg.slots] using z)
    rcases h with ⟨a, xs, e, hs, hl, h⟩ | ⟨a, xs, e, hs, hl, h⟩
    · exact .inl ⟨a, xs, e, hs, hl, Tgs.keep l hi' im h⟩
    · exact .inr ⟨a, xs, e, hs, hl, Tgs.keep l hi' im h⟩
theorem Tgs.keep {K : PySem.W.Frag} {vs : List Nat} : ∀ (T : Tgs), (∀ i ∈ T.slots, i ∈ vs) → ∀ {v : List V} {σ : L2.St} {H : Hp} {Q Q' : L2.St → Hp → Prop}, (∀ σ2 H2, wipe σ2 vs = wipe σ vs → Q σ2 H2 → Q' σ2 H2) → T.rd K v σ H Q → T.rd K v σ H Q'
  | .nil, hi, v, σ, H, Q, Q', im, h => by
    simp only [Tgs.rd] at h ⊢
    exact ⟨h.1, im _ _ rfl h.2⟩
  | .cons t l, hi, v, σ, H, Q, Q', im, h => by
    simp only [Tgs.rd] at h ⊢
    obtain ⟨w, ws, e, h⟩ := h
    refine ⟨w, ws, e, Tg.keep t (fun i z => hi i (by simp [Tgs.slots, z])) (fun σ1 H1 e1 q => ?_) h⟩
    exact Tgs.keep l (fun i z => hi i (by simp [Tgs.slots, z])) (fun σ2 H2 e2 q2 => im _ _ (e2.trans e1) q2) q
end
section
variable {X : Cx} {W : WX} {pos : Pos}
def QG (X : Cx) (tg : Expr) (T : Tg) : Prop := PG X tg (T.rd X.K)
def QGs (X : Cx) (tgs : List Expr) (T : Tgs) : Prop := PGs X tgs (T.rd X.K)
theorem qg_name {i : Nat} {x : Str} (hN : X.N.Nodup) (hi : X.N[i]? = some x) (hx : Loc X.env.scope x) (hf : X.fn x = true ∨ X.env.scope.names.lookup x = some .local := by first | exact .inl rfl | exact .inr rfl | assumption) : QG X (.Name x pos) (.nm i) := by
  have h := pg_name (pos := pos) hN hi hx hf
  unfold QG; simp only [Tg.rd]; exact h
theorem qgs_nil : QGs X [] .nil := by
  unfold QGs; simp only [Tgs.rd]; exact pgs_nil
theorem qgs_cons {e : Expr} {es : List Expr} {t : Tg} {l : Tgs} (h1 : QG X e t) (h2 : QGs X es l) (hs : (assignEach (e :: es) X.env).map (·.2) = assign e X.env :: (assignEach es X.env).map (·.2) := by rfl) : QGs X (e :: es) (.cons t l) := by
  unfold QGs; simp only [Tgs.rd]; exact pgs_cons h1 h2 hs
theorem PG_or {tg : Expr} {t u : TG} (h : PG X tg t) (h' : PG X tg u) : PG X tg (fun v σ H Q => t v σ H Q ∨ u v σ H Q) := ⟨fun pins s σ H v w Q I r q => by
  rcases q with q | q
  · exact h.run pins s σ H v w Q I r q
  · exact h'.run pins s σ H v w Q I r q⟩
theorem qg_tup {es : List Expr} {k : Nat} {l : Tgs} {n : Nat} (hc : X.calm = true) (h : QGs X es l) (hn : (assignEach es X.env).length = n := by rfl) (hst : (assignEach es X.env).findIdx? (·.1) = none := by rfl) : QG X (.Tuple es k pos) (.tp n l) := by
  unfold QG; simp only [Tg.rd]; exact PG_or (pg_tup hc h hn hst) (pg_lst hc h hn hst)
variable {e : Expr} {me : ME}
def mSet (i : Nat) (m : ME) : MS := fun E ρ M => m ρ M (fun d M1 => E.nx (ρ.set i (some d)) M1) (fun x M1 => E.ex x ρ M1)
def mAsg (m : ME) (T : Tg) : MS := fun E ρ M => m ρ M (fun d M1 => T.mg d ρ M1 fun ρ' => E.nx ρ' M1) (fun x M1 => E.ex x ρ M1)
theorem qs_set {i : Nat} {x : Str} {pos' : Pos} (hN : X.N.Nodup) (hi : X.N[i]? = some x) (hx : Loc X.env.scope x) (he : QE X W e me) (hs : swapsWith e (some (.Name x pos')) pos.line X.env = pure false := by rfl) (hf : X.fn x = true ∨ X.env.scope.names.lookup x = some .local := by first | exact .inl rfl | exact .inr rfl | assumption) :
    QS X W (.Assign [.Name x pos'] e pos) (mSet i me) := PSi (ps_set hN hi hx he hs hf) fun D σ H ⟨as, M, ρ, E, r, rs, h, hE⟩ =>
  lf_bind r rs h (exS hE rs) fun d M1 as1 H1 v h1 e1 r1 rs1 rv => hE.nx _ _ h1 as1 H1 _ e1 r1 (rs1.set rv)
theorem qs_asg {tg : Expr} {T : Tg} (he : QE X W e me) (hg : QG X tg T) (hs : swapsWithSole [tg] e pos.line X.env = pure false := by rfl) (hw : swappedStores [tg] e X.env = pure none := by rfl)
    (h1 : (assignEach [tg] X.env).map (·.2) = [assign tg X.env] := by rfl) : QS X W (.Assign [tg] e pos) (mAsg me T) := by
  refine PSi (ps_asg he hg hs hw h1) fun D σ H ⟨as, M, ρ, E, r, rs, h, hE⟩ => ?_
  exact lf_bind r rs h (exS hE rs) fun d M1 as1 H1 v h1 e1 r1 rs1 rv => T.sim r1 rs1 rv h1 fun ρ' σ' q rs' => hE.nx _ _ q as1 H1 _ e1 r1 rs'
def mPar (i j : Nat) (ma : MA) : MS := fun E ρ M => ma ρ M (fun ds M1 => match ds with | [d, e] => E.nx ((ρ.set i (some d)).set j (some e)) M1 | _ => False) (fun x M1 => E.ex x ρ M1)
theorem qs_par {i j : Nat} {x y : Str} {a b : Expr} {ma : MA} {px py pt : Pos} {kt k2 pt2} (hc : X.calm = true) (hN : X.N.Nodup) (hi : X.N[i]? = some x) (hj : X.N[j]? = some y) (hij : i ≠ j)
    (hx : X.env.scope.names.lookup x = some .local) (hy : X.env.scope.names.lookup y = some .local) (ha : QA X W [a, b] ma)
    (hw : swappedStores [.Tuple [.Name x px, .Name y py] kt pt] (.Tuple [a, b] k2 pt2) X.env = pure (some [x, y]))
    (hs : swapsWithSole [.Tuple [.Name x px, .Name y py] kt pt] (.Tuple [a, b] k2 pt2) pos.line X.env = pure false := by rfl) :
    QS X W (.Assign [.Tuple [.Name x px, .Name y py] kt pt] (.Tuple [a, b] k2 pt2) pos) (mPar i j ma) := PSi (ps_par hc hN hi hj hij hx hy ha hw hs) fun D σ H ⟨as, M, ρ, E, r, rs, h, hE⟩ => by
  refine lfA_bind r rs h (exS hE rs) fun ds M1 as1 H1 vs h1 e1 r1 rs1 rv => ?_
  split at h1
  · obtain ⟨v, w, rfl, r2, r3⟩ := rv.two
    exact ⟨v, w, rfl, hE.nx _ _ h1 as1 H1 _ e1 r1 ((rs1.set r2).set r3)⟩
  · exact h1.elim
def mAug (i : Nat) (o : OP) (m : ME) : MS := fun E ρ M => match ρ[i]? with
  | some (some x) => m ρ M (fun y M1 => o x y M1 fun z M2 => E.nx (ρ.set i (some z)) M2) (fun x M1 => E.ex x ρ M1)
  | _ => False
theorem qs_aug {i : Nat} {x : Str} {op : Operator} {ti : TIp} {o : OP} {pos' : Pos} (hN : X.N.Nodup) (hi : X.N[i]? = some x) (hx : Loc X.env.scope x) (he : QE X W e me) (ho : PIp X op ti) (hsim : SimO X.K ti o) (hf : X.fn x = true ∨ X.env.scope.names.lookup x = some .local := by first | exact .inl rfl | exact .inr rfl | assumption) :
    QS X W (.AugAssign (.Name x pos') op e pos) (mAug i o me) := PSi (ps_aug hN hi hx he ho hf) fun D σ H ⟨as, M, ρ, E, r, rs, h, hE⟩ => by
  unfold mAug at h
  split at h
  · rename_i d0 e0
    obtain ⟨v0, e2, rv0⟩ := rs.2 i d0 e0
    refine ⟨v0, e2, lf_bind r rs h (exS hE rs) fun d M1 as1 H1 v h1 e1 r1 rs1 rv => ?_⟩
    exact hsim as1 H1 M1 _ _ _ _ _ _ r1 (rv0.up e1) rv h1 fun d2 M2 q as2 H2 v2 e3 r3 rv3 => hE.nx _ _ q as2 H2 _ (e1.trans e3) r3 ((rs1.up e3).set rv3)
  · exact h.elim
theorem sim_ipadd {K : PySem.W.Frag} : SimO K (ipI fun i j => i + j) (fun x y M Q => match x, y with | .int i, .int j => Q (.int (i + j)) M | _, _ => False) := fun as H M dx dy x y k Q rp rx ry h hk => by
  cases dx <;> cases dy <;> first | exact h.elim | skip
  cases rx; cases ry
  exact ⟨_, _, rfl, rfl, hk _ _ h as H _ .refl rp (.int _)⟩
def oAddI : OP := fun x y M Q => match x, y with | .int i, .int j => Q (.int (i + j)) M | _, _ => False
def oSetIx (o i v : D) (M : Mem) (N : Mem → Prop) : Prop := match o with
  | .ref n => match M[n]? with
    | some (.lst ds) => match i with
      | .int k => match ixN ds.length k with
        | some j => N (M.set n (.lst (ds.set j v)))
        | none => False
      | _ => False
    | some (.dct false kvs) => match keyOf i with
      | some q => kvs.length < 16000000 ∧ N (M.set n (.dct false (dput kvs q v)))
      | none => False
    | _ => False
  | _ => False
def mSetIx (mv mo mi : ME) : MS := fun E ρ M => mv ρ M (fun v M1 => mo ρ M1 (fun o M2 => mi ρ M2 (fun i M3 => oSetIx o i v M3 fun M4 => E.nx ρ M4) (fun x M3 => E.ex x ρ M3)) (fun x M2 => E.ex x ρ M2)) (fun x M1 => E.ex x ρ M1)
def rSetD : TSet := fun o y v H Q => ∃ a H', o = .ref a ∧ DPut H a y v H' ∧ Q H'
theorem set_dict (hu : X.A.units + 1 < cLine) : PSet X rSetD := fun pins s σ H o i v ov iv u Q I ro ri rv h => by
  obtain ⟨a, H', rfl, g, q⟩ := h
  obtain rfl : ov = Value.ref a := ro
  exact d_setItem hu I g ri rv fun s4 I4 => ⟨H', I4, q⟩
theorem PSet_or {t u : TSet} (h : PSet X t) (h' : PSet X u) : PSet X (fun o i v H Q => t o i v H Q ∨ u o i v H Q) := fun pins s σ H o i v ov iv w Q I ro ri rv q => by
  rcases q with q | q
  · exact h pins s σ H o i v ov iv w Q I ro ri rv q
  · exact h' pins s σ H o i v ov iv w Q I ro ri rv q
theorem nfrz_lst {H : Hp} {a : Addr} {xs : List V} (h : H a = some (.lst xs)) : ∀ ob w, H a ≠ some (.frz ob w) := fun ob w z => by rw [h] at z; cases z
theorem nfrz_dK {H : Hp} {a : Addr} {xs : List (Key × V)} (h : H a = some (.dK xs)) : ∀ ob w, H a ≠ some (.frz ob w) := fun ob w z => by rw [h] at z; cases z
/-- a list is written -/
theorem put_lst {K : PySem.W.Frag} {as : List Addr} {H : Hp} {M : Mem} {n : Nat} {a : Addr} {xs ys : List V} {ds : List D} (rp : RepM K as H M) (hn : as[n]? = some a) (h1 : H a = some (.lst xs)) (r : RelL K as H ds ys) :
    Ext K as H as (upd H a (.lst ys)) ∧ RepM K as (upd H a (.lst ys)) (M.set n (.lst ds)) :=
  have e := ext_put (u := .lst ys) rp hn (nfrz_lst h1)
  ⟨e, rp.put hn (nfrz_lst h1) ⟨ys, upd_same, r.up e⟩⟩
theorem put_dct {K : PySem.W.Frag} {as : List Addr} {H : Hp} {M : Mem} {n : Nat} {a : Addr} {xs ys : List (Key × V)} {ds : List (Key × D)} (rp : RepM K as H M) (hn : as[n]? = some a) (h1 : H a = some (.dK xs)) (r : KVR K as H ds ys) :
    Ext K as H as (upd H a (.dK ys)) ∧ RepM K as (upd H a (.dK ys)) (M.set n (.dct false ds)) :=
  have e := ext_put (u := .dK ys) rp hn (nfrz_dK h1)
  ⟨e, rp.put hn (nfrz_dK h1) ⟨ys, r.up e, upd_same⟩⟩
theorem at_dK {K : PySem.W.Frag} {as : List Addr} {H : Hp} {M : Mem} {n : Nat} {a : Addr} {kvs : List (Key × D)} (rp : RepM K as H M) (hn : as[n]? = some a) (e : M[n]? = some (.dct false kvs)) : ∃ ks, KVR K as H kvs ks ∧ H a = some (.dK ks) := by
  obtain ⟨a', ha, ks, h1, h2⟩ := rp.at_ e
  rw [hn] at ha; cases ha
  exact ⟨ks, h1, h2⟩
theorem setIx_ok {K : PySem.W.Frag} {as : List Addr} {H : Hp} {M : Mem} {o i v : D} {vo vi vv : V} {N : Mem → Prop} {Q : Hp → Prop} (rp : RepM K as H M) (ro : Rel K as H o vo) (ri : Rel K as H i vi) (rv : Rel K as H v vv) (h : oSetIx o i v M N)
    (hq : ∀ M' H', N M' → Ext K as H as H' → RepM K as H' M' → Q H') : rSetL vo vi vv H Q ∨ rSetD vo vi vv H Q := by
  cases ro <;> first | exact h.elim | skip
  rename_i n a hn
  dsimp only [oSetIx] at h
  split at h
  · rename_i ds e
    cases ri <;> first | exact h.elim | skip
    rename_i k
    dsimp only at h
    split at h
    · rename_i j ej
      obtain ⟨xs, h1, h2⟩ := at_lst rp hn e
      obtain ⟨e1, r1⟩ := put_lst rp hn h1 (h2.set rv j)
      exact .inl ⟨a, xs, k, j, rfl, rfl, h1, by rw [← h2.len]; exact ej, hq _ _ h e1 r1⟩
    · exact h.elim
  · rename_i kvs e
    split at h
    · rename_i q0 eq
      obtain ⟨ks, h1, h2⟩ := at_dK rp hn e
      obtain ⟨e1, r1⟩ := put_dct rp hn h2 (h1.put q0 rv)
      refine .inr ⟨a, _, rfl, .inl ⟨ks, q0, h2, keyOf_ok ri eq, ?_, rfl⟩, hq _ _ h.2 e1 r1⟩
      rw [← h1.len]; exact Nat.lt_of_lt_of_le h.1 (by decide)
    · exact h.elim
  · exact h.elim
theorem qs_setIx {o i : Expr} {mo mi : ME} {pos' : Pos} (hu : X.A.units + 1 < cLine) (he : QE X W e me) (ho : QE X W o mo) (hi : QE X W i mi)
    (ha : ∀ v, assign (.Subscript o i pos') X.env v = (do
      let ov ← holding [v] (eval o X.env)
      let iv ← holding [v, ov] (eval i X.env)
      standAt pos'
      holding [v, ov, iv] (setItem ov iv v)
      release [v, ov, iv] []) := by intro _; rfl)
    (hs : swapsWithSole [.Subscript o i pos'] e pos.line X.env = pure false := by rfl) (hw : swappedStores [.Subscript o i pos'] e X.env = pure none := by rfl)
    (h1 : (assignEach [.Subscript o i pos'] X.env).map (·.2) = [assign (.Subscript o i pos') X.env] := by rfl) : QS X W (.Assign [.Subscript o i pos'] e pos) (mSetIx me mo mi) :=
  PSi (ps_asg he (pg_sub ho hi (PSet_or set_list (set_dict hu)) ha) hs hw h1) fun D σ H ⟨as, M, ρ, E, r, rs, h, hE⟩ => by
    refine lf_bind r rs h (exS hE rs) fun v M1 as1 H1 vv h1 e1 r1 rs1 rv => ?_
    refine lf_bind r1 rs1 h1 (fun x M' q => (exS hE rs x M' q).mono e1) fun o M2 as2 H2 vo h2 e2 r2 rs2 ro => ?_
    refine lf_bind r2 rs2 h2 (fun x M' q => (exS hE rs x M' q).mono (e1.trans e2)) fun i M3 as3 H3 vi h3 e3 r3 rs3 ri => ?_
    exact setIx_ok r3 (ro.up e3) ri (rv.up (e2.trans e3)) h3 fun M' H' q e4 r4 => hE.nx _ _ q as3 H' _ (((e1.trans e2).trans e3).trans e4) r4 (rs3.up e4)
end
end MV
namespace MV
open PySem PySem.Spec PyProof.Rows L2
abbrev MI := Ev → Mem → (List D → (Mem → Prop) → Mem → Prop) → XM → Prop
/-- J walks the items while guard stands -/
def ItOk (K : PySem.W.Frag) (as : List Addr) (H : Hp) (J : It) (items : List D) (guard : Mem → Prop) : Prop := ∀ (as' : List Addr) (H' : Hp) (M' : Mem) (i : Nat), Ext K as H as' H' → RepM K as' H' M' → guard M' →
  (i = items.length → J.stop i H') ∧ ∀ d, items[i]? = some d → J.go i H' ∧ ∀ x H2, J.yld i H' x H2 → Ext K as' H' as' H2 ∧ RepM K as' H2 M' ∧ Rel K as' H2 d x
def lfI (K : PySem.W.Frag) (W : WX) (m : MI) : TI := fun σ H R => ∃ as M ρ k X', RepM K as H M ∧ RelS K as H ρ σ ∧ m ρ M k X' ∧
  (∀ items guard M' as' H' J, k items guard M' → Ext K as H as' H' → RepM K as' H' M' → ItOk K as' H' J items guard → R J H') ∧ ∀ x M', X' x M' → LX K as H (fun c d H => W c d σ H) x M'
abbrev QI (X : Cx) (W : WX) (tg iter : Expr) (m : MI) : Prop := PI X tg iter (lfI X.K W m)
theorem PIi {X : Cx} {tg e : Expr} {t t' : TI} (h : PI X tg e t) (i : ∀ σ H R, t' σ H R → t σ H R) : PI X tg e t' := ⟨fun pins s σ H R I q => h.run pins s σ H R I (i σ H R q)⟩
def mForL (guard : Mem → Prop) (T : Tg) (b : MS) (E : Nd) : List D → Ev → Mem → Prop
  | [], ρ, M => guard M ∧ E.nx ρ M
  | d :: ds, ρ, M => guard M ∧ T.mg d ρ M fun ρ1 => b ⟨fun ρ2 M2 => mForL guard T b E ds ρ2 M2, E.rt, E.nx, fun ρ2 M2 => mForL guard T b E ds ρ2 M2, E.ex⟩ ρ1 M
def mFor (mi : MI) (T : Tg) (b : MS) : MS := fun E ρ M => mi ρ M (fun items guard M1 => mForL guard T b E items ρ M1) (fun x M1 => E.ex x ρ M1)
theorem drop_cons {α : Type} {l : List α} {i : Nat} (h : i < l.length) : l.drop i = l[i] :: l.drop (i + 1) := List.drop_eq_getElem_cons h
section
variable {X : Cx} {W : WX} {tg iter : Expr} {body : List Stmt} {mi : MI} {T : Tg} {mb : MS} {pos : Pos}
theorem qs_for (hp : PassesOwn (model X.prog X.w) X.A X.env X.xe) (hc : X.calm = true) (hi : QI X W tg iter mi) (hg : QG X tg T) (hb : QSs X W body mb) (hs : ∀ x, foldedSetIterable iter X.env x = pure x := by intro _; rfl) :
    QS X W (.For tg iter body [] pos) (mFor mi T mb) := PSi (ps_for hp hc hi hg hb hs) fun D σ H ⟨as, M, ρ, E, r, rs, h, hE⟩ => by
  refine ⟨as, M, ρ, _, _, r, rs, h, fun items guard M1 as1 H1 J h1 e1 r1 ok => ?_, exS hE rs⟩
  refine ⟨fun i m σ' H' => ∃ as' M' ρ', Ext X.K as1 H1 as' H' ∧ RepM X.K as' H' M' ∧ RelS X.K as' H' ρ' σ' ∧ i + m = items.length ∧ mForL guard T mb E (items.drop i) ρ' M', ⟨items.length, as1, M1, ρ, .refl, r1, rs.up e1, by simp, h1⟩, ?_⟩
  rintro i m σ' H' ⟨as', M', ρ', e', r', rs', hm, h'⟩
  by_cases hl : i < items.length
  · right
    rw [drop_cons hl] at h'
    obtain ⟨hgd, h'⟩ := h'
    obtain ⟨_, ok2⟩ := ok as' H' M' i e' r' hgd
    obtain ⟨go, yld⟩ := ok2 _ (List.getElem?_eq_getElem hl)
    refine ⟨go, fun σ2 H2 => ∃ as2 M2 ρ2, Ext X.K as1 H1 as2 H2 ∧ RepM X.K as2 H2 M2 ∧ RelS X.K as2 H2 ρ2 σ2 ∧ mForL guard T mb E (items.drop (i + 1)) ρ2 M2, fun σ2 H2 ⟨as2, M2, ρ2, a, b, c, d⟩ => ⟨m - 1, by omega, as2, M2, ρ2, a, b, c, by omega, d⟩, fun x H2 y => ?_⟩
    obtain ⟨e2, r2, rx⟩ := yld x H2 y
    refine T.sim r2 (rs'.up e2) rx h' fun ρ3 σ3 h3 rs3 => ?_
    have e3 := e'.trans e2
    exact ⟨as', M', ρ3, _, r2, rs3, h3, ⟨fun ρ4 M4 q as4 H4 σ4 e4 r4 rs4 => ⟨as4, M4, ρ4, e3.trans e4, r4, rs4, q⟩, (hE.mono (e1.trans e3)).rt, (hE.mono (e1.trans e3)).nx, fun ρ4 M4 q as4 H4 σ4 e4 r4 rs4 => ⟨as4, M4, ρ4, e3.trans e4, r4, rs4, q⟩, (hE.mono (e1.trans e3)).ex⟩⟩
  · left
    have hi' : i = items.length := by omega
    rw [List.drop_eq_nil_of_le (by omega)] at h'
    exact ⟨(ok as' H' M' i e' r' h'.1).1 hi', hE.nx _ _ h'.2 as' H' σ' (e1.trans e') r' rs'⟩
def mWhile (c : MT) (b : MS) : MS := fun E ρ M => ∃ I : Nat → Ev → Mem → Prop, (∃ m, I m ρ M) ∧ ∀ m ρ M, I m ρ M →
  c ρ M (fun k M1 => if k = true then ∃ N : Ev → Mem → Prop, (∀ ρ' M', N ρ' M' → ∃ m', m' < m ∧ I m' ρ' M') ∧ b ⟨N, E.rt, E.nx, N, E.ex⟩ ρ M1 else E.nx ρ M1) (fun x M1 => E.ex x ρ M1)
theorem qs_while {c : Expr} {mc : MT} (hp : PassesOwn (model X.prog X.w) X.A X.env X.xe) (hc : QT X W c mc) (hb : QSs X W body mb) : QS X W (.While c body [] pos) (mWhile mc mb) := PSi (ps_while hp hc hb) fun D σ H ⟨as, M, ρ, E, r, rs, h, hE⟩ => by
  obtain ⟨I, ⟨m0, i0⟩, hI⟩ := h
  refine ⟨fun m σ' H' => ∃ as' M' ρ', Ext X.K as H as' H' ∧ RepM X.K as' H' M' ∧ RelS X.K as' H' ρ' σ' ∧ I m ρ' M', ⟨m0, as, M, ρ, .refl, r, rs, i0⟩, ?_⟩
  rintro m σ' H' ⟨as', M', ρ', e', r', rs', h'⟩
  refine lfT_bind r' rs' (hI m ρ' M' h') (exS (hE.mono e') rs') fun k M1 as1 H1 h1 e1 r1 rs1 => ?_
  cases k with
  | true =>
    rw [if_pos rfl] at h1 ⊢
    obtain ⟨N, hN, h1⟩ := h1
    have e2 := e'.trans e1
    refine ⟨fun σ2 H2 => ∃ as2 M2 ρ2, Ext X.K as H as2 H2 ∧ RepM X.K as2 H2 M2 ∧ RelS X.K as2 H2 ρ2 σ2 ∧ N ρ2 M2, fun σ2 H2 ⟨as2, M2, ρ2, a, b, c, d⟩ => ?_, ?_⟩
    · obtain ⟨m', hm, hI'⟩ := hN ρ2 M2 d
      exact ⟨m', hm, as2, M2, ρ2, a, b, c, hI'⟩
    · exact ⟨as1, M1, ρ', _, r1, rs1, h1, ⟨fun ρ4 M4 q as4 H4 σ4 e4 r4 rs4 => ⟨as4, M4, ρ4, e2.trans e4, r4, rs4, q⟩, (hE.mono e2).rt, (hE.mono e2).nx, fun ρ4 M4 q as4 H4 σ4 e4 r4 rs4 => ⟨as4, M4, ρ4, e2.trans e4, r4, rs4, q⟩, (hE.mono e2).ex⟩⟩
  | false =>
    rw [if_neg Bool.false_ne_true] at h1 ⊢
    exact hE.nx _ _ h1 as1 H1 _ (e'.trans e1) r1 rs1
end
def mISeq (me : ME) : MI := fun ρ M k X => me ρ M (fun x M1 => match x with
  | .tup ds => k ds (fun _ => True) M1
  | .str z => k (z.cps.toList.map fun c => .str ⟨#[c]⟩) (fun _ => True) M1
  | .ref n => match M1[n]? with
    | some (.lst ds) => k ds (fun M => M[n]? = some (.lst ds)) M1
    | some (.frz ds) => k ds (fun M => M[n]? = some (.frz ds)) M1
    | some (.dct true kvs) => k (kvs.map fun kv => kD kv.1) (fun M => M[n]? = some (.dct true kvs)) M1
    | _ => False
  | _ => False) X
def iSeqA (K : PySem.W.Frag) (tl : TE) : TI := fun σ H R => tl σ H fun x H1 =>
  (∃ a, x = .ref a ∧ (∃ xs, SqL K H1 a xs) ∧ R (Itl K a) H1) ∨ (∃ a, x = .ref a ∧ (∃ xs, SqT K H1 a xs) ∧ R (Itt K a) H1) ∨ (∃ z, x = .str z ∧ R (Its z) H1) ∨
  ∃ d o kvs, x = .ref d ∧ H1 d = some (.frz o (.dK kvs)) ∧ R (Itk d o kvs) H1
section
variable {X : Cx} {W : WX} {tg e e2 : Expr} {me : ME} {pos : Pos}
theorem pi_seqA {tl : TE} (hl : PE X e tl) : PI X tg e (iSeqA X.K tl) := by
  refine ⟨fun pins s σ H R I h => ?_⟩
  refine thn (hl.run pins s σ H _ I h) fun v s1 ⟨x, H1, I1, r1, q1⟩ => ?_
  rcases q1 with ⟨a, e, ⟨xs, hq⟩, q⟩ | ⟨a, e, ⟨xs, hq⟩, q⟩ | ⟨z, e, q⟩ | ⟨d, o, kvs, e, hd, q⟩
  · subst e
    cases r1
    obtain ⟨its, rv, p, hz⟩ := I1.list hq
    refine wpAny_pyIter_list p.isList ?_
    refine ⟨s1.heap.objs.size, [s1.heap.objs.size], _, _, H1, rfl, I1.kept (t' := s1.toks) fun b o e => Heap.get?_push_of_some _ e, turn_list a _, ⟨_, Heap.get?_push_size _ rfl, rfl, rfl⟩, fun b hb => ?_, q⟩
    have e : b = s1.heap.objs.size := by simpa using hb
    subst e
    exact I1.fpOk (Nat.le_refl _) (I1.hok.fresh (Nat.le_refl _))
  · subst e
    cases r1
    obtain ⟨its, rv, p, hz⟩ := I1.tuple hq
    refine wpAny_pyIter_tuple (show s1.heap.IsTuple a its.toArray from p) ?_
    refine ⟨s1.heap.objs.size, [s1.heap.objs.size], _, _, H1, rfl, I1.kept (t' := s1.toks) fun b o e => Heap.get?_push_of_some _ e, turn_tuple a _, ⟨_, Heap.get?_push_size _ rfl, rfl, rfl⟩, fun b hb => ?_, q⟩
    have e : b = s1.heap.objs.size := by simpa using hb
    subst e
    exact I1.fpOk (Nat.le_refl _) (I1.hok.fresh (Nat.le_refl _))
  · subst e
    obtain ⟨t, rfl⟩ := r1
    cases ha : z.cps.all (· < 128)
    · exact wpAny_pyIter_wide ha (pi_one (tk := s1.toks) I1 _ (turn_str _ z t "str_iterator" (.inr rfl)) ⟨_, Heap.get?_push_size _ rfl, rfl, rfl⟩ q)
    · exact wpAny_pyIter_ascii ha (pi_one (tk := s1.toks) I1 _ (turn_str _ z t "str_ascii_iterator" (.inl rfl)) ⟨_, Heap.get?_push_size _ rfl, rfl, rfl⟩ q)
  · subst e
    obtain rfl : v = Value.ref d := r1
    obtain ⟨hs, hgd, hx, es, ep, vs, hdt, hsz, kv, hm⟩ := I1.frzK hd
    refine iter_keys hs hgd hx hdt (pi_one (tk := s1.toks) I1 _ (turn_keys _ hdt) ⟨_, Heap.get?_push_size _ rfl, rfl, ?_⟩ q)
    rw [hsz] <;> rfl
theorem itok_lst {K : PySem.W.Frag} {as : List Addr} {H : Hp} {n : Nat} {a : Addr} {ds : List D} (hn : as[n]? = some a) : ItOk K as H (Itl K a) ds (fun M => M[n]? = some (.lst ds)) := fun as' H' M' i e r g => by
  obtain ⟨xs, h1, h2⟩ := at_lst r (pre_get e.pre hn) g
  refine ⟨fun hi => ⟨xs, SqL.of h1, by rw [← h2.len]; omega⟩, fun d hd => ?_⟩
  obtain ⟨v, hv, rv⟩ := h2.get hd
  refine ⟨⟨xs, v, SqL.of h1, hv⟩, fun x H2 ⟨e2, y⟩ => ?_⟩
  have e3 := y xs (SqL.of h1)
  rw [hv] at e3; cases e3
  subst e2
  exact ⟨.refl, r, rv⟩
theorem itok_frz {K : PySem.W.Frag} {as : List Addr} {H : Hp} {n : Nat} {a : Addr} {ds : List D} (hn : as[n]? = some a) : ItOk K as H (Itl K a) ds (fun M => M[n]? = some (.frz ds)) := fun as' H' M' i e r g => by
  obtain ⟨ob, xs, h1, h2⟩ := at_frz r (pre_get e.pre hn) g
  refine ⟨fun hi => ⟨xs, .inl (.inr ⟨ob, h1⟩), by rw [← h2.len]; omega⟩, fun d hd => ?_⟩
  obtain ⟨v, hv, rv⟩ := h2.get hd
  refine ⟨⟨xs, v, .inl (.inr ⟨ob, h1⟩), hv⟩, fun x H2 ⟨e2, y⟩ => ?_⟩
  have e3 := y xs (.inl (.inr ⟨ob, h1⟩))
  rw [hv] at e3; cases e3
  subst e2
  exact ⟨.refl, r, rv⟩
theorem itok_tup {K : PySem.W.Frag} {as : List Addr} {H : Hp} {a : Addr} {ds : List D} {xs : List V} (hs : SqT K H a xs) (hl : RelL K as H ds xs) : ItOk K as H (Itt K a) ds (fun _ => True) := fun as' H' M' i e r g => by
  have h1 := e.tup _ _ hs
  have h2 := hl.up e
  refine ⟨fun hi => ⟨xs, h1, by rw [← h2.len]; omega⟩, fun d hd => ?_⟩
  obtain ⟨v, hv, rv⟩ := h2.get hd
  refine ⟨⟨xs, v, h1, hv⟩, fun x H2 ⟨e2, y⟩ => ?_⟩
  have e3 := y xs h1
  rw [hv] at e3; cases e3
  subst e2
  exact ⟨.refl, r, rv⟩
theorem itok_str {K : PySem.W.Frag} {as : List Addr} {H : Hp} {z : Str} : ItOk K as H (Its z) (z.cps.toList.map fun c => .str ⟨#[c]⟩) (fun _ => True) := fun as' H' M' i e r g => by
  refine ⟨fun hi => ?_, fun d hd => ?_⟩
  · simp at hi
    show z.cps.size ≤ i
    omega
  · rw [List.getElem?_map] at hd
    cases hc : z.cps.toList[i]? with
    | none => rw [hc] at hd; cases hd
    | some c =>
      rw [hc] at hd
      simp only [Option.map_some, Option.some.injEq] at hd
      have hc2 : z.cps[i]? = some c := by rw [← hc]; simp
      refine ⟨(Array.getElem?_eq_some_iff.mp hc2).1, fun x H2 ⟨e2, c', hc', hx⟩ => ?_⟩
      rw [hc2] at hc'; cases hc'
      subst e2 hx hd
      exact ⟨.refl, r, .str _⟩
theorem itok_keys {K : PySem.W.Frag} {as : List Addr} {H : Hp} {n : Nat} {a : Addr} {o : Obj} {kvs : List (Key × D)} {ks : List (Key × V)} (h2 : H a = some (.frz o (.dK ks))) (h1 : KVR K as H kvs ks) : ItOk K as H (Itk a o ks) (kvs.map fun kv => kD kv.1) (fun M => M[n]? = some (.dct true kvs)) := fun as' H' M' i e r g => by
  have h3 := e.frz _ _ _ h2
  have h4 := (h1.up e)
  refine ⟨fun hi => ⟨h3, by rw [← h4.len]; simp at hi; omega⟩, fun d hd => ?_⟩
  obtain ⟨v, hv, rv⟩ := h4.keys.get hd
  rw [List.getElem?_map] at hv
  cases hk : ks[i]? with
  | none => rw [hk] at hv; cases hv
  | some kv =>
    rw [hk] at hv
    simp only [Option.map_some, Option.some.injEq] at hv
    refine ⟨⟨h3, (List.getElem?_eq_some_iff.mp hk).1⟩, fun x H2 ⟨e2, k', v', hk', hx⟩ => ?_⟩
    rw [hk] at hk'; cases hk'
    subst e2 hx hv
    exact ⟨.refl, r, rv⟩
theorem qi_seq (he : QE X W e me) : QI X W tg e (mISeq me) := PIi (pi_seqA he) fun σ H R ⟨as, M, ρ, k, X', r, rs, h, hq, hx⟩ => by
  refine lf_bind r rs h hx fun d M1 as1 H1 v h1 e1 r1 rs1 rv => ?_
  cases rv with
  | tup hs hl => exact .inr (.inl ⟨_, rfl, ⟨_, hs.1⟩, hq _ _ M1 as1 H1 _ h1 e1 r1 (itok_tup hs.1 hl)⟩)
  | str z => exact .inr (.inr (.inl ⟨z, rfl, hq _ _ M1 as1 H1 _ h1 e1 r1 itok_str⟩))
  | ref hn =>
    dsimp only at h1
    split at h1
    · rename_i ds e2
      obtain ⟨xs, h2, h3⟩ := at_lst r1 hn e2
      exact .inl ⟨_, rfl, ⟨xs, SqL.of h2⟩, hq _ _ M1 as1 H1 _ h1 e1 r1 (itok_lst hn)⟩
    · rename_i ds e2
      obtain ⟨ob, xs, h2, h3⟩ := at_frz r1 hn e2
      exact .inl ⟨_, rfl, ⟨xs, .inl (.inr ⟨ob, h2⟩)⟩, hq _ _ M1 as1 H1 _ h1 e1 r1 (itok_frz hn)⟩
    · rename_i kvs e2
      obtain ⟨a', ha, ks, h2, ob, h3⟩ := r1.at_ e2
      rw [hn] at ha; cases ha
      exact .inr (.inr (.inr ⟨_, ob, ks, rfl, h3, hq _ _ M1 as1 H1 _ h1 e1 r1 (itok_keys h3 h2)⟩))
    · exact h1.elim
  | _ => exact h1.elim
def rangeD (lo : Int) (n : Nat) : List D := (List.range n).map fun i => .int (lo + (i : Nat))
def mIRng1 (ma : MA) : MI := fun ρ M k X => ma ρ M (fun ds M1 => match ds with | [.int j] => (-(2 ^ 62) ≤ j ∧ j < 2 ^ 62) ∧ k (rangeD 0 j.toNat) (fun _ => True) M1 | _ => False) X
def mIRng2 (ma : MA) : MI := fun ρ M k X => ma ρ M (fun ds M1 => match ds with | [.int i, .int j] => (-(2 ^ 62) ≤ i ∧ i < 2 ^ 62 ∧ -(2 ^ 62) ≤ j ∧ j < 2 ^ 62) ∧ k (rangeD i (j - i).toNat) (fun _ => True) M1 | _ => False) X
theorem itok_rng {K : PySem.W.Frag} {as : List Addr} {H : Hp} {lo : Int} {n : Nat} : ItOk K as H (Itr lo n) (rangeD lo n) (fun _ => True) := fun as' H' M' i e r g => by
  refine ⟨fun hi => ?_, fun d hd => ?_⟩
  · simp [rangeD] at hi
    show n ≤ i
    omega
  · have hl : i < n := by
      have := (List.getElem?_eq_some_iff.mp hd).1
      simpa [rangeD] using this
    refine ⟨hl, fun x H2 ⟨e2, hx⟩ => ?_⟩
    subst e2 hx
    simp only [rangeD, List.getElem?_map, List.getElem?_range hl, Option.map_some, Option.some.injEq] at hd
    subst hd
    exact ⟨.refl, r, .int _⟩
theorem qi_range1 {ma : MA} {p : Pos} (hg : Gl X "range") (hm : X.mg "range" = none) (ha : QA X W [e] ma) (hs : starEach [e] X.env = [(false, eval e X.env)] := by rfl) : QI X W tg (.Call (.Name "range" p) [e] [] pos) (mIRng1 ma) :=
  PIi (pi_range1 hg hm ha hs) fun σ H R ⟨as, M, ρ, k, X', r, rs, h, hq, hx⟩ => by
    refine lfA_bind r rs h hx fun ds M1 as1 H1 vs h1 e1 r1 rs1 rv => ?_
    split at h1
    · obtain ⟨v, rfl, rx⟩ := rv.one
      cases rx
      exact ⟨_, rfl, h1.1.1, h1.1.2, hq _ _ M1 as1 H1 _ h1.2 e1 r1 itok_rng⟩
    · exact h1.elim
theorem qi_range2 {ma : MA} {p : Pos} (hg : Gl X "range") (hm : X.mg "range" = none) (ha : QA X W [e, e2] ma) (hs : starEach [e, e2] X.env = [(false, eval e X.env), (false, eval e2 X.env)] := by rfl) (hs2 : starEach [e2] X.env = [(false, eval e2 X.env)] := by rfl) : QI X W tg (.Call (.Name "range" p) [e, e2] [] pos) (mIRng2 ma) :=
  PIi (pi_range2 hg hm ha hs hs2) fun σ H R ⟨as, M, ρ, k, X', r, rs, h, hq, hx⟩ => by
    refine lfA_bind r rs h hx fun ds M1 as1 H1 vs h1 e1 r1 rs1 rv => ?_
    split at h1
    · obtain ⟨v, w, rfl, rx, ry⟩ := rv.two
      cases rx; cases ry
      exact ⟨_, _, rfl, h1.1, hq _ _ M1 as1 H1 _ h1.2 e1 r1 itok_rng⟩
    · exact h1.elim
def enumD (ds : List D) : List D := ds.mapIdx fun i d => .tup [.int (i : Nat), d]
def mIEnumL (ma : MA) : MI := fun ρ M k X => ma ρ M (fun ds M1 => match ds with
  | [.ref n] => match M1[n]? with
    | some (.lst ds) => k (enumD ds) (fun M => M[n]? = some (.lst ds)) M1
    | _ => False
  | _ => False) X
def mIEnumT (ma : MA) : MI := fun ρ M k X => ma ρ M (fun ds M1 => match ds with
  | [.tup ds] => k (enumD ds) (fun _ => True) M1
  | _ => False) X
theorem enumD_get {ds : List D} {i : Nat} {d : D} (h : (enumD ds)[i]? = some d) : ∃ d0, ds[i]? = some d0 ∧ d = .tup [.int (i : Nat), d0] := by
  simp only [enumD, List.getElem?_mapIdx] at h
  cases e : ds[i]? with
  | none => rw [e] at h; cases h
  | some d0 => rw [e] at h; simp at h; exact ⟨d0, rfl, h.symm⟩
theorem new_pair {K : PySem.W.Frag} {as : List Addr} {H : Hp} {M : Mem} {T : Addr} {d1 d2 : D} {v1 v2 : V} (r : RepM K as H M) (hT : H T = none) (r1 : Rel K as H d1 v1) (r2 : Rel K as H d2 v2) :
    Ext K as H as (upd H T (.tup [v1, v2])) ∧ RepM K as (upd H T (.tup [v1, v2])) M ∧ Rel K as (upd H T (.tup [v1, v2])) (.tup [d1, d2]) (.ref T) :=
  ⟨ext_new hT, r.laid hT, .tup Tq.new (.cons (r1.up (ext_new hT)) (.cons (r2.up (ext_new hT)) .nil))⟩
theorem qi_enumL {ma : MA} {p tpos : Pos} {elts : List Expr} {kk : Nat} (hg : Gl X "enumerate") (hm : X.mg "enumerate" = none) (ha : QA X W [e] ma) (hs : starEach [e] X.env = [(false, eval e X.env)] := by rfl) : QI X W (.Tuple elts kk tpos) (.Call (.Name "enumerate" p) [e] [] pos) (mIEnumL ma) :=
  PIi (pi_enum hg hm ha hs) fun σ H R ⟨as, M, ρ, k, X', r, rs, h, hq, hx⟩ => by
    refine lfA_bind r rs h hx fun ds M1 as1 H1 vs h1 e1 r1 rs1 rv => ?_
    split at h1
    · obtain ⟨v, rfl, rx⟩ := rv.one
      cases rx with
      | ref hn =>
        split at h1
        · rename_i ds e2
          obtain ⟨xs, h2, h3⟩ := at_lst r1 hn e2
          refine ⟨_, xs, rfl, SqL.of h2, hq _ _ M1 as1 H1 _ h1 e1 r1 fun as' H' M' i e r g => ?_⟩
          obtain ⟨ys, h4, h5⟩ := at_lst r (pre_get e.pre hn) g
          refine ⟨fun hi => ⟨ys, SqL.of h4, by rw [← h5.len]; simp [enumD] at hi; omega⟩, fun d hd => ?_⟩
          obtain ⟨d0, hd0, rfl⟩ := enumD_get hd
          obtain ⟨v, hv, rv⟩ := h5.get hd0
          refine ⟨⟨ys, v, SqL.of h4, hv⟩, fun x H2 ⟨T, w, ex, hT, eH, y⟩ => ?_⟩
          have e3 := y ys (SqL.of h4)
          rw [hv] at e3; cases e3
          subst ex eH
          exact new_pair r hT (.int _) rv
        · exact h1.elim
    · exact h1.elim
end
end MV
namespace MV
open PySem PySem.Spec PyProof.Rows L2
section
variable {X : Cx} {W : WX} {st : Stmt} {e : Expr}
end
end MV
namespace MV
open PySem PySem.Spec PyProof.Rows L2
def wipeE (ρ : Ev) : List Nat → Ev
  | [] => ρ
  | v :: vs => (wipeE ρ vs).set v none
def mYes : MT := fun _ M Q _ => Q true M
def noX : XM := fun _ _ => False
def mLcL (guard : Mem → Prop) (T : Tg) (tt : MT) (me : ME) (ρ : Ev) (n : Nat) (Q : Mem → Prop) : List D → Mem → Prop
  | [], M => guard M ∧ Q M
  | d :: ds, M => guard M ∧ T.mg d ρ M fun ρ2 => tt ρ2 M (fun b M3 => if b = true then me ρ2 M3 (fun y M4 => match M4[n]? with
      | some (.lst acc) => acc.length < 16000000 ∧ mLcL guard T tt me ρ n Q ds (M4.set n (.lst (acc ++ [y])))
      | _ => False) noX else mLcL guard T tt me ρ n Q ds M3) noX
def mLc (mi : MI) (T : Tg) (tt : MT) (me : ME) (vs : List Nat) : ME := fun ρ M Q X => mi ρ M (fun items guard M1 => mLcL guard T tt me (wipeE ρ vs) M1.length (fun M2 => Q (.ref M1.length) M2) items (M1 ++ [.lst []])) X
abbrev W0 : WX := fun _ _ _ _ => False
section
variable {K : PySem.W.Frag} {as : List Addr} {H : Hp} {M : Mem}
theorem RelS.wipe {ρ : Ev} {σ : L2.St} (r : RelS K as H ρ σ) : ∀ vs : List Nat, RelS K as H (wipeE ρ vs) (L2.wipe σ vs)
  | [] => r
  | v :: vs => (RelS.wipe r vs).unset
theorem noX_ok {σ : L2.St} : ∀ x M', noX x M' → LX K as H (fun c d H => W0 c d σ H) x M' := fun _ _ h => h.elim
theorem lf_lc {W : WX} {mi : MI} {T : Tg} {tt : MT} {me : ME} {vs : List Nat} (hT : ∀ i ∈ T.slots, i ∈ vs) {σ : L2.St} {H : Hp} {Q : VK} (h : lf K W (mLc mi T tt me vs) σ H Q) : tLc (lfI K W mi) (T.rd K) (lfT K W0 tt) (lf K W0 me) vs σ H Q := by
  obtain ⟨as, M, ρ, Q', X', r, rs, h, hq, hx⟩ := h
  refine ⟨as, M, ρ, _, X', r, rs, h, fun items guard M1 as1 H1 J h1 e1 r1 ok D hD => ?_, hx⟩
  have rD : RepM K (as1 ++ [D]) (upd H1 D (.lst [])) (M1 ++ [.lst []]) := r1.new (o := .lst []) hD ⟨[], upd_same, .nil⟩
  have eD : Ext K as1 H1 (as1 ++ [D]) (upd H1 D (.lst [])) := (ext_new hD).trans ext_app
  have nD : (as1 ++ [D])[M1.length]? = some D := by rw [← r1.len]; exact app_at
  refine ⟨fun i m H' => ∃ as' M', Ext K (as1 ++ [D]) (upd H1 D (.lst [])) as' H' ∧ RepM K as' H' M' ∧ i + m = items.length ∧ mLcL guard T tt me (wipeE ρ vs) M1.length (fun M2 => Q' (.ref M1.length) M2) (items.drop i) M', ⟨items.length, _, _, .refl, rD, by simp, h1⟩, ?_⟩
  rintro i m H' ⟨as', M', e', r', hm, h'⟩
  have e2 := eD.trans e'
  have nD' := pre_get e'.pre nD
  by_cases hl : i < items.length
  · right
    rw [drop_cons hl] at h'
    obtain ⟨hgd, h'⟩ := h'
    obtain ⟨_, ok2⟩ := ok as' H' M' i e2 r' hgd
    obtain ⟨go, yld⟩ := ok2 _ (List.getElem?_eq_getElem hl)
    refine ⟨go, fun H2 => ∃ as2 M2, Ext K (as1 ++ [D]) (upd H1 D (.lst [])) as2 H2 ∧ RepM K as2 H2 M2 ∧ mLcL guard T tt me (wipeE ρ vs) M1.length (fun M2 => Q' (.ref M1.length) M2) (items.drop (i + 1)) M2, fun H2 ⟨as2, M2, a, b, c⟩ => ⟨m - 1, by omega, as2, M2, a, b, by omega, c⟩, fun x H2 y => ?_⟩
    obtain ⟨e3, r3, rx⟩ := yld x H2 y
    have e4 := e'.trans e3
    have rs3 : RelS K as' H2 (wipeE ρ vs) (L2.wipe σ vs) := (rs.up (e1.trans (e2.trans e3))).wipe vs
    refine T.keep hT (fun σ2 H2' ew q => ⟨?_, q⟩) (T.sim r3 rs3 rx h' fun ρ4 σ4 h4 rs4 => ?_)
    · rw [ew]
      have : ∀ (vs : List Nat) (τ : L2.St), L2.wipe (L2.wipe τ vs) vs = L2.wipe τ vs := fun vs τ => by
        apply List.ext_getElem?
        intro j
        by_cases hj : j ∈ vs
        · have key : ∀ (us : List Nat) (τ : L2.St), j ∈ us → (L2.wipe τ us)[j]? = (if j < τ.length then some none else none) := fun us τ hj => by
            induction us with
            | nil => cases hj
            | cons u us ih =>
              show ((L2.wipe τ us).set u none)[j]? = _
              by_cases hu : u = j
              · subst hu
                by_cases hl : u < τ.length
                · rw [List.getElem?_set_self (by rw [wipe_length]; exact hl), if_pos hl]
                · rw [List.getElem?_eq_none_iff.mpr (by rw [List.length_set, wipe_length]; omega), if_neg hl]
              · rw [List.getElem?_set_ne hu]
                exact ih (by rcases List.mem_cons.mp hj with z | z; exact absurd z.symm hu; exact z)
          rw [key vs _ hj, key vs _ hj, wipe_length]
        · rw [wipe_out hj]
      exact this vs σ
    · refine lfT_bind r3 rs4 h4 noX_ok fun b M3 as3 H3 h5 e5 r5 rs5 => ?_
      cases b with
      | true =>
        rw [if_pos rfl] at h5 ⊢
        refine lf_bind r5 rs5 h5 noX_ok fun dy M4 as4 H4 y h6 e6 r6 rs6 ry => ?_
        split at h6
        · rename_i acc ea
          have n4 := pre_get (e4.trans (e5.trans e6)).pre nD
          obtain ⟨ys, g1, g2⟩ := at_lst r6 n4 ea
          obtain ⟨e7, r7⟩ := put_lst r6 n4 g1 (g2.app (.cons ry .nil))
          exact ⟨ys, g1, by rw [← g2.len]; exact Nat.lt_of_lt_of_le h6.1 (by decide), as4, _, (e4.trans (e5.trans e6)).trans e7, r7, h6.2⟩
        · exact h6.elim
      | false =>
        rw [if_neg Bool.false_ne_true] at h5 ⊢
        exact ⟨as3, M3, e4.trans e5, r5, h5⟩
  · left
    have hi' : i = items.length := by omega
    rw [List.drop_eq_nil_of_le (by omega)] at h'
    exact ⟨(ok as' H' M' i e2 r' h'.1).1 hi', hq _ _ h'.2 as' H' _ (e1.trans e2) r' (.ref nD')⟩
end
section
variable {X : Cx} {W : WX} {elt tg iter : Expr} {ifs : List Expr} {scope : Scope} {own : List (Str × Nat)} {pos spos : Pos} {mi : MI} {T : Tg} {tt : MT} {me : ME}
abbrev QTs (X : Cx) (W : WX) (ifs : List Expr) (m : MT) : Prop := PTs X ifs (lfT X.K W m)
theorem qts_nil : QTs X W [] mYes := ⟨fun pins s σ H Q I ⟨as, M, ρ, Q', X', r, rs, h, hq, hx⟩ => pts_nil.run pins s σ H Q I (hq true M h as H .refl r)⟩
theorem qts_one {c : Expr} {m : MT} (h : QT X W c m) : QTs X W [c] m := pts_one h
theorem qe_lc (hc : X.calm = true) (hN : X.N.Nodup) (hi : QI X W tg iter mi) (ok : BlkOk X.N X.env.scope scope own)
    (hg : ∀ (s : Shared) (H : Hp) (C : Addr) (cl : List (Str × Addr)) (fp : List Addr), QG (X.blk s H scope (compEnvC scope cl C X.env) fp) tg T) (ht : ∀ (s : Shared) (H : Hp) (C : Addr) (cl : List (Str × Addr)) (fp : List Addr), QTs (X.blk s H scope (compEnvC scope cl C X.env) fp) W0 ifs tt)
    (he : ∀ (s : Shared) (H : Hp) (C : Addr) (cl : List (Str × Addr)) (fp : List Addr), QE (X.blk s H scope (compEnvC scope cl C X.env) fp) W0 elt me) (hT : ∀ i ∈ T.slots, i ∈ own.map (·.2)) (hs : ∀ x, foldedSetIterable iter X.env x = pure x := by intro _; rfl) :
    QE X W (.ListComp elt [⟨tg, iter, ifs, 0⟩] scope pos) (mLc mi T tt me (own.map (·.2))) := PEi (pe_lc (g := T.rd X.K) (tt := lfT X.K W0 tt) (te := lf X.K W0 me) hc hN hi ok hg ht he hs) fun σ H Q h => lf_lc hT h
theorem qs_setLc {i : Nat} {y : Str} {py : Pos} (hc : X.calm = true) (hN : X.N.Nodup) (hy : X.N[i]? = some y) (hyl : X.env.scope.names.lookup y = some .local)
    (hsw : swapsWith (.ListComp elt [⟨tg, iter, ifs, 0⟩] scope pos) (some (.Name y py)) spos.line X.env = pure true) (hi : QI X W tg iter mi) (ok : BlkOk X.N X.env.scope scope own)
    (hg : ∀ (s : Shared) (H : Hp) (C : Addr) (cl : List (Str × Addr)) (fp : List Addr), QG (X.blk s H scope (compEnvC scope cl C X.env) fp) tg T) (ht : ∀ (s : Shared) (H : Hp) (C : Addr) (cl : List (Str × Addr)) (fp : List Addr), QTs (X.blk s H scope (compEnvC scope cl C X.env) fp) W0 ifs tt)
    (he : ∀ (s : Shared) (H : Hp) (C : Addr) (cl : List (Str × Addr)) (fp : List Addr), QE (X.blk s H scope (compEnvC scope cl C X.env) fp) W0 elt me) (hT : ∀ i ∈ T.slots, i ∈ own.map (·.2)) (hs : ∀ x, foldedSetIterable iter X.env x = pure x := by intro _; rfl) :
    QS X W (.Assign [.Name y py] (.ListComp elt [⟨tg, iter, ifs, 0⟩] scope pos) spos) (mSet i (mLc mi T tt me (own.map (·.2)))) := PSi (ps_setLc (g := T.rd X.K) (tt := lfT X.K W0 tt) (te := lf X.K W0 me) hc hN hy hyl hsw hi ok hg ht he hs) fun D σ H ⟨as, M, ρ, E, r, rs, h, hE⟩ => by
  have h : mLc mi T tt me (own.map (·.2)) ρ M (fun d M1 => E.nx (ρ.set i (some d)) M1) (fun x M1 => E.ex x ρ M1) := h
  exact lf_lc hT (lf_bind (k := fun d M1 => E.nx (ρ.set i (some d)) M1) (X' := fun x M1 => E.ex x ρ M1) r rs h (exS hE rs) fun d M1 as1 H1 v h1 e1 r1 rs1 rv => hE.nx _ _ h1 as1 H1 _ e1 r1 (rs1.set rv))
end
/-- what is known of the classes by their names; fs: the names of fields and of methods that are asked -/
structure ClsN (K : PySem.W.Frag) (cs : List Str) (fs : List Str) : Prop where
  cls : ∀ c ∈ cs, Cls K (He.ga K c)
  no : ∀ c ∈ cs, ∀ f ∈ fs, NoAttr K (He.ga K c) f
def mFld (cs : List Str) (ma : ME) (f : Str) : ME := fun ρ M Q X => ma ρ M (fun x M1 => match x with
  | .ref n => match M1[n]? with
    | some (.ins c fs) => c ∈ cs ∧ match fs.lookup f with
      | some d => Q d M1
      | none => False
    | _ => False
  | _ => False) X
section
variable {K : PySem.W.Frag} {as : List Addr} {H : Hp} {M : Mem}
theorem KVR.look {l : List (Str × D)} {m : List (Str × V)} (h : KVR K as H l m) (f : Str) : (l.lookup f = none ∧ m.lookup f = none) ∨ ∃ d v, l.lookup f = some d ∧ m.lookup f = some v ∧ Rel K as H d v := by
  induction h with
  | nil => exact .inl ⟨rfl, rfl⟩
  | cons h t ih =>
    rename_i p q l m
    obtain ⟨h1, h2⟩ := h
    obtain ⟨p1, p2⟩ := p
    obtain ⟨q1, q2⟩ := q
    cases h1
    simp only [List.lookup_cons]
    cases e : (f == p1) with
    | true => exact .inr ⟨p2, q2, rfl, rfl, h2⟩
    | false => exact ih
end
section
variable {X : Cx} {W : WX} {o e value : Expr} {f : Str} {pos pos' apos cpos : Pos} {ma mv : ME} {cs : List Str} {all : List Str} {es : List Expr}
abbrev OM := D → List D → Mem → DK → Prop
def isT (T : String) (x : D) (M : Mem) : Prop := match x with
  | .str _ => T = "str"
  | .ref n => T = "list" ∧ match M[n]? with | some (.lst _) => True | _ => False
  | _ => False
def mBM (T : String) (r : OM) (mo : ME) (ma : MA) : ME := fun ρ M Q X => mo ρ M (fun x M1 => isT T x M1 ∧ ma ρ M1 (fun xs M2 => r x xs M2 Q) X) X
def SimM (K : PySem.W.Frag) (r : V → List V → Hp → VK → Prop) (o : OM) : Prop := ∀ (as : List Addr) (H : Hp) (M : Mem) (dx : D) (ds : List D) (x : V) (vs : List V) (k : DK) (Q : VK), RepM K as H M → Rel K as H dx x → RelL K as H ds vs → o dx ds M k → (∀ d M', k d M' → LQ K as H Q d M') → r x vs H Q
theorem isT_ok {K : PySem.W.Frag} {as : List Addr} {H : Hp} {M : Mem} {T : String} {d : D} {x : V} (rp : RepM K as H M) (rx : Rel K as H d x) (h : isT T d M) : tyV K T x H := by
  cases rx <;> first | exact h.elim | skip
  · exact h
  · rename_i n a hn
    obtain ⟨h1, h2⟩ := h
    split at h2
    · rename_i ds e
      obtain ⟨xs, g1, g2⟩ := at_lst rp hn e
      exact .inl ⟨h1, xs, SqL.of g1⟩
    · exact h2.elim
theorem qe_bm {T id : String} {name : Str} {r : V → List V → Hp → VK → Prop} {rm : OM} {mo : ME} {mar : MA} (pa : PlainAttrs T) (slot : Slot T name id) (hty : typeOf (.builtin id) = pure (.type "method_descriptor")) (hm : MtR X id r) (hs : SimM X.K r rm) (ho : QE X W o mo) (ha : QA X W (e :: es) mar)
    (hbase : attributeBase o name X.env (eval o X.env) = eval o X.env := by rfl)
    (hfew : ((backTo cpos (starEach (e :: es) X.env)).all (fun x => !x.1) && (backToKw cpos (keywordEach [] X.env)).all (fun x => x.1.isSome)
      && decide ((e :: es).length + ([] : List Keyword).length + (if ([] : List Keyword).isEmpty then 0 else 1) < 30)) = true := by rfl)
    (hline : (apos.endLine == cpos.line) = true := by rfl) (hst : starEach (e :: es) X.env = (false, eval e X.env) :: starEach es X.env := by rfl) (hplain : (backTo cpos (starEach es X.env)).any (·.1) = false := by rfl) :
    QE X W (.Call (.Attribute o name apos) (e :: es) [] cpos) (mBM T rm mo mar) := PEi (pe_bm pa slot hty hm ho ha hbase hfew hline hst hplain) fun σ H Q ⟨as, M, ρ, Q', X', r, rs, h, hq, hx⟩ => by
  refine lf_bind r rs h hx fun d M1 as1 H1 v h1 e1 r1 rs1 rv => ⟨isT_ok r1 rv h1.1, ?_⟩
  refine lfA_bind r1 rs1 h1.2 (fun x M' q => (hx x M' q).mono e1) fun ds M2 as2 H2 vs h2 e2 r2 rs2 rvs => ?_
  exact hs as2 H2 M2 d ds v vs Q' Q r2 (rv.up e2) rvs h2 fun d M' q => (hq d M' q).mono (e1.trans e2)
end
def omAppend : OM := fun x ds M Q => match x, ds with
  | .ref n, [d] => match M[n]? with
    | some (.lst l) => l.length < 16000000 ∧ Q .non (M.set n (.lst (l ++ [d])))
    | _ => False
  | _, _ => False
def omExtend : OM := fun x ds M Q => match x, ds with
  | .ref n, [.ref m] => match M[n]?, M[m]? with
    | some (.lst l), some (.lst k) => l.length + k.length ≤ 16000000 ∧ Q .non (M.set n (.lst (l ++ k)))
    | _, _ => False
  | _, _ => False
section
variable {K : PySem.W.Frag}
theorem sim_append : SimM K rAppend omAppend := fun as H M dx ds x vs k Q rp rx rv h hk => by
  unfold omAppend at h
  split at h
  · obtain ⟨v, rfl, r1⟩ := rv.one
    cases rx with
    | ref hn =>
      split at h
      · rename_i l e
        obtain ⟨xs, g1, g2⟩ := at_lst rp hn e
        obtain ⟨e7, r7⟩ := put_lst rp hn g1 (g2.app (.cons r1 .nil))
        exact ⟨_, xs, v, rfl, rfl, g1, by rw [← g2.len]; exact Nat.lt_of_lt_of_le h.1 (by decide), hk _ _ h.2 as _ _ e7 r7 .non⟩
      · exact h.elim
  · exact h.elim
theorem sim_extend : SimM K rExtend omExtend := fun as H M dx ds x vs k Q rp rx rv h hk => by
  unfold omExtend at h
  split at h
  · obtain ⟨v, rfl, r1⟩ := rv.one
    cases rx with
    | ref hn =>
      cases r1 with
      | ref hm =>
        split at h
        · rename_i l kk e1 e2
          obtain ⟨xs, g1, g2⟩ := at_lst rp hn e1
          obtain ⟨ys, g3, g4⟩ := at_lst rp hm e2
          obtain ⟨e7, r7⟩ := put_lst rp hn g1 (g2.app g4)
          exact ⟨_, _, xs, ys, rfl, rfl, g1, g3, by rw [← g2.len, ← g4.len]; exact Nat.le_trans h.1 (by decide), hk _ _ h.2 as _ _ e7 r7 .non⟩
        · exact h.elim
  · exact h.elim
end
inductive QJ (X : Cx) (W : WX) : List Expr → List ME → Prop where
  | nil : QJ X W [] []
  | cons {e : Expr} {m : ME} {es : List Expr} {ms : List ME} (h : QE X W e m) (r : QJ X W es ms) : QJ X W (e :: es) (m :: ms)
section
variable {X : Cx} {W : WX} {e : Expr} {me : ME} {pos : Pos}
end
end MV
namespace MV
open PySem PySem.Spec PyProof.Rows L2
abbrev WF := List D → Mem → DK → XM → Prop
/-- the promise: what the mirror says -/
def spM (K : PySem.W.Frag) (n : Nat) (w : WF) : Sp := fun vs H Q E => ∃ as M ds Q' X', vs.length = n ∧ RepM K as H M ∧ RelL K as H ds vs ∧ w ds M Q' X' ∧ (∀ d M', Q' d M' → LQ K as H Q d M') ∧ ∀ x M', X' x M' → LX K as H E x M'
/-- how a call of n positional values and keywords ks binds -/
structure DBn (K : PySem.W.Frag) (fd : FuncData) (ps : List Str) (n : Nat) (ks : List Str) (gD : List D → List D → List D) : Prop where
  ex : ∃ g gV, KBn K fd ps n ks g gV ∧ ∀ (as : List Addr) (H : Hp) (ds es : List D) (vs zs : List V), ds.length = n → es.length = ks.length → RelL K as H ds vs → RelL K as H es zs → RelL K as H (gD ds es) (gV vs zs)
structure Fn (P : Program) (w : World) (K : PySem.W.Frag) (mg : Str → Option Value) (base : Heap) (k : Nat) (f : Addr) (ps : List Str) (W : WF) (n : Nat) (ks : List Str) (gD : List D → List D → List D) : Prop where
  ok : ∃ fd, FnOk P w K mg base (CX P w) k f fd ps (spM K ps.length W) ∧ DBn K fd ps n ks gD
  kp : PySem.W.keepIn K (.ref f) = true
abbrev TA2 := L2.St → Hp → (List V → List V → Hp → Prop) → Prop
abbrev MA2 := Ev → Mem → (List D → List D → Mem → Prop) → XM → Prop
def PCW (X : Cx) (es : List Expr) (kws : List Keyword) (ks : List Str) (pos : Pos) (t : TA2) : Prop := ∀ (f : Value) (first : List Value) (pins : List (Addr × Obj)) (s : Shared) (σ : L2.St) (H : Hp) (R : List V → List V → Hp → Prop) (Qv : Value → Shared → Prop), Inv X pins σ H s → PySem.W.keepIn X.K f = true → t σ H R →
  (∀ us ws vs zs H2 s2, Inv X pins σ H2 s2 → Vals vs us → Vals zs ws → R vs zs H2 → wpAny (model X.prog X.w) X.A (call f (first ++ us) (ks.zip ws)) Qv X.xe s2) →
  wpAny (model X.prog X.w) X.A (callWith pos f first (backTo pos (starEach es X.env)) (backToKw pos (keywordEach kws X.env))) Qv X.xe s
def lfA2 (K : PySem.W.Frag) (W : WX) (m : MA2) : TA2 := fun σ H R => ∃ as M ρ k X', RepM K as H M ∧ RelS K as H ρ σ ∧ m ρ M k X' ∧ (∀ ds es M' as' H' vs zs, k ds es M' → Ext K as H as' H' → RepM K as' H' M' → RelL K as' H' ds vs → RelL K as' H' es zs → R vs zs H') ∧ ∀ x M', X' x M' → LX K as H (fun c d H => W c d σ H) x M'
abbrev QCW (X : Cx) (W : WX) (es : List Expr) (kws : List Keyword) (ks : List Str) (pos : Pos) (m : MA2) : Prop := PCW X es kws ks pos (lfA2 X.K W m)
def mArgs0 : MA2 := fun _ M k _ => k [] [] M
def mArgsP (ma : MA) : MA2 := fun ρ M k X => ma ρ M (fun ds M1 => k ds [] M1) X
def mArgsK (mk : MA) : MA2 := fun ρ M k X => mk ρ M (fun es M1 => k [] es M1) X
def mArgsPK (ma mk : MA) : MA2 := fun ρ M k X => ma ρ M (fun ds M1 => mk ρ M1 (fun es M2 => k ds es M2) X) X
section
variable {X : Cx} {W : WX} {e : Expr} {es : List Expr} {kws : List Keyword} {ks : List Str} {pos : Pos} {ma mk : MA} {me : ME}
theorem qcwP (ha : QA X W (e :: es) ma) (he : starEach (e :: es) X.env = (false, eval e X.env) :: starEach es X.env := by rfl) (hpl : (backTo pos (starEach es X.env)).any (·.1) = false := by rfl) : QCW X W (e :: es) [] [] pos (mArgsP ma) := fun f first pins s σ H R Qv I kp ⟨as, M, ρ, k, X', r, rs, h, hq, hx⟩ hk =>
  PySem.W.callWith_K (h₀ := X.base) I.ok.mod.kin kp (thn (ha.run pos pins s σ H (fun vs H' => R vs [] H') I ⟨as, M, ρ, _, X', r, rs, h, fun ds M' q as' H' vs e r' rv => hq ds [] M' as' H' vs [] q e r' rv .nil, hx⟩) fun us s1 ⟨vs, H1, I1, rv, q⟩ => ⟨I1.kIn, hk us [] vs [] H1 s1 I1 rv .nil q⟩) he hpl
end
def mCall (w : WF) (n m : Nat) (gD : List D → List D → List D) (ma : MA2) : ME := fun ρ M Q X => ma ρ M (fun ds es M1 => (ds.length = n ∧ es.length = m) ∧ w (gD ds es) M1 Q X) X
def mMeth (c : Str) (mn : Str) (w : WF) (n m : Nat) (gD : List D → List D → List D) (mo : ME) (ma : MA2) : ME := fun ρ M Q X => mo ρ M (fun x M1 => match x with
  | .ref a => match M1[a]? with
    | some (.ins c' fs) => (c' = c ∧ fs.lookup mn = none) ∧ ma ρ M1 (fun ds es M2 => ((x :: ds).length = n ∧ es.length = m) ∧ w (gD (x :: ds) es) M2 Q X) X
    | _ => False
  | _ => False) X
def mMake (c : Str) (w : WF) (n m : Nat) (gD : List D → List D → List D) (ma : MA2) : ME := fun ρ M Q X => ma ρ M (fun ds es M1 => (ds.length + 1 = n ∧ es.length = m) ∧ w (gD (.ref M1.length :: ds) es) (M1 ++ [.ins c []]) (fun v M2 => match v with | .non => Q (.ref M1.length) M2 | _ => False) X) X
section
variable {X : Cx} {W : WX} {x m : Str} {es : List Expr} {kws : List Keyword} {ks ps : List Str} {p pos apos : Pos} {ma : MA2} {k n : Nat} {w : WF} {gD : List D → List D → List D} {f C : Addr} {o : Expr} {mo : ME}
theorem run_fnU {fd : FuncData} {sp : Sp} {E : XK} {g : List Value → List Value → List Value} {gV : List V → List V → List V} {pins : List (Addr × Obj)} {σ : L2.St} {H : Hp} {s : Shared} {Q : VK} {us ws : List Value} {vs zs : List V} (F : FnOk X.prog X.w X.K X.mg X.base (CX X.prog X.w) k f fd ps sp) (hr : Room k X.A) (hb : KBn X.K fd ps n ks g gV) (hx : PassesAt (CX X.prog X.w) X σ E)
    (I : Inv X pins σ H s) (r : Vals vs us) (rz : Vals zs ws) (l1 : vs.length = n) (l2 : zs.length = ks.length) (h : sp (gV vs zs) H Q E) : wpAny (model X.prog X.w) X.A (call (.ref f) us (ks.zip ws)) (EP X pins σ Q) X.xe s := by
  have r2 := hb.rel r rz
  refine wpAny_call (codeAny_mono (F.run X.A X.stack s H ⟨us, ks.zip ws⟩ (g us ws) (gV vs zs) Q E hr I.env0 (hb.to s us ws I.kIn (r.length.symm.trans l1) (rz.length.symm.trans l2)) r2 h) fun r s' hq => ?_)
  cases r with
  | error e => exact hx pins H s e s' I hq
  | ok fl =>
    cases fl with
    | ret u => exact I.after hq
    | next => exact False.elim hq
    | brk => exact False.elim hq
    | cont => exact False.elim hq
/-- the mirror's word as the promise -/
theorem spM_of {K : PySem.W.Frag} {as : List Addr} {H : Hp} {M : Mem} {ds : List D} {vs : List V} {N : Nat} {Q : VK} {E : XK} {k : DK} {X' : XM} (r : RepM K as H M) (rv : RelL K as H ds vs) (hl : vs.length = N) (h : w ds M k X') (hq : ∀ d M', k d M' → LQ K as H Q d M') (hx : ∀ x M', X' x M' → LX K as H E x M') : spM K N w vs H Q E := ⟨as, M, ds, k, X', hl, r, rv, h, hq, hx⟩
/-- f(..) -/
theorem qe_call (F : Fn X.prog X.w X.K X.mg X.base k f ps w n ks gD) (hr : Room k X.A) (hg : Gl X x) (hm : X.mg x = some (.ref f)) (tk : Takes X W) (ha : QCW X W es kws ks pos ma) (hgl : ∀ (ds es : List D), ds.length = n → es.length = ks.length → (gD ds es).length = ps.length) (hdb : (x == ("__debug__" : Str)) = false := by decide) :
    QE X W (.Call (.Name x p) es kws pos) (mCall w n ks.length gD ma) := by
  obtain ⟨⟨fd, G, ⟨g, gV, hb, hrel⟩⟩, kp⟩ := F
  refine ⟨fun pins s σ H Q I ⟨as, M, ρ, Q', X', r, rs, h, hq, hx⟩ => ?_⟩
  refine wpAny_Call_Name_kw (ld_glob I hg hm ?_ hdb)
  refine ha (.ref f) [] pins s σ H (fun vs zs H1 => (vs.length = n ∧ zs.length = ks.length) ∧ spM X.K ps.length w (gV vs zs) H1 Q (WE W σ)) _ I kp ⟨as, M, ρ, _, X', r, rs, h, fun ds es M1 as1 H1 vs zs q e1 r1 rv rz => ?_, hx⟩ fun us ws vs zs H2 s2 I2 rv rz q => ?_
  · obtain ⟨⟨l1, l2⟩, q⟩ := q
    have rg := hrel as1 H1 ds es vs zs l1 l2 rv rz
    exact ⟨⟨by rw [← rv.len]; exact l1, by rw [← rz.len]; exact l2⟩, spM_of r1 rg (by rw [← rg.len]; exact hgl ds es l1 l2) q (fun d M' q => (hq d M' q).mono e1) fun x M' q => (hx x M' q).mono e1⟩
  · exact run_fnU G hr hb (passAt tk σ) I2 rv rz q.1.1 q.1.2 q.2
end
def startE (N : List Str) (ds : List D) : Ev := ds.map some ++ List.replicate (N.length - ds.length) none
theorem RelL.start {K : PySem.W.Frag} {as : List Addr} {H : Hp} {ds : List D} {vs : List V} (N : List Str) (r : RelL K as H ds vs) : RelS K as H (startE N ds) (L2.start N vs) := by
  refine ⟨by simp [startE, L2.start, r.len], fun i d h => ?_⟩
  unfold startE at h
  unfold L2.start
  by_cases hl : i < ds.length
  · rw [List.getElem?_append_left (by simpa using hl), List.getElem?_map] at h
    cases e : ds[i]? with
    | none => rw [e] at h; cases h
    | some d0 =>
      rw [e] at h
      simp at h
      subst h
      obtain ⟨v, e2, rv⟩ := r.get e
      exact ⟨v, by rw [List.getElem?_append_left (by simpa [← r.len] using hl), List.getElem?_map, e2]; rfl, rv⟩
  · rw [List.getElem?_append_right (by simpa using hl), List.getElem?_replicate] at h
    split at h <;> cases h
/-- the mirror of a def by its body -/
def wOf (N : List Str) (m : MS) : WF := fun ds M Q X => m ⟨fun _ M' => Q .non M', Q, fun _ _ => False, fun _ _ => False, fun x _ M' => X x M'⟩ (startE N ds) M
theorem body_ok {K : PySem.W.Frag} {N : List Str} {m : MS} {n : Nat} {vs : List V} {H : Hp} {Q : VK} {E : XK} (h : spM K n (wOf N m) vs H Q E) : lfS K (fun c d _ H => E c d H) m { nx := fun _ H' => Q .non H', rt := Q } (L2.start N vs) H := by
  obtain ⟨as, M, ds, Q', X', hl, r, rv, h, hq, hx⟩ := h
  refine ⟨as, M, startE N ds, _, r, rv.start N, h, ⟨fun ρ M' q as' H' σ e r' _ => hq _ _ q as' H' _ e r' .non, hq, fun _ _ q => q.elim, fun _ _ q => q.elim, fun x ρ M' q as' H' σ c d e r' _ rx => hx _ _ q as' H' c d e r' rx⟩⟩
theorem spM_len {K : PySem.W.Frag} {n : Nat} {w : WF} (vs : List V) (H : Hp) (Q : VK) (E : XK) (h : spM K n w vs H Q E) : vs.length = n := let ⟨_, _, _, _, _, hl, _⟩ := h; hl
/-- the def: from the derivation of its body -/
theorem fn_ok {P : Program} {w : World} {K : PySem.W.Frag} {mg : Str → Option Value} {base : Heap} {x qual : Str} {params : Arguments} {body : List Stmt} {scope : Scope} {dvs : List V} {kws : List (Str × V)} {f : Addr} {fd : FuncData} {N ps : List Str} {k : Nat} {m : MS}
    (F : FunD K x qual params body scope dvs kws f fd) (S : FnScope N ps scope)
    (hb : ∀ (cdv : Value) (A : Around) (outer : List Env) (s : Shared) (H : Hp) (E : XK), Room k (A.deeper (envOfC qual scope s.heap.objs.size f cdv)) → Takes (cxOf (CX P w) P w K mg base N qual scope f cdv A outer s H E) (fun c d _ H => E c d H) → PassesOwn (model P w) (A.deeper (envOfC qual scope s.heap.objs.size f cdv)) (envOfC qual scope s.heap.objs.size f cdv) (cxOf (CX P w) P w K mg base N qual scope f cdv A outer s H E).xe →
      QSs (cxOf (CX P w) P w K mg base N qual scope f cdv A outer s H E) (fun c d _ H => E c d H) body m) : FnOk P w K mg base (CX P w) (k + 1) f fd ps (spM K ps.length (wOf N m)) :=
  F.ok S spM_len fun cdv A outer s H vs Q E hr h => ⟨_, hb cdv A outer s H E hr (takes_of rfl rfl rfl rfl) (passes_of rfl), body_ok h⟩
end MV
namespace MV
open PySem PySem.Spec PyProof.Rows L2
/-- the test of a clause: the classes cs -/
def TyOk (X : Cx) (ty : Expr) (cs : List Value) : Prop := ∀ (a : Addr) (pn pins : List (Addr × Obj)) (s : Shared) (σ : L2.St) (H : Hp) (cls : Value) (b : Bool) (Q : Value → Shared → Prop) (E : Value → Shared → Prop), Inv (X.suite a pn) pins σ H s →
  PySem.W.Looks (model X.prog X.w) s.heap (typeOf (.ref a)) cls → PySem.W.exmAny X.K cls cs = some b →
  (∀ v h', (∀ c o, s.heap.get? c = some o → h'.get? c = some o) → PySem.W.Looks (model X.prog X.w) h' (excMatches (.ref a) v) b → Q v { s with heap := h' }) → wpAny (model X.prog X.w) (X.A.mark (some (.ref a))) (eval ty X.env) Q E s
/-- the context of such a suite; xe: what is wished of an exception that leaves it -/
abbrev suiteY (X : Cx) (a : Addr) (pn : List (Addr × Obj)) (xe : Value → Shared → Prop) : Cx := { X with A := X.A.mark (some (.ref a)), calm := false, pn := pn, xe := xe }
section
variable {X : Cx} {pins : List (Addr × Obj)} {σ : L2.St} {H : Hp} {s : Shared}
end
/-- a clause: its classes, the slot of its name, its suite -/
abbrev ClauseK := List Value × Option Nat × (Addr → Value → Option Addr → TS)
def wUn (oi : Option Nat) (W : WX) : WX := fun c d σ H => W c d (match oi with | none => σ | some i => σ.set i none) H
def SuiteOk (X : Cx) (W : WX) (sts : List Stmt) (ts : Addr → Value → Option Addr → TS) : Prop :=
  ∀ (a : Addr) (oe : Obj) (cls : Value) (d : Option Addr) (pn : List (Addr × Obj)) (xe : Value → Shared → Prop), Zc cls d oe → (∃ vs, oe.data = .fields vs) → HotK (suiteY X a ((a, oe) :: pn) xe) → Takes (suiteY X a ((a, oe) :: pn) xe) W → PSs (suiteY X a ((a, oe) :: pn) xe) sts (ts a cls d)
inductive HdK (X : Cx) (W : WX) : List ExceptHandler → List ClauseK → Prop
  | nil : HdK X W [] []
  | one {ty : Expr} {cs : List Value} {ts : Addr → Value → Option Addr → TS} {b₀ : Stmt} {suite : List Stmt} {pos' : Pos} {hds : List ExceptHandler} {l : List ClauseK} (hc : TyOk X ty cs) (hsu : SuiteOk X W (b₀ :: suite) ts) (r : HdK X W hds l) :
      HdK X W (.ExceptHandler (some ty) none (b₀ :: suite) pos' :: hds) ((cs, none, ts) :: l)
  | as_ {ty : Expr} {n : Str} {i : Nat} {cs : List Value} {ts : Addr → Value → Option Addr → TS} {b₀ : Stmt} {suite : List Stmt} {pos' : Pos} {hds : List ExceptHandler} {l : List ClauseK} (hc : TyOk X ty cs) (hN : X.N.Nodup) (hi : X.N[i]? = some n) (hln : X.env.kindOf n = some .local)
      (hsu : SuiteOk X (wUn (some i) W) (b₀ :: suite) ts) (r : HdK X W hds l) : HdK X W (.ExceptHandler (some ty) (some n) (b₀ :: suite) pos' :: hds) ((cs, some i, ts) :: l)
section
variable {X : Cx} {body : List Stmt} {h₀ : ExceptHandler} {hds : List ExceptHandler} {l : List ClauseK} {pos : Pos} {tb : WX → TS} {Wout : WX}
end
end MV
namespace MV
open PySem PySem.Spec PyProof.Rows L2
section
variable {X : Cx} {body : List Stmt} {h₀ : ExceptHandler} {hds : List ExceptHandler} {l : List ClauseK} {pos : Pos} {tb : WX → TS} {Wout : WX} {f₀ : Stmt} {fs : List Stmt} {tf : TS}
end
end MV
namespace MV
open PySem PySem.Spec PyProof.Rows L2
/-- a clause: the names of its classes, the slot of its name, its suite by the exception's addresses and class -/
structure MCl where
  cs : List Str
  i : Option Nat
  s : Addr → Addr → Str → MS
/-- sub x y: whether the class x is a subclass of y (of the program's exceptions) -/
def ndAs (i : Nat) (E : Nd) : Nd := ⟨fun ρ M => E.nx (ρ.set i none) M, E.rt, fun ρ M => E.bk (ρ.set i none) M, fun ρ M => E.ct (ρ.set i none) M, E.ex⟩
def mCatch (sub : Str → Str → Option Bool) (E : Nd) : List MCl → Exn → Ev → Mem → Prop
  | [], x, ρ, M => E.ex x ρ M
  | c :: r, x, ρ, M => (∀ y ∈ c.cs, (sub x.c y).isSome = true) ∧ if (c.cs.any fun y => sub x.c y == some true) = true then (∀ a dd, match c.i with
      | none => c.s a dd x.c ⟨E.nx, E.rt, E.bk, E.ct, E.ex⟩ ρ M
      | some i => c.s a dd x.c ⟨(ndAs i E).nx, E.rt, (ndAs i E).bk, (ndAs i E).ct, fun y ρ M => E.ex y (ρ.set i none) M⟩ (ρ.set i (some (.exn a dd x.c x.ns x.ds))) M) else mCatch sub E r x ρ M
def mTry (sub : Str → Str → Option Bool) (b : MS) (cl : List MCl) : MS := fun E ρ M => b ⟨E.nx, E.rt, E.bk, E.ct, mCatch sub E cl⟩ ρ M
/-- what the head tells of the exceptions -/
def XOk (K : PySem.W.Frag) (fl : List Str) (c : Str) : Prop := XfC K (He.ga K c) ∧ ∀ f ∈ fl, PySem.W.findIn K (.ref (He.ga K c)) f = some none
structure XcN (K : PySem.W.Frag) (sub : Str → Str → Option Bool) (fl : List Str) : Prop where
  exm : ∀ x y b, sub x y = some b → PySem.W.exmOne K (.ref (He.ga K x)) (.ref (He.ga K y)) = some b
  xf : ∀ x y b, sub x y = some b → XOk K fl x
def SuiteM (X : Cx) (W : WX) (fl : List Str) (sts : List Stmt) (s : Addr → Addr → Str → MS) : Prop :=
  ∀ (a : Addr) (oe : Obj) (cls : Value) (d : Option Addr) (pn : List (Addr × Obj)) (xe : Value → Shared → Prop) (dd : Addr) (c : Str), Zc cls d oe → (∃ vs, oe.data = .fields vs) → HotK (suiteY X a ((a, oe) :: pn) xe) → Takes (suiteY X a ((a, oe) :: pn) xe) W →
    cls = .ref (He.ga X.K c) → d = some dd → XOk X.K fl c → QSs (suiteY X a ((a, oe) :: pn) xe) W sts (s a dd c)
inductive HdM (X : Cx) (W : WX) (fl : List Str) : List ExceptHandler → List MCl → Prop
  | nil : HdM X W fl [] []
  | one {ty : Expr} {c0 : Str} {cs : List Str} {s : Addr → Addr → Str → MS} {b₀ : Stmt} {suite : List Stmt} {pos' : Pos} {hds : List ExceptHandler} {l : List MCl} (hc : TyOk X ty ((c0 :: cs).map fun y => .ref (He.ga X.K y)))
      (hsu : SuiteM X (wUn none W) fl (b₀ :: suite) s) (r : HdM X W fl hds l) : HdM X W fl (.ExceptHandler (some ty) none (b₀ :: suite) pos' :: hds) (⟨c0 :: cs, none, s⟩ :: l)
  | as_ {ty : Expr} {n : Str} {i : Nat} {c0 : Str} {cs : List Str} {s : Addr → Addr → Str → MS} {b₀ : Stmt} {suite : List Stmt} {pos' : Pos} {hds : List ExceptHandler} {l : List MCl} (hc : TyOk X ty ((c0 :: cs).map fun y => .ref (He.ga X.K y))) (hN : X.N.Nodup) (hi : X.N[i]? = some n) (hln : X.env.kindOf n = some .local)
      (hsu : SuiteM X (wUn (some i) W) fl (b₀ :: suite) s) (r : HdM X W fl hds l) : HdM X W fl (.ExceptHandler (some ty) (some n) (b₀ :: suite) pos' :: hds) (⟨c0 :: cs, some i, s⟩ :: l)
def clTs (K : PySem.W.Frag) (W : WX) (fl : List Str) (s : Addr → Addr → Str → MS) : Addr → Value → Option Addr → TS := fun a cls d D σ H => ∃ dd c, cls = .ref (He.ga K c) ∧ d = some dd ∧ XOk K fl c ∧ lfS K W (s a dd c) D σ H
section
variable {X : Cx} {W : WX} {body : List Stmt} {h₀ : ExceptHandler} {hds : List ExceptHandler} {cl : List MCl} {pos : Pos} {mb : MS} {sub : Str → Str → Option Bool} {fl : List Str}
theorem SuiteM.ok {s : Addr → Addr → Str → MS} {sts : List Stmt} (h : SuiteM X W fl sts s) : SuiteOk X W sts (clTs X.K W fl s) := fun a oe cls d pn xe hz hf hot tk => ⟨fun pins s' σ H D I ⟨dd, c, e1, e2, hx, q⟩ => (h a oe cls d pn xe dd c hz hf hot tk e1 e2 hx).run pins s' σ H D I q⟩
theorem HdM.ne (h : HdM X W fl hds cl) : ∀ m ∈ cl, m.cs ≠ [] := by
  induction h with
  | nil => intro m hm; cases hm
  | one hc hsu r ih =>
    intro m hm
    rcases List.mem_cons.mp hm with z | z
    · rw [z]; simp
    · exact ih m z
  | as_ hc hN hi hln hsu r ih =>
    intro m hm
    rcases List.mem_cons.mp hm with z | z
    · rw [z]; simp
    · exact ih m z
end
inductive Src where
  | arg (j : Nat)
  | word (s : Str)
def Src.v (ws : List V) : Src → V
  | .arg j => ws.getD j .non
  | .word s => .str s
def Src.d (ds : List D) : Src → D
  | .arg j => ds.getD j .non
  | .word s => .str s
def mRaise (x : Str) (n : Nat) (sp : List (Str × Src)) (ma : MA) : MS := fun E ρ M => ma ρ M (fun ds M1 => ds.length = n ∧ E.ex ⟨x, sp.map (·.1), sp.map fun p => p.2.d ds⟩ ρ M1) (fun y M1 => E.ex y ρ M1)
section
variable {X : Cx} {W : WX} {x : Str} {e : Expr} {es : List Expr} {ma : MA} {n k : Nat} {sp : List (Str × Src)} {fs ps : List Str} {p pos pos' : Pos}
end
theorem fn_law {P : Program} {w : World} {K : PySem.W.Frag} {mg : Str → Option Value} {base : Heap} {k : Nat} {f : Addr} {fd : FuncData} {ps : List Str} {sp : Sp} (F : FnOk P w K mg base (CX P w) k f fd ps sp) : FnOk P w K mg base CX0 k f fd ps (fun vs H Q _ => sp vs H Q E0) where
  len := fun vs H Q E h => F.len vs H Q E0 h
  run := fun A outer s H args us vs Q E hr e b r h => codeAny_mono (F.run A outer s H args us vs Q E0 hr e b r h) fun r s' q => by
    cases r with
    | error e => obtain ⟨_, _, _, _, _, _, _, _, _, _, _, _, z⟩ := q; exact z.elim
    | ok fl => cases fl <;> exact q
end MV
namespace MV
open PySem PySem.Spec PyProof.Rows L2
section
variable {X : Cx} {W : WX}
theorem qv (i : Nat) {x : Str} {pos : Pos} (hN : X.N[i]? = some x := by rfl) (hv : Vis X.env.scope x := by first | exact Or.inl rfl | exact Or.inr (Or.inl rfl) | exact Or.inr (Or.inr rfl)) (hd : (x == ("__debug__" : Str)) = false := by decide)
    (hcd : (x == ("__classdict__" : Str)) = false := by decide) : QE X W (.Name x pos) (mVar i) := qe_var hN hv hd hcd
theorem units65 {k : Nat} {A : Around} (r : Room k A) : A.units + 65 < cLine := by have := r.un; omega
theorem units1 {k : Nat} {A : Around} (r : Room k A) : A.units + 1 < cLine := by have := r.un; omega
end
theorem call_listA {X : Cx} (hc : X.calm = true) : CallR X (.type "list") (rListA X.K) := CallR_or call_list_of (call_list_dK hc)
/-- every parameter is given -/
theorem dbn_all {K : PySem.W.Frag} {fd : FuncData} {ps : List Str} (h : Binds K fd ps []) : DBn K fd ps ps.length [] (fun ds _ => ds) :=
  ⟨⟨fun us _ => us, fun vs _ => vs, ⟨fun s us ws X l1 _ => by
    have := h s us X (by simp [l1])
    simpa using this, fun r _ => r⟩, fun as H ds es vs zs _ _ r _ => r⟩⟩
end MV
namespace MV
open PySem PySem.Spec PyProof.Rows L2
def tyD (x : D) (M : Mem) : Option String := match x with
  | .non => some "NoneType"
  | .bl _ => some "bool"
  | .int _ => some "int"
  | .str _ => some "str"
  | .tup _ => some "tuple"
  | .ref n => match M[n]? with
    | some (.lst _) => some "list"
    | some (.dct false _) => some "dict"
    | _ => none
  | _ => none
/-- of the five types: is t a u? -/
def subTy (t u : String) : Bool := t == u || (t == "bool" && u == "int")
def oIsi : OA := fun xs M Q => match xs with
  | [x, .ty u] => match tyD x M with
    | some t => (["int", "str", "tuple", "list", "bool", "dict"].contains u = true) ∧ Q (.bl (subTy t u)) M
    | none => match x with
      | .ref n => match M[n]? with
        | some (.ins _ _) => False
        | _ => False
      | _ => False
  | _ => False
def mDict0 : ME := fun _ M Q _ => Q (.ref M.length) (M ++ [.dct false []])
section
variable {X : Cx} {W : WX} {pos : Pos}
def mPairs : List (ME × ME) → Ev → Mem → (List (D × D) → Mem → Prop) → XM → Prop
  | [], _, M, Q, _ => Q [] M
  | (mk, mv) :: r, ρ, M, Q, X => mk ρ M (fun x M1 => mv ρ M1 (fun y M2 => mPairs r ρ M2 (fun ps M3 => Q ((x, y) :: ps) M3) X) X) X
def keysOf : List (D × D) → Option (List (Key × D))
  | [] => some []
  | (k, v) :: r => match keyOf k, keysOf r with
    | some q, some l => some ((q, v) :: l)
    | _, _ => none
def mergeD (kvs more : List (Key × D)) : List (Key × D) := more.foldl (fun acc kv => dput acc kv.1 kv.2) kvs
def mDisp (trs : List (ME × ME)) : ME := fun ρ M Q X => mPairs trs ρ (M ++ [.dct false []]) (fun ps M2 => M2[M.length]? = some (.dct false []) ∧ ps.length ≤ 15 ∧ match keysOf ps with
  | some kvs => Q (.ref M.length) (M2.set M.length (.dct false (mergeD [] kvs)))
  | none => False) X
inductive QPs (X : Cx) (W : WX) (pos : Pos) : List (Option Expr) → List Expr → List (ME × ME) → Prop where
  | nil : QPs X W pos [] [] []
  | cons {k v : Expr} {ks : List (Option Expr)} {vs : List Expr} {mk mv : ME} {trs : List (ME × ME)} (hk : QE X W k mk) (hv : QE X W v mv) (hr : QPs X W pos ks vs trs) : QPs X W pos (some k :: ks) (v :: vs) ((mk, mv) :: trs)
theorem qps_nil : QPs X W pos [] [] [] := .nil
theorem qps_cons {k v : Expr} {ks : List (Option Expr)} {vs : List Expr} {mk mv : ME} {trs : List (ME × ME)} (hk : QE X W k mk) (hv : QE X W v mv) (hr : QPs X W pos ks vs trs) : QPs X W pos (some k :: ks) (v :: vs) ((mk, mv) :: trs) := .cons hk hv hr
theorem QPs.pps {ks : List (Option Expr)} {vs : List Expr} {trs : List (ME × ME)} (h : QPs X W pos ks vs trs) : PPs X pos ks vs (trs.map fun p => (lf X.K W p.1, lf X.K W p.2)) := by
  induction h with
  | nil => exact L2.pps_nil
  | cons hk hv hr ih => exact L2.pps_cons hk hv ih
def PR (K : PySem.W.Frag) (as : List Addr) (H : Hp) (l : List (D × D)) (m : List (V × V)) : Prop := Paired (fun p q => Rel K as H p.1 q.1 ∧ Rel K as H p.2 q.2) l m
theorem pairs_ok {K : PySem.W.Frag} {σ : L2.St} {ρ : Ev} {X' : XM} : ∀ (trs : List (ME × ME)) (as : List Addr) (H : Hp) (M : Mem) (k : List (D × D) → Mem → Prop) (Q : List (V × V) → Hp → Prop), RepM K as H M → RelS K as H ρ σ → mPairs trs ρ M k X' → (∀ x M', X' x M' → LX K as H (fun c d H => W c d σ H) x M') →
    (∀ ps M' as' H' qs, k ps M' → Ext K as H as' H' → RepM K as' H' M' → PR K as' H' ps qs → Q qs H') → tPairs (trs.map fun p => (lf K W p.1, lf K W p.2)) σ H Q
  | [], as, H, M, k, Q, r, rs, h, hx, hk => hk [] M as H [] h .refl r .nil
  | (mk, mv) :: trs, as, H, M, k, Q, r, rs, h, hx, hk => lf_bind r rs h hx fun dx M1 as1 H1 x h1 e1 r1 rs1 rx => lf_bind r1 rs1 h1 (fun x M' q => (hx x M' q).mono e1) fun dy M2 as2 H2 y h2 e2 r2 rs2 ry =>
    pairs_ok trs as2 H2 M2 _ _ r2 rs2 h2 (fun x M' q => (hx x M' q).mono (e1.trans e2)) fun ps M3 as3 H3 qs h3 e3 r3 rp => hk _ M3 as3 H3 _ h3 ((e1.trans e2).trans e3) r3 (.cons ⟨rx.up (e2.trans e3), ry.up e3⟩ rp)
theorem keysOf_ok {K : PySem.W.Frag} {as : List Addr} {H : Hp} : ∀ {ps : List (D × D)} {qs : List (V × V)} {kvs : List (Key × D)}, PR K as H ps qs → keysOf ps = some kvs → ∃ ks : List (Key × V), qs = ks.map (fun kv => (kV kv.1, kv.2)) ∧ KVR K as H kvs ks ∧ kvs.length = ps.length
  | _, _, _, .nil, e => by cases e; exact ⟨[], rfl, .nil, rfl⟩
  | _, _, _, .cons (a := p) (b := q) h t, e => by
    obtain ⟨p1, p2⟩ := p
    obtain ⟨q1, q2⟩ := q
    simp only [keysOf] at e
    split at e
    · rename_i k l ek el
      cases e
      obtain ⟨ks, e1, e2, e3⟩ := keysOf_ok t el
      have h1 := keyOf_ok h.1 ek
      exact ⟨(k, q2) :: ks, by rw [e1]; simp [← h1], .cons ⟨rfl, h.2⟩ e2, by simp [e3]⟩
    · cases e
theorem KVR.merge {K : PySem.W.Frag} {as : List Addr} {H : Hp} : ∀ {l : List (Key × D)} {m : List (Key × V)} {k0 : List (Key × D)} {k1 : List (Key × V)}, KVR K as H l m → KVR K as H k0 k1 → KVR K as H (mergeD k0 l) (mergeK k1 m) := by
  intro l m k0 k1 h
  unfold KVR at h
  induction h generalizing k0 k1 with
  | nil => intro h; exact h
  | cons h t ih =>
    rename_i p q l m
    intro h0
    show KVR K as H (mergeD (dput k0 p.1 p.2) l) (mergeK (putK k1 q.1 q.2) m)
    rw [h.1]
    exact ih (h0.put q.1 h.2)
theorem qe_disp {keys : List (Option Expr)} {values : List Expr} {trs : List (ME × ME)} (h : QPs X W pos keys values trs) (hall : keys.all (·.isSome) = true) (hl : keys.length = values.length) (h0 : keys ≠ []) (h15 : keys.length ≤ 15) : QE X W (.Dict keys values pos) (mDisp trs) :=
  PEi (pe_disp h.pps hall hl h0 h15) fun σ H Q ⟨as, M, ρ, Q', X', r, rs, h, hq, hx⟩ => fun p hp => by
    have rD : RepM X.K (as ++ [p]) (upd H p (.dK [])) (M ++ [.dct false []]) := r.new (o := .dct false []) hp ⟨[], .nil, upd_same⟩
    have eD : Ext X.K as H (as ++ [p]) (upd H p (.dK [])) := (ext_new hp).trans ext_app
    have nD : (as ++ [p])[M.length]? = some p := by rw [← r.len]; exact app_at
    refine pairs_ok trs _ _ _ _ _ rD (rs.up eD) h (fun x M' q => (hx x M' q).mono eD) fun ps M2 as2 H2 qs h2 e2 r2 rp => ?_
    obtain ⟨em, hl, h2⟩ := h2
    split at h2
    · rename_i kvs ek
      have n2 := pre_get e2.pre nD
      obtain ⟨k0, g1, g2⟩ := at_dK r2 n2 em
      cases g1
      obtain ⟨ks, e3, e4, e5⟩ := keysOf_ok rp ek
      refine ⟨g2, ks, e3, by rw [← e4.len]; omega, ?_⟩
      obtain ⟨e6, r6⟩ := put_dct r2 n2 g2 (e4.merge (k0 := []) (k1 := []) .nil)
      exact hq _ _ h2 as2 _ _ ((eD.trans e2).trans e6) r6 (.ref n2)
    · exact h2.elim
end
end MV
namespace MV
open PySem PySem.Spec PyProof.Rows L2
def pick {α : Type} (l : List α) (is : List Nat) : List α := is.filterMap (l[·]?)
theorem vals_pick {xs : List V} {us : List Value} (r : Vals xs us) : ∀ is : List Nat, Vals (pick xs is) (pick us is)
  | [] => .nil
  | i :: is => by
    have t := vals_pick r is
    unfold pick at t ⊢
    cases e : xs[i]? with
    | none => simpa [List.filterMap_cons, e, r.none_of e] using t
    | some x =>
      obtain ⟨u, eu, ru⟩ := r.get e
      simpa [List.filterMap_cons, e, eu] using Paired.cons ru t
theorem relL_pick {K : PySem.W.Frag} {as : List Addr} {H : Hp} {ds : List D} {vs : List V} (r : RelL K as H ds vs) : ∀ is : List Nat, RelL K as H (pick ds is) (pick vs is)
  | [] => .nil
  | i :: is => by
    have t := relL_pick r is
    unfold pick at t ⊢
    cases e : ds[i]? with
    | none =>
      have ev : vs[i]? = none := by
        have := r.len
        simp at e ⊢; omega
      simpa [List.filterMap_cons, e, ev] using t
    | some x =>
      obtain ⟨u, eu, ru⟩ := r.get e
      simpa [List.filterMap_cons, e, eu] using RelL.cons ru t
theorem vals_pick3 {is : List Nat} {vs mz zs : List V} {us mv ws : List Value} (a : Vals vs us) (b : Vals mz mv) (c : Vals zs ws) : Vals (pick (vs ++ mz ++ zs) is) (pick (us ++ mv ++ ws) is) := vals_pick ((a.append b).append c) is
theorem dbn_kw {K : PySem.W.Frag} {fd : FuncData} {ps ks : List Str} {n : Nat} {is : List Nat} {mv : List Value} {mz : List V} {md : List D} {gD : List D → List D → List D} (hb : KBn K fd ps n ks (fun us ws => pick (us ++ mv ++ ws) is) (fun vs zs => pick (vs ++ mz ++ zs) is))
    (hm : ∀ as H, RelL K as H md mz) (he : ∀ ds es : List D, ds.length = n → es.length = ks.length → gD ds es = pick (ds ++ md ++ es) is) : DBn K fd ps n ks gD :=
  ⟨⟨_, _, hb, fun as H ds es vs zs l1 l2 r1 r2 => by
    rw [he ds es l1 l2]
    exact relL_pick ((r1.app (hm as H)).app r2) is⟩⟩
mutual
/-- d stands in K as u -/
def datAt (K : PySem.W.Frag) : Nat → D → Value → Bool
  | _, .non, .none => true
  | _, .bl b, .bool c => b == c
  | _, .int i, .int j _ => i == j
  | _, .str x, .str y _ => x == y
  | k + 1, .tup ds, .ref a => match K.lookup a with
    | some ⟨.type "tuple", _, .seq its _, _⟩ => !hdS ds && decide (its.size ≤ sizeLine) && datL K k ds its.toList
    | _ => false
  | _, _, _ => false
def datL (K : PySem.W.Frag) : Nat → List D → List Value → Bool
  | _, [], [] => true
  | k, d :: ds, u :: us => datAt K k d u && datL K k ds us
  | _, _, _ => false
end
theorem datAt_v {K : PySem.W.Frag} : ∀ (k : Nat) (d : D) (u : Value), datAt K k d u = true → ∃ v, RelV v u ∧ ∀ as H, Rel K as H d v := by
  intro k
  induction k with
  | zero =>
    intro d u h
    unfold datAt at h
    split at h
    · exact ⟨.non, rfl, fun _ _ => .non⟩
    · exact ⟨.bl _, rfl, fun _ _ => by rw [eq_of_beq h]; exact .bl _⟩
    · exact ⟨.int _, ⟨_, rfl⟩, fun _ _ => by rw [eq_of_beq h]; exact .int _⟩
    · exact ⟨.str _, ⟨_, rfl⟩, fun _ _ => by rw [eq_of_beq h]; exact .str _⟩
    · cases ‹0 = _ + 1›
    · cases h
  | succ k ih =>
    have ihl : ∀ (ds : List D) (us : List Value), datL K k ds us = true → ∃ vs, Vals vs us ∧ ∀ as H, RelL K as H ds vs := by
      intro ds
      induction ds with
      | nil => intro us h; cases us with
        | nil => exact ⟨[], .nil, fun _ _ => .nil⟩
        | cons u us => simp [datL] at h
      | cons d ds ihd => intro us h; cases us with
        | nil => simp [datL] at h
        | cons u us =>
          simp only [datL, Bool.and_eq_true] at h
          obtain ⟨v, r1, r2⟩ := ih d u h.1
          obtain ⟨vs, q1, q2⟩ := ihd us h.2
          exact ⟨v :: vs, .cons r1 q1, fun as H => .cons (r2 as H) (q2 as H)⟩
    intro d u h
    unfold datAt at h
    split at h
    · exact ⟨.non, rfl, fun _ _ => .non⟩
    · exact ⟨.bl _, rfl, fun _ _ => by rw [eq_of_beq h]; exact .bl _⟩
    · exact ⟨.int _, ⟨_, rfl⟩, fun _ _ => by rw [eq_of_beq h]; exact .int _⟩
    · exact ⟨.str _, ⟨_, rfl⟩, fun _ _ => by rw [eq_of_beq h]; exact .str _⟩
    · rename_i k' ds a ek
      cases ek
      split at h
      · rename_i od its n osl e
        simp only [Bool.and_eq_true, decide_eq_true_eq] at h
        obtain ⟨vs, q1, q2⟩ := ihl ds _ h.2
        exact ⟨.ref a, rfl, fun as H => .tup ⟨.inr ⟨_, its, n, e, rfl, rfl, h.1.2, q1⟩, fun z => by rw [z] at h; exact absurd h.1.1 (by decide)⟩ (q2 as H)⟩
      · cases h
    · cases h
theorem datAt_ok {K : PySem.W.Frag} {d : D} {a : Addr} {as : List Addr} {H : Hp} (h : datAt K 20 d (.ref a) = true) : Rel K as H d (.ref a) := by
  obtain ⟨v, r, q⟩ := datAt_v 20 d _ h
  have e : v = .ref a := by
    have := r.abs
    simpa [absV] using this.symm
  rw [← e]; exact q as H
end MV
namespace MV
open PySem PySem.Spec PyProof.Rows L2
section
variable {K : PySem.W.Frag}
end
section
variable {X : Cx} {W : WX} {elt tg iter tg1 iter1 : Expr} {ifs ifs1 : List Expr} {scope : Scope} {own : List (Str × Nat)} {vs1 : List Nat} {pos spos : Pos} {mi mi1 : MI} {T T1 : Tg} {tt tt1 : MT} {me : ME}
end
end MV
namespace MV
open PySem PySem.Spec PyProof.Rows L2
section
variable {X : Cx} {W : WX} {c x : Str} {e : Expr} {es : List Expr} {p pos : Pos} {ma : MA} {k : Nat} {ps : List Str} {w : WF} {gD : List D → List D → List D} {f : Addr} {gV : List V → List V → List V}
theorem env_sub {A : Around} {pins : List (Addr × Obj)} {σ : L2.St} {H : Hp} {s : Shared} (I : Inv X pins σ H s) (fr : A.frames = X.A.frames) : Env0 X.prog X.w X.K X.mg X.base A X.stack s H := by
  have e := I.env0
  exact ⟨by rw [fr]; exact e.frames, e.mod, e.bs, e.bsz, e.funs, e.frf, e.hok, e.bare⟩
end
end MV
namespace MV
open PySem PySem.Spec PyProof.Rows L2
section
variable {K : PySem.W.Frag} {as : List Addr} {H : Hp} {M : Mem}
end
section
variable {X : Cx} {W : WX} {kx vx tg iter : Expr} {ifs : List Expr} {scope : Scope} {own : List (Str × Nat)} {pos spos : Pos} {mi : MI} {T : Tg} {tt : MT} {mk mv : ME}
end
end MV
namespace MV
open PySem PySem.Spec PyProof.Rows L2
end MV
namespace MV
open PySem PySem.Spec PyProof.Rows L2
section
variable {K : PySem.W.Frag}
end
end MV
namespace MV
open PySem PySem.Spec PyProof.Rows L2
end MV
namespace MV
open PySem PySem.Spec PyProof.Rows L2
section
variable {X : Cx}
end
end MV
namespace MV
open PySem PySem.Spec PyProof.Rows L2
section
variable {X : Cx}
end
section
variable {X : Cx} {W : WX} {kx vx tg iter : Expr} {ifs : List Expr} {scope : Scope} {own : List (Str × Nat)} {pos spos : Pos} {mi : MI} {T : Tg} {tt : MT} {mk mv : ME}
end
end MV
namespace MV
open PySem PySem.Spec PyProof.Rows L2
section
variable {X : Cx} {o : Expr} {f : Str} {pos : Pos}
end
section
variable {X : Cx} {W : WX} {e : Expr} {es : List Expr} {me : ME} {pos pos' : Pos} {cs all fns : List Str} {i : Nat} {k : Nat}
end
end MV
namespace MV
open PySem PySem.Spec PyProof.Rows L2
def bts : List String := ["NoneType", "bool", "int", "str", "tuple", "list", "dict"]
inductive TyK where
  | b (t : String)
  | c (d : Str)
def TyK.v (K : PySem.W.Frag) : TyK → Value
  | .b t => .type t
  | .c d => .ref (He.ga K d)
def TyK.ok (cs : List Str) : TyK → Prop
  | .b t => t ∈ bts
  | .c d => d ∈ cs
def TyK.is (c : Str) : TyK → Bool
  | .b _ => false
  | .c d => decide (d = c)
section
variable {X : Cx} {W : WX} {c : Str} {k : Nat} {ps : List Str} {w : WF} {gD : List D → List D → List D} {f : Addr} {gV : List V → List V → List V}
end
end MV
namespace MV
open PySem PySem.Spec PyProof.Rows L2
section
variable {X : Cx} {pins : List (Addr × Obj)} {σ : L2.St} {H : Hp} {s : Shared}
end
section
variable {X : Cx}
end
section
variable {P : Program} {w : World} {K : PySem.W.Frag} {d : Addr} {o : Obj} {es : Array DictEntry} {ep : Nat}
end
end MV
namespace MV
open PySem PySem.Spec PyProof.Rows L2
section
variable {K : PySem.W.Frag} {as : List Addr} {H : Hp} {M : Mem}
end
section
variable {X : Cx} {W : WX} {e : Expr} {me : ME} {pos : Pos}
end
section
variable {X : Cx} {W : WX}
end
section
variable {X : Cx} {W : WX} {e : Expr} {me : ME}
end
section
variable {K : PySem.W.Frag} {as : List Addr} {H : Hp} {M : Mem}
end
section
variable {X : Cx} {W : WX} {kx vx tg iter : Expr} {ifs : List Expr} {scope : Scope} {own : List (Str × Nat)} {pos spos : Pos} {mi : MI} {T : Tg} {tt : MT} {mk mv : ME}
end
section
variable {X : Cx}
end
section
variable {X : Cx} {W : WX} {kx vx tg iter : Expr} {ifs : List Expr} {scope : Scope} {own : List (Str × Nat)} {pos spos : Pos} {mi : MI} {T : Tg} {tt : MT} {mk mv : ME}
end
section
variable {X : Cx} {W : WX} {st : Stmt} {e : Expr}
end
end MV
namespace MV
open PySem PySem.Spec PyProof.Rows L2
end MV
namespace MV
open PySem PySem.Spec PyProof.Rows L2
section
variable {X : Cx} {W : WX} {e o1 i1 o2 i2 : Expr} {me mo1 mi1 mo2 mi2 : ME} {pos p0 p1 p2 : Pos} {k : Nat}
end
end MV
namespace MV
open PySem PySem.Spec PyProof.Rows L2
section
variable {prog : Program} {w : World} {A : Around} {E : Value → Shared → Prop} {s : Shared}
end
section
variable {X : Cx}
end
section
variable {X : Cx} {W : WX} {e : Expr} {me : ME} {pos : Pos}
end
end MV
namespace MV
open PySem PySem.Spec PyProof.Rows L2
theorem DpAll.len {K : PySem.W.Frag} {H : Hp} : ∀ {xs : List V} {ds : List PyData}, DpAll K H xs ds → xs.length = ds.length
  | _, _, .nil => rfl
  | _, _, .cons _ r => by simp only [List.length_cons, DpAll.len r]
end MV
namespace MV
open PySem PySem.Spec PyProof.Rows L2
end MV
namespace MV
open PySem PySem.Spec PyProof.Rows L2
section
variable {M : Model} {prog : Program} {w : World} {A : Around} {E : Value → Shared → Prop} {s : Shared} {K : PySem.W.Frag} {x C L f : Addr} {h₀ : Heap} {mm : Str → Option Value} {ox : Obj} {od : Option Obj} {b tb : Value}
end
structure OwnN (K : PySem.W.Frag) (c : Str) : Prop where
  ne : PySem.W.findIn K (.ref (He.ga K c)) "__ne__" = some (some (.builtin "object.__ne__"))
  mro : PySem.W.mroIn K (He.ga K c) (.type "object") = some true
section
variable {X : Cx} {W : WX} {c : Str} {k : Nat} {ps : List Str} {w : WF} {gD : List D → List D → List D} {f : Addr} {gV : List V → List V → List V}
end
end MV
namespace MV
open PySem PySem.Spec PyProof.Rows L2
structure FmtO (K : PySem.W.Frag) (c : Str) : Prop where
  fm : PySem.W.findIn K (.ref (He.ga K c)) "__format__" = some (some (.builtin "object.__format__"))
  mro : PySem.W.mroIn K (He.ga K c) (.type "object") = some true
section
variable {X : Cx} {W : WX} {c x : Str} {e : Expr} {es : List Expr} {p pos : Pos} {ma : MA} {me : ME} {k : Nat} {ps : List Str} {w : WF} {gD : List D → List D → List D} {f : Addr} {gV : List V → List V → List V}
end
end MV
namespace MV
open PySem PySem.Spec PyProof.Rows L2
end MV
namespace MV
open PySem PySem.Spec PyProof.Rows L2
section
variable {X : Cx} {W : WX} {e : Expr} {es : List Expr} {me : ME} {l : Tgs} {pos pos' p : Pos} {k n : Nat}
end
/-- the table at a: the texts and what stands there -/
structure TabK (K : PySem.W.Frag) (w : World) (a : Addr) (tab : List (Str × D)) : Prop where
  d : He.dicW K a = some (He.keysIn w.params (tab.map (·.1)))
  v : ∀ p ∈ tab, ∃ u, PySem.W.nsIn K a p.1 = some (some u) ∧ ∀ as H, ∃ v, Rel K as H p.2 v ∧ RelV v u
section
variable {X : Cx} {W : WX} {x : Str} {a : Addr} {tab : List (Str × D)} {e f : Expr} {mk md : ME} {p apos cpos : Pos}
inductive TabF (P : Program) (w : World) (K : PySem.W.Frag) (mg : Str → Option Value) (base : Heap) (k n : Nat) : List (Str × WF) → Prop
  | nil : TabF P w K mg base k n []
  | cons {x : Str} {ps : List Str} {W : WF} {j : Nat} {r : List (Str × WF)} (F : Fn P w K mg base j (He.ga K x) ps W n [] (fun ds _ => ds)) (hj : j ≤ k) (hl : ps.length = n) (h : TabF P w K mg base k n r) : TabF P w K mg base k n ((x, W) :: r)
theorem TabF.at_ {P : Program} {w : World} {K : PySem.W.Frag} {mg : Str → Option Value} {base : Heap} {k n : Nat} {t : List (Str × WF)} (h : TabF P w K mg base k n t) {x : Str} {W : WF} (e : t.lookup x = some W) : ∃ ps j, Fn P w K mg base j (He.ga K x) ps W n [] (fun ds _ => ds) ∧ j ≤ k ∧ ps.length = n := by
  induction h with
  | nil => cases e
  | @cons y ps V j r F hj hl h ih =>
    rw [List.lookup_cons] at e
    cases q : (x == y) with
    | true =>
      rw [q] at e
      cases e
      have : x = y := by simpa using q
      subst this
      exact ⟨ps, j, F, hj, hl⟩
    | false => rw [q] at e; exact ih e
end
abbrev AlF : Type := He.AlD × List (Option (List (Option (Str × Int)))) × Bool
def obsKF (fa : List He.Fa) (fn : List He.DefD) (ts : List (Str × List Str)) (ex : PySem.W.Frag → Bool) (K : PySem.W.Frag) : AlF := (He.obsD fa fn K, ts.map fun t => He.dicW K (He.ga K t.1), ex K)
structure SaysF (fa : List He.Fa) (fn : List He.DefD) (ts : List (Str × List Str)) (ex : PySem.W.Frag → Bool) (w : World) (K : PySem.W.Frag) : Prop where
  d : He.SaysD fa fn K
  tb : (ts.map fun t => He.dicW K (He.ga K t.1)) = ts.map fun t => some (He.keysIn w.params t.2)
  more : ex K = true
theorem SaysF.tab {fa : List He.Fa} {fn : List He.DefD} {ts : List (Str × List Str)} {ex : PySem.W.Frag → Bool} {w : World} {K : PySem.W.Frag} (c : SaysF fa fn ts ex w K) (i : Nat) {t : Str × List Str} (h : ts[i]? = some t := by rfl) : He.dicW K (He.ga K t.1) = some (He.keysIn w.params t.2) := by
  have e : (ts.map fun t => He.dicW K (He.ga K t.1))[i]? = (ts.map fun t => some (He.keysIn w.params t.2))[i]? := by rw [c.tb]
  rw [List.getElem?_map, List.getElem?_map, h] at e
  exact Option.some.inj e
def valF (fn : List He.DefD) (ts : List (Str × List Str)) (w : World) : AlF := (He.valD fn, ts.map fun (t : Str × List Str) => some (He.keysIn w.params t.2), true)
theorem saysF_of {fa : List He.Fa} {fn : List He.DefD} {ts : List (Str × List Str)} {ex : PySem.W.Frag → Bool} {w : World} {K : PySem.W.Frag} (e : obsKF fa fn ts ex K = valF fn ts w) : SaysF fa fn ts ex w K := by
  unfold obsKF valF at e
  obtain ⟨h1, h2⟩ := Prod.mk.inj e
  obtain ⟨h2, h3⟩ := Prod.mk.inj h2
  exact ⟨h1, h2, h3⟩
end MV
namespace MV
open PySem PySem.Spec PyProof.Rows L2
section
variable {M : Model} {A : Around} {E : Value → Shared → Prop} {env : Env} {outer l : List Env} {f C a : Addr} {B : Heap} {Z : Obj → Prop} {s : Shared}
end
section
variable {X : Cx} {W : WX} {pins q : List (Addr × Obj)} {σ : L2.St} {H H₃ : Hp} {s₃ s' : Shared} {scope : Scope} {cl : List (Str × Addr)} {fp : List Addr} {xe : Value → Shared → Prop}
end
section
variable {X : Cx} {W : WX} {wi : TI} {g : TG} {tt : TT} {te : WX → TE} {elt tg iter : Expr} {ifs : List Expr} {scope : Scope} {own : List (Str × Nat)} {pos pos' : Pos}
end
section
variable {K : PySem.W.Frag} {as : List Addr} {H : Hp} {M : Mem}
end
section
variable {X : Cx} {W : WX} {elt tg iter : Expr} {ifs : List Expr} {scope : Scope} {own : List (Str × Nat)} {pos spos : Pos}
variable {mi : MI} {T : Tg} {tt : MT} {me : ME}
end
end MV
namespace MV
open PySem PySem.Spec PyProof.Rows L2
section
variable {K : PySem.W.Frag}
end
end MV
namespace MV
open PySem PySem.Spec PyProof.Rows L2 PySem.Builtin PySem.Builtin.Str
section
variable {X : Cx} {o : Expr} {to ta : TE} {y z : Str} {j k l : Nat} {c0 c1 c2 apos pos p p' : Pos}
end
section
variable {X : Cx} {W : WX} {a o : Expr} {ma mo : ME} {y z : Str} {j k l n : Nat} {c0 c1 c2 c3 apos cpos rpos p pos : Pos} {op : CmpOp} {r : R2} {oc : OP} {i : Int} {B : List Stmt} {mb : MS}
end
end MV
namespace MV
open PySem PySem.Spec PyProof.Rows L2
section
variable {pg : Program} {wd : World} {Ar : Around} {Rz : Result → Shared → Prop} {y0 : Shared} {kx vx ta ia tb ib : Expr} {fa fb : List Expr} {sc : Scope} {po : Pos} {itr : Value} {D : Addr} {ev : Env}
end
section
variable {X : Cx}
end
section
variable {K : PySem.W.Frag}
end
section
variable {X : Cx} {W : WX} {kx vx tg iter tg1 iter1 : Expr} {ifs ifs1 : List Expr} {scope : Scope} {own : List (Str × Nat)} {vs1 : List Nat} {pos spos : Pos} {mi mi1 : MI} {T T1 : Tg} {tt tt1 : MT} {mk mv : ME}
end
end MV
namespace MV
open PySem PySem.Spec PyProof.Rows L2
end MV
namespace MV
open PySem PySem.Spec PyProof.Rows L2
section
variable {X : Cx} {W : WX} {tg : Expr} {e e2 e3 : Expr}
end
end MV
namespace MV
open PySem PySem.Spec PyProof.Rows L2
end MV
namespace MV
open PySem PySem.Spec PyProof.Rows L2
def ltP (a b c d : Int) : Bool := decide (a < c ∨ (a = c ∧ b < d))
def rCmpP (K : PySem.W.Frag) (f : Int → Int → Int → Int → Bool) : R2 := fun x y H Q => ∃ (p q : Addr) (i j k l : Int), x = .ref p ∧ y = .ref q ∧ SqT K H p [.int i, .int j] ∧ SqT K H q [.int k, .int l] ∧ Q (.bl (f i j k l)) H
theorem op_ltP {X : Cx} (hu : X.A.units + 64 < cLine) : OpR X (compareOp .Lt) (rCmpP X.K fun a b c d => ltP a b c d) := by
  intro pins s σ H x y v u Q I rx ry h
  obtain ⟨a, b, i, j, k, l, rfl, rfl, ha, hb, q⟩ := h
  cases rx
  cases ry
  obtain ⟨its, r1, p1, _⟩ := I.tuple ha
  obtain ⟨its2, r2, p2, _⟩ := I.tuple hb
  have i1 : IntsAre its [i, j] := Vals.ints (ns := [i, j]) r1
  have i2 : IntsAre its2 [k, l] := Vals.ints (ns := [k, l]) r2
  have e1 : its.toArray.size = 2 := by rw [List.size_toArray]; exact i1.length
  have e2 : its2.toArray.size = 2 := by rw [List.size_toArray]; exact i2.length
  have at1 : ∀ m (h1 : m < its.toArray.size), ∃ t, its.toArray[m] = .int ([i, j].getD m 0) t := fun m h1 => PyProof.Rows.IntsAre.int_at i1 _ _ (by simp at h1; simp [h1])
  have at2 : ∀ m (h1 : m < its2.toArray.size), ∃ t, its2.toArray[m] = .int ([k, l].getD m 0) t := fun m h1 => PyProof.Rows.IntsAre.int_at i2 _ _ (by simp at h1; simp [h1])
  have R := Ob.RcOp.tuples_lt (A := X.A) (s := s) (e := fun m => decide ([i, j].getD m 0 = [k, l].getD m 0)) (r := fun m => decide ([i, j].getD m 0 < [k, l].getD m 0)) p1 p2 (by omega) (fun m h1 h2 => by
    obtain ⟨t, et⟩ := at1 m h1
    obtain ⟨t', et'⟩ := at2 m h2
    rw [et, et']
    have z : ([i, j].getD m 0 == [k, l].getD m 0) = decide ([i, j].getD m 0 = [k, l].getD m 0) := by
      by_cases q : [i, j].getD m 0 = [k, l].getD m 0
      · rw [decide_eq_true q]; exact beq_iff_eq.mpr q
      · rw [decide_eq_false q]; exact beq_eq_false_iff_ne.mpr q
    rw [← z]
    exact SeqAt.EqAt.int_int _ _ _ _) (fun m h1 h2 _ => by
    obtain ⟨t, et⟩ := at1 m h1
    obtain ⟨t', et'⟩ := at2 m h2
    rw [et, et']
    exact Ob.RcOp.lt_int _ _ _ _)
  rw [e1, e2] at R
  have z : wpAny (model X.prog X.w) X.A (compareOp .Lt (.ref a) (.ref b)) (EP X pins σ Q) X.xe s := R X.prog X.w X.xe (EP X pins σ Q) ⟨.bl _, H, I, rfl, by
    have e : Ob.lexAt (fun m => decide ([i, j].getD m 0 = [k, l].getD m 0)) (fun m => decide ([i, j].getD m 0 < [k, l].getD m 0)) (decide (2 < 2)) 0 (min 2 2) = ltP i j k l := by
      unfold ltP
      simp only [show min 2 2 = 2 from rfl, Ob.lexAt, decide_eq_true_eq]
      by_cases q : i = k <;> by_cases q2 : j = l <;> simp [q, q2] <;> omega
    rw [e]; exact q⟩
  exact z
theorem op_gtP {X : Cx} (hu : X.A.units + 64 < cLine) : OpR X (compareOp .Gt) (rCmpP X.K fun a b c d => ltP c d a b) := by
  intro pins s σ H x y v u Q I rx ry h
  obtain ⟨a, b, i, j, k, l, rfl, rfl, ha, hb, q⟩ := h
  cases rx
  cases ry
  obtain ⟨its, r1, p1, _⟩ := I.tuple ha
  obtain ⟨its2, r2, p2, _⟩ := I.tuple hb
  have i1 : IntsAre its [i, j] := Vals.ints (ns := [i, j]) r1
  have i2 : IntsAre its2 [k, l] := Vals.ints (ns := [k, l]) r2
  have e1 : its.toArray.size = 2 := by rw [List.size_toArray]; exact i1.length
  have e2 : its2.toArray.size = 2 := by rw [List.size_toArray]; exact i2.length
  have at1 : ∀ m (h1 : m < its.toArray.size), ∃ t, its.toArray[m] = .int ([i, j].getD m 0) t := fun m h1 => PyProof.Rows.IntsAre.int_at i1 _ _ (by simp at h1; simp [h1])
  have at2 : ∀ m (h1 : m < its2.toArray.size), ∃ t, its2.toArray[m] = .int ([k, l].getD m 0) t := fun m h1 => PyProof.Rows.IntsAre.int_at i2 _ _ (by simp at h1; simp [h1])
  have R := Ob.RcOp.tuples_gt (A := X.A) (s := s) (e := fun m => decide ([i, j].getD m 0 = [k, l].getD m 0)) (r := fun m => decide ([k, l].getD m 0 < [i, j].getD m 0)) p1 p2 (by omega) (fun m h1 h2 => by
    obtain ⟨t, et⟩ := at1 m h1
    obtain ⟨t', et'⟩ := at2 m h2
    rw [et, et']
    have z : ([i, j].getD m 0 == [k, l].getD m 0) = decide ([i, j].getD m 0 = [k, l].getD m 0) := by
      by_cases q : [i, j].getD m 0 = [k, l].getD m 0
      · rw [decide_eq_true q]; exact beq_iff_eq.mpr q
      · rw [decide_eq_false q]; exact beq_eq_false_iff_ne.mpr q
    rw [← z]
    exact SeqAt.EqAt.int_int _ _ _ _) (fun m h1 h2 _ => by
    obtain ⟨t, et⟩ := at1 m h1
    obtain ⟨t', et'⟩ := at2 m h2
    rw [et, et']
    exact Ob.RcOp.gt_int _ _ _ _)
  rw [e1, e2] at R
  have z : wpAny (model X.prog X.w) X.A (compareOp .Gt (.ref a) (.ref b)) (EP X pins σ Q) X.xe s := R X.prog X.w X.xe (EP X pins σ Q) ⟨.bl _, H, I, rfl, by
    have e : Ob.lexAt (fun m => decide ([i, j].getD m 0 = [k, l].getD m 0)) (fun m => decide ([k, l].getD m 0 < [i, j].getD m 0)) (decide (2 > 2)) 0 (min 2 2) = ltP k l i j := by
      unfold ltP
      simp only [show min 2 2 = 2 from rfl, Ob.lexAt, decide_eq_true_eq]
      by_cases q : i = k <;> by_cases q2 : j = l <;> simp [q, q2] <;> omega
    rw [e]; exact q⟩
  exact z
def oLtP : OP := fun x y M Q => match x, y with
  | .tup [.int a, .int b], .tup [.int c, .int d] => Q (.bl (ltP a b c d)) M
  | _, _ => False
def oGtP : OP := fun x y M Q => match x, y with
  | .tup [.int a, .int b], .tup [.int c, .int d] => Q (.bl (ltP c d a b)) M
  | _, _ => False
theorem sim_ltP {K : PySem.W.Frag} : SimO K (rCmpP K fun a b c d => ltP a b c d) oLtP := fun as H M dx dy x y k Q rp rx ry h hk => by
  unfold oLtP at h
  split at h
  · cases rx with
    | tup h1 r1 => cases ry with
      | tup h2 r2 =>
        obtain ⟨_, _, rfl, a1, a2⟩ := r1.two
        obtain ⟨_, _, rfl, b1, b2⟩ := r2.two
        cases a1; cases a2; cases b1; cases b2
        exact ⟨_, _, _, _, _, _, rfl, rfl, h1.1, h2.1, hk _ _ h as H _ .refl rp (.bl _)⟩
  · exact h.elim
theorem sim_gtP {K : PySem.W.Frag} : SimO K (rCmpP K fun a b c d => ltP c d a b) oGtP := fun as H M dx dy x y k Q rp rx ry h hk => by
  unfold oGtP at h
  split at h
  · cases rx with
    | tup h1 r1 => cases ry with
      | tup h2 r2 =>
        obtain ⟨_, _, rfl, a1, a2⟩ := r1.two
        obtain ⟨_, _, rfl, b1, b2⟩ := r2.two
        cases a1; cases a2; cases b1; cases b2
        exact ⟨_, _, _, _, _, _, rfl, rfl, h1.1, h2.1, hk _ _ h as H _ .refl rp (.bl _)⟩
  · exact h.elim
theorem o_ltP {a b c d : Int} {M : Mem} {Q : DK} (h : Q (.bl (ltP a b c d)) M) : oLtP (.tup [.int a, .int b]) (.tup [.int c, .int d]) M Q := h
theorem o_gtP {a b c d : Int} {M : Mem} {Q : DK} (h : Q (.bl (ltP c d a b)) M) : oGtP (.tup [.int a, .int b]) (.tup [.int c, .int d]) M Q := h
end MV
namespace MV
open PySem PySem.Spec PyProof.Rows L2
section
variable {X : Cx} {W : WX} {e : Expr} {me : ME}
end
end MV
namespace MV
open PySem PySem.Spec PyProof.Rows L2
def refsIn (g : Addr → Option Obj) (n : Addr) : List Addr := match g n with
  | some ⟨_, _, .dict es _, _⟩ => es.toList.filterMap fun e => match e.val with | .ref a => some a | _ => none
  | _ => []
def codesIn (g : Addr → Option Obj) (l : List Addr) : List Addr := l.filterMap fun a => match g a with
  | some ⟨_, _, .func fd, _⟩ => (match fd.code with | .ref c => some c | _ => none)
  | _ => none
def asG (g : Addr → Option Obj) (n : Nat) : List Addr :=
  let m := refsIn g mainGlobals
  let cs := m.filterMap fun a => match g a with | some ⟨_, _, .cls cd, _⟩ => some cd.ns | _ => none
  let ms := cs.flatMap (refsIn g)
  mainGlobals :: (m ++ cs ++ ms ++ codesIn g m ++ codesIn g ms ++ DW.asE g n)
end MV
namespace MV
open PySem PySem.W PySem.Spec PyProof.Rows L2
def sm3 (_ _ : Nat) (u : Unit) : Sem Unit := .pure u
def g0H : PySem.Ctx := ⟨.builtin "a" ⟨[], []⟩, none, none, [], none⟩
def a0H : Around := { depth := g0H.code.weight, units := g0H.units }
theorem g0H_in : g0H.In a0H := ⟨rfl, by show frameCount [] + g0H.code.weight ≤ g0H.code.weight; rw [show frameCount [] = 0 from rfl, Nat.zero_add]; exact Nat.le_refl _, fun l h => (by cases h), fun g h => (by cases h), Nat.le_refl _⟩
def cmpH (M : Model) (_ _ : Nat) (C : Bool → Shared → Prop) (s : Shared) : Prop := wpAny M a0H (sm3 0 0 ()) (fun _ s' => C true s') (fun _ _ => False) s
def trH {α : Type} (o : Option α) (f : α → (α → KasT (Option α)) → KasT (Option α)) : KasT (Option α) := match o with
  | some s => f s fun b => .ask 0 0 fun _ => .ret (some b)
  | none => .ret none
def qoH {α : Type} (Q : α → Prop) (b : Option α) (_ : Shared) : Prop := ∃ a, b = some a ∧ Q a
/-- o comes to an a of which Q holds -/
def After {α : Type} (M : Model) (s : Shared) (o : Option α) (f : α → (α → KasT (Option α)) → KasT (Option α)) (Q : α → Prop) : Prop := KasT.kasWp (cmpH M) (trH o f) (qoH Q) s
section
variable {α : Type} {M : Model} {s : Shared} {o : Option α} {f : α → (α → KasT (Option α)) → KasT (Option α)} {Q : α → Prop}
theorem after_at {a : α} (h : Q a) : wpAny M a0H (sm3 0 0 ()) (fun _ s' => KasNext (cmpH M) (fun _ => KasT.ret (some a)) (qoH Q) true s') (fun _ _ => False) s := wpAny_pure ⟨a, rfl, h⟩
theorem after_of (hf : ∀ a k, f a k = k a) (h : After M s o f Q) : ∃ a, o = some a ∧ Q a := by
  cases o with
  | none =>
    obtain ⟨a, e, _⟩ := (show ∃ a, (none : Option α) = some a ∧ Q a from h)
    cases e
  | some a =>
    have h1 : KasT.kasWp (cmpH M) (f a fun b => .ask 0 0 fun _ => .ret (some b)) (qoH Q) s := h
    rw [hf] at h1
    have h2 : ∃ b, some a = some b ∧ Q b := h1 g0H default g0H_in
    obtain ⟨b, e, q⟩ := h2
    cases e
    exact ⟨a, rfl, q⟩
end
def frV {α : Type} (v : Value) (k : Value → α) : α := match v with
  | .ref a => HandSHeadRun.frNat a fun a => k (.ref a)
  | v => k v
theorem frV_eq {α : Type} (v : Value) (k : Value → α) : frV v k = k v := by
  cases v with
  | ref a => exact HandSHeadRun.frNat_eq a fun a => k (.ref a)
  | _ => rfl
def frVs {α : Type} (l : List Value) (k : List Value → α) : α := match l with
  | [] => k []
  | v :: r => frV v fun v => frVs r fun r => k (v :: r)
theorem frVs_eq {α : Type} : ∀ (l : List Value) (k : List Value → α), frVs l k = k l
  | [], _ => rfl
  | v :: r, k => by
    show frV v (fun v => frVs r fun r => k (v :: r)) = _
    rw [frV_eq, frVs_eq r]
def frEn {α : Type} (e : DictEntry) (k : DictEntry → α) : α := match e with
  | ⟨h, key, val⟩ => frV key fun key => frV val fun val => k ⟨h, key, val⟩
theorem frEn_eq {α : Type} (e : DictEntry) (k : DictEntry → α) : frEn e k = k e := by
  obtain ⟨h, key, val⟩ := e
  show frV key (fun key => frV val fun val => k ⟨h, key, val⟩) = _
  rw [frV_eq, frV_eq]
def frEs {α : Type} (l : List DictEntry) (k : List DictEntry → α) : α := match l with
  | [] => k []
  | v :: r => frEn v fun v => frEs r fun r => k (v :: r)
theorem frEs_eq {α : Type} : ∀ (l : List DictEntry) (k : List DictEntry → α), frEs l k = k l
  | [], _ => rfl
  | v :: r, k => by
    show frEn v (fun v => frEs r fun r => k (v :: r)) = _
    rw [frEn_eq, frEs_eq r]
def frD {α : Type} (d : Data) (k : Data → α) : α := match d with
  | .dict es n => HandSHeadRun.frNat n fun n => frEs es.toList fun l => k (.dict ⟨l⟩ n)
  | .func ⟨a1, a2, a3, a4, a5, a6, a7, a8, a9, a10, a11, a12, a13, a14, a15⟩ => HandSHeadRun.frNat a6 fun a6 => frV a8 fun a8 => frV a9 fun a9 => frV a10 fun a10 => frV a11 fun a11 => frV a13 fun a13 => frV a14 fun a14 => HandSHeadRun.frNat a15 fun a15 => k (.func ⟨a1, a2, a3, a4, a5, a6, a7, a8, a9, a10, a11, a12, a13, a14, a15⟩)
  | .cls ⟨a1, a2, a3, a4, a5, a6, a7, a8, a9, a10, a11⟩ => frVs a2 fun a2 => frVs a3 fun a3 => HandSHeadRun.frNat a4 fun a4 => frVs a8 fun a8 => k (.cls ⟨a1, a2, a3, a4, a5, a6, a7, a8, a9, a10, a11⟩)
  | .fields vs => frVs vs.toList fun l => k (.fields ⟨l⟩)
  | .seq vs n => HandSHeadRun.frNat n fun n => frVs vs.toList fun l => k (.seq ⟨l⟩ n)
  | d => k d
theorem frD_eq {α : Type} (d : Data) (k : Data → α) : frD d k = k d := by
  cases d with
  | dict es n =>
    show HandSHeadRun.frNat n (fun n => frEs es.toList fun l => k (.dict ⟨l⟩ n)) = _
    rw [HandSHeadRun.frNat_eq, frEs_eq]
  | func fd =>
    obtain ⟨a1, a2, a3, a4, a5, a6, a7, a8, a9, a10, a11, a12, a13, a14, a15⟩ := fd
    show HandSHeadRun.frNat a6 (fun a6 => frV a8 fun a8 => frV a9 fun a9 => frV a10 fun a10 => frV a11 fun a11 => frV a13 fun a13 => frV a14 fun a14 => HandSHeadRun.frNat a15 fun a15 => k (.func ⟨a1, a2, a3, a4, a5, a6, a7, a8, a9, a10, a11, a12, a13, a14, a15⟩)) = _
    rw [HandSHeadRun.frNat_eq, frV_eq, frV_eq, frV_eq, frV_eq, frV_eq, frV_eq, HandSHeadRun.frNat_eq]
  | cls cd =>
    obtain ⟨a1, a2, a3, a4, a5, a6, a7, a8, a9, a10, a11⟩ := cd
    show frVs a2 (fun a2 => frVs a3 fun a3 => HandSHeadRun.frNat a4 fun a4 => frVs a8 fun a8 => k (.cls ⟨a1, a2, a3, a4, a5, a6, a7, a8, a9, a10, a11⟩)) = _
    rw [frVs_eq, frVs_eq, HandSHeadRun.frNat_eq, frVs_eq]
  | fields vs =>
    show frVs vs.toList (fun l => k (.fields ⟨l⟩)) = _
    rw [frVs_eq]
  | seq vs n =>
    show HandSHeadRun.frNat n (fun n => frVs vs.toList fun l => k (.seq ⟨l⟩ n)) = _
    rw [HandSHeadRun.frNat_eq, frVs_eq]
  | _ => rfl
def frO {α : Type} (o : Obj) (k : Obj → α) : α := match o with
  | ⟨c, d, dt, sl⟩ => frV c fun c => frD dt fun dt => k ⟨c, d, dt, sl⟩
theorem frO_eq {α : Type} (o : Obj) (k : Obj → α) : frO o k = k o := by
  obtain ⟨c, d, dt, sl⟩ := o
  show frV c (fun c => frD dt fun dt => k ⟨c, d, dt, sl⟩) = _
  rw [frV_eq, frD_eq]
def frB {α : Type} (t : PySem.W.BT) (k : PySem.W.BT → α) : α := match t with
  | .nil => k .nil
  | .node v l r => frO v fun v => frB l fun l => frB r fun r => k (.node v l r)
theorem frB_eq {α : Type} : ∀ (t : PySem.W.BT) (k : PySem.W.BT → α), frB t k = k t
  | .nil, _ => rfl
  | .node v l r, k => by
    show frO v (fun v => frB l fun l => frB r fun r => k (.node v l r)) = _
    rw [frO_eq, frB_eq l, frB_eq r]
def frK {α : Type} (l : PySem.W.Frag) (k : PySem.W.Frag → α) : α := match l with
  | [] => k []
  | (a, o) :: r => HandSHeadRun.frNat a fun a => frO o fun o => frK r fun r => k ((a, o) :: r)
theorem frK_eq {α : Type} : ∀ (l : PySem.W.Frag) (k : PySem.W.Frag → α), frK l k = k l
  | [], _ => rfl
  | (a, o) :: r, k => by
    show HandSHeadRun.frNat a (fun a => frO o fun o => frK r fun r => k ((a, o) :: r)) = _
    rw [HandSHeadRun.frNat_eq, frO_eq, frK_eq r]
def frSh {α : Type} (s : SharedT) (k : SharedT → α) : α := match s with
  | ⟨T, n, life, gens, drawn, toks, os⟩ => HandSHeadRun.frNat n fun n => HandSHeadRun.frNat toks fun toks => frB T fun T => k ⟨T, n, life, gens, drawn, toks, os⟩
theorem frSh_eq {α : Type} (s : SharedT) (k : SharedT → α) : frSh s k = k s := by
  obtain ⟨T, n, life, gens, drawn, toks, os⟩ := s
  show HandSHeadRun.frNat n (fun n => HandSHeadRun.frNat toks fun toks => frB T fun T => k ⟨T, n, life, gens, drawn, toks, os⟩) = _
  rw [HandSHeadRun.frNat_eq, HandSHeadRun.frNat_eq, frB_eq]
def frTh {α : Type} (t : Thread) (k : Thread → α) : α := match t with
  | ⟨cur, code, pos, stack⟩ => k ⟨cur, code, pos, stack⟩
theorem frTh_eq {α : Type} (t : Thread) (k : Thread → α) : frTh t k = k t := rfl
abbrev StH := SharedT → Thread → Option (SharedT × Thread)
def goM (q : StH) (m0 : Nat) (an : Option Value) : Nat → SharedT → Thread → Option (SharedT × Thread)
  | 0, s, t => some (s, t)
  | m + 1, s, t => match through t, stepOk m0 an t with
    | false, true => (match q s t with
      | some y => HandSHeadRun.frS y.1 fun z => goM q m0 an m z y.2
      | none => none)
    | _, _ => none
theorem goM_goF {q : StH} {m0 : Nat} {an : Option Value} {k : Nat} {s1 : SharedT} {t1 : Thread} : ∀ {m : Nat} {s : SharedT} {t : Thread}, goM q m0 an m s t = some (s1, t1) → HandSHeadRun.goF q m0 an (m + k) s t = HandSHeadRun.goF q m0 an k s1 t1
  | 0, s, t, h => by
    cases h
    rw [Nat.zero_add]
  | m + 1, s, t, h => by
    rw [Nat.succ_add]
    unfold goM at h
    rw [HandSHeadRun.goF]
    cases e1 : through t with
    | true => rw [e1] at h; cases h
    | false =>
      cases e2 : stepOk m0 an t with
      | false => rw [e1, e2] at h; cases h
      | true =>
        rw [e1, e2] at h
        cases e3 : q s t with
        | none => rw [e3] at h; cases h
        | some y =>
          obtain ⟨a, b⟩ := y
          rw [e3] at h
          dsimp only at h ⊢
          rw [HandSHeadRun.frS_eq] at h ⊢
          exact goM_goF h
abbrev XH := Nat × SharedT × Thread
def frX {α : Type} (x : XH) (k : XH → α) : α := match x with
  | (n, s, t) => HandSHeadRun.frNat n fun n => frTh t fun t => frSh s fun s => k (n, s, t)
theorem frX_eq {α : Type} (x : XH) (k : XH → α) : frX x k = k x := by
  obtain ⟨n, s, t⟩ := x
  show HandSHeadRun.frNat n (fun n => frTh t fun t => frSh s fun s => k (n, s, t)) = _
  rw [HandSHeadRun.frNat_eq, frTh_eq, frSh_eq]
noncomputable def bootM (q : StH) (m : Nat) (p : Program) (w : World) (os : OsState) : Option XH := match HandSHeadRun.putAll (boot_heap w.params).objs.toList .nil 0 with
  | some y => HandSHeadRun.frNat y.2 fun m0 => (goM q m0 (HandSHeadRun.bootAnn w) m (HandSHeadRun.bootT w os (y.1, m0)) (topStub p)).map fun z => (m0, z)
  | none => none
noncomputable def contF (q : StH) (w : World) (m : Nat) (x : XH) : Option SharedT := HandSHeadRun.goF q x.1 (HandSHeadRun.bootAnn w) m x.2.1 x.2.2
theorem bootM_F {q : StH} {p : Program} {w : World} {os : OsState} {m k : Nat} {y : XH} (h : bootM q m p w os = some y) : HandSHeadRun.endF q (m + k) p w os = contF q w k y := by
  unfold bootM at h
  unfold HandSHeadRun.endF
  cases e : HandSHeadRun.putAll (boot_heap w.params).objs.toList .nil 0 with
  | none => rw [e] at h; cases h
  | some r =>
    obtain ⟨t, n⟩ := r
    rw [e] at h
    dsimp only at h ⊢
    rw [HandSHeadRun.frNat_eq] at h ⊢
    obtain ⟨z, e2, rfl⟩ := Option.map_eq_some_iff.mp h
    exact goM_goF e2
def sH : Shared := {}
def mH (p : Program) (w : World) : Model := PySem.model p w
/-- what an o comes to, worked out: found by the kernel in the goal, and laid down as a definition -/
def foundH {α : Type} {o : Option α} {f : α → (α → KasT (Option α)) → KasT (Option α)} (p : Program) (w : World) (hf : ∀ a k, f a k = k a) {x : α} (h : KasT.kasWp (cmpH (mH p w)) (trH o f) (qoH fun y => y = x) sH) : {x : α // o = some x} := ⟨x, by
  obtain ⟨a, e, q⟩ := after_of (M := mH p w) (s := sH) hf h
  rw [e, q]⟩
structure FactsK (fa : List He.Fa) (fn : List He.DefD) (ts : List (Str × List Str)) (ex : PySem.W.Frag → Bool) (w : World) (K : PySem.W.Frag) : Prop where
  a : (fa.all fun f => f.ok K) = true
  b : (fn.all fun d => d.ok K) = true
  c : (fn.map fun d => He.fnW K d.at_) = fn.map He.DefD.val
  d : (ts.map fun t => He.dicW K (He.ga K t.1)) = ts.map fun t => some (He.keysIn w.params t.2)
  e : ex K = true
theorem obsKF_of {fa : List He.Fa} {fn : List He.DefD} {ts : List (Str × List Str)} {ex : PySem.W.Frag → Bool} {w : World} {K : PySem.W.Frag} (h : FactsK fa fn ts ex w K) : obsKF fa fn ts ex K = valF fn ts w := by
  unfold obsKF valF He.obsD He.valD
  rw [h.a, h.b, h.c, h.d, h.e, Bool.true_and]
def kG (S : SharedT) : PySem.W.Frag := He.frG (HandSHeadRun.getT S) (asG (HandSHeadRun.getT S) 2048)
structure FactsS (R : PySem.W.OpenRow) (q : Program) (loose : List Str) (fa : List He.Fa) (fn : List He.DefD) (ts : List (Str × List Str)) (ex : PySem.W.Frag → Bool) (w : World) (S : SharedT) : Prop where
  a : HandSHeadRun.looksF R.prog (PySem.W.boot_heap w.params) S.abs = true
  b : HandSHeadRun.seenQ q loose (importedModules R.prog.main.body) (fun s => PySem.W.xlAt q [] s && PySem.W.recOk R.toRowW.records s) S.abs = PySem.W.openGood q loose
  c : frK (kG S) (fun K => ((fa.all fun f => f.ok K), ex K)) = (true, true)
  d : frK (kG S) (fun K => ((fn.all fun d => d.ok K), (fn.map fun d => He.fnW K d.at_))) = (true, fn.map He.DefD.val)
  e : frK (kG S) (fun K => ts.map fun t => He.dicW K (He.ga K t.1)) = ts.map fun t => some (He.keysIn w.params t.2)
end MV
namespace MV
open PySem PySem.Spec PyProof.Rows L2
section
variable {X : Cx} {W : WX} {o value : Expr} {f : Str} {pos tpos : Pos} {ma mv : ME} {cs : List Str} {all : List Str}
end
end MV
namespace MV
open PySem PySem.Spec PyProof.Rows L2
end MV
namespace MV
open PySem PySem.Spec PyProof.Rows L2
section
variable {P : Program} {w : World} {K : PySem.W.Frag} {mg : Str → Option Value} {base : Heap} {x qual : Str} {params : Arguments} {body : List Stmt} {scope : Scope} {dvs : List V} {kws : List (Str × V)} {f : Addr} {fd : FuncData} {N ps : List Str} {k : Nat} {m : MS}
end
section
variable {P : Program} {w : World} {K : PySem.W.Frag} {mg mb : Str → Option Value} {CX : CXT} {fa a : Addr} {x : Str} {sp : Sp} {s₁ : Shared} {vs : List Value} {ns : List Int}
end
end MV
namespace MV
open PySem PySem.Spec PyProof.Rows L2
section
variable {X : Cx} {W : WX} {e : Expr} {me : ME} {pos : Pos}
end
section
variable {X : Cx} {W : WX} {e : Expr} {me : ME} {pos : Pos}
end
end MV
namespace MV
open PySem PySem.Spec PyProof.Rows L2
structure FnOkG (P : Program) (w : World) (K : PySem.W.Frag) (mg : Str → Option Value) (base : Heap) (CX : CXT) (k : Nat) (f : Addr) (fd : FuncData) (ps : List Str) (sp : Sp) : Prop where
  len : ∀ vs H Q E, sp vs H Q E → vs.length = ps.length
  run : ∀ (A : Around) (outer : List Env) (s : Shared) (H : Hp) (args : Args) (us : List Value) (vs : List V) (Q : VK) (E : XK), A.guards = some [] → Room k A → Env0 P w K mg base A outer s H → BindsTo s fd args (ps.zip us) → Vals vs us → sp vs H Q E →
    codeAny (model P w) A (.call (.ref f) args) (CR CX outer P w H s Q E) s
structure FnG (P : Program) (w : World) (K : PySem.W.Frag) (mg : Str → Option Value) (base : Heap) (k : Nat) (f : Addr) (ps : List Str) (W : WF) (n : Nat) (ks : List Str) (gD : List D → List D → List D) : Prop where
  ok : ∃ fd, FnOkG P w K mg base (CX P w) k f fd ps (spM K ps.length W) ∧ DBn K fd ps n ks gD
  kp : PySem.W.keepIn K (.ref f) = true
section
variable {X : Cx} {W : WX} {c x : Str} {e : Expr} {es : List Expr} {p pos : Pos} {ma : MA} {me : ME} {k : Nat} {ps : List Str} {w : WF} {gD : List D → List D → List D} {f : Addr} {gV : List V → List V → List V}
end
end MV
namespace MV
open PySem PySem.Spec PyProof.Rows L2
section
variable {X : Cx} {W : WX} {a : Expr} {me : ME} {p p2 q pos : Pos}
end
end MV
namespace MV
open PySem PySem.Spec PyProof.Rows L2 NdefX LamX
/-- a lambda with parameters, called -/
theorem lam_run {CX : CXT} {P : Program} {w : World} {K : PySem.W.Frag} {mg : Str → Option Value} {base : Heap} {N ps fr : List Str} {F : NF} {f : Addr} {body : Expr} {k : Nat} {t : TE} {A : Around} {outer : List Env} {s : Shared} {H : Hp} {us : List Value} {vs : List V} {ws : List (Option V)} {Q : VK} {E : XK} {pm ctv : Value}
    (S : NScope N ps fr F.scope) (hb : bindArgs (PySem.W.kla_fn F.name F.qual F.params body F.scope F.cl pm (.ref F.c) ctv) ⟨us, []⟩ = pure (ps.zip us)) (hl : vs.length = ps.length) (hr : Room (k + 1) A) (e0 : Env0 P w K mg base A outer s H)
    (ho : s.heap.get? f = some (PySem.W.kla_obj F.name F.qual F.params body F.scope F.cl pm F.c ctv)) (hc : H F.c = some (CodeO F.c F.qual)) (C : CellsAt F.cl fr ws s.heap H) (r : Vals vs us)
    (hbody : Room k (A.deeper (envF F f s.heap.objs.size)) → PE (ncx CX P w K mg base N F f A outer s H E) body t) (hq : t (startF N vs ws) H Q) :
    codeAny (model P w) A (.call (.ref f) ⟨us, []⟩) (CR CX outer P w H s Q E) s := by
  have lim : s.heap.NoLimit := e0.mod.nolimit.keeps fun b o e => (e0.bs b o e).1
  refine PySem.W.kla_callFunE hr.depth ho rfl S.co S.gen rfl (codeO_at e0.hok hc) ?_
  rw [hb]
  refine wpAny_pure (wpAny_newFunctionEnv S.nocell (fun ⟨n, _⟩ hy => S.par n (List.of_mem_zip hy).1) (fun h₁ hns hsb => ⟨lim.fresh _ hsb, ?_⟩) S.kind)
  show codeAny _ _ (.expr body (envF F f s.heap.objs.size)) _ _
  have kp : ∀ b o, s.heap.get? b = some o → h₁.get? b = some o := fun b o e => hsb.extBut b o (Nat.ne_of_lt (Heap.lt_size e)) (Heap.get?_push_of_some _ e)
  have I : Inv (ncx CX P w K mg base N F f A outer s H E) [] (startF N vs ws) H { s with heap := h₁, toks := s.toks + (ps.zip us).length } := inv_startN S hr.hd e0 hl r C hns kp
  refine PySem.W.kla_codeExpr (wpAny_mono ((hbody (hr.deeper _)).run [] _ _ H Q I hq) (fun v s' hq => ?_) fun e s' hq => hq)
  obtain ⟨w', H', J', rv, q⟩ := hq
  exact ⟨w', H', J'.os, J'.bare, J'.base, J'.hok, rv, q⟩
/-- the place of the first least key -/
def bstK (kf : Nat → Int × Int) : Nat → Nat
  | 0 => 0
  | j + 1 => if ltP (kf (j + 1)).1 (kf (j + 1)).2 (kf (bstK kf j)).1 (kf (bstK kf j)).2 = true then j + 1 else bstK kf j
theorem bstK_le (kf : Nat → Int × Int) : ∀ j, bstK kf j ≤ j
  | 0 => Nat.le_refl _
  | j + 1 => by
    unfold bstK
    split
    · exact Nat.le_refl _
    · exact Nat.le_succ_of_le (bstK_le kf j)
section
variable {X : Cx} {pins : List (Addr × Obj)} {σ : L2.St} {H : Hp} {s : Shared}
theorem ltP_at {A : Around} {E : Value → Shared → Prop} {C : Value → Shared → Prop} {a b : Addr} {i j k l : Int} (hu : A.units < cLine) (I : Inv X pins σ H s) (ha : SqT X.K H a [.int i, .int j]) (hb : SqT X.K H b [.int k, .int l]) (q : C (.bool (ltP i j k l)) s) :
    wpAny (model X.prog X.w) A (richCompare .Lt (.ref a) (.ref b)) C E s := by
  obtain ⟨its, r1, p1, _⟩ := I.tuple ha
  obtain ⟨its2, r2, p2, _⟩ := I.tuple hb
  have i1 : IntsAre its [i, j] := Vals.ints (ns := [i, j]) r1
  have i2 : IntsAre its2 [k, l] := Vals.ints (ns := [k, l]) r2
  have e1 : its.toArray.size = 2 := by rw [List.size_toArray]; exact i1.length
  have e2 : its2.toArray.size = 2 := by rw [List.size_toArray]; exact i2.length
  have at1 : ∀ m (h1 : m < its.toArray.size), ∃ t, its.toArray[m] = .int ([i, j].getD m 0) t := fun m h1 => PyProof.Rows.IntsAre.int_at i1 _ _ (by simp at h1; simp [h1])
  have at2 : ∀ m (h1 : m < its2.toArray.size), ∃ t, its2.toArray[m] = .int ([k, l].getD m 0) t := fun m h1 => PyProof.Rows.IntsAre.int_at i2 _ _ (by simp at h1; simp [h1])
  have R := Ob.RcOp.tuples_lt (A := A) (s := s) (e := fun m => decide ([i, j].getD m 0 = [k, l].getD m 0)) (r := fun m => decide ([i, j].getD m 0 < [k, l].getD m 0)) p1 p2 hu (fun m h1 h2 => by
    obtain ⟨t, et⟩ := at1 m h1
    obtain ⟨t', et'⟩ := at2 m h2
    rw [et, et']
    have z : ([i, j].getD m 0 == [k, l].getD m 0) = decide ([i, j].getD m 0 = [k, l].getD m 0) := by
      by_cases q : [i, j].getD m 0 = [k, l].getD m 0
      · rw [decide_eq_true q]; exact beq_iff_eq.mpr q
      · rw [decide_eq_false q]; exact beq_eq_false_iff_ne.mpr q
    rw [← z]
    exact SeqAt.EqAt.int_int _ _ _ _) (fun m h1 h2 _ => by
    obtain ⟨t, et⟩ := at1 m h1
    obtain ⟨t', et'⟩ := at2 m h2
    rw [et, et']
    exact Ob.RcOp.lt_int _ _ _ _)
  rw [e1, e2] at R
  have e : Ob.lexAt (fun m => decide ([i, j].getD m 0 = [k, l].getD m 0)) (fun m => decide ([i, j].getD m 0 < [k, l].getD m 0)) (decide (2 < 2)) 0 (min 2 2) = ltP i j k l := by
    unfold ltP
    simp only [show min 2 2 = 2 from rfl, Ob.lexAt, decide_eq_true_eq]
    by_cases q : i = k <;> by_cases q2 : j = l <;> simp [q, q2] <;> omega
  rw [e] at R
  exact R X.prog X.w E C q
/-- what is the same for all heaps -/
structure OwnB (X : Cx) (pins : List (Addr × Obj)) (b : Addr) : Prop where
  L : b ≠ X.env.locals
  fs : b ∉ X.fs
  ab : b ∈ X.ex ∨ X.s_0.heap.objs.size ≤ b
  ce : ∀ x c, X.env.cells.lookup x = some c → c ≠ b
  pn : ∀ p ∈ X.pn ++ pins, p.1 ≠ b
theorem OwnB.new (I : Inv X pins σ H s) {b : Addr} (h : s.heap.objs.size ≤ b) : OwnB X pins b := by
  obtain ⟨_, h1, h2, h3, h4, h5⟩ := I.fpOk h (H' := H) (I.hok.fresh h)
  exact ⟨h1, h2, h3, h4, h5⟩
/-- the list, its iterator, the object that holds the best: what stands between two turns -/
structure MinI (X : Cx) (pins : List (Addr × Obj)) (σ : L2.St) (as : List Addr) (M : Mem) (n : Nat) (l Ia Sa : Addr) (j : Nat) (xb : V) (p q : Int) (vb kb : Value) (H : Hp) (s : Shared) : Prop where
  inv : ∃ oI c, Inv X (pins ++ [(Ia, oI), (Sa, seqObj "list" #[vb, kb] c)]) σ H s
  rep : RepM X.K as H M
  la : as[n]? = some l
  it : s.heap.IsListIter Ia l (j + 1)
  bv : RelV xb vb
  kv : ∃ y, Rel X.K as H (.tup [.int p, .int q]) y ∧ RelV y kb
abbrev KeyEnd (X : Cx) (σ : L2.St) (pins : List (Addr × Obj)) (as : List Addr) (M : Mem) (H : Hp) (p q : Int) : Value → Shared → Prop := fun u s' => ∃ as' H' y, Inv X pins σ H' s' ∧ Ext X.K as H as' H' ∧ RepM X.K as' H' M ∧ Rel X.K as' H' (.tup [.int p, .int q]) y ∧ RelV y u
theorem minK_loop {as0 : List Addr} {H0 : Hp} {M : Mem} {n : Nat} {l f Ia Sa : Addr} {ds : List D} {kf : Nat → Int × Int} {R : Result → Shared → Prop} (hh : X.A.handled = none) (hu : X.A.units + 64 < cLine) (hn : M[n]? = some (.lst ds)) (hl0 : as0[n]? = some l) (nI : l ≠ Ia) (nS : Sa ≠ Ia) (lS : l ≠ Sa)
    (oI : OwnB X pins Ia) (oS : OwnB X pins Sa)
    (turn : ∀ (i : Nat) (d : D) (x : V) (v : Value) (oi os : Addr × Obj) (as : List Addr) (H : Hp) (s : Shared), ds[i]? = some d → Inv X (pins ++ [oi, os]) σ H s → Ext X.K as0 H0 as H → RepM X.K as H M → Rel X.K as H d x → RelV x v →
      wpAny (model X.prog X.w) X.A.in1 (call (.ref f) [v]) (KeyEnd X σ (pins ++ [oi, os]) as M H (kf i).1 (kf i).2) (fun _ _ => False) s)
    (hR : ∀ d x v as H s', ds[bstK kf (ds.length - 1)]? = some d → Inv X pins σ H s' → Ext X.K as0 H0 as H → RepM X.K as H M → Rel X.K as H d x → RelV x v → R (.ok (.ret v)) s') :
    ∀ (r j : Nat) (as : List Addr) (H : Hp) (s : Shared) (xb : V) (db : D) (vb kb : Value), ds.length - (j + 1) = r → j + 1 ≤ ds.length → Ext X.K as0 H0 as H → MinI X pins σ as M n l Ia Sa j xb (kf (bstK kf j)).1 (kf (bstK kf j)).2 vb kb H s → ds[bstK kf j]? = some db → Rel X.K as H db xb →
      codeAny (model X.prog X.w) X.A (.builtin "min.loop" ⟨[.ref Ia, .ref f, .ref Sa], []⟩) R s := by
  have hname : (toString "min" ++ toString ".loop" : String) = "min.loop" := by decide
  intro r
  induction r with
  | zero =>
    intro j as H s xb db vb kb hr hj e0 J hb rb
    have hin : j + 1 = ds.length := by omega
    obtain ⟨oi, c, I⟩ := J.inv
    have pS := I.pin (Sa, seqObj "list" #[vb, kb] c) (by simp)
    have pI := I.pin (Ia, oi) (by simp)
    obtain ⟨a', ha, xs, h1, h2⟩ := J.rep.at_ hn
    rw [J.la] at ha; cases ha
    obtain ⟨its, rv, pl, _⟩ := I.list (SqL.of h1)
    have hsz : its.toArray.size = ds.length := by rw [List.size_toArray, ← rv.length, ← h2.len]
    have W := Walks.list (prog := X.prog) (w := X.w) (A := X.A.in1) hh Ia l nI its.toArray
    refine codeAny_builtin PySem.F.entry_min_loop ?_
    rw [Around.under_plainId PySem.F.plain_min_loop _]
    show wpAny _ X.A.in1 (seqItems? (.ref Sa) >>= _) _ _ _
    refine wpAny_bind (wpAny_seqItems pS.1 rfl ?_)
    show wpAny _ X.A.in1 (tryCatch (pyNext (.ref Ia)) _ >>= _) _ _ _
    refine wpAny_bind (wpAny_tryCatch (W.done _ _ _ ⟨by rw [hsz, ← hin]; exact J.it, pl.isList⟩ fun h' tk' hk' => ?_))
    have I0 : Inv X pins σ H s := I.pins_of fun p hp => I.pin p (by simp at hp ⊢; exact .inr (.inl hp))
    have I1 : Inv X pins σ H { s with heap := h', toks := tk' } := I0.turned (fun b o hb e => hk' b o (by simpa using hb) e) pI.2.1 oI.L oI.ab oI.ce oI.pn
    have hS' := hk' Sa _ (by simpa using nS) pS.1
    have s1 := Heap.SameBut.update h' Sa (Obj.mapSeq fun _ => (#[] : Array Value))
    show wpAny _ X.A.in1 (updateSeq Sa (fun _ => #[]) >>= _) _ _ _
    refine wpAny_bind ?_
    refine wpAny_updateSeq hS' rfl (wpAny_bind (wpAny_letGo (wpAny_pure ?_)))
    have I2 := I1.turned (t' := tk') (h' := h'.update Sa (Obj.mapSeq fun _ => #[])) (fun b o hb e => (s1.2 b hb).trans e) pS.2.1 oS.L oS.ab oS.ce oS.pn
    exact hR db xb vb as H _ (by rw [show ds.length - 1 = j by omega]; exact hb) I2 e0 J.rep rb J.bv
  | succ r ih =>
    intro j as H s xb db vb kb hr hj e0 J hb rb
    have hlt : j + 1 < ds.length := by omega
    obtain ⟨oi, c, I⟩ := J.inv
    have pS := I.pin (Sa, seqObj "list" #[vb, kb] c) (by simp)
    have pI := I.pin (Ia, oi) (by simp)
    obtain ⟨a', ha, xs, h1, h2⟩ := J.rep.at_ hn
    rw [J.la] at ha; cases ha
    obtain ⟨its, rv, pl, _⟩ := I.list (SqL.of h1)
    have hsz : its.toArray.size = ds.length := by rw [List.size_toArray, ← rv.length, ← h2.len]
    have W := Walks.list (prog := X.prog) (w := X.w) (A := X.A.in1) hh Ia l nI its.toArray
    refine codeAny_builtin PySem.F.entry_min_loop ?_
    rw [Around.under_plainId PySem.F.plain_min_loop _]
    show wpAny _ X.A.in1 (seqItems? (.ref Sa) >>= _) _ _ _
    refine wpAny_bind (wpAny_seqItems pS.1 rfl ?_)
    show wpAny _ X.A.in1 (tryCatch (pyNext (.ref Ia)) _ >>= _) _ _ _
    refine wpAny_bind (wpAny_tryCatch (W.item (j + 1) _ _ _ (by rw [hsz]; exact hlt) ⟨J.it, pl.isList⟩ fun v h' tk' hP hst' hk' => ?_))
    have hv : its[j + 1]? = some v := by simpa using hP
    obtain ⟨d, hd⟩ : ∃ d, ds[j + 1]? = some d := ⟨_, List.getElem?_eq_getElem hlt⟩
    obtain ⟨x, hx, rd⟩ := h2.get hd
    obtain ⟨v2, hv2, rx⟩ := rv.get hx
    rw [hv] at hv2; cases hv2
    obtain ⟨oi', hoI', hoc, hod⟩ := id hst'.1
    have I0 : Inv X (pins ++ [(Sa, seqObj "list" #[vb, kb] c)]) σ H s := I.pins_of fun p hp => I.pin p (by simp at hp ⊢; rcases hp with z | z <;> simp [z])
    have I1 : Inv X (pins ++ [(Sa, seqObj "list" #[vb, kb] c)]) σ H { s with heap := h', toks := tk' } := I0.turned (fun b o hb e => hk' b o (by simpa using hb) e) pI.2.1 oI.L oI.ab oI.ce (fun p hp => by
      rw [← List.append_assoc] at hp
      rcases List.mem_append.mp hp with z | z
      · exact oI.pn p z
      · rw [List.mem_singleton.mp z]; exact nS)
    have I2 : Inv X (pins ++ [(Ia, oi'), (Sa, seqObj "list" #[vb, kb] c)]) σ H { s with heap := h', toks := tk' } := I1.pins_of fun p hp => by
      rcases List.mem_append.mp hp with z | z
      · exact I1.pin p (by simp [z])
      · rcases List.mem_cons.mp z with rfl | z
        · exact ⟨hoI', pI.2.1, oI.L, oI.fs, fun v z => by rw [hod] at z; cases z⟩
        · exact I1.pin p (by simp at z; simp [z])
    show wpAny _ X.A.in1 (tryCatch (holding [v] (call (.ref f) [v])) _ >>= _) _ _ _
    refine wpAny_bind (wpAny_tryCatch (wpAny_holding (wpAny_mono (turn (j + 1) d x v _ _ as H _ hd I2 e0 J.rep rd rx) (fun u s'' he => ?_) fun _ _ hF => hF.elim)))
    obtain ⟨as2, H2, y, I3, e2, r2, ry, rku⟩ := he
    obtain ⟨yb, ryb, rkb⟩ := J.kv
    have ryb2 := ryb.up e2
    have e02 := e0.trans e2
    cases ry with
    | tup hy ly =>
    cases ryb2 with
    | tup hyb lyb =>
    obtain ⟨_, _, rfl, g1, g2⟩ := ly.two
    obtain ⟨_, _, rfl, g3, g4⟩ := lyb.two
    cases g1; cases g2; cases g3; cases g4
    rename_i ya yba
    obtain rfl : u = Value.ref ya := rku
    obtain rfl : kb = Value.ref yba := rkb
    have nS2 := I3.pin (Sa, seqObj "list" #[vb, .ref yba] c) (by simp)
    have nI2 := I3.pin (Ia, oi') (by simp)
    have hit2 : s''.heap.IsListIter Ia l (j + 1 + 1) := ⟨oi', nI2.1, hoc, hod⟩
    show wpAny _ X.A.in1 (tryCatch (holding [v, .ref ya] (richCompare .Lt (.ref ya) (.ref yba) >>= _)) _ >>= _) _ _ _
    refine wpAny_bind (wpAny_tryCatch (wpAny_holding (wpAny_bind (ltP_at (by show X.A.units + 1 < _; omega) I3 hy.1 hyb.1 ?_))))
    refine wpAny_bind (wpAny_holding (wpAny_truthy_bool ?_))
    refine wpAny_bind (wpAny_letGo (wpAny_pure ?_))
    have la2 : as2[n]? = some l := pre_get e2.pre J.la
    by_cases hb' : ltP (kf (j + 1)).1 (kf (j + 1)).2 (kf (bstK kf j)).1 (kf (bstK kf j)).2 = true
    · have eb : bstK kf (j + 1) = j + 1 := by
        show (if _ then _ else _) = _
        rw [if_pos hb']
      have s1 := Heap.SameBut.update s''.heap Sa (Obj.mapSeq fun _ => #[v, .ref ya])
      obtain ⟨c2, hc2⟩ : ∃ c2, (s''.heap.update Sa (Obj.mapSeq fun _ => #[v, .ref ya])).get? Sa = some (seqObj "list" #[v, .ref ya] c2) := ⟨_, get?_update_seq nS2.1 fun _ => #[v, .ref ya]⟩
      simp only [hb', if_true]
      refine wpAny_bind ?_
      refine wpAny_updateSeq nS2.1 rfl (wpAny_bind (wpAny_letGo ?_))
      rw [hname]
      have I4 : Inv X (pins ++ [(Ia, oi')]) σ H2 s'' := I3.pins_of fun p hp => I3.pin p (by simp at hp ⊢; rcases hp with z | z <;> simp [z])
      have I5 := I4.turned (t' := s''.toks) (h' := s''.heap.update Sa (Obj.mapSeq fun _ => #[v, .ref ya])) (fun b o hb e => (s1.2 b hb).trans e) nS2.2.1 oS.L oS.ab oS.ce (fun p hp => by
        rw [← List.append_assoc] at hp
        rcases List.mem_append.mp hp with z | z
        · exact oS.pn p z
        · rw [List.mem_singleton.mp z]; exact nS.symm)
      have I6 : Inv X (pins ++ [(Ia, oi'), (Sa, seqObj "list" #[v, .ref ya] c2)]) σ H2 { s'' with heap := s''.heap.update Sa (Obj.mapSeq fun _ => #[v, .ref ya]) } := I5.pins_of fun p hp => by
        rcases List.mem_append.mp hp with z | z
        · exact I5.pin p (by simp [z])
        · rcases List.mem_cons.mp z with rfl | z
          · exact I5.pin _ (by simp)
          · rw [List.mem_singleton.mp z]
            exact ⟨hc2, nS2.2.1, oS.L, oS.fs, fun v z => by cases z⟩
      refine wpAny_pure ⟨plainId_quiet PySem.F.plain_min_loop _, ih (j + 1) as2 H2 _ x d v (.ref ya) (by omega) hlt e02 ?_ (by rw [eb]; exact hd) (rd.up e2)⟩
      rw [eb]
      exact ⟨⟨oi', c2, I6⟩, r2, la2, ⟨oi', (s1.2 Ia nS.symm).trans nI2.1, hoc, hod⟩, rx, ⟨_, .tup hy (.cons (.int _) (.cons (.int _) .nil)), rfl⟩⟩
    · have eb : bstK kf (j + 1) = bstK kf j := by
        show (if _ then _ else _) = _
        rw [if_neg hb']
      simp only [hb', if_false]
      refine wpAny_bind (wpAny_letGo ?_)
      rw [hname]
      refine wpAny_pure ⟨plainId_quiet PySem.F.plain_min_loop _, ih (j + 1) as2 H2 _ xb db vb (.ref yba) (by omega) hlt e02 ?_ (by rw [eb]; exact hb) (rb.up e2)⟩
      rw [eb]
      exact ⟨⟨oi', c, I3⟩, r2, la2, hit2, J.bv, ⟨_, .tup hyb (.cons (.int _) (.cons (.int _) .nil)), rfl⟩⟩
end
end MV
namespace MV
open PySem PySem.Spec PyProof.Rows L2 NdefX LamX
section
variable {X : Cx} {pins : List (Addr × Obj)} {σ : L2.St} {H : Hp} {s : Shared}
/-- the whole call: first turn, then the loop -/
theorem minK_call {as : List Addr} {M : Mem} {n : Nat} {l f : Addr} {ds : List D} {kf : Nat → Int × Int} {Q E : Value → Shared → Prop} (hh : X.A.handled = none) (hu : X.A.units + 64 < cLine) (hn : M[n]? = some (.lst ds)) (hne : 0 < ds.length) (I : Inv X pins σ H s) (r : RepM X.K as H M) (la : as[n]? = some l)
    (turn : ∀ (i : Nat) (d : D) (x : V) (v : Value) (pins' : List (Addr × Obj)) (as' : List Addr) (H' : Hp) (s' : Shared), ds[i]? = some d → (∀ p ∈ pins, p ∈ pins') → Inv X pins' σ H' s' → Ext X.K as H as' H' → RepM X.K as' H' M → Rel X.K as' H' d x → RelV x v →
      wpAny (model X.prog X.w) X.A.in1 (call (.ref f) [v]) (KeyEnd X σ pins' as' M H' (kf i).1 (kf i).2) (fun _ _ => False) s')
    (hQ : ∀ d x v as' H' s', ds[bstK kf (ds.length - 1)]? = some d → Inv X pins σ H' s' → Ext X.K as H as' H' → RepM X.K as' H' M → Rel X.K as' H' d x → RelV x v → Q v s') :
    wpAny (model X.prog X.w) X.A (call (.builtin "min") [.ref l] [(Str.ofString "key", .ref f)]) Q E s := by
  have hname : (toString "min" ++ toString ".loop" : String) = "min.loop" := by decide
  obtain ⟨a', ha, xs, h1, h2⟩ := r.at_ hn
  rw [la] at ha; cases ha
  obtain ⟨its, rv, pl, _⟩ := I.list (SqL.of h1)
  have hsz : its.toArray.size = ds.length := by rw [List.size_toArray, ← rv.length, ← h2.len]
  have hll : l < s.heap.objs.size := pl.lt
  refine kmk_tree PySem.F.kind_min PySem.F.plain_min PySem.F.entry_min (kmk_min_key _ _) ?_
  show wpAny _ X.A.in1 (Builtin.Builtins.bindParams "min" ["key", "default"] 0 ⟨[], [(Str.ofString "key", .ref f)]⟩ >>= _) _ _ s
  refine wpAny_bind (wpAny_of_eq (show Builtin.Builtins.bindParams "min" ["key", "default"] 0 ⟨[], [(Str.ofString "key", .ref f)]⟩ = pure [some (.ref f), none] from rfl) ?_)
  refine wpAny_bind (wpAny_pure ?_)
  refine wpAny_bind (wpAny_pyIter_list pl.isList ?_)
  refine wpAny_bind (wpAny_newList ?_ (Nat.zero_le _))
  rw [hname]
  -- the iterator and the list of the best are laid
  generalize hIa : s.heap.objs.size = Ia
  rw [hIa] at hll
  have hk : ∀ b o, s.heap.get? b = some o → ((s.heap.push { cls := .type "list_iterator", data := .fields #[.ref l, .int 0 0] }).push (seqObj "list" #[] 0)).get? b = some o := fun b o e => Heap.get?_push_of_some _ (Heap.get?_push_of_some _ e)
  have gI : ((s.heap.push { cls := .type "list_iterator", data := .fields #[.ref l, .int 0 0] }).push (seqObj "list" #[] 0)).get? Ia = some { cls := .type "list_iterator", data := .fields #[.ref l, .int 0 0] } := Heap.get?_push_of_some _ (by rw [← hIa]; exact Heap.get?_push_size _ rfl)
  have hS : (s.heap.push { cls := .type "list_iterator", data := .fields #[.ref l, .int 0 0] }).objs.size = Ia + 1 := by rw [size_push', hIa]
  have gS : ((s.heap.push { cls := .type "list_iterator", data := .fields #[.ref l, .int 0 0] }).push (seqObj "list" #[] 0)).get? (Ia + 1) = some (seqObj "list" #[] 0) := by rw [← hS]; exact Heap.get?_push_size _ rfl
  have oI : OwnB X pins Ia := OwnB.new I (by omega)
  have oS : OwnB X pins (Ia + 1) := OwnB.new I (by omega)
  have nI : H Ia = none := I.hok.fresh (by omega)
  have nS : H (Ia + 1) = none := I.hok.fresh (by omega)
  rw [hS]
  refine wpAny_pure ⟨plainId_quiet PySem.F.plain_min_loop _, ?_⟩
  have I1 : Inv X pins σ H { s with heap := (s.heap.push { cls := .type "list_iterator", data := .fields #[.ref l, .int 0 0] }).push (seqObj "list" #[] 0) } := I.kept hk
  generalize (s.heap.push { cls := .type "list_iterator", data := .fields #[.ref l, .int 0 0] }).push (seqObj "list" #[] 0) = h1' at *
  have W := Walks.list (prog := X.prog) (w := X.w) (A := X.A.in1) hh Ia l (Nat.ne_of_lt hll) its.toArray
  refine codeAny_builtin PySem.F.entry_min_loop ?_
  rw [Around.under_plainId PySem.F.plain_min_loop _]
  show wpAny _ X.A.in1 (seqItems? (.ref (Ia + 1)) >>= _) _ _ _
  refine wpAny_bind (wpAny_seqItems gS rfl ?_)
  show wpAny _ X.A.in1 (tryCatch (pyNext (.ref Ia)) _ >>= _) _ _ _
  refine wpAny_bind (wpAny_tryCatch (W.item 0 _ _ _ (by rw [hsz]; exact hne) ⟨⟨_, gI, rfl, rfl⟩, (pl.keeps hk).isList⟩ fun v h' tk' hP hst' hk' => ?_))
  have hv : its[0]? = some v := by simpa using hP
  obtain ⟨d, hd⟩ : ∃ d, ds[0]? = some d := ⟨_, List.getElem?_eq_getElem hne⟩
  obtain ⟨x, hx, rd⟩ := h2.get hd
  obtain ⟨v2, hv2, rx⟩ := rv.get hx
  rw [hv] at hv2; cases hv2
  obtain ⟨oi', hoI', hoc, hod⟩ := id hst'.1
  have I2 : Inv X pins σ H { s with heap := h', toks := tk' } := I1.turned (fun b o hb e => hk' b o (by simpa using hb) e) nI oI.L oI.ab oI.ce oI.pn
  have gS2 := hk' (Ia + 1) _ (by simp) gS
  have I3 : Inv X (pins ++ [(Ia, oi'), (Ia + 1, seqObj "list" #[] 0)]) σ H { s with heap := h', toks := tk' } := I2.pins_of fun p hp => by
    rcases List.mem_append.mp hp with z | z
    · exact I2.pin p (by simp [z])
    · rcases List.mem_cons.mp z with rfl | z
      · exact ⟨hoI', nI, oI.L, oI.fs, fun v z => by rw [hod] at z; cases z⟩
      · rw [List.mem_singleton.mp z]
        exact ⟨gS2, nS, oS.L, oS.fs, fun v z => by cases z⟩
  show wpAny _ X.A.in1 (tryCatch (holding [v] (call (.ref f) [v])) _ >>= _) _ _ _
  refine wpAny_bind (wpAny_tryCatch (wpAny_holding (wpAny_mono (turn 0 d x v _ as H _ hd (fun p hp => by simp [hp]) I3 .refl r rd rx) (fun u s'' he => ?_) fun _ _ hF => hF.elim)))
  obtain ⟨as2, H2, y, I4, e2, r2, ry, rku⟩ := he
  have pS2 := I4.pin (Ia + 1, seqObj "list" #[] 0) (by simp)
  have pI2 := I4.pin (Ia, oi') (by simp)
  have s1 := Heap.SameBut.update s''.heap (Ia + 1) (Obj.mapSeq fun _ => #[v, u])
  obtain ⟨c2, hc2⟩ : ∃ c2, (s''.heap.update (Ia + 1) (Obj.mapSeq fun _ => #[v, u])).get? (Ia + 1) = some (seqObj "list" #[v, u] c2) := ⟨_, get?_update_seq pS2.1 fun _ => #[v, u]⟩
  show wpAny _ X.A.in1 (updateSeq (Ia + 1) (fun _ => #[v, u]) >>= _) _ _ _
  refine wpAny_bind ?_
  refine wpAny_updateSeq pS2.1 rfl ?_
  rw [hname]
  have I5 : Inv X (pins ++ [(Ia, oi')]) σ H2 s'' := I4.pins_of fun p hp => I4.pin p (by simp at hp ⊢; rcases hp with z | z <;> simp [z])
  have I6 := I5.turned (t' := s''.toks) (h' := s''.heap.update (Ia + 1) (Obj.mapSeq fun _ => #[v, u])) (fun b o hb e => (s1.2 b hb).trans e) pS2.2.1 oS.L oS.ab oS.ce (fun p hp => by
    rw [← List.append_assoc] at hp
    rcases List.mem_append.mp hp with z | z
    · exact oS.pn p z
    · rw [List.mem_singleton.mp z]; exact Nat.ne_of_lt (Nat.lt_succ_self _))
  have I7 : Inv X (pins ++ [(Ia, oi'), (Ia + 1, seqObj "list" #[v, u] c2)]) σ H2 { s'' with heap := s''.heap.update (Ia + 1) (Obj.mapSeq fun _ => #[v, u]) } := I6.pins_of fun p hp => by
    rcases List.mem_append.mp hp with z | z
    · exact I6.pin p (by simp [z])
    · rcases List.mem_cons.mp z with rfl | z
      · exact I6.pin _ (by simp)
      · rw [List.mem_singleton.mp z]
        exact ⟨hc2, pS2.2.1, oS.L, oS.fs, fun v z => by cases z⟩
  refine wpAny_pure ⟨plainId_quiet PySem.F.plain_min_loop _, minK_loop (as0 := as) (H0 := H) (ds := ds) (kf := kf) hh hu hn la (Nat.ne_of_lt hll) (Nat.ne_of_gt (Nat.lt_succ_self _)) (Nat.ne_of_lt (Nat.lt_succ_of_lt hll)) oI oS ?_ ?_ _ 0 as2 H2 _ x d v u rfl hne e2 ⟨⟨oi', c2, I7⟩, r2, pre_get e2.pre la, ⟨oi', (s1.2 Ia (Nat.ne_of_lt (Nat.lt_succ_self _))).trans pI2.1, hoc, hod⟩, rx, ⟨y, ry, rku⟩⟩ hd (rd.up e2)⟩
  · exact fun i d x v oI oS as' H' s' hd I' e' r' rd' rx' => turn i d x v _ as' H' s' hd (fun p hp => by simp [hp]) I' e' r' rd' rx'
  · exact fun d x v as' H' s' hd' I' e' r' rd' rx' => hQ d x v as' H' s' hd' I' e' r' rd' rx'
end
end MV
namespace MV
open PySem PySem.Spec PyProof.Rows L2 NdefX LamX
def tabsL (as : List Addr) (M : Mem) : List (Addr × Str) := (as.zip M).filterMap fun (p : Addr × MV.O) => match p.2 with | MV.O.tab _ q => some (p.1, q) | _ => none
section
variable {K : PySem.W.Frag} {as as' : List Addr} {H H' : Hp} {M : Mem}
theorem tabs_at {P : Addr} {q : Str} (h : (P, q) ∈ tabsL as M) : ∃ (i : Nat) (d : Str), as[i]? = some P ∧ M[i]? = some (.tab d q) := by
  obtain ⟨⟨a, o⟩, hm, e⟩ := List.mem_filterMap.mp h
  obtain ⟨i, hi⟩ := List.mem_iff_getElem?.mp hm
  obtain ⟨h1, h2⟩ := List.getElem?_zip_eq_some.mp hi
  cases o <;> first | (cases e; done) | skip
  cases e
  exact ⟨i, _, h1, h2⟩
theorem at_tabs {i : Nat} {P : Addr} {d q : Str} (h1 : as[i]? = some P) (h2 : M[i]? = some (.tab d q)) : (P, q) ∈ tabsL as M :=
  List.mem_filterMap.mpr ⟨(P, MV.O.tab d q), List.mem_of_getElem? (List.getElem?_zip_eq_some.mpr ⟨h1, h2⟩), rfl⟩
theorem RepM.tabs (r : RepM K as H M) : Tabs (tabsL as M) H := fun p hp => by
  obtain ⟨i, d, h1, h2⟩ := tabs_at (P := p.1) (q := p.2) hp
  exact (r.ob i _ _ h1 h2).2
theorem RepM.tabU (r : RepM K as H M) {i : Nat} {P : Addr} {d q : Str} (h1 : as[i]? = some P) (h2 : M[i]? = some (.tab d q)) : ∀ p ∈ tabsL as M, p.1 = P → p.2 = q := fun p hp e => by
  obtain ⟨j, d', g1, g2⟩ := tabs_at (P := p.1) (q := p.2) hp
  rw [e] at g1
  have ij : i = j := by
    obtain ⟨l1, e1⟩ := List.getElem?_eq_some_iff.mp h1
    obtain ⟨l2, e2⟩ := List.getElem?_eq_some_iff.mp g1
    exact (List.getElem_inj r.nd).mp (e1.trans e2.symm)
  rw [← ij, h2] at g2
  cases g2
  rfl
theorem ext_N (e : ExtN H H') : Ext K as H as H' :=
  ⟨List.prefix_refl _, fun a xs h => by
    rcases h with (h | ⟨o, h⟩) | h
    · exact .inl (.inl (e _ _ h fun _ z => nomatch z))
    · exact .inl (.inr ⟨o, e _ _ h fun _ z => nomatch z⟩)
    · exact .inr h, fun _ _ h => e _ _ h (fun _ z => nomatch z), fun _ _ _ h => e _ _ h (fun _ z => nomatch z), fun _ _ h => e _ _ h (fun _ z => nomatch z), fun _ _ h => e _ _ h (fun _ z => nomatch z)⟩
theorem RepM.extN (r : RepM K as H M) (e : ExtN H H') (t : Tabs (tabsL as M) H') : RepM K as H' M := by
  refine ⟨r.len, r.nd, fun n a o h1 h2 => ?_⟩
  have q := r.ob n a o h1 h2
  have x : Ext K as H as H' := ext_N e
  cases o with
  | lst ds => obtain ⟨xs, g1, g2⟩ := q; exact ⟨xs, e _ _ g1 (fun _ z => nomatch z), g2.up x⟩
  | frz ds => obtain ⟨ob, xs, g1, g2⟩ := q; exact ⟨ob, xs, e _ _ g1 (fun _ z => nomatch z), g2.up x⟩
  | dct lk kvs =>
    obtain ⟨ks, g1, g2⟩ := q
    refine ⟨ks, g1.up x, ?_⟩
    cases lk with
    | true => obtain ⟨ob, g2⟩ := g2; exact ⟨ob, e _ _ g2 (fun _ z => nomatch z)⟩
    | false => exact e _ _ g2 (fun _ z => nomatch z)
  | dtt lk kvs =>
    obtain ⟨ks, g1, g2⟩ := q
    refine ⟨ks, g1.up x, ?_⟩
    cases lk with
    | true => obtain ⟨ob, g2⟩ := g2; exact ⟨ob, e _ _ g2 (fun _ z => nomatch z)⟩
    | false => exact e _ _ g2 (fun _ z => nomatch z)
  | ins c fs => obtain ⟨dx, ys, g1, g2⟩ := q; exact ⟨dx, ys, e _ _ g1 (fun _ z => nomatch z), g2.up x⟩
  | tab d z => exact ⟨q.1, t _ (at_tabs h1 h2)⟩
end
/-- x = min(a, key=lambda ..): the lambda's words -/
def laE : Stmt → Expr
  | .Assign _ (.Call _ _ (kw :: _) _) _ => kw.value
  | _ => .Constant .none 0 ⟨0, 0, 0, 0⟩
def laArgs (s : Stmt) : Arguments := match laE s with
  | .Lambda a _ _ _ => a
  | _ => ⟨[], [], none, [], [], none, []⟩
def laBody (s : Stmt) : Expr := match laE s with
  | .Lambda _ b _ _ => b
  | _ => .Constant .none 0 ⟨0, 0, 0, 0⟩
def laScope (s : Stmt) : Scope := match laE s with
  | .Lambda _ _ sc _ => sc
  | _ => ⟨.function, [], false, false, []⟩
/-- what the names captured hold, in the mirror -/
def slotE (ρ : Ev) (j : Nat) : Option D := match ρ[j]? with
  | some o => o
  | none => none
theorem RelS.clo {K : PySem.W.Frag} {as : List Addr} {H : Hp} {ρ : Ev} {σ : L2.St} (rs : RelS K as H ρ σ) {js : List Nat} {ds ws : List D} {xs : List V} {N : List Str} (rv : RelL K as H ds xs) (hj : js.map (slotE ρ) = ws.map some) (hN : N.length = ds.length + js.length) :
    RelS K as H ((ds ++ ws).map some) (startF N xs (js.map (slotAt σ))) := by
  have hl : js.length = ws.length := by simpa using congrArg List.length hj
  have lx := rv.len
  refine ⟨by unfold startF; simp; omega, fun i d e => ?_⟩
  unfold startF
  by_cases h1 : i < ds.length
  · rw [List.map_append, List.getElem?_append_left (by simpa using h1), List.getElem?_map] at e
    obtain ⟨d0, hd, rfl⟩ : ∃ d0, ds[i]? = some d0 ∧ d0 = d := by
      cases q : ds[i]? with
      | none => rw [q] at e; cases e
      | some d0 => rw [q] at e; cases e; exact ⟨_, rfl, rfl⟩
    obtain ⟨v, hv, rd⟩ := rv.get hd
    exact ⟨v, by rw [List.getElem?_append_left (by rw [List.length_map]; omega), List.getElem?_map, hv]; rfl, rd⟩
  · rw [List.map_append, List.getElem?_append_right (by simpa using h1), List.length_map, ← hj, List.getElem?_map] at e
    cases ej : js[i - ds.length]? with
    | none => rw [ej] at e; cases e
    | some j =>
      rw [ej] at e
      have e2 : slotE ρ j = some d := Option.some.inj e
      have e3 : ρ[j]? = some (some d) := by
        unfold slotE at e2
        cases q : ρ[j]? with
        | none => rw [q] at e2; cases e2
        | some o => rw [q] at e2; rw [show o = some d from e2]
      obtain ⟨v, hv, rd⟩ := rs.2 j d e3
      have lj := (List.getElem?_eq_some_iff.mp ej).1
      refine ⟨v, ?_, rd⟩
      have l5 : (xs.map some).length = ds.length := by rw [List.length_map, lx]
      rw [List.getElem?_append_right (by rw [l5]; omega), l5, List.getElem?_append_left (by rw [List.length_map]; omega), List.getElem?_map, ej]
      exact congrArg some (slotAt_of hv)
/-- min(xs, key=lambda x: e): d, q the table of the def and the lambda's name; js where the captured names stand; me the mirror of e -/
def mMinKey (d q : Str) (js : List Nat) (me : ME) (ma : ME) : ME := fun ρ M Q X => ma ρ M (fun x M1 => ∃ (it n : Nat) (ds ws : List D) (kf : Nat → Int × Int), M1[it]? = some (.tab d q) ∧ x = .ref n ∧ M1[n]? = some (.lst ds) ∧ 0 < ds.length ∧ js.map (slotE ρ) = ws.map some ∧
  (∀ i d', ds[i]? = some d' → me (([d'] ++ ws).map some) M1 (fun r M' => M' = M1 ∧ r = .tup [.int (kf i).1, .int (kf i).2]) (fun _ _ => False)) ∧ ∀ d', ds[bstK kf (ds.length - 1)]? = some d' → Q d' M1) X
section
variable {X : Cx} {W : WX}
theorem qe_minKey {a : Expr} {params : Arguments} {body : Expr} {scope : Scope} {lpos kpos p pos : Pos} {d : Str} {x : Str} {js : List Nat} {fr : List Str} {N : List Str} {k : Nat} {me ma : ME} (hcd : X.env.code = .ref (He.codeOf X.K (d, none))) (TB : TabB X.base X.mg (He.codeOf X.K (d, none)) (tabAd X.K d)) (hr : Room (k + 2) X.A)
    (ha : QE X W a ma) (hg : Gl X "min") (hm : X.mg "min" = none) (hdef : defaultsOf params X.env = ([], [])) (hnd : ndefB X.env.scope scope fr = true) (hjs : js.map (fun j => X.N[j]?) = fr.map some) (hNl : N.length = 1 + js.length) (S : NScope N [x] fr scope)
    (hbind : ∀ (q : Str) (cl : List (Str × Addr)) (pm cv ctv u : Value), bindArgs (PySem.W.kla_fn "<lambda>" q params body scope cl pm cv ctv) ⟨[u], []⟩ = pure [(x, u)])
    (hbody : ∀ (F : NF) (f : Addr) (A : Around) (outer : List Env) (s : Shared) (H : Hp), F.scope = scope → F.qual = X.env.qual ++ "<lambda>" → Room k (A.deeper (envF F f s.heap.objs.size)) → Takes (ncx (CX X.prog X.w) X.prog X.w X.K X.mg X.base N F f A outer s H (fun _ _ _ => False)) (fun _ _ _ _ => False) →
      QE (ncx (CX X.prog X.w) X.prog X.w X.K X.mg X.base N F f A outer s H (fun _ _ _ => False)) (fun _ _ _ _ => False) body me)
    (he : backTo pos (starEach [a] X.env) = (false, eval a X.env) :: backTo pos (starEach [] X.env) := by rfl) (hpl : (backTo pos (starEach [a] X.env)).any (·.1) = false := by rfl) :
    QE X W (.Call (.Name "min" p) [a] [⟨some (Str.ofString "key"), .Lambda params body scope lpos, kpos⟩] pos) (mMinKey d (X.env.qual ++ "<lambda>") js me ma) := by
  refine ⟨fun pins s σ H Q I ⟨as, M, ρ, Q', X', r, rs, h, hq, hx⟩ => ?_⟩
  refine wpAny_Call_Name_kw (ld_blt I hg hm (by rfl) ?_ (by decide))
  have hkw : (backToKw pos (keywordEach [⟨some (Str.ofString "key"), .Lambda params body scope lpos, kpos⟩] X.env)).map (·.2) = [(do let v ← eval (.Lambda params body scope lpos) X.env; standAt pos; pure v)] := by rfl
  have hks : (backToKw pos (keywordEach [⟨some (Str.ofString "key"), .Lambda params body scope lpos, kpos⟩] X.env)).filterMap (·.1) = [Str.ofString "key"] := by rfl
  refine PyProof.Rows.callWith_kw ?_ he hpl (by rfl) (by rfl)
  rw [hkw, hks, he]
  refine Calls.spliced_cons (thn (ha.run pins s σ H (fun v H1 => ∃ as1 M1 d0, RepM X.K as1 H1 M1 ∧ RelS X.K as1 H1 ρ σ ∧ Ext X.K as H as1 H1 ∧ Rel X.K as1 H1 d0 v ∧ (∃ (it n : Nat) (ds ws : List D) (kf : Nat → Int × Int), M1[it]? = some (.tab d (X.env.qual ++ "<lambda>")) ∧ d0 = .ref n ∧ M1[n]? = some (.lst ds) ∧ 0 < ds.length ∧ js.map (slotE ρ) = ws.map some ∧
    (∀ i d', ds[i]? = some d' → me (([d'] ++ ws).map some) M1 (fun r M' => M' = M1 ∧ r = .tup [.int (kf i).1, .int (kf i).2]) (fun _ _ => False)) ∧ ∀ d', ds[bstK kf (ds.length - 1)]? = some d' → Q' d' M1)) I (lf_bind r rs h hx fun dx M1 as1 H1 v h1 e1 r1 rs1 rx => ⟨as1, M1, dx, r1, rs1, e1, rx, h1⟩)) fun u s1 ⟨v, H1, I1, rv, as1, M1, d0, r1, rs1, e1, rd, it, n, ds, ws, kf, hit, ed, hn, hne, hws, hk, hfin⟩ => ?_)
  subst ed
  cases rd with
  | ref hla =>
  rename_i l
  obtain rfl : u = Value.ref l := rv
  refine Calls.spliced_nil ?_
  obtain ⟨P, hP, eP, tP⟩ := r1.at_ hit
  rw [← eP] at TB
  refine wpAny_evalAll_cons (wpAny_bind (lam_make2 I1 TB hcd (at_tabs hP hit) (r1.tabU hP hit) r1.tabs hdef (fun y hy e => (ndef_free hnd y hy e).elim (fun z => I1.ok.has _ (.inl z)) fun z => I1.ok.has _ (.inr z)) fun f c' pm ctv H2 s2 I2 eN T2 hf hfn hfr hco => wpAny_bind (wpAny_standAt (wpAny_pure ?_))))
  refine wpAny_pure ?_
  have hfl : f ≠ X.env.locals := fun z => by
    obtain ⟨m, ⟨o, es, ep, ho, hd, _⟩, _⟩ := I2.loc
    rw [z, ho] at hf
    cases hf
    cases hd
  have hff : f ∉ X.fs := by
    rcases I2.ok.stk with e | ⟨e, _⟩
    · rw [e] at hfr; exact hfr
    · rw [e] at hfr
      exact fun z => hfr (by
        obtain ⟨y, hy, g⟩ := List.mem_filterMap.mp z
        exact List.mem_filterMap.mpr ⟨y, .tail _ hy, g⟩)
  have I3 : Inv X (pins ++ [(f, PySem.W.kla_obj "<lambda>" (X.env.qual ++ "<lambda>") params body scope (cloFrom X.env.cells scope.names []) pm c' ctv)]) σ H2 s2 := I2.pins_of fun p hp => by
    rcases List.mem_append.mp hp with z | z
    · exact I2.pin p (by simp [z])
    · rw [List.mem_singleton.mp z]
      exact ⟨hf, hfn, hfl, hff, fun v z => by cases z⟩
  have x12 : Ext X.K as1 H1 as1 H2 := ext_N eN
  have r2 := r1.extN eN T2
  have rs2 := rs1.up x12
  refine minK_call hr.hd hr.units hn hne I3 r2 hla (kf := kf) (fun i d1 xv v pins' as' H' s' hd hp I' e' r' rd' rx' => ?_) fun d1 xv v as' H' s' hd I' e' r' rd' rx' => ?_
  · have I'' := I'
    refine wpAny_call (codeAny_mono (lam_run (CX := CX X.prog X.w) (F := ⟨"<lambda>", X.env.qual ++ "<lambda>", params, [], scope, cloFrom X.env.cells scope.names [], c'⟩) (N := N) (ps := [x]) (fr := fr) (k := k) (t := lf X.K (fun _ _ _ _ => False) me) (A := X.A.in1) (outer := X.stack) (us := [v]) (vs := [xv]) (ws := js.map (slotAt σ))
      (Q := fun v' H'' => ∃ as'', Ext X.K as' H' as'' H'' ∧ RepM X.K as'' H'' M1 ∧ Rel X.K as'' H'' (.tup [.int (kf i).1, .int (kf i).2]) v') (E := fun _ _ _ => False) S (hbind _ _ _ _ _ _) rfl hr.in1 (env_sub I' rfl) (I'.pin (f, _) (List.mem_append_right _ (hp _ (List.mem_append_right _ (List.mem_singleton.mpr rfl))))).1 (e'.co _ _ hco)
      (cells_of I' (Caps.made I'.ok (ndef_free hnd) (ndef_fr hnd) hjs)) (.cons rx' .nil) (fun hr' => hbody _ f X.A.in1 X.stack s' H' rfl rfl hr' (takes_of rfl rfl rfl rfl)) ?_) fun r s'' hq => ?_)
    · exact ⟨as', M1, ([d1] ++ ws).map some, _, _, r', RelS.clo (rs2.up e') (.cons rd' .nil) hws (by rw [hNl]; rfl), hk i d1 hd, fun d' M' ⟨eM, ed⟩ as'' H'' v' ex r'' rv' => by subst eM ed; exact ⟨as'', ex, r'', rv'⟩, fun _ _ q => q.elim⟩
    · cases r with
      | error e =>
        obtain ⟨a, B, H', cls, d, _, _, _, _, _, _, _, z⟩ := hq
        exact z.elim
      | ok fl =>
        cases fl with
        | ret u =>
          obtain ⟨v', H'', I4, rv', as'', ex, r'', rd''⟩ := I'.after hq
          exact ⟨as'', H'', v', I4, ex, r'', rd'', rv'⟩
        | next => exact False.elim hq
        | brk => exact False.elim hq
        | cont => exact False.elim hq
  · exact ⟨xv, H', I'.pins_of fun p hp => I'.pin p (by simp [hp]), rx', hq _ _ (hfin d1 hd) as' H' xv (e1.trans (x12.trans e')) r' rd'⟩
end
end MV
namespace MV
open PySem PySem.Spec PyProof.Rows L2 NdefX LamX
/-- fn_ok, the def's own code object known -/
theorem fn_okT {P : Program} {w : World} {K : PySem.W.Frag} {mg : Str → Option Value} {base : Heap} {d x qual : Str} {params : Arguments} {body : List Stmt} {scope : Scope} {dvs : List V} {kws : List (Str × V)} {fd : FuncData} {N ps : List Str} {k : Nat} {m : MS}
    (F : FunD K x qual params body scope dvs kws (He.ga K d) fd) (S : FnScope N ps scope)
    (der : ∀ (cdv : Value) (A : Around) (outer : List Env) (s : Shared) (H : Hp) (E : XK), cdv = .ref (He.codeOf K (d, none)) → Room k (A.deeper (envOfC qual scope s.heap.objs.size (He.ga K d) cdv)) → Takes (cxOf (CX P w) P w K mg base N qual scope (He.ga K d) cdv A outer s H E) (fun c d _ H => E c d H) → PassesOwn (model P w) (A.deeper (envOfC qual scope s.heap.objs.size (He.ga K d) cdv)) (envOfC qual scope s.heap.objs.size (He.ga K d) cdv) (cxOf (CX P w) P w K mg base N qual scope (He.ga K d) cdv A outer s H E).xe →
      QSs (cxOf (CX P w) P w K mg base N qual scope (He.ga K d) cdv A outer s H E) (fun c d _ H => E c d H) body m) : FnOk P w K mg base (CX P w) (k + 1) (He.ga K d) fd ps (spM K ps.length (wOf N m)) := by
  obtain ⟨oc, od, dV, kV, doc, pm, an, cdv, ct, osl, rfl, lk, hcd, _, _⟩ := F.ex
  obtain ⟨c, ec⟩ := He.codeIn_ref hcd
  have e : He.codeOf K (d, none) = c := He.codeOf_eq (p := (d, none)) lk ec
  exact fn_of lk hcd S spM_len fun A outer s H vs Q E hr h => ⟨_, der cdv A outer s H E (by rw [e]; exact ec) hr (takes_of rfl rfl rfl rfl) (passes_of rfl), body_ok h⟩
/-- the promise of a def made in a def: what it captured comes behind what it is handed -/
def spC (K : PySem.W.Frag) (n : Nat) (wb : WF) (ws : List (Option V)) : Sp := fun vs H Q E => ∃ as M ds es xs Q' X', vs.length = n ∧ ws = xs.map some ∧ RepM K as H M ∧ RelL K as H ds vs ∧ RelL K as H es xs ∧ wb (ds ++ es) M Q' X' ∧ (∀ d M', Q' d M' → LQ K as H Q d M') ∧ ∀ x M', X' x M' → LX K as H E x M'
/-- a def that is handed such a function: wn its mirror, by the function and the function's mirror -/
structure FnC (P : Program) (w : World) (K : PySem.W.Frag) (mg : Str → Option Value) (base : Heap) (k kb : Nat) (g : Addr) (ps psB : List Str) (wn : D → WF → WF) : Prop where
  kp : PySem.W.keepIn K (.ref g) = true
  run : ∀ (A : Around) (outer : List Env) (s : Shared) (H : Hp) (us : List Value) (vs : List V) (Q : VK) (E : XK) (f : Addr) (F : NF) (ws : List V) (es : List D) (fr : List Str) (wb : WF), Room k A → Env0 P w K mg base A outer s H → NOk P w K mg base (CX P w) kb f F psB fr (fun zs => spC K psB.length wb zs) →
    CellsAt F.cl fr (ws.map some) s.heap H → (∀ y c, F.cl.lookup y = some c → c ∉ frs outer) → Vals vs us → spM K ps.length (wn (.clo f F ws es) wb) vs H Q E → codeAny (model P w) A (.call (.ref g) ⟨us, []⟩) (CR (CX P w) outer P w H s Q E) s
section
variable {X : Cx} {W : WX} {e : Expr} {es : List Expr} {ma : MA} {p pos : Pos}
end
end MV
namespace MV
open PySem PySem.Spec PyProof.Rows L2 NdefX LamX
theorem hok_lock {P : Program} {w : World} {H : Hp} {h : Heap} {a : Addr} {xs : List V} (hok : HOk P w H h) (ha : H a = some (.lst xs)) : ∃ od, HOk P w (upd H a (.frz od (.lst xs))) h := by
  obtain ⟨z, its, n, r, e⟩ := hok a _ ha
  refine ⟨{ cls := .type "list", data := .seq its.toArray n }, fun b u q => ?_⟩
  by_cases hb : b = a
  · subst hb
    rw [upd_same] at q
    cases q
    exact ⟨e, z, its, n, r, e⟩
  · rw [upd_ne hb] at q
    exact (hok b u q).stay (fun c v _ k => k) (fun c k => by rw [upd_ne (fun z => by rw [z, ha] at k; cases k)]; exact k) fun c ys k => by rw [upd_ne (fun z => by rw [z, ha] at k; cases k)]; exact k
/-- a promise that is kept where the list handed in is only read is kept where it is a list -/
def spR (K : PySem.W.Frag) (w : WF) : Sp := fun vs H Q _ => spM K 1 w vs H Q E0 ∨ ∃ a xs, vs = [V.ref a] ∧ H a = some (.lst xs) ∧ ∀ od, spM K 1 w vs (upd H a (.frz od (.lst xs))) Q E0
theorem fn_read {P : Program} {w : World} {K : PySem.W.Frag} {mg : Str → Option Value} {base : Heap} {k : Nat} {f : Addr} {fd : FuncData} {x : Str} {W : WF} (F : FnOk P w K mg base CX0 k f fd [x] (fun vs H Q _ => spM K 1 W vs H Q E0)) : FnOk P w K mg base CX0 k f fd [x] (spR K W) where
  len := fun vs H Q E h => by
    rcases h with h | ⟨a, xs, rfl, _⟩
    · exact spM_len _ _ _ _ h
    · rfl
  run := fun A outer s H args us vs Q E hr e b r h => by
    rcases h with h | ⟨a, xs, rfl, ha, h⟩
    · exact F.run A outer s H args us vs Q E hr e b r h
    · obtain ⟨od, hok⟩ := hok_lock e.hok ha
      have non : ∀ b, H b = none → upd H a (.frz od (.lst xs)) b = none := fun b z => by rw [upd_ne (fun q => by rw [q, ha] at z; cases z)]; exact z
      have e2 : Env0 P w K mg base A outer s (upd H a (.frz od (.lst xs))) := ⟨e.frames, e.mod, fun b o q => ⟨(e.bs b o q).1, non b (e.bs b o q).2⟩, e.bsz, e.funs, fun b hb => non b (e.frf b hb), hok, e.bare⟩
      refine codeAny_mono (F.run A outer s _ args us _ Q E hr e2 b r (h od)) fun r s' q => ?_
      cases r with
      | error e => exact q
      | ok fl =>
        cases fl with
        | ret u =>
          obtain ⟨v, H', os, bare, un, hk', rv, q⟩ := q
          exact ⟨v, H', os, bare, ⟨fun b o q n => un.keep b o q (non b n), fun b o q n => un.slot b o q (non b n), fun b o q n => un.free b o q (non b n), un.there, fun b ys q => un.tups b ys (by rw [upd_ne (fun z => by rw [z, ha] at q; cases q)]; exact q), fun b o u q => un.frzs b o u (by rw [upd_ne (fun z => by rw [z, ha] at q; cases q)]; exact q),
            fun b ps q => un.tbls b ps (by rw [upd_ne (fun z => by rw [z, ha] at q; cases q)]; exact q)⟩, hk', rv, q⟩
        | next => exact q
        | brk => exact q
        | cont => exact q
def tabAt (K : PySem.W.Frag) (d : Str) : Addr × Addr := He.cT K (d, none)
def tabsM (tl : List (Str × Str)) : Mem := tl.map fun p => .tab p.1 p.2
/-- the law's start, tables there -/
theorem law_stT {K : PySem.W.Frag} {w : WF} {tl : List (Str × Str)} (hw : ∀ ns : List Int, ns.length ≤ 63 → w [.kl (ns.map .int)] (tabsM tl) (fun d _ => d = .bl true) (fun _ _ => False)) (nd : (tl.map fun p => tabAd K p.1).Nodup) (H : Hp) (a : Addr) (ns : List Int) (hl : ns.length ≤ 63)
    (hT : ∀ p ∈ tl.map (fun p => tabAt K p.1), H p.2 = some (.tbl #[])) (hS : SqL K H a (ns.map V.int)) : spR K w [.ref a] H (fun v _ => v = .bl true) fun _ _ _ => False := by
  have hL : ∀ (as : List Addr) (H : Hp) (ns : List Int), RelL K as H (ns.map .int) (ns.map V.int) := fun as H ns => by
    induction ns with
    | nil => exact .nil
    | cons i ns ih => exact .cons (.int i) ih
  have go : ∀ H : Hp, (∀ p ∈ tl.map (fun p => tabAt K p.1), H p.2 = some (.tbl #[])) → RdL K H a (ns.map V.int) → spM K 1 w [.ref a] H (fun v _ => v = .bl true) E0 := fun H hT hR => by
    refine ⟨tl.map fun p => tabAd K p.1, tabsM tl, [.kl (ns.map .int)], _, _, rfl, ⟨by simp [tabsM], nd, fun n b o h1 h2 => ?_⟩, .cons (.kl hR (hL _ H ns)) .nil, hw ns hl, fun d M' q as' H' v _ _ rv => ?_, fun _ _ q => q.elim⟩
    · unfold tabsM at h2
      rw [List.getElem?_map] at h1 h2
      cases e : tl[n]? with
      | none => rw [e] at h1; cases h1
      | some p =>
        rw [e] at h1 h2
        cases h1
        cases h2
        exact ⟨rfl, TabS.nil (hT (tabAt K p.1) (List.mem_map.mpr ⟨p, List.mem_of_getElem? e, rfl⟩))⟩
    · subst q
      cases rv
      rfl
  rcases hS with (h | ⟨o, h⟩) | h
  · refine .inr ⟨a, _, rfl, h, fun od => go _ (fun p hp => ?_) (.inl ⟨od, upd_same⟩)⟩
    rw [upd_ne (fun z => by have q := hT p hp; rw [z, h] at q; cases q)]
    exact hT p hp
  · exact .inl (go H hT (.inl ⟨o, h⟩))
  · exact .inl (go H hT (.inr h))
end MV
namespace MV
open PySem PySem.W PySem.Spec PyProof.Rows L2
abbrev AlT2 : Type := AlF × Bool
def obsZ (n : Nat) (fa : List He.Fa) (fn : List He.DefD) (ts : List (Str × List Str)) (tf : List He.Defn) (ex : PySem.W.Frag → Bool) (g : Addr → Option Obj) : AlT2 := (obsKF fa fn ts ex (He.frT g (asG g n)), He.tabsB g tf (He.frT g (asG g n)))
structure SaysZ (fa : List He.Fa) (fn : List He.DefD) (ts : List (Str × List Str)) (tf : List He.Defn) (ex : PySem.W.Frag → Bool) (w : World) (h : Heap) (K : PySem.W.Frag) : Prop where
  f : SaysF fa fn ts ex w K
  hd : ∀ p ∈ tf, PySem.W.codeHdIn K (He.cT K p).1 (He.cT K p).2 = true
  out : ∀ p ∈ tf, K.lookup (He.cT K p).2 = none
  empty : ∀ p ∈ tf, h.get? (He.cT K p).2 = some { cls := .none, data := .fields #[] }
theorem saysZ_of {n : Nat} {fa : List He.Fa} {fn : List He.DefD} {ts : List (Str × List Str)} {tf : List He.Defn} {ex : PySem.W.Frag → Bool} {w : World} {h : Heap} (e : obsZ n fa fn ts tf ex h.get? = (valF fn ts w, true)) : SaysZ fa fn ts tf ex w h (He.frT h.get? (asG h.get? n)) := by
  unfold obsZ at e
  obtain ⟨e1, e2⟩ := Prod.mk.inj e
  generalize hK : He.frT h.get? (asG h.get? n) = K at *
  have key : ∀ p ∈ tf, PySem.W.codeHdIn K (He.cT K p).1 (He.cT K p).2 = true ∧ ∃ o, h.get? (He.cT K p).2 = some o ∧ He.emptyTab o = true := fun p hp => by
    have q0 := List.all_eq_true.mp (show tf.all _ = true from e2) p hp
    rw [Bool.and_eq_true] at q0
    obtain ⟨h3, h4⟩ := q0
    refine ⟨h3, ?_⟩
    cases q : h.get? (He.cT K p).2 with
    | none => rw [q] at h4; cases h4
    | some o => rw [q] at h4; exact ⟨o, rfl, h4⟩
  refine ⟨saysF_of e1, fun p hp => (key p hp).1, fun p hp => ?_, fun p hp => ?_⟩
  · obtain ⟨_, o, q, z⟩ := key p hp
    have := He.frT_none (as := asG h.get? n) q z
    rw [hK] at this
    exact this
  · obtain ⟨_, o, q, z⟩ := key p hp
    rw [q, He.emptyTab_eq z]
def hookZ (n : Nat) (fa : List He.Fa) (fn : List He.DefD) (ts : List (Str × List Str)) (tf : List He.Defn) (ex : PySem.W.Frag → Bool) : PySem.W.Hook where
  α := AlT2
  obs := fun s => obsZ n fa fn ts tf ex s.heap.get?
  val := fun w => (valF fn ts w, true)
  says := fun w h => ∃ K : PySem.W.Frag, K.In h ∧ SaysZ fa fn ts tf ex w h K
  of := fun _ _ e => ⟨_, He.frT_in, saysZ_of e⟩
  keeps := fun _ _ _ ⟨K, hK, c⟩ k => ⟨K, PySem.W.Frag.In.keeps hK k, ⟨c.f, c.hd, c.out, fun p hp => k _ _ (c.empty p hp)⟩⟩
theorem obsZ_eq {n : Nat} {fa : List He.Fa} {fn : List He.DefD} {ts : List (Str × List Str)} {tf : List He.Defn} {ex : PySem.W.Frag → Bool} {g : Addr → Option Obj} {s : Shared} (h : ∀ a, g a = s.heap.get? a) : obsZ n fa fn ts tf ex g = (hookZ n fa fn ts tf ex).obs s := by
  have e : g = s.heap.get? := funext h
  rw [e]
  rfl
def kZ (S : SharedT) : PySem.W.Frag := He.frT (HandSHeadRun.getT S) (asG (HandSHeadRun.getT S) 2048)
structure FactsZ (R : PySem.W.OpenRow) (q : Program) (loose : List Str) (fa : List He.Fa) (fn : List He.DefD) (ts : List (Str × List Str)) (tf : List He.Defn) (ex : PySem.W.Frag → Bool) (w : World) (S : SharedT) : Prop where
  a : HandSHeadRun.looksF R.prog (PySem.W.boot_heap w.params) S.abs = true
  b : HandSHeadRun.seenQ q loose (importedModules R.prog.main.body) (fun s => PySem.W.xlAt q [] s && PySem.W.recOk R.toRowW.records s) S.abs = PySem.W.openGood q loose
  c : frK (kZ S) (fun K => ((fa.all fun f => f.ok K), ex K)) = (true, true)
  d : frK (kZ S) (fun K => ((fn.all fun d => d.ok K), (fn.map fun d => He.fnW K d.at_))) = (true, fn.map He.DefD.val)
  e : frK (kZ S) (fun K => ts.map fun t => He.dicW K (He.ga K t.1)) = ts.map fun t => some (He.keysIn w.params t.2)
  f : frK (kZ S) (fun K => He.tabsB (HandSHeadRun.getT S) tf K) = true
theorem runEq_ofZ {R : PySem.W.OpenRow} {q : Program} {loose : List Str} {fa : List He.Fa} {fn : List He.DefD} {ts : List (Str × List Str)} {tf : List He.Defn} {ex : PySem.W.Frag → Bool} {w : World} {M : Nat}
    (h : ∀ os, ∃ S, HandSHeadRun.endF (HandSHeadRun.stepQ (HandSHeadRun.denQ HandSHeadRun.tabQ) R.prog w) M R.prog w os = some S ∧ FactsZ R q loose fa fn ts tf ex w S) :
    HandSHeadRun.RunEq R q (hookZ 2048 fa fn ts tf ex) (fun s => obsZ 2048 fa fn ts tf ex (HandSHeadRun.getT s)) M loose w := by
  intro os
  obtain ⟨S, e, f⟩ := h os
  rw [e]
  obtain ⟨fa1, fb, fc, fd, fe, ff⟩ := f
  rw [frK_eq] at fc fd fe ff
  have k : FactsK fa fn ts ex w (kZ S) := ⟨(Prod.mk.inj fc).1, (Prod.mk.inj fd).1, (Prod.mk.inj fd).2, fe, (Prod.mk.inj fc).2⟩
  exact congrArg some (Prod.ext fa1 (Prod.ext fb (Prod.ext (obsKF_of k) ff)))
/-- what the law's place wants, by such a hook -/
theorem lawAt_Z {l : PySem.W.OpenLaw} {w : World} {K : PySem.W.Frag} {mg : Str → Option Value} {k : Nat} {x : Str} {fd : FuncData} {fa : Addr} {h : Heap} {fas : List He.Fa} {fn : List He.DefD} {ts : List (Str × List Str)} {tl : List (Str × Str)} {ex : PySem.W.Frag → Bool} {W : WF} (KX : K.In h) (c : SaysZ fas fn ts (tl.map fun p => (p.1, none)) ex w h K)
    (nd : (tl.map fun p => tabAd K p.1).Nodup) (hb : ∀ (s : Shared) (u : Value), BindsTo s fd ⟨[u], []⟩ [(x, u)]) (LH : ∀ ns : List Int, ns.length ≤ 63 → W [.kl (ns.map .int)] (tabsM tl) (fun d _ => d = .bl true) (fun _ _ => False))
    (F : ∀ base : Heap, (∀ p ∈ tl, LamX.TabB base mg (He.codeOf K (p.1, none)) (tabAd K p.1)) → FnOk l.prog w K mg base CX0 k fa fd [x] (fun vs H Q _ => spM K 1 W vs H Q E0)) : LamX.LawAtS l w K CX0 k 63 x mg fa h := by
  have at_ : ∀ q ∈ tl.map (fun p => tabAt K p.1), ∃ p ∈ tl, q = He.cT K (p.1, none) := fun q hq => by
    obtain ⟨p, hp, rfl⟩ := List.mem_map.mp hq
    exact ⟨p, hp, rfl⟩
  have mem : ∀ p ∈ tl, ((p.1, none) : He.Defn) ∈ tl.map fun p => (p.1, none) := fun p hp => List.mem_map.mpr ⟨p, hp, rfl⟩
  refine ⟨fd, tl.map fun p => tabAt K p.1, spR K W, fun q hq => ?_, fun q hq => ?_, fun q hq => ?_, hb, fun H a ns hl _ hT hS => law_stT LH nd H a ns hl hT hS, fun base _ _ TB => fn_read (F base fun p hp => TB (tabAt K p.1) (List.mem_map.mpr ⟨p, hp, rfl⟩))⟩
  · obtain ⟨p, hp, rfl⟩ := at_ q hq
    exact c.empty _ (mem p hp)
  · obtain ⟨p, hp, rfl⟩ := at_ q hq
    exact c.out _ (mem p hp)
  · obtain ⟨p, hp, rfl⟩ := at_ q hq
    exact PySem.W.codeHd_of_K KX (c.hd _ (mem p hp))
end MV
namespace Prf
open PySem L2 MV
abbrev tq_push : Str := ("push" : Str) ++ ".<locals>." ++ "<lambda>"
def tlL : List (Str × Str) := [("push", tq_push)]
def N_Lfeed : List Str := ["_law_script"]
def m_Lfeed : MS :=
  (mRet (mCB oLst (mCons (mCB oList1 (mCons (mSl (mVar 0) mNoPart (mPart (mC (.int 63)))) mNil)) (mCons (mC (.int 0)) (mCons (mC (.int 0)) (mCons (mC (.int 1)) mNil))))))
def w_Lfeed : WF := wOf N_Lfeed m_Lfeed
def N_Ldraw : List Str := ["_law_feed_here", "_law_many", "_law_got", "_law_cell", "_law_spread"]
def m_Ldraw : MS :=
  (mSeq (mIfS (mB (mOp oGt (mOp oIx (mVar 0) (mC (.int 2))) (mC (.int 0)))) (mSeq (mSet 2 (mOp oMod (mOp oIx (mVar 0) (mC (.int 2))) (mVar 1)))
    (mSeq (mSetIx (mOp oDiv (mOp oIx (mVar 0) (mC (.int 2))) (mVar 1)) (mVar 0) (mC (.int 2)))
    (mRet (mVar 2)))) mNext)
    (mSeq (mSet 3 (mC (.int 0)))
    (mSeq (mIfS (mB (mOp oLt (mOp oIx (mVar 0) (mC (.int 1))) (mCB oLen (mCons (mOp oIx (mVar 0) (mC (.int 0))) mNil)))) (mSeq (mSet 3 (mOp oIx (mOp oIx (mVar 0) (mC (.int 0))) (mOp oIx (mVar 0) (mC (.int 1)))))
    (mSetIx (mOp oAdd (mOp oIx (mVar 0) (mC (.int 1))) (mC (.int 1))) (mVar 0) (mC (.int 1)))) mNext)
    (mSeq (mIfS (mB (mOp oGe (mVar 3) (mC (.int 1000000000000000000)))) (mSeq (mSetIx (mOp oDiv (mVar 3) (mVar 1)) (mVar 0) (mC (.int 2)))
    (mRet (mOp oMod (mVar 3) (mVar 1)))) mNext)
    (mSeq (mSetIx (mOp oMod (mOp oAdd (mOp oAdd (mOp oMul (mOp oIx (mVar 0) (mC (.int 3))) (mC (.int 48271))) (mOp oMod (mVar 3) (mC (.int 1000003)))) (mC (.int 11))) (mC (.int 2147483647))) (mVar 0) (mC (.int 3)))
    (mSeq (mSet 4 (mOp oIx (mCB oLst (mCons (mOp oIx (mVar 0) (mC (.int 3))) (mCons (mOp oPow (mOp oIx (mVar 0) (mC (.int 3))) (mC (.int 4))) mNil))) (mCB oInt1 (mCons (mOp oGt (mVar 1) (mC (.int 100000))) mNil))))
    (mRet (mOp oMod (mOp oAdd (mOp oDiv (mVar 4) (mC (.int 16))) (mVar 3)) (mVar 1)))))))))
def w_Ldraw : WF := wOf N_Ldraw m_Ldraw
def N_Lroom : List Str := ["_law_feed_here", "_law_top", "_law_pair", "_law_base", "_law_step", "_law_least"]
def m_Lroom : MS :=
  (mSeq (mSet 3 (mCall w_Ldraw 2 0 (fun ds _ => ds) (mArgsP (mCons (mVar 0) (mCons (mOp oAdd (mVar 1) (mC (.int 1))) mNil)))))
    (mSeq (mSet 4 (mOp oSub (mCall w_Ldraw 2 0 (fun ds _ => ds) (mArgsP (mCons (mVar 0) (mCons (mC (.int 3)) mNil)))) (mC (.int 1))))
    (mSeq (mSet 5 (mCB oMin2 (mCons (mOp oAdd (mVar 3) (mOp oMul (mVar 4) (mOp oIx (mVar 2) (mC (.int 0))))) (mCons (mOp oAdd (mVar 3) (mOp oMul (mVar 4) (mOp oIx (mVar 2) (mC (.int 1))))) mNil))))
    (mSeq (mIfS (mB (mOp oLt (mVar 5) (mC (.int 0)))) (mSet 3 (mOp oSub (mVar 3) (mVar 5))) mNext)
    (mRet (mCB oTup (mCons (mVar 3) (mCons (mVar 4) mNil))))))))
def w_Lroom : WF := wOf N_Lroom m_Lroom
def N_Lsome_move : List Str := ["_law_feed_here", "_law_far"]
def m_Lsome_move : MS :=
  (mRet (mCB oTup (mCons (mOp oSub (mCall w_Ldraw 2 0 (fun ds _ => ds) (mArgsP (mCons (mVar 0) (mCons (mOp oAdd (mOp oMul (mC (.int 2)) (mVar 1)) (mC (.int 1))) mNil)))) (mVar 1)) (mCons (mOp oSub (mCall w_Ldraw 2 0 (fun ds _ => ds) (mArgsP (mCons (mVar 0) (mCons (mOp oAdd (mOp oMul (mC (.int 2)) (mVar 1)) (mC (.int 1))) mNil)))) (mVar 1)) mNil))))
def w_Lsome_move : WF := wOf N_Lsome_move m_Lsome_move
def N_Lsome_plain : List Str := ["_law_feed_here", "_law_s_pair", "_law_t_pair", "_law_many", "_law_needs", "_law_node", "_law_arcs", "_law_base", "_law_k", "_law_tail", "_law_head", "_law_load", "_law_more", "_law_room_here", "_law_price_here"]
def m_Lsome_plain : MS :=
  (mSeq (mSet 3 (mOp oAdd (mC (.int 1)) (mCall w_Ldraw 2 0 (fun ds _ => ds) (mArgsP (mCons (mVar 0) (mCons (mC (.int 4)) mNil))))))
    (mSeq (mSet 4 (mLc (mIRng1 (mCons (mVar 3) mNil)) (.nm 5) mYes (mCB oTup (mCons (mC (.int 0)) (mCons (mC (.int 0)) mNil))) [5]))
    (mSeq (mSet 6 (mCB oLst mNil))
    (mSeq (mSet 7 (mCB oLst mNil))
    (mSeq (mFor (mIRng1 (mCons (mCall w_Ldraw 2 0 (fun ds _ => ds) (mArgsP (mCons (mVar 0) (mCons (mC (.int 7)) mNil)))) mNil)) (.nm 8) (mSeq (mSet 9 (mCall w_Ldraw 2 0 (fun ds _ => ds) (mArgsP (mCons (mVar 0) (mCons (mVar 3) mNil)))))
    (mSeq (mSet 10 (mCall w_Ldraw 2 0 (fun ds _ => ds) (mArgsP (mCons (mVar 0) (mCons (mVar 3) mNil)))))
    (mSeq (mSet 11 (mCall w_Lroom 3 0 (fun ds _ => ds) (mArgsP (mCons (mVar 0) (mCons (mC (.int 2)) (mCons (mVar 1) mNil))))))
    (mSeq (mSet 12 (mCall w_Lroom 3 0 (fun ds _ => ds) (mArgsP (mCons (mVar 0) (mCons (mC (.int 2)) (mCons (mVar 1) mNil))))))
    (mSeq (mSet 13 (mCB oTup (mCons (mOp oAdd (mOp oIx (mVar 11) (mC (.int 0))) (mOp oIx (mVar 12) (mC (.int 0)))) (mCons (mOp oAdd (mOp oIx (mVar 11) (mC (.int 1))) (mOp oIx (mVar 12) (mC (.int 1)))) mNil))))
    (mSeq (mSet 14 (mCall w_Lsome_move 2 0 (fun ds _ => ds) (mArgsP (mCons (mVar 0) (mCons (mC (.int 3)) mNil)))))
    (mSeq (mIfS (mB (mOp oEq (mCall w_Ldraw 2 0 (fun ds _ => ds) (mArgsP (mCons (mVar 0) (mCons (mC (.int 3)) mNil)))) (mC (.int 0)))) (mSeq (mSet 13 (mC .non))
    (mSet 14 (mCall w_Lroom 3 0 (fun ds _ => ds) (mArgsP (mCons (mVar 0) (mCons (mC (.int 4)) (mCons (mVar 2) mNil))))))) mNext)
    (mSeq (mDrop (mBM "list" omAppend (mVar 6) (mCons (mCB oTup (mCons (mVar 9) (mCons (mVar 10) (mCons (mVar 13) (mCons (mVar 14) mNil))))) mNil)))
    (mSeq (mDrop (mBM "list" omAppend (mVar 7) (mCons (mVar 11) mNil)))
    (mSeq (mSetIx (mCB oTup (mCons (mOp oAdd (mOp oIx (mOp oIx (mVar 4) (mVar 10)) (mC (.int 0))) (mOp oIx (mVar 11) (mC (.int 0)))) (mCons (mOp oAdd (mOp oIx (mOp oIx (mVar 4) (mVar 10)) (mC (.int 1))) (mOp oIx (mVar 11) (mC (.int 1)))) mNil))) (mVar 4) (mVar 10))
    (mSetIx (mCB oTup (mCons (mOp oSub (mOp oIx (mOp oIx (mVar 4) (mVar 9)) (mC (.int 0))) (mOp oIx (mVar 11) (mC (.int 0)))) (mCons (mOp oSub (mOp oIx (mOp oIx (mVar 4) (mVar 9)) (mC (.int 1))) (mOp oIx (mVar 11) (mC (.int 1)))) mNil))) (mVar 4) (mVar 9)))))))))))))
    (mRet (mCB oTup (mCons (mVar 4) (mCons (mVar 6) (mCons (mVar 7) mNil))))))))))
def w_Lsome_plain : WF := wOf N_Lsome_plain m_Lsome_plain
def N_Lgcd : List Str := ["_law_one", "_law_other"]
def m_Lgcd : MS :=
  (mSeq (mWhile (mTru (mVar 1)) (mPar 0 1 (mCons (mVar 1) (mCons (mOp oMod (mVar 0) (mVar 1)) mNil))))
    (mRet (mCB oAbs (mCons (mVar 0) mNil))))
def w_Lgcd : WF := wOf N_Lgcd m_Lgcd
def N_Lfrac : List Str := ["_law_top", "_law_under", "_law_shared"]
def m_Lfrac : MS :=
  (mSeq (mSet 2 (mCall w_Lgcd 2 0 (fun ds _ => ds) (mArgsP (mCons (mVar 0) (mCons (mVar 1) mNil)))))
    (mSeq (mIfS (mB (mOp oLt (mVar 1) (mC (.int 0)))) (mSet 2 (mUn oNeg (mVar 2))) mNext)
    (mRet (mCB oTup (mCons (mOp oDiv (mVar 0) (mVar 2)) (mCons (mOp oDiv (mVar 1) (mVar 2)) mNil))))))
def w_Lfrac : WF := wOf N_Lfrac m_Lfrac
def N_Lsetting : List Str := ["_law_feed_here", "_law_pair", "_law_under"]
def m_Lsetting : MS :=
  (mSeq (mSet 2 (mOp oAdd (mC (.int 1)) (mCall w_Ldraw 2 0 (fun ds _ => ds) (mArgsP (mCons (mVar 0) (mCons (mC (.int 5)) mNil))))))
    (mRet (mCall w_Lfrac 2 0 (fun ds _ => ds) (mArgsP (mCons (mOp oAdd (mOp oMul (mOp oIx (mVar 1) (mC (.int 0))) (mVar 2)) (mCall w_Ldraw 2 0 (fun ds _ => ds) (mArgsP (mCons (mVar 0) (mCons (mOp oAdd (mOp oMul (mOp oSub (mOp oIx (mVar 1) (mC (.int 1))) (mOp oIx (mVar 1) (mC (.int 0)))) (mVar 2)) (mC (.int 1))) mNil))))) (mCons (mVar 2) mNil))))))
def w_Lsetting : WF := wOf N_Lsetting m_Lsetting
def N_add : List Str := ["m", "n"]
def m_add : MS :=
  (mRet (mCB oTup (mCons (mOp oAdd (mOp oIx (mVar 0) (mC (.int 0))) (mOp oIx (mVar 1) (mC (.int 0)))) (mCons (mOp oAdd (mOp oIx (mVar 0) (mC (.int 1))) (mOp oIx (mVar 1) (mC (.int 1)))) mNil))))
def w_add : WF := wOf N_add m_add
def N_turned : List Str := ["m"]
def m_turned : MS :=
  (mRet (mCB oTup (mCons (mUn oNeg (mOp oIx (mVar 0) (mC (.int 0)))) (mCons (mUn oNeg (mOp oIx (mVar 0) (mC (.int 1)))) mNil))))
def w_turned : WF := wOf N_turned m_turned
def N_step_price : List Str := ["arcs", "link", "price"]
def m_step_price : MS :=
  (mSeq (mSet 2 (mOp oIx (mOp oIx (mVar 0) (mOp oIx (mVar 1) (mC (.int 2)))) (mC (.int 3))))
    (mRet (mIf (mTru (mOp oIx (mVar 1) (mC (.int 3)))) (mVar 2) (mCall w_turned 1 0 (fun ds _ => ds) (mArgsP (mCons (mVar 2) mNil))))))
def w_step_price : WF := wOf N_step_price m_step_price
def N_rank : List Str := ["move", "at", "ahead"]
def m_rank : MS :=
  (mRet (mCB oTup (mCons (mOp oAdd (mOp oMul (mOp oIx (mVar 0) (mC (.int 0))) (mOp oIx (mVar 1) (mC (.int 1)))) (mOp oMul (mOp oIx (mVar 0) (mC (.int 1))) (mOp oIx (mVar 1) (mC (.int 0))))) (mCons (mIf (mTru (mVar 2)) (mOp oIx (mVar 0) (mC (.int 1))) (mC (.int 0))) mNil))))
def w_rank : WF := wOf N_rank m_rank
def N_settled : List Str := ["heights", "links", "arcs", "at", "ahead", "back", "height", "moved", "turn", "link", "found", "tail", "head"]
def m_settled : MS :=
  (mSeq (mSet 0 (mCB oList1 (mCons (mVar 0) mNil)))
    (mSeq (mSet 5 (mLc (mISeq (mVar 0)) (.nm 6) mYes (mC .non) [6]))
    (mSeq (mSet 7 (mC .non))
    (mSeq (mFor (mIRng1 (mCons (mCB oLen (mCons (mVar 0) mNil)) mNil)) (.nm 8) (mSeq (mSet 7 (mC .non))
    (mSeq (mFor (mISeq (mVar 1)) (.nm 9) (mSeq (mPar 11 12 (mCons (mOp oIx (mVar 9) (mC (.int 0))) (mCons (mOp oIx (mVar 9) (mC (.int 1))) mNil)))
    (mSeq (mIfS (mB (mOp oIs (mOp oIx (mVar 0) (mVar 11)) (mC .non))) mCont mNext)
    (mSeq (mSet 10 (mCall w_add 2 0 (fun ds _ => ds) (mArgsP (mCons (mOp oIx (mVar 0) (mVar 11)) (mCons (mCall w_step_price 2 0 (fun ds _ => ds) (mArgsP (mCons (mVar 2) (mCons (mVar 9) mNil)))) mNil)))))
    (mIfS (mOr (mB (mOp oIs (mOp oIx (mVar 0) (mVar 12)) (mC .non))) (mB (mOp oLtP (mCall w_rank 3 0 (fun ds _ => ds) (mArgsP (mCons (mVar 10) (mCons (mVar 3) (mCons (mVar 4) mNil))))) (mCall w_rank 3 0 (fun ds _ => ds) (mArgsP (mCons (mOp oIx (mVar 0) (mVar 12)) (mCons (mVar 3) (mCons (mVar 4) mNil)))))))) (mSeq (mSetIx (mVar 10) (mVar 0) (mVar 12))
    (mSeq (mSetIx (mVar 9) (mVar 5) (mVar 12))
    (mSet 7 (mVar 12)))) mNext)))))
    (mIfS (mB (mOp oIs (mVar 7) (mC .non))) mBreak mNext))))
    (mRet (mCB oTup (mCons (mVar 0) (mCons (mVar 5) (mCons (mVar 7) mNil)))))))))
def w_settled : WF := wOf N_settled m_settled
def N_open_links : List Str := ["arcs", "k", "tail", "head", "room", "price"]
def m_open_links : MS :=
  (mRet (mLc (mIEnumL (mCons (mVar 0) mNil)) (.tp 2 (.cons (.nm 1) (.cons (.tp 4 (.cons (.nm 2) (.cons (.nm 3) (.cons (.nm 4) (.cons (.nm 5) .nil))))) .nil))) (mB (mOp oIs (mVar 4) (mC .non))) (mCB oTup (mCons (mVar 2) (mCons (mVar 3) (mCons (mVar 1) (mCons (mC (.bl true)) mNil))))) [1, 2, 3, 4, 5]))
def w_open_links : WF := wOf N_open_links m_open_links
def N_take : List Str := ["m", "n"]
def m_take : MS :=
  (mRet (mCB oTup (mCons (mOp oSub (mOp oIx (mVar 0) (mC (.int 0))) (mOp oIx (mVar 1) (mC (.int 0)))) (mCons (mOp oSub (mOp oIx (mVar 0) (mC (.int 1))) (mOp oIx (mVar 1) (mC (.int 1)))) mNil))))
def w_take : WF := wOf N_take m_take
def N_first_loads : List Str := ["needs", "arcs", "t", "ahead", "flat", "need", "heights", "loads", "lacks", "tail", "head", "room", "price", "gain", "load"]
def m_first_loads : MS :=
  (mSeq (mSet 4 (mLc (mISeq (mVar 0)) (.nm 5) mYes (mCB oTup (mCons (mC (.int 0)) (mCons (mC (.int 0)) mNil))) [5]))
    (mSeq (mSet 6 (mOp oIx (mCall w_settled 5 0 (fun ds _ => ds) (mArgsP (mCons (mVar 4) (mCons (mCall w_open_links 1 0 (fun ds _ => ds) (mArgsP (mCons (mVar 1) mNil))) (mCons (mVar 1) (mCons (mVar 2) (mCons (mVar 3) mNil))))))) (mC (.int 0))))
    (mSeq (mSet 7 (mCB oLst mNil))
    (mSeq (mSet 8 (mCB oList1 (mCons (mVar 0) mNil)))
    (mSeq (mFor (mISeq (mVar 1)) (.tp 4 (.cons (.nm 9) (.cons (.nm 10) (.cons (.nm 11) (.cons (.nm 12) .nil))))) (mSeq (mSet 13 (mCall w_take 2 0 (fun ds _ => ds) (mArgsP (mCons (mCall w_add 2 0 (fun ds _ => ds) (mArgsP (mCons (mVar 12) (mCons (mOp oIx (mVar 6) (mVar 9)) mNil)))) (mCons (mOp oIx (mVar 6) (mVar 10)) mNil)))))
    (mSeq (mSet 14 (mIf (mB (mOp oLtP (mCall w_rank 3 0 (fun ds _ => ds) (mArgsP (mCons (mVar 13) (mCons (mVar 2) (mCons (mVar 3) mNil))))) (mC (.tup [(.int 0), (.int 0)])))) (mVar 11) (mCB oTup (mCons (mC (.int 0)) (mCons (mC (.int 0)) mNil)))))
    (mSeq (mDrop (mBM "list" omAppend (mVar 7) (mCons (mVar 14) mNil)))
    (mSeq (mSetIx (mCall w_take 2 0 (fun ds _ => ds) (mArgsP (mCons (mOp oIx (mVar 8) (mVar 10)) (mCons (mVar 14) mNil)))) (mVar 8) (mVar 10))
    (mSetIx (mCall w_add 2 0 (fun ds _ => ds) (mArgsP (mCons (mOp oIx (mVar 8) (mVar 9)) (mCons (mVar 14) mNil)))) (mVar 8) (mVar 9)))))))
    (mRet (mCB oTup (mCons (mVar 7) (mCons (mVar 8) mNil)))))))))
def w_first_loads : WF := wOf N_first_loads m_first_loads
def N_ends_put : List Str := ["arcs", "needs", "at", "ahead", "start", "grown", "node", "need", "sign"]
def m_ends_put : MS :=
  (mSeq (mSet 4 (mCB oLen (mCons (mVar 1) mNil)))
    (mSeq (mSet 5 (mCB oList1 (mCons (mVar 0) mNil)))
    (mSeq (mFor (mIEnumL (mCons (mVar 1) mNil)) (.tp 2 (.cons (.nm 6) (.cons (.nm 7) .nil))) (mSeq (mSet 8 (mCall w_rank 3 0 (fun ds _ => ds) (mArgsP (mCons (mVar 7) (mCons (mVar 2) (mCons (mVar 3) mNil))))))
    (mIfS (mB (mOp oLtP (mVar 8) (mC (.tup [(.int 0), (.int 0)])))) (mDrop (mBM "list" omAppend (mVar 5) (mCons (mCB oTup (mCons (mVar 4) (mCons (mVar 6) (mCons (mCall w_turned 1 0 (fun ds _ => ds) (mArgsP (mCons (mVar 7) mNil))) (mCons (mCB oTup (mCons (mC (.int 0)) (mCons (mC (.int 0)) mNil))) mNil))))) mNil))) (mIfS (mB (mOp oGtP (mVar 8) (mC (.tup [(.int 0), (.int 0)])))) (mDrop (mBM "list" omAppend (mVar 5) (mCons (mCB oTup (mCons (mVar 6) (mCons (mOp oAdd (mVar 4) (mC (.int 1))) (mCons (mVar 7) (mCons (mCB oTup (mCons (mC (.int 0)) (mCons (mC (.int 0)) mNil))) mNil))))) mNil))) mNext))))
    (mRet (mVar 5)))))
def w_ends_put : WF := wOf N_ends_put m_ends_put
def N_left_links : List Str := ["arcs", "loads", "at", "ahead", "links", "k", "tail", "head", "room", "price"]
def m_left_links : MS :=
  (mSeq (mSet 4 (mCB oLst mNil))
    (mSeq (mFor (mIEnumL (mCons (mVar 0) mNil)) (.tp 2 (.cons (.nm 5) (.cons (.tp 4 (.cons (.nm 6) (.cons (.nm 7) (.cons (.nm 8) (.cons (.nm 9) .nil))))) .nil))) (mSeq (mIfS (mOr (mB (mOp oIs (mVar 8) (mC .non))) (mB (mOp oGtP (mCall w_rank 3 0 (fun ds _ => ds) (mArgsP (mCons (mCall w_take 2 0 (fun ds _ => ds) (mArgsP (mCons (mVar 8) (mCons (mOp oIx (mVar 1) (mVar 5)) mNil)))) (mCons (mVar 2) (mCons (mVar 3) mNil))))) (mC (.tup [(.int 0), (.int 0)]))))) (mDrop (mBM "list" omAppend (mVar 4) (mCons (mCB oTup (mCons (mVar 6) (mCons (mVar 7) (mCons (mVar 5) (mCons (mC (.bl true)) mNil))))) mNil))) mNext)
    (mIfS (mB (mOp oGtP (mCall w_rank 3 0 (fun ds _ => ds) (mArgsP (mCons (mOp oIx (mVar 1) (mVar 5)) (mCons (mVar 2) (mCons (mVar 3) mNil))))) (mC (.tup [(.int 0), (.int 0)])))) (mDrop (mBM "list" omAppend (mVar 4) (mCons (mCB oTup (mCons (mVar 7) (mCons (mVar 6) (mCons (mVar 5) (mCons (mC (.bl false)) mNil))))) mNil))) mNext)))
    (mRet (mVar 4))))
def w_left_links : WF := wOf N_left_links m_left_links
def N_tight_links : List Str := ["links", "heights", "arcs", "at", "ahead", "found", "link", "gain", "low", "high"]
def m_tight_links : MS :=
  (mSeq (mSet 5 (mCB oLst mNil))
    (mSeq (mFor (mISeq (mVar 0)) (.nm 6) (mSeq (mPar 8 9 (mCons (mOp oIx (mVar 1) (mOp oIx (mVar 6) (mC (.int 0)))) (mCons (mOp oIx (mVar 1) (mOp oIx (mVar 6) (mC (.int 1)))) mNil)))
    (mSeq (mIfS (mOr (mB (mOp oIs (mVar 8) (mC .non))) (mB (mOp oIs (mVar 9) (mC .non)))) mCont mNext)
    (mSeq (mSet 7 (mCall w_take 2 0 (fun ds _ => ds) (mArgsP (mCons (mCall w_add 2 0 (fun ds _ => ds) (mArgsP (mCons (mVar 8) (mCons (mCall w_step_price 2 0 (fun ds _ => ds) (mArgsP (mCons (mVar 2) (mCons (mVar 6) mNil)))) mNil)))) (mCons (mVar 9) mNil)))))
    (mIfS (mB (mOp oEq (mCall w_rank 3 0 (fun ds _ => ds) (mArgsP (mCons (mVar 7) (mCons (mVar 3) (mCons (mVar 4) mNil))))) (mC (.tup [(.int 0), (.int 0)])))) (mDrop (mBM "list" omAppend (mVar 5) (mCons (mVar 6) mNil))) mNext)))))
    (mRet (mVar 5))))
def w_tight_links : WF := wOf N_tight_links m_tight_links
def N_reached : List Str := ["links", "start", "goal", "came", "row", "k", "link"]
def m_reached : MS :=
  (mSeq (mSet 3 (mDisp (((mVar 1), (mC .non)) :: [])))
    (mSeq (mSet 4 (mCB oLst (mCons (mVar 1) mNil)))
    (mSeq (mSet 5 (mC (.int 0)))
    (mSeq (mWhile (mAnd (mB (mOp oLt (mVar 5) (mCB oLen (mCons (mVar 4) mNil)))) (mB (mOp oNotIn (mVar 2) (mVar 3)))) (mSeq (mFor (mISeq (mVar 0)) (.nm 6) (mIfS (mAnd (mB (mOp oEq (mOp oIx (mVar 6) (mC (.int 0))) (mOp oIx (mVar 4) (mVar 5)))) (mB (mOp oNotIn (mOp oIx (mVar 6) (mC (.int 1))) (mVar 3)))) (mSeq (mSetIx (mVar 6) (mVar 3) (mOp oIx (mVar 6) (mC (.int 1))))
    (mDrop (mBM "list" omAppend (mVar 4) (mCons (mOp oIx (mVar 6) (mC (.int 1))) mNil)))) mNext))
    (mAug 5 oAddI (mC (.int 1)))))
    (mRet (mVar 3))))))
def w_reached : WF := wOf N_reached m_reached
def N_push : List Str := ["arcs", "loads", "came", "goal", "at", "ahead", "steps", "link", "amounts", "tail", "head", "k", "forward", "most"]
def m_push : MS :=
  (mSeq (mSet 6 (mCB oLst mNil))
    (mSeq (mSet 7 (mOp oIx (mVar 2) (mVar 3)))
    (mSeq (mWhile (mB (mOp oIsNot (mVar 7) (mC .non))) (mSeq (mDrop (mBM "list" omAppend (mVar 6) (mCons (mVar 7) mNil)))
    (mSet 7 (mOp oIx (mVar 2) (mOp oIx (mVar 7) (mC (.int 0)))))))
    (mSeq (mSet 8 (mCB oLst mNil))
    (mSeq (mFor (mISeq (mVar 6)) (.tp 4 (.cons (.nm 9) (.cons (.nm 10) (.cons (.nm 11) (.cons (.nm 12) .nil))))) (mIfS (mNot (mTru (mVar 12))) (mDrop (mBM "list" omAppend (mVar 8) (mCons (mOp oIx (mVar 1) (mVar 11)) mNil))) (mIfS (mB (mOp oIsNot (mOp oIx (mOp oIx (mVar 0) (mVar 11)) (mC (.int 2))) (mC .non))) (mDrop (mBM "list" omAppend (mVar 8) (mCons (mCall w_take 2 0 (fun ds _ => ds) (mArgsP (mCons (mOp oIx (mOp oIx (mVar 0) (mVar 11)) (mC (.int 2))) (mCons (mOp oIx (mVar 1) (mVar 11)) mNil)))) mNil))) mNext)))
    (mSeq (mSet 13 (mMinKey "push" tq_push [5, 4] (mCall w_rank 3 0 (fun ds _ => ds) (mArgsP (mCons (mVar 0) (mCons (mVar 2) (mCons (mVar 1) mNil))))) (mVar 8)))
    (mFor (mISeq (mVar 6)) (.tp 4 (.cons (.nm 9) (.cons (.nm 10) (.cons (.nm 11) (.cons (.nm 12) .nil))))) (mSetIx (mCall w_add 2 0 (fun ds _ => ds) (mArgsP (mCons (mOp oIx (mVar 1) (mVar 11)) (mCons (mIf (mTru (mVar 12)) (mVar 13) (mCall w_turned 1 0 (fun ds _ => ds) (mArgsP (mCons (mVar 13) mNil)))) mNil)))) (mVar 1) (mVar 11)))))))))
def w_push : WF := wOf N_push m_push
def N_best : List Str := ["needs", "arcs", "s", "t", "s_ahead", "t_ahead", "loads", "lacks", "start", "goal", "grown", "k", "flat", "need", "heights", "links", "came"]
def m_best : MS :=
  (mSeq (mAsg (mCall w_first_loads 4 0 (fun ds _ => ds) (mArgsP (mCons (mVar 0) (mCons (mVar 1) (mCons (mVar 3) (mCons (mVar 5) mNil)))))) (.tp 2 (.cons (.nm 6) (.cons (.nm 7) .nil))))
    (mSeq (mSet 8 (mCB oLen (mCons (mVar 0) mNil)))
    (mSeq (mSet 9 (mOp oAdd (mVar 8) (mC (.int 1))))
    (mSeq (mSet 10 (mCall w_ends_put 4 0 (fun ds _ => ds) (mArgsP (mCons (mVar 1) (mCons (mVar 7) (mCons (mVar 2) (mCons (mVar 4) mNil)))))))
    (mSeq (mDrop (mBM "list" omExtend (mVar 6) (mCons (mLc (mIRng2 (mCons (mCB oLen (mCons (mVar 1) mNil)) (mCons (mCB oLen (mCons (mVar 10) mNil)) mNil))) (.nm 11) mYes (mCB oTup (mCons (mC (.int 0)) (mCons (mC (.int 0)) mNil))) [11]) mNil)))
    (mSeq (mSet 12 (mOp oAdd (mLc (mISeq (mVar 0)) (.nm 13) mYes (mC .non) [13]) (mCB oLst (mCons (mCB oTup (mCons (mC (.int 0)) (mCons (mC (.int 0)) mNil))) (mCons (mC .non) mNil)))))
    (mSeq (mSet 14 (mOp oIx (mCall w_settled 5 0 (fun ds _ => ds) (mArgsP (mCons (mVar 12) (mCons (mCall w_left_links 4 0 (fun ds _ => ds) (mArgsP (mCons (mVar 10) (mCons (mVar 6) (mCons (mVar 2) (mCons (mVar 4) mNil)))))) (mCons (mVar 10) (mCons (mVar 3) (mCons (mVar 5) mNil))))))) (mC (.int 0))))
    (mSeq (mWhile (mB (mOp oIsNot (mOp oIx (mVar 14) (mVar 9)) (mC .non))) (mSeq (mSet 15 (mCall w_tight_links 5 0 (fun ds _ => ds) (mArgsP (mCons (mCall w_left_links 4 0 (fun ds _ => ds) (mArgsP (mCons (mVar 10) (mCons (mVar 6) (mCons (mVar 2) (mCons (mVar 4) mNil)))))) (mCons (mVar 14) (mCons (mVar 10) (mCons (mVar 3) (mCons (mVar 5) mNil))))))))
    (mSeq (mSet 16 (mCall w_reached 3 0 (fun ds _ => ds) (mArgsP (mCons (mVar 15) (mCons (mVar 8) (mCons (mVar 9) mNil))))))
    (mIfS (mB (mOp oIn (mVar 9) (mVar 16))) (mDrop (mCall w_push 6 0 (fun ds _ => ds) (mArgsP (mCons (mVar 10) (mCons (mVar 6) (mCons (mVar 16) (mCons (mVar 9) (mCons (mVar 2) (mCons (mVar 4) mNil))))))))) (mSet 14 (mOp oIx (mCall w_settled 5 0 (fun ds _ => ds) (mArgsP (mCons (mVar 12) (mCons (mCall w_left_links 4 0 (fun ds _ => ds) (mArgsP (mCons (mVar 10) (mCons (mVar 6) (mCons (mVar 2) (mCons (mVar 4) mNil)))))) (mCons (mVar 10) (mCons (mVar 3) (mCons (mVar 5) mNil))))))) (mC (.int 0))))))))
    (mSeq (mSet 6 (mSl (mVar 6) mNoPart (mPart (mCB oLen (mCons (mVar 1) mNil)))))
    (mSeq (mSet 12 (mLc (mISeq (mVar 0)) (.nm 13) mYes (mCB oTup (mCons (mC (.int 0)) (mCons (mC (.int 0)) mNil))) [13]))
    (mSeq (mSet 14 (mOp oIx (mCall w_settled 5 0 (fun ds _ => ds) (mArgsP (mCons (mVar 12) (mCons (mCall w_left_links 4 0 (fun ds _ => ds) (mArgsP (mCons (mVar 1) (mCons (mVar 6) (mCons (mVar 2) (mCons (mVar 4) mNil)))))) (mCons (mVar 1) (mCons (mVar 3) (mCons (mVar 5) mNil))))))) (mC (.int 0))))
    (mRet (mCB oTup (mCons (mVar 6) (mCons (mVar 14) mNil)))))))))))))))
def w_best : WF := wOf N_best m_best
def N_Lplus : List Str := ["_law_a", "_law_b"]
def m_Lplus : MS :=
  (mRet (mCall w_Lfrac 2 0 (fun ds _ => ds) (mArgsP (mCons (mOp oAdd (mOp oMul (mOp oIx (mVar 0) (mC (.int 0))) (mOp oIx (mVar 1) (mC (.int 1)))) (mOp oMul (mOp oIx (mVar 1) (mC (.int 0))) (mOp oIx (mVar 0) (mC (.int 1))))) (mCons (mOp oMul (mOp oIx (mVar 0) (mC (.int 1))) (mOp oIx (mVar 1) (mC (.int 1)))) mNil)))))
def w_Lplus : WF := wOf N_Lplus m_Lplus
def N_Ltimes : List Str := ["_law_a", "_law_b"]
def m_Ltimes : MS :=
  (mRet (mCall w_Lfrac 2 0 (fun ds _ => ds) (mArgsP (mCons (mOp oMul (mOp oIx (mVar 0) (mC (.int 0))) (mOp oIx (mVar 1) (mC (.int 0)))) (mCons (mOp oMul (mOp oIx (mVar 0) (mC (.int 1))) (mOp oIx (mVar 1) (mC (.int 1)))) mNil)))))
def w_Ltimes : WF := wOf N_Ltimes m_Ltimes
def N_Lat : List Str := ["_law_move", "_law_at_here"]
def m_Lat : MS :=
  (mRet (mCall w_Lfrac 2 0 (fun ds _ => ds) (mArgsP (mCons (mOp oAdd (mOp oMul (mOp oIx (mVar 0) (mC (.int 0))) (mOp oIx (mVar 1) (mC (.int 1)))) (mOp oMul (mOp oIx (mVar 0) (mC (.int 1))) (mOp oIx (mVar 1) (mC (.int 0))))) (mCons (mOp oIx (mVar 1) (mC (.int 1))) mNil)))))
def w_Lat : WF := wOf N_Lat m_Lat
def N_Lprice : List Str := ["_law_arcs", "_law_loads", "_law_sset", "_law_tset", "_law_total", "_law_k"]
def m_Lprice : MS :=
  (mSeq (mSet 4 (mCB oTup (mCons (mC (.int 0)) (mCons (mC (.int 1)) mNil))))
    (mSeq (mFor (mIRng1 (mCons (mCB oLen (mCons (mVar 0) mNil)) mNil)) (.nm 5) (mSet 4 (mCall w_Lplus 2 0 (fun ds _ => ds) (mArgsP (mCons (mVar 4) (mCons (mCall w_Ltimes 2 0 (fun ds _ => ds) (mArgsP (mCons (mCall w_Lat 2 0 (fun ds _ => ds) (mArgsP (mCons (mOp oIx (mVar 1) (mVar 5)) (mCons (mVar 2) mNil)))) (mCons (mCall w_Lat 2 0 (fun ds _ => ds) (mArgsP (mCons (mOp oIx (mOp oIx (mVar 0) (mVar 5)) (mC (.int 3))) (mCons (mVar 3) mNil)))) mNil)))) mNil))))))
    (mRet (mVar 4))))
def w_Lprice : WF := wOf N_Lprice m_Lprice
def N_Llt : List Str := ["_law_a", "_law_b"]
def m_Llt : MS :=
  (mRet (mOp oLt (mOp oMul (mOp oIx (mVar 0) (mC (.int 0))) (mOp oIx (mVar 1) (mC (.int 1)))) (mOp oMul (mOp oIx (mVar 1) (mC (.int 0))) (mOp oIx (mVar 0) (mC (.int 1))))))
def w_Llt : WF := wOf N_Llt m_Llt
def N_Lleft : List Str := ["_law_needs", "_law_arcs", "_law_loads", "_law_left_here", "_law_k", "_law_load", "_law_tail", "_law_head", "_law_room_here", "_law_price_here"]
def m_Lleft : MS :=
  (mSeq (mSet 3 (mCB oList1 (mCons (mVar 0) mNil)))
    (mSeq (mFor (mIRng1 (mCons (mCB oLen (mCons (mVar 1) mNil)) mNil)) (.nm 4) (mSeq (mAsg (mOp oIx (mVar 1) (mVar 4)) (.tp 4 (.cons (.nm 6) (.cons (.nm 7) (.cons (.nm 8) (.cons (.nm 9) .nil))))))
    (mSeq (mSet 5 (mOp oIx (mVar 2) (mVar 4)))
    (mSeq (mSetIx (mCB oTup (mCons (mOp oSub (mOp oIx (mOp oIx (mVar 3) (mVar 7)) (mC (.int 0))) (mOp oIx (mVar 5) (mC (.int 0)))) (mCons (mOp oSub (mOp oIx (mOp oIx (mVar 3) (mVar 7)) (mC (.int 1))) (mOp oIx (mVar 5) (mC (.int 1)))) mNil))) (mVar 3) (mVar 7))
    (mSetIx (mCB oTup (mCons (mOp oAdd (mOp oIx (mOp oIx (mVar 3) (mVar 6)) (mC (.int 0))) (mOp oIx (mVar 5) (mC (.int 0)))) (mCons (mOp oAdd (mOp oIx (mOp oIx (mVar 3) (mVar 6)) (mC (.int 1))) (mOp oIx (mVar 5) (mC (.int 1)))) mNil))) (mVar 3) (mVar 6))))))
    (mRet (mVar 3))))
def w_Lleft : WF := wOf N_Lleft m_Lleft
def N_law : List Str := ["_law_script", "_law_feed_here", "_law_pair", "_law_needs", "_law_arcs", "_law_base", "_law_k", "_law_tail", "_law_head", "_law_room_here", "_law_price_here", "_law_turn", "_law_sset", "_law_tset", "_law_loads", "_law_least", "_law_left_here", "_law_half", "_law_mixed"]
def m_law : MS :=
  (mSeq (mSet 1 (mCall w_Lfeed 1 0 (fun ds _ => ds) (mArgsP (mCons (mVar 0) mNil))))
    (mSeq (mSet 2 (mCB oTup (mCons (mUn oNeg (mC (.int 1))) (mCons (mC (.int 3)) mNil))))
    (mSeq (mAsg (mCall w_Lsome_plain 3 0 (fun ds _ => ds) (mArgsP (mCons (mVar 1) (mCons (mVar 2) (mCons (mVar 2) mNil))))) (.tp 3 (.cons (.nm 3) (.cons (.nm 4) (.cons (.nm 5) .nil)))))
    (mSeq (mFor (mIRng1 (mCons (mCB oLen (mCons (mVar 4) mNil)) mNil)) (.nm 6) (mSeq (mAsg (mOp oIx (mVar 4) (mVar 6)) (.tp 4 (.cons (.nm 7) (.cons (.nm 8) (.cons (.nm 9) (.cons (.nm 10) .nil))))))
    (mIfS (mB (mOp oEq (mCall w_Ldraw 2 0 (fun ds _ => ds) (mArgsP (mCons (mVar 1) (mCons (mC (.int 2)) mNil)))) (mC (.int 0)))) (mSeq (mDrop (mBM "list" omAppend (mVar 4) (mCons (mCB oTup (mCons (mVar 7) (mCons (mVar 8) (mCons (mCall w_Lroom 3 0 (fun ds _ => ds) (mArgsP (mCons (mVar 1) (mCons (mC (.int 3)) (mCons (mVar 2) mNil))))) (mCons (mCall w_Lsome_move 2 0 (fun ds _ => ds) (mArgsP (mCons (mVar 1) (mCons (mC (.int 3)) mNil)))) mNil))))) mNil)))
    (mDrop (mBM "list" omAppend (mVar 5) (mCons (mCB oTup (mCons (mC (.int 0)) (mCons (mC (.int 0)) mNil))) mNil)))) mNext)))
    (mSeq (mFor (mIRng1 (mCons (mC (.int 2)) mNil)) (.nm 11) (mSeq (mSet 12 (mCall w_Lsetting 2 0 (fun ds _ => ds) (mArgsP (mCons (mVar 1) (mCons (mVar 2) mNil)))))
    (mSeq (mSet 13 (mCall w_Lsetting 2 0 (fun ds _ => ds) (mArgsP (mCons (mVar 1) (mCons (mVar 2) mNil)))))
    (mSeq (mSet 14 (mOp oIx (mCall w_best 4 0 (fun ds es => [ds.getD 0 .non, ds.getD 1 .non, ds.getD 2 .non, ds.getD 3 .non, (.bl false), (.bl false)]) (mArgsP (mCons (mCB oList1 (mCons (mVar 3) mNil)) (mCons (mCB oList1 (mCons (mVar 4) mNil)) (mCons (mVar 12) (mCons (mVar 13) mNil)))))) (mC (.int 0))))
    (mSeq (mSet 15 (mCall w_Lprice 4 0 (fun ds _ => ds) (mArgsP (mCons (mVar 4) (mCons (mVar 14) (mCons (mVar 12) (mCons (mVar 13) mNil)))))))
    (mSeq (mIfS (mTru (mCall w_Llt 2 0 (fun ds _ => ds) (mArgsP (mCons (mCall w_Lprice 4 0 (fun ds _ => ds) (mArgsP (mCons (mVar 4) (mCons (mVar 5) (mCons (mVar 12) (mCons (mVar 13) mNil)))))) (mCons (mVar 15) mNil))))) (mRet (mC (.bl false))) mNext)
    (mSeq (mFor (mISeq (mCall w_Lleft 3 0 (fun ds _ => ds) (mArgsP (mCons (mVar 3) (mCons (mVar 4) (mCons (mVar 14) mNil)))))) (.nm 16) (mIfS (mB (mOp oNe (mCall w_Lat 2 0 (fun ds _ => ds) (mArgsP (mCons (mVar 16) (mCons (mVar 12) mNil)))) (mCB oTup (mCons (mC (.int 0)) (mCons (mC (.int 1)) mNil))))) (mRet (mC (.bl false))) mNext))
    (mSeq (mSet 17 (mLc (mIRng1 (mCons (mCB oLen (mCons (mVar 4) mNil)) mNil)) (.nm 6) mYes (mCB oTup (mCons (mOp oAdd (mOp oIx (mOp oIx (mVar 14) (mVar 6)) (mC (.int 0))) (mOp oIx (mOp oIx (mVar 5) (mVar 6)) (mC (.int 0)))) (mCons (mOp oAdd (mOp oIx (mOp oIx (mVar 14) (mVar 6)) (mC (.int 1))) (mOp oIx (mOp oIx (mVar 5) (mVar 6)) (mC (.int 1)))) mNil))) [6]))
    (mSeq (mSet 18 (mCall w_Ltimes 2 0 (fun ds _ => ds) (mArgsP (mCons (mCall w_Lprice 4 0 (fun ds _ => ds) (mArgsP (mCons (mVar 4) (mCons (mVar 17) (mCons (mVar 12) (mCons (mVar 13) mNil)))))) (mCons (mCB oTup (mCons (mC (.int 1)) (mCons (mC (.int 2)) mNil))) mNil)))))
    (mIfS (mTru (mCall w_Llt 2 0 (fun ds _ => ds) (mArgsP (mCons (mVar 18) (mCons (mVar 15) mNil))))) (mRet (mC (.bl false))) mNext))))))))))
    (mRet (mC (.bl true))))))))
def w_law : WF := wOf N_law m_law
end Prf
namespace Prf
open PySem L2 MV
def topS (i : Nat) : Stmt := PySem.Challenge.pw_dialweir_k38_whole_nothing_cheaper_on_a.main.body.getD i (.Pass ⟨0, 0, 0, 0⟩)
abbrev s_Lfeed : Stmt := topS 19
abbrev s_Ldraw : Stmt := topS 20
abbrev s_Lroom : Stmt := topS 29
abbrev s_Lsome_move : Stmt := topS 27
abbrev s_Lsome_plain : Stmt := topS 30
abbrev s_Lgcd : Stmt := topS 21
abbrev s_Lfrac : Stmt := topS 22
abbrev s_Lsetting : Stmt := topS 28
abbrev s_add : Stmt := topS 1
abbrev s_turned : Stmt := topS 3
abbrev s_step_price : Stmt := topS 12
abbrev s_rank : Stmt := topS 6
abbrev s_settled : Stmt := topS 13
abbrev s_open_links : Stmt := topS 14
abbrev s_take : Stmt := topS 2
abbrev s_first_loads : Stmt := topS 15
abbrev s_ends_put : Stmt := topS 10
abbrev s_left_links : Stmt := topS 7
abbrev s_tight_links : Stmt := topS 16
abbrev s_reached : Stmt := topS 8
abbrev s_push : Stmt := topS 9
abbrev s_best : Stmt := topS 17
abbrev s_Lplus : Stmt := topS 23
abbrev s_Ltimes : Stmt := topS 24
abbrev s_Lat : Stmt := topS 26
abbrev s_Lprice : Stmt := topS 32
abbrev s_Llt : Stmt := topS 25
abbrev s_Lleft : Stmt := topS 31
abbrev s_law : Stmt := topS 33
def dd_Lfeed : He.DefD := ⟨("_law_feed", none), "_law_feed", "_law_feed", defArgs s_Lfeed, defBody s_Lfeed, defScope s_Lfeed, [], []⟩
def dd_Ldraw : He.DefD := ⟨("_law_draw", none), "_law_draw", "_law_draw", defArgs s_Ldraw, defBody s_Ldraw, defScope s_Ldraw, [], []⟩
def dd_Lroom : He.DefD := ⟨("_law_room", none), "_law_room", "_law_room", defArgs s_Lroom, defBody s_Lroom, defScope s_Lroom, [], []⟩
def dd_Lsome_move : He.DefD := ⟨("_law_some_move", none), "_law_some_move", "_law_some_move", defArgs s_Lsome_move, defBody s_Lsome_move, defScope s_Lsome_move, [], []⟩
def dd_Lsome_plain : He.DefD := ⟨("_law_some_plain", none), "_law_some_plain", "_law_some_plain", defArgs s_Lsome_plain, defBody s_Lsome_plain, defScope s_Lsome_plain, [], []⟩
def dd_Lgcd : He.DefD := ⟨("_law_gcd", none), "_law_gcd", "_law_gcd", defArgs s_Lgcd, defBody s_Lgcd, defScope s_Lgcd, [], []⟩
def dd_Lfrac : He.DefD := ⟨("_law_frac", none), "_law_frac", "_law_frac", defArgs s_Lfrac, defBody s_Lfrac, defScope s_Lfrac, [], []⟩
def dd_Lsetting : He.DefD := ⟨("_law_setting", none), "_law_setting", "_law_setting", defArgs s_Lsetting, defBody s_Lsetting, defScope s_Lsetting, [], []⟩
def dd_add : He.DefD := ⟨("add", none), "add", "add", defArgs s_add, defBody s_add, defScope s_add, [], []⟩
def dd_turned : He.DefD := ⟨("turned", none), "turned", "turned", defArgs s_turned, defBody s_turned, defScope s_turned, [], []⟩
def dd_step_price : He.DefD := ⟨("step_price", none), "step_price", "step_price", defArgs s_step_price, defBody s_step_price, defScope s_step_price, [], []⟩
def dd_rank : He.DefD := ⟨("rank", none), "rank", "rank", defArgs s_rank, defBody s_rank, defScope s_rank, [], []⟩
def dd_settled : He.DefD := ⟨("settled", none), "settled", "settled", defArgs s_settled, defBody s_settled, defScope s_settled, [], []⟩
def dd_open_links : He.DefD := ⟨("open_links", none), "open_links", "open_links", defArgs s_open_links, defBody s_open_links, defScope s_open_links, [], []⟩
def dd_take : He.DefD := ⟨("take", none), "take", "take", defArgs s_take, defBody s_take, defScope s_take, [], []⟩
def dd_first_loads : He.DefD := ⟨("first_loads", none), "first_loads", "first_loads", defArgs s_first_loads, defBody s_first_loads, defScope s_first_loads, [], []⟩
def dd_ends_put : He.DefD := ⟨("ends_put", none), "ends_put", "ends_put", defArgs s_ends_put, defBody s_ends_put, defScope s_ends_put, [], []⟩
def dd_left_links : He.DefD := ⟨("left_links", none), "left_links", "left_links", defArgs s_left_links, defBody s_left_links, defScope s_left_links, [], []⟩
def dd_tight_links : He.DefD := ⟨("tight_links", none), "tight_links", "tight_links", defArgs s_tight_links, defBody s_tight_links, defScope s_tight_links, [], []⟩
def dd_reached : He.DefD := ⟨("reached", none), "reached", "reached", defArgs s_reached, defBody s_reached, defScope s_reached, [], []⟩
def dd_push : He.DefD := ⟨("push", none), "push", "push", defArgs s_push, defBody s_push, defScope s_push, [], []⟩
def dd_best : He.DefD := ⟨("best", none), "best", "best", defArgs s_best, defBody s_best, defScope s_best, [], [("s_ahead", .bl false), ("t_ahead", .bl false)]⟩
def dd_Lplus : He.DefD := ⟨("_law_plus", none), "_law_plus", "_law_plus", defArgs s_Lplus, defBody s_Lplus, defScope s_Lplus, [], []⟩
def dd_Ltimes : He.DefD := ⟨("_law_times", none), "_law_times", "_law_times", defArgs s_Ltimes, defBody s_Ltimes, defScope s_Ltimes, [], []⟩
def dd_Lat : He.DefD := ⟨("_law_at", none), "_law_at", "_law_at", defArgs s_Lat, defBody s_Lat, defScope s_Lat, [], []⟩
def dd_Lprice : He.DefD := ⟨("_law_price", none), "_law_price", "_law_price", defArgs s_Lprice, defBody s_Lprice, defScope s_Lprice, [], []⟩
def dd_Llt : He.DefD := ⟨("_law_lt", none), "_law_lt", "_law_lt", defArgs s_Llt, defBody s_Llt, defScope s_Llt, [], []⟩
def dd_Lleft : He.DefD := ⟨("_law_left", none), "_law_left", "_law_left", defArgs s_Lleft, defBody s_Lleft, defScope s_Lleft, [], []⟩
def dd_law : He.DefD := ⟨("law", none), "law", "law", defArgs s_law, defBody s_law, defScope s_law, [], []⟩
def fnA : List He.DefD := ([dd_Lfeed, dd_Ldraw, dd_Lroom, dd_Lsome_move, dd_Lsome_plain, dd_Lgcd, dd_Lfrac, dd_Lsetting, dd_add, dd_turned, dd_step_price, dd_rank, dd_settled, dd_open_links, dd_take, dd_first_loads, dd_ends_put, dd_left_links, dd_tight_links, dd_reached, dd_push, dd_best, dd_Lplus, dd_Ltimes, dd_Lat] : List He.DefD) ++ ([dd_Lprice, dd_Llt, dd_Lleft, dd_law] : List He.DefD)
def fnL : List He.DefD := fnA
def faL : List He.Fa := ([.glo "_law_feed", .glo "_law_draw", .glo "_law_room", .glo "_law_some_move", .glo "_law_some_plain", .glo "_law_gcd", .glo "_law_frac", .glo "_law_setting", .glo "add", .glo "turned", .glo "step_price", .glo "rank", .glo "settled", .glo "open_links", .glo "take", .glo "first_loads", .glo "ends_put", .glo "left_links", .glo "tight_links", .glo "reached", .glo "push", .glo "best", .glo "_law_plus", .glo "_law_times", .glo "_law_at"] : List He.Fa) ++ ([.glo "_law_price", .glo "_law_lt", .glo "_law_left", .glo "law", .free "abs", .free "enumerate", .free "int", .free "len", .free "list", .free "min", .free "range", .glo "NOUGHT"] : List He.Fa)
def exA (K : PySem.W.Frag) : List Bool := ([datAt K 20 (.tup [(.int 0), (.int 0)]) (.ref (He.ga K "NOUGHT")), decide ((tlL.map fun p => tabAd K p.1).Nodup)] : List Bool)
def exL (K : PySem.W.Frag) : List Bool := exA K
def tsL : List (Str × List Str) := []
abbrev R : PySem.W.OpenRow := PySem.W.OpenLaw.row PySem.Challenge.rw_dialweir_k38_whole_nothing_cheaper_on_a
def tfL : List He.Defn := tlL.map fun p => (p.1, none)
abbrev hk : PySem.W.Hook := hookZ 2048 faL fnL tsL tfL (fun K => DW.allT (exL K))
def ob (s : PySem.W.SharedT) : AlT2 := obsZ 2048 faL fnL tsL tfL (fun K => DW.allT (exL K)) (HandSHeadRun.getT s)
theorem ob_eq (s : PySem.W.SharedT) : ob s = hk.obs s.abs := obsZ_eq (HandSHeadRun.getT_eq s)
def looseL : List Str := (["add", "take", "turned", "NOUGHT", "rank", "left_links", "reached", "push", "ends_put", "step_price", "settled", "open_links", "first_loads", "tight_links", "best", "_law_feed", "_law_draw", "_law_gcd", "_law_frac", "_law_plus", "_law_times", "_law_lt", "_law_at", "_law_some_move", "_law_setting"] : List Str) ++ (["_law_room", "_law_some_plain", "_law_left", "_law_price"] : List Str)
abbrev mM : Nat := 150 + (16000)
abbrev qV : Program := PySem.W.view R.prog [33]
abbrev wF (w : World) : World := w.withFollow "special-get-raises" false
abbrev wT (w : World) : World := w.withFollow "special-get-raises" true
end Prf
section
open PySem PySem.W PySem.Calls PyProof.Rows
theorem Prf.cw_top (RUN : ∀ w : World, HandSHeadRun.RunEq Prf.R (view (OpenLaw.row PySem.Challenge.rw_dialweir_k38_whole_nothing_cheaper_on_a).prog [33]) Prf.hk Prf.ob Prf.mM Prf.looseL w) (HC : WalkO (view (OpenLaw.row PySem.Challenge.rw_dialweir_k38_whole_nothing_cheaper_on_a).prog [33]) Prf.looseL (XL (view (OpenLaw.row PySem.Challenge.rw_dialweir_k38_whole_nothing_cheaper_on_a).prog [33]) []) Prf.hk.says (OpenLaw.row PySem.Challenge.rw_dialweir_k38_whole_nothing_cheaper_on_a).toRowW (HandSHeadRun.topDef (OpenLaw.row PySem.Challenge.rw_dialweir_k38_whole_nothing_cheaper_on_a).prog 33) [] (fun f vs => PySem.call f vs)) : PySem.Challenge.rw_dialweir_k38_whole_nothing_cheaper_on_a.Holds := by
  w_on; o_law
  refine HandSHeadRun.head_any (r := OpenLaw.row PySem.Challenge.rw_dialweir_k38_whole_nothing_cheaper_on_a) (q := view (OpenLaw.row PySem.Challenge.rw_dialweir_k38_whole_nothing_cheaper_on_a).prog [33]) (H := Prf.hk) (ob := Prf.ob) (M := Prf.mM) (loose := Prf.looseL) (d := HandSHeadRun.topDef (OpenLaw.row PySem.Challenge.rw_dialweir_k38_whole_nothing_cheaper_on_a).prog 33) (kwd := []) Prf.ob_eq
    (by kernel_rfl) (fun s => by kernel_rfl) RUN (by kernel_rfl) (by kernel_rfl) (by kernel_rfl) (by rfl) (by first | assumption | decide +kernel) (by decide +kernel) ⟨rfl, rfl, rfl, rfl, rfl, by decide +kernel⟩ ?hw HC
  case hw => w_witness2
end
namespace Prf
open PySem L2 MV
noncomputable abbrev qF (w : World) : StH := HandSHeadRun.stepQ (HandSHeadRun.denQ HandSHeadRun.tabQ) R.prog (wF w)
noncomputable abbrev qT (w : World) : StH := HandSHeadRun.stepQ (HandSHeadRun.denQ HandSHeadRun.tabQ) R.prog (wT w)
noncomputable def hx1 (w : World) (os : OsState) : {x : XH // bootM (qF w) 150 R.prog (wF w) os = some x} := by
  apply foundH R.prog w frX_eq
  kat_step
  refine after_at ?_
  exact rfl
noncomputable def hxe (w : World) (os : OsState) : {x : PySem.W.SharedT // contF (qF w) (wF w) 16000 (hx1 w os).1 = some x} := by
  apply foundH R.prog w frSh_eq
  kat_step
  refine after_at ?_
  exact rfl
noncomputable abbrev hS (w : World) (os : OsState) : PySem.W.SharedT := (hxe w os).1
theorem hr_1 (w : World) (os : OsState) : bootM (qT w) 150 R.prog (wT w) os = some (hx1 w os).1 := by kernel_rfl
theorem hr_e (w : World) (os : OsState) : contF (qT w) (wT w) 16000 (hx1 w os).1 = some (hS w os) := by kernel_rfl
theorem hF_a (w : World) (os : OsState) : HandSHeadRun.looksF R.prog (PySem.W.boot_heap (wF w).params) (hS w os).abs = true := by kernel_rfl
theorem hT_a (w : World) (os : OsState) : HandSHeadRun.looksF R.prog (PySem.W.boot_heap (wT w).params) (hS w os).abs = true := by kernel_rfl
theorem h_b (w : World) (os : OsState) : HandSHeadRun.seenQ qV looseL (importedModules R.prog.main.body) (fun s => PySem.W.xlAt qV [] s && PySem.W.recOk R.toRowW.records s) (hS w os).abs = PySem.W.openGood qV looseL := by kernel_rfl
theorem h_c (w : World) (os : OsState) : frK (kZ (hS w os)) (fun K => ((faL.all fun f => f.ok K), DW.allT (exL K))) = (true, true) := by kernel_rfl
theorem h_d (w : World) (os : OsState) : frK (kZ (hS w os)) (fun K => ((fnL.all fun d => d.ok K), (fnL.map fun d => He.fnW K d.at_))) = (true, fnL.map He.DefD.val) := by kernel_rfl
theorem hF_e (w : World) (os : OsState) : frK (kZ (hS w os)) (fun K => tsL.map fun t => He.dicW K (He.ga K t.1)) = tsL.map fun t => some (He.keysIn (wF w).params t.2) := by kernel_rfl
theorem hT_e (w : World) (os : OsState) : frK (kZ (hS w os)) (fun K => tsL.map fun t => He.dicW K (He.ga K t.1)) = tsL.map fun t => some (He.keysIn (wT w).params t.2) := by kernel_rfl
theorem h_f (w : World) (os : OsState) : frK (kZ (hS w os)) (fun K => He.tabsB (HandSHeadRun.getT (hS w os)) tfL K) = true := by kernel_rfl
theorem run_F (w : World) : HandSHeadRun.RunEq R qV hk ob mM looseL (wF w) :=
  runEq_ofZ fun os => ⟨hS w os, (bootM_F ((hx1 w os).2)).trans ((hxe w os).2), hF_a w os, h_b w os, h_c w os, h_d w os, hF_e w os, h_f w os⟩
theorem run_T (w : World) : HandSHeadRun.RunEq R qV hk ob mM looseL (wT w) :=
  runEq_ofZ fun os => ⟨hS w os, (bootM_F (hr_1 w os)).trans (hr_e w os), hT_a w os, h_b w os, h_c w os, h_d w os, hT_e w os, h_f w os⟩
theorem run (w : World) : HandSHeadRun.RunEq R qV hk ob mM looseL w := PySem.W.byRow2 "special-get-raises" (P := fun w => HandSHeadRun.RunEq R qV hk ob mM looseL w) run_F run_T w
end Prf
namespace Prf
open PySem L2 MV
structure Tx (w : World) (K : PySem.W.Frag) (mg : Str → Option Value) : Prop where
  g_Lfeed : mg "_law_feed" = some (.ref (He.ga K "_law_feed"))
  d_Lfeed : ∃ fd, FunD K "_law_feed" "_law_feed" (defArgs s_Lfeed) (defBody s_Lfeed) (defScope s_Lfeed) [] [] (He.ga K "_law_feed") fd
  g_Ldraw : mg "_law_draw" = some (.ref (He.ga K "_law_draw"))
  d_Ldraw : ∃ fd, FunD K "_law_draw" "_law_draw" (defArgs s_Ldraw) (defBody s_Ldraw) (defScope s_Ldraw) [] [] (He.ga K "_law_draw") fd
  g_Lroom : mg "_law_room" = some (.ref (He.ga K "_law_room"))
  d_Lroom : ∃ fd, FunD K "_law_room" "_law_room" (defArgs s_Lroom) (defBody s_Lroom) (defScope s_Lroom) [] [] (He.ga K "_law_room") fd
  g_Lsome_move : mg "_law_some_move" = some (.ref (He.ga K "_law_some_move"))
  d_Lsome_move : ∃ fd, FunD K "_law_some_move" "_law_some_move" (defArgs s_Lsome_move) (defBody s_Lsome_move) (defScope s_Lsome_move) [] [] (He.ga K "_law_some_move") fd
  g_Lsome_plain : mg "_law_some_plain" = some (.ref (He.ga K "_law_some_plain"))
  d_Lsome_plain : ∃ fd, FunD K "_law_some_plain" "_law_some_plain" (defArgs s_Lsome_plain) (defBody s_Lsome_plain) (defScope s_Lsome_plain) [] [] (He.ga K "_law_some_plain") fd
  g_Lgcd : mg "_law_gcd" = some (.ref (He.ga K "_law_gcd"))
  d_Lgcd : ∃ fd, FunD K "_law_gcd" "_law_gcd" (defArgs s_Lgcd) (defBody s_Lgcd) (defScope s_Lgcd) [] [] (He.ga K "_law_gcd") fd
  g_Lfrac : mg "_law_frac" = some (.ref (He.ga K "_law_frac"))
  d_Lfrac : ∃ fd, FunD K "_law_frac" "_law_frac" (defArgs s_Lfrac) (defBody s_Lfrac) (defScope s_Lfrac) [] [] (He.ga K "_law_frac") fd
  g_Lsetting : mg "_law_setting" = some (.ref (He.ga K "_law_setting"))
  d_Lsetting : ∃ fd, FunD K "_law_setting" "_law_setting" (defArgs s_Lsetting) (defBody s_Lsetting) (defScope s_Lsetting) [] [] (He.ga K "_law_setting") fd
  g_add : mg "add" = some (.ref (He.ga K "add"))
  d_add : ∃ fd, FunD K "add" "add" (defArgs s_add) (defBody s_add) (defScope s_add) [] [] (He.ga K "add") fd
  g_turned : mg "turned" = some (.ref (He.ga K "turned"))
  d_turned : ∃ fd, FunD K "turned" "turned" (defArgs s_turned) (defBody s_turned) (defScope s_turned) [] [] (He.ga K "turned") fd
  g_step_price : mg "step_price" = some (.ref (He.ga K "step_price"))
  d_step_price : ∃ fd, FunD K "step_price" "step_price" (defArgs s_step_price) (defBody s_step_price) (defScope s_step_price) [] [] (He.ga K "step_price") fd
  g_rank : mg "rank" = some (.ref (He.ga K "rank"))
  d_rank : ∃ fd, FunD K "rank" "rank" (defArgs s_rank) (defBody s_rank) (defScope s_rank) [] [] (He.ga K "rank") fd
  g_settled : mg "settled" = some (.ref (He.ga K "settled"))
  d_settled : ∃ fd, FunD K "settled" "settled" (defArgs s_settled) (defBody s_settled) (defScope s_settled) [] [] (He.ga K "settled") fd
  g_open_links : mg "open_links" = some (.ref (He.ga K "open_links"))
  d_open_links : ∃ fd, FunD K "open_links" "open_links" (defArgs s_open_links) (defBody s_open_links) (defScope s_open_links) [] [] (He.ga K "open_links") fd
  g_take : mg "take" = some (.ref (He.ga K "take"))
  d_take : ∃ fd, FunD K "take" "take" (defArgs s_take) (defBody s_take) (defScope s_take) [] [] (He.ga K "take") fd
  g_first_loads : mg "first_loads" = some (.ref (He.ga K "first_loads"))
  d_first_loads : ∃ fd, FunD K "first_loads" "first_loads" (defArgs s_first_loads) (defBody s_first_loads) (defScope s_first_loads) [] [] (He.ga K "first_loads") fd
  g_ends_put : mg "ends_put" = some (.ref (He.ga K "ends_put"))
  d_ends_put : ∃ fd, FunD K "ends_put" "ends_put" (defArgs s_ends_put) (defBody s_ends_put) (defScope s_ends_put) [] [] (He.ga K "ends_put") fd
  g_left_links : mg "left_links" = some (.ref (He.ga K "left_links"))
  d_left_links : ∃ fd, FunD K "left_links" "left_links" (defArgs s_left_links) (defBody s_left_links) (defScope s_left_links) [] [] (He.ga K "left_links") fd
  g_tight_links : mg "tight_links" = some (.ref (He.ga K "tight_links"))
  d_tight_links : ∃ fd, FunD K "tight_links" "tight_links" (defArgs s_tight_links) (defBody s_tight_links) (defScope s_tight_links) [] [] (He.ga K "tight_links") fd
  g_reached : mg "reached" = some (.ref (He.ga K "reached"))
  d_reached : ∃ fd, FunD K "reached" "reached" (defArgs s_reached) (defBody s_reached) (defScope s_reached) [] [] (He.ga K "reached") fd
  g_push : mg "push" = some (.ref (He.ga K "push"))
  d_push : ∃ fd, FunD K "push" "push" (defArgs s_push) (defBody s_push) (defScope s_push) [] [] (He.ga K "push") fd
  g_best : mg "best" = some (.ref (He.ga K "best"))
  d_best : ∃ fd, FunD K "best" "best" (defArgs s_best) (defBody s_best) (defScope s_best) [] [("s_ahead", (.bl false)), ("t_ahead", (.bl false))] (He.ga K "best") fd
  g_Lplus : mg "_law_plus" = some (.ref (He.ga K "_law_plus"))
  d_Lplus : ∃ fd, FunD K "_law_plus" "_law_plus" (defArgs s_Lplus) (defBody s_Lplus) (defScope s_Lplus) [] [] (He.ga K "_law_plus") fd
  g_Ltimes : mg "_law_times" = some (.ref (He.ga K "_law_times"))
  d_Ltimes : ∃ fd, FunD K "_law_times" "_law_times" (defArgs s_Ltimes) (defBody s_Ltimes) (defScope s_Ltimes) [] [] (He.ga K "_law_times") fd
  g_Lat : mg "_law_at" = some (.ref (He.ga K "_law_at"))
  d_Lat : ∃ fd, FunD K "_law_at" "_law_at" (defArgs s_Lat) (defBody s_Lat) (defScope s_Lat) [] [] (He.ga K "_law_at") fd
  g_Lprice : mg "_law_price" = some (.ref (He.ga K "_law_price"))
  d_Lprice : ∃ fd, FunD K "_law_price" "_law_price" (defArgs s_Lprice) (defBody s_Lprice) (defScope s_Lprice) [] [] (He.ga K "_law_price") fd
  g_Llt : mg "_law_lt" = some (.ref (He.ga K "_law_lt"))
  d_Llt : ∃ fd, FunD K "_law_lt" "_law_lt" (defArgs s_Llt) (defBody s_Llt) (defScope s_Llt) [] [] (He.ga K "_law_lt") fd
  g_Lleft : mg "_law_left" = some (.ref (He.ga K "_law_left"))
  d_Lleft : ∃ fd, FunD K "_law_left" "_law_left" (defArgs s_Lleft) (defBody s_Lleft) (defScope s_Lleft) [] [] (He.ga K "_law_left") fd
  g_law : mg "law" = some (.ref (He.ga K "law"))
  d_law : ∃ fd, FunD K "law" "law" (defArgs s_law) (defBody s_law) (defScope s_law) [] [] (He.ga K "law") fd
  m_abs : mg "abs" = none
  m_enumerate : mg "enumerate" = none
  m_int : mg "int" = none
  m_len : mg "len" = none
  m_list : mg "list" = none
  m_min : mg "min" = none
  m_range : mg "range" = none
  g_NOUGHT : mg "NOUGHT" = some (.ref (He.ga K "NOUGHT"))
  t_NOUGHT : ∀ as H, Rel K as H (.tup [(.int 0), (.int 0)]) (.ref (He.ga K "NOUGHT"))
  tn : (tlL.map fun p => tabAd K p.1).Nodup
theorem sc_Lfeed : FnScope N_Lfeed ["_law_script"] (defScope s_Lfeed) := ⟨rfl, rfl, rfl, by decide +kernel, rfl, by decide +kernel, by decide +kernel⟩
theorem fk_Lfeed {P : Program} {w : World} {K : PySem.W.Frag} {mg : Str → Option Value} {base : Heap} (T : Tx w K mg) {fd : FuncData}
    (F : FunD K "_law_feed" "_law_feed" (defArgs s_Lfeed) (defBody s_Lfeed) (defScope s_Lfeed) [] [] (He.ga K "_law_feed") fd) :
    FnOk P w K mg base (MV.CX P w) 1 (He.ga K "_law_feed") fd ["_law_script"] (spM K 1 w_Lfeed) :=
  fn_ok F sc_Lfeed fun cdv A outer s H E hr tk po =>
    (qss_one (qs_ret (qe_lst (qa_cons (qe_callTy (call_listA rfl) sim_list (by rfl) T.m_list (by decide +kernel) (qa_cons (qe_slice (qv 0) qo_none (qo_some qe_int)) qa_nil)) (qa_cons qe_int (qa_cons qe_int (qa_cons qe_int qa_nil)))))))
theorem ok_Lfeed_0 {P : Program} {w : World} {K : PySem.W.Frag} {mg : Str → Option Value} {base : Heap} (T : Tx w K mg) :
    Fn P w K mg base 1 (He.ga K "_law_feed") ["_law_script"] w_Lfeed 1 [] (fun ds _ => ds) := by
  obtain ⟨fd, F⟩ := T.d_Lfeed
  refine ⟨⟨fd, fk_Lfeed T F, ?_⟩, F.kp⟩
  exact dbn_all (FunD.bindsN F (ps := ["_law_script"]) fun _ _ _ _ _ _ us hl => match us, hl with | [_], _ => rfl)
theorem sc_Ldraw : FnScope N_Ldraw ["_law_feed_here", "_law_many"] (defScope s_Ldraw) := ⟨rfl, rfl, rfl, by decide +kernel, rfl, by decide +kernel, by decide +kernel⟩
theorem fk_Ldraw {P : Program} {w : World} {K : PySem.W.Frag} {mg : Str → Option Value} {base : Heap} (T : Tx w K mg) {fd : FuncData}
    (F : FunD K "_law_draw" "_law_draw" (defArgs s_Ldraw) (defBody s_Ldraw) (defScope s_Ldraw) [] [] (He.ga K "_law_draw") fd) :
    FnOk P w K mg base (MV.CX P w) 1 (He.ga K "_law_draw") fd ["_law_feed_here", "_law_many"] (spM K 2 w_Ldraw) :=
  fn_ok F sc_Ldraw fun cdv A outer s H E hr tk po =>
    (qss_cons (qs_if (qt_cmp op_gt sim_gt (qe_ix (ix_any (units1 hr)) sim_ix (qv 0) qe_int (fun _ _ => rfl)) qe_int (nomark _)) (qss_cons (qs_set (i := 2) sc_Ldraw.nd rfl (Or.inl rfl) (qe_op op_modN sim_mod (qe_ix (ix_any (units1 hr)) sim_ix (qv 0) qe_int (fun _ _ => rfl)) (qv 1)))
      (qss_cons (qs_setIx (units1 hr) (qe_op DW.op_fdivX sim_div (qe_ix (ix_any (units1 hr)) sim_ix (qv 0) qe_int (fun _ _ => rfl)) (qv 1)) (qv 0) qe_int)
      (qss_one (qs_ret (qv 2))))) qss_nil)
      (qss_cons (qs_set (i := 3) sc_Ldraw.nd rfl (Or.inl rfl) qe_int)
      (qss_cons (qs_if (qt_cmp op_lt sim_lt (qe_ix (ix_any (units1 hr)) sim_ix (qv 0) qe_int (fun _ _ => rfl)) (qe_callB call_lenA sim_len (by rfl) T.m_len (by decide +kernel) (qa_cons (qe_ix (ix_any (units1 hr)) sim_ix (qv 0) qe_int (fun _ _ => rfl)) qa_nil)) (nomark _)) (qss_cons (qs_set (i := 3) sc_Ldraw.nd rfl (Or.inl rfl) (qe_ix (ix_any (units1 hr)) sim_ix (qe_ix (ix_any (units1 hr)) sim_ix (qv 0) qe_int (fun _ _ => rfl)) (qe_ix (ix_any (units1 hr)) sim_ix (qv 0) qe_int (fun _ _ => rfl)) (fun _ _ => rfl)))
      (qss_one (qs_setIx (units1 hr) (qe_op DW.op_plus sim_add (qe_ix (ix_any (units1 hr)) sim_ix (qv 0) qe_int (fun _ _ => rfl)) qe_int) (qv 0) qe_int))) qss_nil)
      (qss_cons (qs_if (qt_cmp op_ge sim_ge (qv 3) qe_int (nomark _)) (qss_cons (qs_setIx (units1 hr) (qe_op DW.op_fdivX sim_div (qv 3) (qv 1)) (qv 0) qe_int)
      (qss_one (qs_ret (qe_op op_modN sim_mod (qv 3) (qv 1))))) qss_nil)
      (qss_cons (qs_setIx (units1 hr) (qe_op op_modN sim_mod (qe_op DW.op_plus sim_add (qe_op DW.op_plus sim_add (qe_op op_mulA sim_mul (qe_ix (ix_any (units1 hr)) sim_ix (qv 0) qe_int (fun _ _ => rfl)) qe_int) (qe_op op_modN sim_mod (qv 3) qe_int)) qe_int) qe_int) (qv 0) qe_int)
      (qss_cons (qs_set (i := 4) sc_Ldraw.nd rfl (Or.inl rfl) (qe_ix (ix_any (units1 hr)) sim_ix (qe_lst (qa_cons (qe_ix (ix_any (units1 hr)) sim_ix (qv 0) qe_int (fun _ _ => rfl)) (qa_cons (qe_op op_pow sim_pow (qe_ix (ix_any (units1 hr)) sim_ix (qv 0) qe_int (fun _ _ => rfl)) qe_int) qa_nil))) (qe_callTy call_intA sim_int (by rfl) T.m_int (by decide +kernel) (qa_cons (qe_cmp op_gt sim_gt (qv 1) qe_int (nomark _)) qa_nil)) (fun _ _ => rfl)))
      (qss_one (qs_ret (qe_op op_modN sim_mod (qe_op DW.op_plus sim_add (qe_op DW.op_fdivX sim_div (qv 4) qe_int) (qv 3)) (qv 1))))))))))
theorem ok_Ldraw_0 {P : Program} {w : World} {K : PySem.W.Frag} {mg : Str → Option Value} {base : Heap} (T : Tx w K mg) :
    Fn P w K mg base 1 (He.ga K "_law_draw") ["_law_feed_here", "_law_many"] w_Ldraw 2 [] (fun ds _ => ds) := by
  obtain ⟨fd, F⟩ := T.d_Ldraw
  refine ⟨⟨fd, fk_Ldraw T F, ?_⟩, F.kp⟩
  exact dbn_all (FunD.bindsN F (ps := ["_law_feed_here", "_law_many"]) fun _ _ _ _ _ _ us hl => match us, hl with | [_, _], _ => rfl)
theorem sc_Lroom : FnScope N_Lroom ["_law_feed_here", "_law_top", "_law_pair"] (defScope s_Lroom) := ⟨rfl, rfl, rfl, by decide +kernel, rfl, by decide +kernel, by decide +kernel⟩
theorem fk_Lroom {P : Program} {w : World} {K : PySem.W.Frag} {mg : Str → Option Value} {base : Heap} (T : Tx w K mg)
    (G_Ldraw_0 : Fn P w K mg base 1 (He.ga K "_law_draw") ["_law_feed_here", "_law_many"] w_Ldraw 2 [] (fun ds _ => ds)) {fd : FuncData}
    (F : FunD K "_law_room" "_law_room" (defArgs s_Lroom) (defBody s_Lroom) (defScope s_Lroom) [] [] (He.ga K "_law_room") fd) :
    FnOk P w K mg base (MV.CX P w) 2 (He.ga K "_law_room") fd ["_law_feed_here", "_law_top", "_law_pair"] (spM K 3 w_Lroom) :=
  fn_ok F sc_Lroom fun cdv A outer s H E hr tk po =>
    (qss_cons (qs_set (i := 3) sc_Lroom.nd rfl (Or.inl rfl) (qe_call G_Ldraw_0 (hr.mono (by decide)) (by rfl) T.g_Ldraw tk (qcwP (qa_cons (qv 0) (qa_cons (qe_op DW.op_plus sim_add (qv 1) qe_int) qa_nil))) (by exact fun _ _ h _ => h)))
      (qss_cons (qs_set (i := 4) sc_Lroom.nd rfl (Or.inl rfl) (qe_op op_sub sim_sub (qe_call G_Ldraw_0 (hr.mono (by decide)) (by rfl) T.g_Ldraw tk (qcwP (qa_cons (qv 0) (qa_cons qe_int qa_nil))) (by exact fun _ _ h _ => h)) qe_int))
      (qss_cons (qs_set (i := 5) sc_Lroom.nd rfl (Or.inl rfl) (qe_callB (call_min2 rfl) sim_min2 (by rfl) T.m_min (by decide +kernel) (qa_cons (qe_op DW.op_plus sim_add (qv 3) (qe_op op_mulA sim_mul (qv 4) (qe_ix (ix_any (units1 hr)) sim_ix (qv 2) qe_int (fun _ _ => rfl)))) (qa_cons (qe_op DW.op_plus sim_add (qv 3) (qe_op op_mulA sim_mul (qv 4) (qe_ix (ix_any (units1 hr)) sim_ix (qv 2) qe_int (fun _ _ => rfl)))) qa_nil))))
      (qss_cons (qs_if (qt_cmp op_lt sim_lt (qv 5) qe_int (nomark _)) (qss_one (qs_set (i := 3) sc_Lroom.nd rfl (Or.inl rfl) (qe_op op_sub sim_sub (qv 3) (qv 5)))) qss_nil)
      (qss_one (qs_ret (qe_tup (qa_cons (qv 3) (qa_cons (qv 4) qa_nil)))))))))
theorem ok_Lroom_0 {P : Program} {w : World} {K : PySem.W.Frag} {mg : Str → Option Value} {base : Heap} (T : Tx w K mg)
    (G_Ldraw_0 : Fn P w K mg base 1 (He.ga K "_law_draw") ["_law_feed_here", "_law_many"] w_Ldraw 2 [] (fun ds _ => ds)) :
    Fn P w K mg base 2 (He.ga K "_law_room") ["_law_feed_here", "_law_top", "_law_pair"] w_Lroom 3 [] (fun ds _ => ds) := by
  obtain ⟨fd, F⟩ := T.d_Lroom
  refine ⟨⟨fd, fk_Lroom T G_Ldraw_0 F, ?_⟩, F.kp⟩
  exact dbn_all (FunD.bindsN F (ps := ["_law_feed_here", "_law_top", "_law_pair"]) fun _ _ _ _ _ _ us hl => match us, hl with | [_, _, _], _ => rfl)
theorem sc_Lsome_move : FnScope N_Lsome_move ["_law_feed_here", "_law_far"] (defScope s_Lsome_move) := ⟨rfl, rfl, rfl, by decide +kernel, rfl, by decide +kernel, by decide +kernel⟩
theorem fk_Lsome_move {P : Program} {w : World} {K : PySem.W.Frag} {mg : Str → Option Value} {base : Heap} (T : Tx w K mg)
    (G_Ldraw_0 : Fn P w K mg base 1 (He.ga K "_law_draw") ["_law_feed_here", "_law_many"] w_Ldraw 2 [] (fun ds _ => ds)) {fd : FuncData}
    (F : FunD K "_law_some_move" "_law_some_move" (defArgs s_Lsome_move) (defBody s_Lsome_move) (defScope s_Lsome_move) [] [] (He.ga K "_law_some_move") fd) :
    FnOk P w K mg base (MV.CX P w) 2 (He.ga K "_law_some_move") fd ["_law_feed_here", "_law_far"] (spM K 2 w_Lsome_move) :=
  fn_ok F sc_Lsome_move fun cdv A outer s H E hr tk po =>
    (qss_one (qs_ret (qe_tup (qa_cons (qe_op op_sub sim_sub (qe_call G_Ldraw_0 (hr.mono (by decide)) (by rfl) T.g_Ldraw tk (qcwP (qa_cons (qv 0) (qa_cons (qe_op DW.op_plus sim_add (qe_op op_mulA sim_mul qe_int (qv 1)) qe_int) qa_nil))) (by exact fun _ _ h _ => h)) (qv 1)) (qa_cons (qe_op op_sub sim_sub (qe_call G_Ldraw_0 (hr.mono (by decide)) (by rfl) T.g_Ldraw tk (qcwP (qa_cons (qv 0) (qa_cons (qe_op DW.op_plus sim_add (qe_op op_mulA sim_mul qe_int (qv 1)) qe_int) qa_nil))) (by exact fun _ _ h _ => h)) (qv 1)) qa_nil)))))
theorem ok_Lsome_move_0 {P : Program} {w : World} {K : PySem.W.Frag} {mg : Str → Option Value} {base : Heap} (T : Tx w K mg)
    (G_Ldraw_0 : Fn P w K mg base 1 (He.ga K "_law_draw") ["_law_feed_here", "_law_many"] w_Ldraw 2 [] (fun ds _ => ds)) :
    Fn P w K mg base 2 (He.ga K "_law_some_move") ["_law_feed_here", "_law_far"] w_Lsome_move 2 [] (fun ds _ => ds) := by
  obtain ⟨fd, F⟩ := T.d_Lsome_move
  refine ⟨⟨fd, fk_Lsome_move T G_Ldraw_0 F, ?_⟩, F.kp⟩
  exact dbn_all (FunD.bindsN F (ps := ["_law_feed_here", "_law_far"]) fun _ _ _ _ _ _ us hl => match us, hl with | [_, _], _ => rfl)
theorem sc_Lsome_plain : FnScope N_Lsome_plain ["_law_feed_here", "_law_s_pair", "_law_t_pair"] (defScope s_Lsome_plain) := ⟨rfl, rfl, rfl, by decide +kernel, rfl, by decide +kernel, by decide +kernel⟩
theorem fk_Lsome_plain {P : Program} {w : World} {K : PySem.W.Frag} {mg : Str → Option Value} {base : Heap} (T : Tx w K mg)
    (G_Ldraw_0 : Fn P w K mg base 1 (He.ga K "_law_draw") ["_law_feed_here", "_law_many"] w_Ldraw 2 [] (fun ds _ => ds))
    (G_Lroom_0 : Fn P w K mg base 2 (He.ga K "_law_room") ["_law_feed_here", "_law_top", "_law_pair"] w_Lroom 3 [] (fun ds _ => ds))
    (G_Lsome_move_0 : Fn P w K mg base 2 (He.ga K "_law_some_move") ["_law_feed_here", "_law_far"] w_Lsome_move 2 [] (fun ds _ => ds)) {fd : FuncData}
    (F : FunD K "_law_some_plain" "_law_some_plain" (defArgs s_Lsome_plain) (defBody s_Lsome_plain) (defScope s_Lsome_plain) [] [] (He.ga K "_law_some_plain") fd) :
    FnOk P w K mg base (MV.CX P w) 3 (He.ga K "_law_some_plain") fd ["_law_feed_here", "_law_s_pair", "_law_t_pair"] (spM K 3 w_Lsome_plain) :=
  fn_ok F sc_Lsome_plain fun cdv A outer s H E hr tk po =>
    (qss_cons (qs_set (i := 3) sc_Lsome_plain.nd rfl (Or.inl rfl) (qe_op DW.op_plus sim_add qe_int (qe_call G_Ldraw_0 (hr.mono (by decide)) (by rfl) T.g_Ldraw tk (qcwP (qa_cons (qv 0) (qa_cons qe_int qa_nil))) (by exact fun _ _ h _ => h))))
      (qss_cons (qs_setLc (i := 4) (own := [("_law_node", 5)]) (T := (.nm 5)) (tt := mYes) (me := (mCB oTup (mCons (mC (.int 0)) (mCons (mC (.int 0)) mNil)))) rfl sc_Lsome_plain.nd rfl rfl (sw_true rfl rfl rfl (by decide +kernel)) (qi_range1 (by rfl) T.m_range (qa_cons (qv 3) qa_nil)) (blkOk_by (N := N_Lsome_plain) (sc := defScope s_Lsome_plain) (by decide +kernel)) (fun _ _ _ _ _ => (qg_name (i := 5) sc_Lsome_plain.nd rfl (by first | exact Or.inl rfl | exact Or.inr rfl))) (fun _ _ _ _ _ => qts_nil) (fun _ _ _ _ _ => (qe_tup (qa_cons qe_int (qa_cons qe_int qa_nil)))) (by decide))
      (qss_cons (qs_set (i := 6) sc_Lsome_plain.nd rfl (Or.inl rfl) (qe_lst qa_nil))
      (qss_cons (qs_set (i := 7) sc_Lsome_plain.nd rfl (Or.inl rfl) (qe_lst qa_nil))
      (qss_cons (qs_for po rfl (qi_range1 (by rfl) T.m_range (qa_cons (qe_call G_Ldraw_0 (hr.mono (by decide)) (by rfl) T.g_Ldraw tk (qcwP (qa_cons (qv 0) (qa_cons qe_int qa_nil))) (by exact fun _ _ h _ => h)) qa_nil)) (qg_name (i := 8) sc_Lsome_plain.nd rfl (by first | exact Or.inl rfl | exact Or.inr rfl)) (qss_cons (qs_set (i := 9) sc_Lsome_plain.nd rfl (Or.inl rfl) (qe_call G_Ldraw_0 (hr.mono (by decide)) (by rfl) T.g_Ldraw tk (qcwP (qa_cons (qv 0) (qa_cons (qv 3) qa_nil))) (by exact fun _ _ h _ => h)))
      (qss_cons (qs_set (i := 10) sc_Lsome_plain.nd rfl (Or.inl rfl) (qe_call G_Ldraw_0 (hr.mono (by decide)) (by rfl) T.g_Ldraw tk (qcwP (qa_cons (qv 0) (qa_cons (qv 3) qa_nil))) (by exact fun _ _ h _ => h)))
      (qss_cons (qs_set (i := 11) sc_Lsome_plain.nd rfl (Or.inl rfl) (qe_call G_Lroom_0 (hr.mono (by decide)) (by rfl) T.g_Lroom tk (qcwP (qa_cons (qv 0) (qa_cons qe_int (qa_cons (qv 1) qa_nil)))) (by exact fun _ _ h _ => h)))
      (qss_cons (qs_set (i := 12) sc_Lsome_plain.nd rfl (Or.inl rfl) (qe_call G_Lroom_0 (hr.mono (by decide)) (by rfl) T.g_Lroom tk (qcwP (qa_cons (qv 0) (qa_cons qe_int (qa_cons (qv 1) qa_nil)))) (by exact fun _ _ h _ => h)))
      (qss_cons (qs_set (i := 13) sc_Lsome_plain.nd rfl (Or.inl rfl) (qe_tup (qa_cons (qe_op DW.op_plus sim_add (qe_ix (ix_any (units1 hr)) sim_ix (qv 11) qe_int (fun _ _ => rfl)) (qe_ix (ix_any (units1 hr)) sim_ix (qv 12) qe_int (fun _ _ => rfl))) (qa_cons (qe_op DW.op_plus sim_add (qe_ix (ix_any (units1 hr)) sim_ix (qv 11) qe_int (fun _ _ => rfl)) (qe_ix (ix_any (units1 hr)) sim_ix (qv 12) qe_int (fun _ _ => rfl))) qa_nil))))
      (qss_cons (qs_set (i := 14) sc_Lsome_plain.nd rfl (Or.inl rfl) (qe_call G_Lsome_move_0 (hr.mono (by decide)) (by rfl) T.g_Lsome_move tk (qcwP (qa_cons (qv 0) (qa_cons qe_int qa_nil))) (by exact fun _ _ h _ => h)))
      (qss_cons (qs_if (qt_cmp (DW.op_eqq hr.units) sim_eq (qe_call G_Ldraw_0 (hr.mono (by decide)) (by rfl) T.g_Ldraw tk (qcwP (qa_cons (qv 0) (qa_cons qe_int qa_nil))) (by exact fun _ _ h _ => h)) qe_int (nomark _)) (qss_cons (qs_set (i := 13) sc_Lsome_plain.nd rfl (Or.inl rfl) qe_non)
      (qss_one (qs_set (i := 14) sc_Lsome_plain.nd rfl (Or.inl rfl) (qe_call G_Lroom_0 (hr.mono (by decide)) (by rfl) T.g_Lroom tk (qcwP (qa_cons (qv 0) (qa_cons qe_int (qa_cons (qv 2) qa_nil)))) (by exact fun _ _ h _ => h))))) qss_nil)
      (qss_cons (qs_expr (qe_bm PySem.F.plainAttrs_list PySem.F.slot_list_append PySem.F.type_list_append mt_append sim_append (qv 6) (qa_cons (qe_tup (qa_cons (qv 9) (qa_cons (qv 10) (qa_cons (qv 13) (qa_cons (qv 14) qa_nil))))) qa_nil)))
      (qss_cons (qs_expr (qe_bm PySem.F.plainAttrs_list PySem.F.slot_list_append PySem.F.type_list_append mt_append sim_append (qv 7) (qa_cons (qv 11) qa_nil)))
      (qss_cons (qs_setIx (units1 hr) (qe_tup (qa_cons (qe_op DW.op_plus sim_add (qe_ix (ix_any (units1 hr)) sim_ix (qe_ix (ix_any (units1 hr)) sim_ix (qv 4) (qv 10) (fun _ _ => rfl)) qe_int (fun _ _ => rfl)) (qe_ix (ix_any (units1 hr)) sim_ix (qv 11) qe_int (fun _ _ => rfl))) (qa_cons (qe_op DW.op_plus sim_add (qe_ix (ix_any (units1 hr)) sim_ix (qe_ix (ix_any (units1 hr)) sim_ix (qv 4) (qv 10) (fun _ _ => rfl)) qe_int (fun _ _ => rfl)) (qe_ix (ix_any (units1 hr)) sim_ix (qv 11) qe_int (fun _ _ => rfl))) qa_nil))) (qv 4) (qv 10))
      (qss_one (qs_setIx (units1 hr) (qe_tup (qa_cons (qe_op op_sub sim_sub (qe_ix (ix_any (units1 hr)) sim_ix (qe_ix (ix_any (units1 hr)) sim_ix (qv 4) (qv 9) (fun _ _ => rfl)) qe_int (fun _ _ => rfl)) (qe_ix (ix_any (units1 hr)) sim_ix (qv 11) qe_int (fun _ _ => rfl))) (qa_cons (qe_op op_sub sim_sub (qe_ix (ix_any (units1 hr)) sim_ix (qe_ix (ix_any (units1 hr)) sim_ix (qv 4) (qv 9) (fun _ _ => rfl)) qe_int (fun _ _ => rfl)) (qe_ix (ix_any (units1 hr)) sim_ix (qv 11) qe_int (fun _ _ => rfl))) qa_nil))) (qv 4) (qv 9))))))))))))))
      (qss_one (qs_ret (qe_tup (qa_cons (qv 4) (qa_cons (qv 6) (qa_cons (qv 7) qa_nil)))))))))))
theorem ok_Lsome_plain_0 {P : Program} {w : World} {K : PySem.W.Frag} {mg : Str → Option Value} {base : Heap} (T : Tx w K mg)
    (G_Ldraw_0 : Fn P w K mg base 1 (He.ga K "_law_draw") ["_law_feed_here", "_law_many"] w_Ldraw 2 [] (fun ds _ => ds))
    (G_Lroom_0 : Fn P w K mg base 2 (He.ga K "_law_room") ["_law_feed_here", "_law_top", "_law_pair"] w_Lroom 3 [] (fun ds _ => ds))
    (G_Lsome_move_0 : Fn P w K mg base 2 (He.ga K "_law_some_move") ["_law_feed_here", "_law_far"] w_Lsome_move 2 [] (fun ds _ => ds)) :
    Fn P w K mg base 3 (He.ga K "_law_some_plain") ["_law_feed_here", "_law_s_pair", "_law_t_pair"] w_Lsome_plain 3 [] (fun ds _ => ds) := by
  obtain ⟨fd, F⟩ := T.d_Lsome_plain
  refine ⟨⟨fd, fk_Lsome_plain T G_Ldraw_0 G_Lroom_0 G_Lsome_move_0 F, ?_⟩, F.kp⟩
  exact dbn_all (FunD.bindsN F (ps := ["_law_feed_here", "_law_s_pair", "_law_t_pair"]) fun _ _ _ _ _ _ us hl => match us, hl with | [_, _, _], _ => rfl)
theorem sc_Lgcd : FnScope N_Lgcd ["_law_one", "_law_other"] (defScope s_Lgcd) := ⟨rfl, rfl, rfl, by decide +kernel, rfl, by decide +kernel, by decide +kernel⟩
theorem fk_Lgcd {P : Program} {w : World} {K : PySem.W.Frag} {mg : Str → Option Value} {base : Heap} (T : Tx w K mg) {fd : FuncData}
    (F : FunD K "_law_gcd" "_law_gcd" (defArgs s_Lgcd) (defBody s_Lgcd) (defScope s_Lgcd) [] [] (He.ga K "_law_gcd") fd) :
    FnOk P w K mg base (MV.CX P w) 1 (He.ga K "_law_gcd") fd ["_law_one", "_law_other"] (spM K 2 w_Lgcd) :=
  fn_ok F sc_Lgcd fun cdv A outer s H E hr tk po =>
    (qss_cons (qs_while po (qt_tru (qv 1) (by intro _; rfl)) (qss_one (qs_par (i := 0) (j := 1) (by rfl) sc_Lgcd.nd rfl rfl (by decide) rfl rfl (qa_cons (qv 1) (qa_cons (qe_op op_modN sim_mod (qv 0) (qv 1)) qa_nil)) (by rfl))))
      (qss_one (qs_ret (qe_callB call_abs sim_abs (by rfl) T.m_abs (by decide +kernel) (qa_cons (qv 0) qa_nil)))))
theorem ok_Lgcd_0 {P : Program} {w : World} {K : PySem.W.Frag} {mg : Str → Option Value} {base : Heap} (T : Tx w K mg) :
    Fn P w K mg base 1 (He.ga K "_law_gcd") ["_law_one", "_law_other"] w_Lgcd 2 [] (fun ds _ => ds) := by
  obtain ⟨fd, F⟩ := T.d_Lgcd
  refine ⟨⟨fd, fk_Lgcd T F, ?_⟩, F.kp⟩
  exact dbn_all (FunD.bindsN F (ps := ["_law_one", "_law_other"]) fun _ _ _ _ _ _ us hl => match us, hl with | [_, _], _ => rfl)
theorem sc_Lfrac : FnScope N_Lfrac ["_law_top", "_law_under"] (defScope s_Lfrac) := ⟨rfl, rfl, rfl, by decide +kernel, rfl, by decide +kernel, by decide +kernel⟩
theorem fk_Lfrac {P : Program} {w : World} {K : PySem.W.Frag} {mg : Str → Option Value} {base : Heap} (T : Tx w K mg)
    (G_Lgcd_0 : Fn P w K mg base 1 (He.ga K "_law_gcd") ["_law_one", "_law_other"] w_Lgcd 2 [] (fun ds _ => ds)) {fd : FuncData}
    (F : FunD K "_law_frac" "_law_frac" (defArgs s_Lfrac) (defBody s_Lfrac) (defScope s_Lfrac) [] [] (He.ga K "_law_frac") fd) :
    FnOk P w K mg base (MV.CX P w) 2 (He.ga K "_law_frac") fd ["_law_top", "_law_under"] (spM K 2 w_Lfrac) :=
  fn_ok F sc_Lfrac fun cdv A outer s H E hr tk po =>
    (qss_cons (qs_set (i := 2) sc_Lfrac.nd rfl (Or.inl rfl) (qe_call G_Lgcd_0 (hr.mono (by decide)) (by rfl) T.g_Lgcd tk (qcwP (qa_cons (qv 0) (qa_cons (qv 1) qa_nil))) (by exact fun _ _ h _ => h)))
      (qss_cons (qs_if (qt_cmp op_lt sim_lt (qv 1) qe_int (nomark _)) (qss_one (qs_set (i := 2) sc_Lfrac.nd rfl (Or.inl rfl) (qe_un un_neg sim_neg (qv 2)))) qss_nil)
      (qss_one (qs_ret (qe_tup (qa_cons (qe_op DW.op_fdivX sim_div (qv 0) (qv 2)) (qa_cons (qe_op DW.op_fdivX sim_div (qv 1) (qv 2)) qa_nil)))))))
theorem ok_Lfrac_0 {P : Program} {w : World} {K : PySem.W.Frag} {mg : Str → Option Value} {base : Heap} (T : Tx w K mg)
    (G_Lgcd_0 : Fn P w K mg base 1 (He.ga K "_law_gcd") ["_law_one", "_law_other"] w_Lgcd 2 [] (fun ds _ => ds)) :
    Fn P w K mg base 2 (He.ga K "_law_frac") ["_law_top", "_law_under"] w_Lfrac 2 [] (fun ds _ => ds) := by
  obtain ⟨fd, F⟩ := T.d_Lfrac
  refine ⟨⟨fd, fk_Lfrac T G_Lgcd_0 F, ?_⟩, F.kp⟩
  exact dbn_all (FunD.bindsN F (ps := ["_law_top", "_law_under"]) fun _ _ _ _ _ _ us hl => match us, hl with | [_, _], _ => rfl)
theorem sc_Lsetting : FnScope N_Lsetting ["_law_feed_here", "_law_pair"] (defScope s_Lsetting) := ⟨rfl, rfl, rfl, by decide +kernel, rfl, by decide +kernel, by decide +kernel⟩
theorem fk_Lsetting {P : Program} {w : World} {K : PySem.W.Frag} {mg : Str → Option Value} {base : Heap} (T : Tx w K mg)
    (G_Ldraw_0 : Fn P w K mg base 1 (He.ga K "_law_draw") ["_law_feed_here", "_law_many"] w_Ldraw 2 [] (fun ds _ => ds))
    (G_Lfrac_0 : Fn P w K mg base 2 (He.ga K "_law_frac") ["_law_top", "_law_under"] w_Lfrac 2 [] (fun ds _ => ds)) {fd : FuncData}
    (F : FunD K "_law_setting" "_law_setting" (defArgs s_Lsetting) (defBody s_Lsetting) (defScope s_Lsetting) [] [] (He.ga K "_law_setting") fd) :
    FnOk P w K mg base (MV.CX P w) 3 (He.ga K "_law_setting") fd ["_law_feed_here", "_law_pair"] (spM K 2 w_Lsetting) :=
  fn_ok F sc_Lsetting fun cdv A outer s H E hr tk po =>
    (qss_cons (qs_set (i := 2) sc_Lsetting.nd rfl (Or.inl rfl) (qe_op DW.op_plus sim_add qe_int (qe_call G_Ldraw_0 (hr.mono (by decide)) (by rfl) T.g_Ldraw tk (qcwP (qa_cons (qv 0) (qa_cons qe_int qa_nil))) (by exact fun _ _ h _ => h))))
      (qss_one (qs_ret (qe_call G_Lfrac_0 (hr.mono (by decide)) (by rfl) T.g_Lfrac tk (qcwP (qa_cons (qe_op DW.op_plus sim_add (qe_op op_mulA sim_mul (qe_ix (ix_any (units1 hr)) sim_ix (qv 1) qe_int (fun _ _ => rfl)) (qv 2)) (qe_call G_Ldraw_0 (hr.mono (by decide)) (by rfl) T.g_Ldraw tk (qcwP (qa_cons (qv 0) (qa_cons (qe_op DW.op_plus sim_add (qe_op op_mulA sim_mul (qe_op op_sub sim_sub (qe_ix (ix_any (units1 hr)) sim_ix (qv 1) qe_int (fun _ _ => rfl)) (qe_ix (ix_any (units1 hr)) sim_ix (qv 1) qe_int (fun _ _ => rfl))) (qv 2)) qe_int) qa_nil))) (by exact fun _ _ h _ => h))) (qa_cons (qv 2) qa_nil))) (by exact fun _ _ h _ => h)))))
theorem ok_Lsetting_0 {P : Program} {w : World} {K : PySem.W.Frag} {mg : Str → Option Value} {base : Heap} (T : Tx w K mg)
    (G_Ldraw_0 : Fn P w K mg base 1 (He.ga K "_law_draw") ["_law_feed_here", "_law_many"] w_Ldraw 2 [] (fun ds _ => ds))
    (G_Lfrac_0 : Fn P w K mg base 2 (He.ga K "_law_frac") ["_law_top", "_law_under"] w_Lfrac 2 [] (fun ds _ => ds)) :
    Fn P w K mg base 3 (He.ga K "_law_setting") ["_law_feed_here", "_law_pair"] w_Lsetting 2 [] (fun ds _ => ds) := by
  obtain ⟨fd, F⟩ := T.d_Lsetting
  refine ⟨⟨fd, fk_Lsetting T G_Ldraw_0 G_Lfrac_0 F, ?_⟩, F.kp⟩
  exact dbn_all (FunD.bindsN F (ps := ["_law_feed_here", "_law_pair"]) fun _ _ _ _ _ _ us hl => match us, hl with | [_, _], _ => rfl)
theorem sc_add : FnScope N_add ["m", "n"] (defScope s_add) := ⟨rfl, rfl, rfl, by decide +kernel, rfl, by decide +kernel, by decide +kernel⟩
theorem fk_add {P : Program} {w : World} {K : PySem.W.Frag} {mg : Str → Option Value} {base : Heap} (T : Tx w K mg) {fd : FuncData}
    (F : FunD K "add" "add" (defArgs s_add) (defBody s_add) (defScope s_add) [] [] (He.ga K "add") fd) :
    FnOk P w K mg base (MV.CX P w) 1 (He.ga K "add") fd ["m", "n"] (spM K 2 w_add) :=
  fn_ok F sc_add fun cdv A outer s H E hr tk po =>
    (qss_one (qs_ret (qe_tup (qa_cons (qe_op DW.op_plus sim_add (qe_ix (ix_any (units1 hr)) sim_ix (qv 0) qe_int (fun _ _ => rfl)) (qe_ix (ix_any (units1 hr)) sim_ix (qv 1) qe_int (fun _ _ => rfl))) (qa_cons (qe_op DW.op_plus sim_add (qe_ix (ix_any (units1 hr)) sim_ix (qv 0) qe_int (fun _ _ => rfl)) (qe_ix (ix_any (units1 hr)) sim_ix (qv 1) qe_int (fun _ _ => rfl))) qa_nil)))))
theorem ok_add_0 {P : Program} {w : World} {K : PySem.W.Frag} {mg : Str → Option Value} {base : Heap} (T : Tx w K mg) :
    Fn P w K mg base 1 (He.ga K "add") ["m", "n"] w_add 2 [] (fun ds _ => ds) := by
  obtain ⟨fd, F⟩ := T.d_add
  refine ⟨⟨fd, fk_add T F, ?_⟩, F.kp⟩
  exact dbn_all (FunD.bindsN F (ps := ["m", "n"]) fun _ _ _ _ _ _ us hl => match us, hl with | [_, _], _ => rfl)
theorem sc_turned : FnScope N_turned ["m"] (defScope s_turned) := ⟨rfl, rfl, rfl, by decide +kernel, rfl, by decide +kernel, by decide +kernel⟩
theorem fk_turned {P : Program} {w : World} {K : PySem.W.Frag} {mg : Str → Option Value} {base : Heap} (T : Tx w K mg) {fd : FuncData}
    (F : FunD K "turned" "turned" (defArgs s_turned) (defBody s_turned) (defScope s_turned) [] [] (He.ga K "turned") fd) :
    FnOk P w K mg base (MV.CX P w) 1 (He.ga K "turned") fd ["m"] (spM K 1 w_turned) :=
  fn_ok F sc_turned fun cdv A outer s H E hr tk po =>
    (qss_one (qs_ret (qe_tup (qa_cons (qe_un un_neg sim_neg (qe_ix (ix_any (units1 hr)) sim_ix (qv 0) qe_int (fun _ _ => rfl))) (qa_cons (qe_un un_neg sim_neg (qe_ix (ix_any (units1 hr)) sim_ix (qv 0) qe_int (fun _ _ => rfl))) qa_nil)))))
theorem ok_turned_0 {P : Program} {w : World} {K : PySem.W.Frag} {mg : Str → Option Value} {base : Heap} (T : Tx w K mg) :
    Fn P w K mg base 1 (He.ga K "turned") ["m"] w_turned 1 [] (fun ds _ => ds) := by
  obtain ⟨fd, F⟩ := T.d_turned
  refine ⟨⟨fd, fk_turned T F, ?_⟩, F.kp⟩
  exact dbn_all (FunD.bindsN F (ps := ["m"]) fun _ _ _ _ _ _ us hl => match us, hl with | [_], _ => rfl)
theorem sc_step_price : FnScope N_step_price ["arcs", "link"] (defScope s_step_price) := ⟨rfl, rfl, rfl, by decide +kernel, rfl, by decide +kernel, by decide +kernel⟩
theorem fk_step_price {P : Program} {w : World} {K : PySem.W.Frag} {mg : Str → Option Value} {base : Heap} (T : Tx w K mg)
    (G_turned_0 : Fn P w K mg base 1 (He.ga K "turned") ["m"] w_turned 1 [] (fun ds _ => ds)) {fd : FuncData}
    (F : FunD K "step_price" "step_price" (defArgs s_step_price) (defBody s_step_price) (defScope s_step_price) [] [] (He.ga K "step_price") fd) :
    FnOk P w K mg base (MV.CX P w) 2 (He.ga K "step_price") fd ["arcs", "link"] (spM K 2 w_step_price) :=
  fn_ok F sc_step_price fun cdv A outer s H E hr tk po =>
    (qss_cons (qs_set (i := 2) sc_step_price.nd rfl (Or.inl rfl) (qe_ix (ix_any (units1 hr)) sim_ix (qe_ix (ix_any (units1 hr)) sim_ix (qv 0) (qe_ix (ix_any (units1 hr)) sim_ix (qv 1) qe_int (fun _ _ => rfl)) (fun _ _ => rfl)) qe_int (fun _ _ => rfl)))
      (qss_one (qs_ret (qe_ifExp (qt_tru (qe_ix (ix_any (units1 hr)) sim_ix (qv 1) qe_int (fun _ _ => rfl)) (by intro _; rfl)) (qv 2) (qe_call G_turned_0 (hr.mono (by decide)) (by rfl) T.g_turned tk (qcwP (qa_cons (qv 2) qa_nil)) (by exact fun _ _ h _ => h))))))
theorem ok_step_price_0 {P : Program} {w : World} {K : PySem.W.Frag} {mg : Str → Option Value} {base : Heap} (T : Tx w K mg)
    (G_turned_0 : Fn P w K mg base 1 (He.ga K "turned") ["m"] w_turned 1 [] (fun ds _ => ds)) :
    Fn P w K mg base 2 (He.ga K "step_price") ["arcs", "link"] w_step_price 2 [] (fun ds _ => ds) := by
  obtain ⟨fd, F⟩ := T.d_step_price
  refine ⟨⟨fd, fk_step_price T G_turned_0 F, ?_⟩, F.kp⟩
  exact dbn_all (FunD.bindsN F (ps := ["arcs", "link"]) fun _ _ _ _ _ _ us hl => match us, hl with | [_, _], _ => rfl)
theorem sc_rank : FnScope N_rank ["move", "at", "ahead"] (defScope s_rank) := ⟨rfl, rfl, rfl, by decide +kernel, rfl, by decide +kernel, by decide +kernel⟩
theorem fk_rank {P : Program} {w : World} {K : PySem.W.Frag} {mg : Str → Option Value} {base : Heap} (T : Tx w K mg) {fd : FuncData}
    (F : FunD K "rank" "rank" (defArgs s_rank) (defBody s_rank) (defScope s_rank) [] [] (He.ga K "rank") fd) :
    FnOk P w K mg base (MV.CX P w) 1 (He.ga K "rank") fd ["move", "at", "ahead"] (spM K 3 w_rank) :=
  fn_ok F sc_rank fun cdv A outer s H E hr tk po =>
    (qss_one (qs_ret (qe_tup (qa_cons (qe_op DW.op_plus sim_add (qe_op op_mulA sim_mul (qe_ix (ix_any (units1 hr)) sim_ix (qv 0) qe_int (fun _ _ => rfl)) (qe_ix (ix_any (units1 hr)) sim_ix (qv 1) qe_int (fun _ _ => rfl))) (qe_op op_mulA sim_mul (qe_ix (ix_any (units1 hr)) sim_ix (qv 0) qe_int (fun _ _ => rfl)) (qe_ix (ix_any (units1 hr)) sim_ix (qv 1) qe_int (fun _ _ => rfl)))) (qa_cons (qe_ifExp (qt_tru (qv 2) (by intro _; rfl)) (qe_ix (ix_any (units1 hr)) sim_ix (qv 0) qe_int (fun _ _ => rfl)) qe_int) qa_nil)))))
theorem ok_rank_0 {P : Program} {w : World} {K : PySem.W.Frag} {mg : Str → Option Value} {base : Heap} (T : Tx w K mg) :
    Fn P w K mg base 1 (He.ga K "rank") ["move", "at", "ahead"] w_rank 3 [] (fun ds _ => ds) := by
  obtain ⟨fd, F⟩ := T.d_rank
  refine ⟨⟨fd, fk_rank T F, ?_⟩, F.kp⟩
  exact dbn_all (FunD.bindsN F (ps := ["move", "at", "ahead"]) fun _ _ _ _ _ _ us hl => match us, hl with | [_, _, _], _ => rfl)
theorem sc_settled : FnScope N_settled ["heights", "links", "arcs", "at", "ahead"] (defScope s_settled) := ⟨rfl, rfl, rfl, by decide +kernel, rfl, by decide +kernel, by decide +kernel⟩
theorem fk_settled {P : Program} {w : World} {K : PySem.W.Frag} {mg : Str → Option Value} {base : Heap} (T : Tx w K mg)
    (G_add_0 : Fn P w K mg base 1 (He.ga K "add") ["m", "n"] w_add 2 [] (fun ds _ => ds))
    (G_rank_0 : Fn P w K mg base 1 (He.ga K "rank") ["move", "at", "ahead"] w_rank 3 [] (fun ds _ => ds))
    (G_step_price_0 : Fn P w K mg base 2 (He.ga K "step_price") ["arcs", "link"] w_step_price 2 [] (fun ds _ => ds)) {fd : FuncData}
    (F : FunD K "settled" "settled" (defArgs s_settled) (defBody s_settled) (defScope s_settled) [] [] (He.ga K "settled") fd) :
    FnOk P w K mg base (MV.CX P w) 3 (He.ga K "settled") fd ["heights", "links", "arcs", "at", "ahead"] (spM K 5 w_settled) :=
  fn_ok F sc_settled fun cdv A outer s H E hr tk po =>
    (qss_cons (qs_set (i := 0) sc_settled.nd rfl (Or.inl rfl) (qe_callTy (call_listA rfl) sim_list (by rfl) T.m_list (by decide +kernel) (qa_cons (qv 0) qa_nil)))
      (qss_cons (qs_setLc (i := 5) (own := [("height", 6)]) (T := (.nm 6)) (tt := mYes) (me := (mC .non)) rfl sc_settled.nd rfl rfl (sw_true rfl rfl rfl (by decide +kernel)) (qi_seq (qv 0)) (blkOk_by (N := N_settled) (sc := defScope s_settled) (by decide +kernel)) (fun _ _ _ _ _ => (qg_name (i := 6) sc_settled.nd rfl (by first | exact Or.inl rfl | exact Or.inr rfl))) (fun _ _ _ _ _ => qts_nil) (fun _ _ _ _ _ => qe_non) (by decide))
      (qss_cons (qs_set (i := 7) sc_settled.nd rfl (Or.inl rfl) qe_non)
      (qss_cons (qs_for po rfl (qi_range1 (by rfl) T.m_range (qa_cons (qe_callB call_lenA sim_len (by rfl) T.m_len (by decide +kernel) (qa_cons (qv 0) qa_nil)) qa_nil)) (qg_name (i := 8) sc_settled.nd rfl (by first | exact Or.inl rfl | exact Or.inr rfl)) (qss_cons (qs_set (i := 7) sc_settled.nd rfl (Or.inl rfl) qe_non)
      (qss_cons (qs_for po rfl (qi_seq (qv 1)) (qg_name (i := 9) sc_settled.nd rfl (by first | exact Or.inl rfl | exact Or.inr rfl)) (qss_cons (qs_par (i := 11) (j := 12) (by rfl) sc_settled.nd rfl rfl (by decide) rfl rfl (qa_cons (qe_ix (ix_any (units1 hr)) sim_ix (qv 9) qe_int (fun _ _ => rfl)) (qa_cons (qe_ix (ix_any (units1 hr)) sim_ix (qv 9) qe_int (fun _ _ => rfl)) qa_nil)) (by rfl))
      (qss_cons (qs_if (qt_cmp op_isN1 sim_is (qe_ix (ix_any (units1 hr)) sim_ix (qv 0) (qv 11) (fun _ _ => rfl)) qe_non (nomark _)) (qss_one qs_cont) qss_nil)
      (qss_cons (qs_set (i := 10) sc_settled.nd rfl (Or.inl rfl) (qe_call G_add_0 (hr.mono (by decide)) (by rfl) T.g_add tk (qcwP (qa_cons (qe_ix (ix_any (units1 hr)) sim_ix (qv 0) (qv 11) (fun _ _ => rfl)) (qa_cons (qe_call G_step_price_0 (hr.mono (by decide)) (by rfl) T.g_step_price tk (qcwP (qa_cons (qv 2) (qa_cons (qv 9) qa_nil))) (by exact fun _ _ h _ => h)) qa_nil))) (by exact fun _ _ h _ => h)))
      (qss_one (qs_if (PW.pt (qw_or (qt_cmp op_isN1 sim_is (qe_ix (ix_any (units1 hr)) sim_ix (qv 0) (qv 12) (fun _ _ => rfl)) qe_non (nomark _)) (qw_or1 (qt_cmp (op_ltP hr.units) sim_ltP (qe_call G_rank_0 (hr.mono (by decide)) (by rfl) T.g_rank tk (qcwP (qa_cons (qv 10) (qa_cons (qv 3) (qa_cons (qv 4) qa_nil)))) (by exact fun _ _ h _ => h)) (qe_call G_rank_0 (hr.mono (by decide)) (by rfl) T.g_rank tk (qcwP (qa_cons (qe_ix (ix_any (units1 hr)) sim_ix (qv 0) (qv 12) (fun _ _ => rfl)) (qa_cons (qv 3) (qa_cons (qv 4) qa_nil)))) (by exact fun _ _ h _ => h)) (nomark _))))) (qss_cons (qs_setIx (units1 hr) (qv 10) (qv 0) (qv 12))
      (qss_cons (qs_setIx (units1 hr) (qv 9) (qv 5) (qv 12))
      (qss_one (qs_set (i := 7) sc_settled.nd rfl (Or.inl rfl) (qv 12))))) qss_nil))))))
      (qss_one (qs_if (qt_cmp op_isN1 sim_is (qv 7) qe_non (nomark _)) (qss_one qs_break) qss_nil)))))
      (qss_one (qs_ret (qe_tup (qa_cons (qv 0) (qa_cons (qv 5) (qa_cons (qv 7) qa_nil))))))))))
theorem ok_settled_0 {P : Program} {w : World} {K : PySem.W.Frag} {mg : Str → Option Value} {base : Heap} (T : Tx w K mg)
    (G_add_0 : Fn P w K mg base 1 (He.ga K "add") ["m", "n"] w_add 2 [] (fun ds _ => ds))
    (G_rank_0 : Fn P w K mg base 1 (He.ga K "rank") ["move", "at", "ahead"] w_rank 3 [] (fun ds _ => ds))
    (G_step_price_0 : Fn P w K mg base 2 (He.ga K "step_price") ["arcs", "link"] w_step_price 2 [] (fun ds _ => ds)) :
    Fn P w K mg base 3 (He.ga K "settled") ["heights", "links", "arcs", "at", "ahead"] w_settled 5 [] (fun ds _ => ds) := by
  obtain ⟨fd, F⟩ := T.d_settled
  refine ⟨⟨fd, fk_settled T G_add_0 G_rank_0 G_step_price_0 F, ?_⟩, F.kp⟩
  exact dbn_all (FunD.bindsN F (ps := ["heights", "links", "arcs", "at", "ahead"]) fun _ _ _ _ _ _ us hl => match us, hl with | [_, _, _, _, _], _ => rfl)
theorem sc_open_links : FnScope N_open_links ["arcs"] (defScope s_open_links) := ⟨rfl, rfl, rfl, by decide +kernel, rfl, by decide +kernel, by decide +kernel⟩
theorem fk_open_links {P : Program} {w : World} {K : PySem.W.Frag} {mg : Str → Option Value} {base : Heap} (T : Tx w K mg) {fd : FuncData}
    (F : FunD K "open_links" "open_links" (defArgs s_open_links) (defBody s_open_links) (defScope s_open_links) [] [] (He.ga K "open_links") fd) :
    FnOk P w K mg base (MV.CX P w) 1 (He.ga K "open_links") fd ["arcs"] (spM K 1 w_open_links) :=
  fn_ok F sc_open_links fun cdv A outer s H E hr tk po =>
    (qss_one (qs_ret (qe_lc (own := [("k", 1), ("tail", 2), ("head", 3), ("room", 4), ("price", 5)]) (T := (.tp 2 (.cons (.nm 1) (.cons (.tp 4 (.cons (.nm 2) (.cons (.nm 3) (.cons (.nm 4) (.cons (.nm 5) .nil))))) .nil)))) (tt := (mB (mOp oIs (mVar 4) (mC .non)))) (me := (mCB oTup (mCons (mVar 2) (mCons (mVar 3) (mCons (mVar 1) (mCons (mC (.bl true)) mNil)))))) rfl sc_open_links.nd (qi_enumL (by rfl) T.m_enumerate (qa_cons (qv 0) qa_nil)) (blkOk_by (N := N_open_links) (sc := defScope s_open_links) (by decide +kernel)) (fun _ _ _ _ _ => (qg_tup rfl (qgs_cons (qg_name (i := 1) sc_open_links.nd rfl (by first | exact Or.inl rfl | exact Or.inr rfl)) (qgs_cons (qg_tup rfl (qgs_cons (qg_name (i := 2) sc_open_links.nd rfl (by first | exact Or.inl rfl | exact Or.inr rfl)) (qgs_cons (qg_name (i := 3) sc_open_links.nd rfl (by first | exact Or.inl rfl | exact Or.inr rfl)) (qgs_cons (qg_name (i := 4) sc_open_links.nd rfl (by first | exact Or.inl rfl | exact Or.inr rfl)) (qgs_cons (qg_name (i := 5) sc_open_links.nd rfl (by first | exact Or.inl rfl | exact Or.inr rfl)) qgs_nil))))) qgs_nil)))) (fun _ _ _ _ _ => (qts_one (qt_cmp op_isN1 sim_is (qv 4) qe_non (nomark _)))) (fun _ _ _ _ _ => (qe_tup (qa_cons (qv 2) (qa_cons (qv 3) (qa_cons (qv 1) (qa_cons qe_bl qa_nil)))))) (by decide))))
theorem ok_open_links_0 {P : Program} {w : World} {K : PySem.W.Frag} {mg : Str → Option Value} {base : Heap} (T : Tx w K mg) :
    Fn P w K mg base 1 (He.ga K "open_links") ["arcs"] w_open_links 1 [] (fun ds _ => ds) := by
  obtain ⟨fd, F⟩ := T.d_open_links
  refine ⟨⟨fd, fk_open_links T F, ?_⟩, F.kp⟩
  exact dbn_all (FunD.bindsN F (ps := ["arcs"]) fun _ _ _ _ _ _ us hl => match us, hl with | [_], _ => rfl)
theorem sc_take : FnScope N_take ["m", "n"] (defScope s_take) := ⟨rfl, rfl, rfl, by decide +kernel, rfl, by decide +kernel, by decide +kernel⟩
theorem fk_take {P : Program} {w : World} {K : PySem.W.Frag} {mg : Str → Option Value} {base : Heap} (T : Tx w K mg) {fd : FuncData}
    (F : FunD K "take" "take" (defArgs s_take) (defBody s_take) (defScope s_take) [] [] (He.ga K "take") fd) :
    FnOk P w K mg base (MV.CX P w) 1 (He.ga K "take") fd ["m", "n"] (spM K 2 w_take) :=
  fn_ok F sc_take fun cdv A outer s H E hr tk po =>
    (qss_one (qs_ret (qe_tup (qa_cons (qe_op op_sub sim_sub (qe_ix (ix_any (units1 hr)) sim_ix (qv 0) qe_int (fun _ _ => rfl)) (qe_ix (ix_any (units1 hr)) sim_ix (qv 1) qe_int (fun _ _ => rfl))) (qa_cons (qe_op op_sub sim_sub (qe_ix (ix_any (units1 hr)) sim_ix (qv 0) qe_int (fun _ _ => rfl)) (qe_ix (ix_any (units1 hr)) sim_ix (qv 1) qe_int (fun _ _ => rfl))) qa_nil)))))
theorem ok_take_0 {P : Program} {w : World} {K : PySem.W.Frag} {mg : Str → Option Value} {base : Heap} (T : Tx w K mg) :
    Fn P w K mg base 1 (He.ga K "take") ["m", "n"] w_take 2 [] (fun ds _ => ds) := by
  obtain ⟨fd, F⟩ := T.d_take
  refine ⟨⟨fd, fk_take T F, ?_⟩, F.kp⟩
  exact dbn_all (FunD.bindsN F (ps := ["m", "n"]) fun _ _ _ _ _ _ us hl => match us, hl with | [_, _], _ => rfl)
theorem sc_first_loads : FnScope N_first_loads ["needs", "arcs", "t", "ahead"] (defScope s_first_loads) := ⟨rfl, rfl, rfl, by decide +kernel, rfl, by decide +kernel, by decide +kernel⟩
theorem fk_first_loads {P : Program} {w : World} {K : PySem.W.Frag} {mg : Str → Option Value} {base : Heap} (T : Tx w K mg)
    (G_add_0 : Fn P w K mg base 1 (He.ga K "add") ["m", "n"] w_add 2 [] (fun ds _ => ds))
    (G_open_links_0 : Fn P w K mg base 1 (He.ga K "open_links") ["arcs"] w_open_links 1 [] (fun ds _ => ds))
    (G_rank_0 : Fn P w K mg base 1 (He.ga K "rank") ["move", "at", "ahead"] w_rank 3 [] (fun ds _ => ds))
    (G_settled_0 : Fn P w K mg base 3 (He.ga K "settled") ["heights", "links", "arcs", "at", "ahead"] w_settled 5 [] (fun ds _ => ds))
    (G_take_0 : Fn P w K mg base 1 (He.ga K "take") ["m", "n"] w_take 2 [] (fun ds _ => ds)) {fd : FuncData}
    (F : FunD K "first_loads" "first_loads" (defArgs s_first_loads) (defBody s_first_loads) (defScope s_first_loads) [] [] (He.ga K "first_loads") fd) :
    FnOk P w K mg base (MV.CX P w) 4 (He.ga K "first_loads") fd ["needs", "arcs", "t", "ahead"] (spM K 4 w_first_loads) :=
  fn_ok F sc_first_loads fun cdv A outer s H E hr tk po =>
    (qss_cons (qs_setLc (i := 4) (own := [("need", 5)]) (T := (.nm 5)) (tt := mYes) (me := (mCB oTup (mCons (mC (.int 0)) (mCons (mC (.int 0)) mNil)))) rfl sc_first_loads.nd rfl rfl (sw_true rfl rfl rfl (by decide +kernel)) (qi_seq (qv 0)) (blkOk_by (N := N_first_loads) (sc := defScope s_first_loads) (by decide +kernel)) (fun _ _ _ _ _ => (qg_name (i := 5) sc_first_loads.nd rfl (by first | exact Or.inl rfl | exact Or.inr rfl))) (fun _ _ _ _ _ => qts_nil) (fun _ _ _ _ _ => (qe_tup (qa_cons qe_int (qa_cons qe_int qa_nil)))) (by decide))
      (qss_cons (qs_set (i := 6) sc_first_loads.nd rfl (Or.inl rfl) (qe_ix (ix_any (units1 hr)) sim_ix (qe_call G_settled_0 (hr.mono (by decide)) (by rfl) T.g_settled tk (qcwP (qa_cons (qv 4) (qa_cons (qe_call G_open_links_0 (hr.mono (by decide)) (by rfl) T.g_open_links tk (qcwP (qa_cons (qv 1) qa_nil)) (by exact fun _ _ h _ => h)) (qa_cons (qv 1) (qa_cons (qv 2) (qa_cons (qv 3) qa_nil)))))) (by exact fun _ _ h _ => h)) qe_int (fun _ _ => rfl)))
      (qss_cons (qs_set (i := 7) sc_first_loads.nd rfl (Or.inl rfl) (qe_lst qa_nil))
      (qss_cons (qs_set (i := 8) sc_first_loads.nd rfl (Or.inl rfl) (qe_callTy (call_listA rfl) sim_list (by rfl) T.m_list (by decide +kernel) (qa_cons (qv 0) qa_nil)))
      (qss_cons (qs_for po rfl (qi_seq (qv 1)) (qg_tup rfl (qgs_cons (qg_name (i := 9) sc_first_loads.nd rfl (by first | exact Or.inl rfl | exact Or.inr rfl)) (qgs_cons (qg_name (i := 10) sc_first_loads.nd rfl (by first | exact Or.inl rfl | exact Or.inr rfl)) (qgs_cons (qg_name (i := 11) sc_first_loads.nd rfl (by first | exact Or.inl rfl | exact Or.inr rfl)) (qgs_cons (qg_name (i := 12) sc_first_loads.nd rfl (by first | exact Or.inl rfl | exact Or.inr rfl)) qgs_nil))))) (qss_cons (qs_set (i := 13) sc_first_loads.nd rfl (Or.inl rfl) (qe_call G_take_0 (hr.mono (by decide)) (by rfl) T.g_take tk (qcwP (qa_cons (qe_call G_add_0 (hr.mono (by decide)) (by rfl) T.g_add tk (qcwP (qa_cons (qv 12) (qa_cons (qe_ix (ix_any (units1 hr)) sim_ix (qv 6) (qv 9) (fun _ _ => rfl)) qa_nil))) (by exact fun _ _ h _ => h)) (qa_cons (qe_ix (ix_any (units1 hr)) sim_ix (qv 6) (qv 10) (fun _ _ => rfl)) qa_nil))) (by exact fun _ _ h _ => h)))
      (qss_cons (qs_set (i := 14) sc_first_loads.nd rfl (Or.inl rfl) (qe_ifExp (qt_cmp (op_ltP hr.units) sim_ltP (qe_call G_rank_0 (hr.mono (by decide)) (by rfl) T.g_rank tk (qcwP (qa_cons (qv 13) (qa_cons (qv 2) (qa_cons (qv 3) qa_nil)))) (by exact fun _ _ h _ => h)) (qe_gdat (by rfl) T.g_NOUGHT T.t_NOUGHT) (nomark _)) (qv 11) (qe_tup (qa_cons qe_int (qa_cons qe_int qa_nil)))))
      (qss_cons (qs_expr (qe_bm PySem.F.plainAttrs_list PySem.F.slot_list_append PySem.F.type_list_append mt_append sim_append (qv 7) (qa_cons (qv 14) qa_nil)))
      (qss_cons (qs_setIx (units1 hr) (qe_call G_take_0 (hr.mono (by decide)) (by rfl) T.g_take tk (qcwP (qa_cons (qe_ix (ix_any (units1 hr)) sim_ix (qv 8) (qv 10) (fun _ _ => rfl)) (qa_cons (qv 14) qa_nil))) (by exact fun _ _ h _ => h)) (qv 8) (qv 10))
      (qss_one (qs_setIx (units1 hr) (qe_call G_add_0 (hr.mono (by decide)) (by rfl) T.g_add tk (qcwP (qa_cons (qe_ix (ix_any (units1 hr)) sim_ix (qv 8) (qv 9) (fun _ _ => rfl)) (qa_cons (qv 14) qa_nil))) (by exact fun _ _ h _ => h)) (qv 8) (qv 9))))))))
      (qss_one (qs_ret (qe_tup (qa_cons (qv 7) (qa_cons (qv 8) qa_nil))))))))))
theorem ok_first_loads_0 {P : Program} {w : World} {K : PySem.W.Frag} {mg : Str → Option Value} {base : Heap} (T : Tx w K mg)
    (G_add_0 : Fn P w K mg base 1 (He.ga K "add") ["m", "n"] w_add 2 [] (fun ds _ => ds))
    (G_open_links_0 : Fn P w K mg base 1 (He.ga K "open_links") ["arcs"] w_open_links 1 [] (fun ds _ => ds))
    (G_rank_0 : Fn P w K mg base 1 (He.ga K "rank") ["move", "at", "ahead"] w_rank 3 [] (fun ds _ => ds))
    (G_settled_0 : Fn P w K mg base 3 (He.ga K "settled") ["heights", "links", "arcs", "at", "ahead"] w_settled 5 [] (fun ds _ => ds))
    (G_take_0 : Fn P w K mg base 1 (He.ga K "take") ["m", "n"] w_take 2 [] (fun ds _ => ds)) :
    Fn P w K mg base 4 (He.ga K "first_loads") ["needs", "arcs", "t", "ahead"] w_first_loads 4 [] (fun ds _ => ds) := by
  obtain ⟨fd, F⟩ := T.d_first_loads
  refine ⟨⟨fd, fk_first_loads T G_add_0 G_open_links_0 G_rank_0 G_settled_0 G_take_0 F, ?_⟩, F.kp⟩
  exact dbn_all (FunD.bindsN F (ps := ["needs", "arcs", "t", "ahead"]) fun _ _ _ _ _ _ us hl => match us, hl with | [_, _, _, _], _ => rfl)
theorem sc_ends_put : FnScope N_ends_put ["arcs", "needs", "at", "ahead"] (defScope s_ends_put) := ⟨rfl, rfl, rfl, by decide +kernel, rfl, by decide +kernel, by decide +kernel⟩
theorem fk_ends_put {P : Program} {w : World} {K : PySem.W.Frag} {mg : Str → Option Value} {base : Heap} (T : Tx w K mg)
    (G_rank_0 : Fn P w K mg base 1 (He.ga K "rank") ["move", "at", "ahead"] w_rank 3 [] (fun ds _ => ds))
    (G_turned_0 : Fn P w K mg base 1 (He.ga K "turned") ["m"] w_turned 1 [] (fun ds _ => ds)) {fd : FuncData}
    (F : FunD K "ends_put" "ends_put" (defArgs s_ends_put) (defBody s_ends_put) (defScope s_ends_put) [] [] (He.ga K "ends_put") fd) :
    FnOk P w K mg base (MV.CX P w) 2 (He.ga K "ends_put") fd ["arcs", "needs", "at", "ahead"] (spM K 4 w_ends_put) :=
  fn_ok F sc_ends_put fun cdv A outer s H E hr tk po =>
    (qss_cons (qs_set (i := 4) sc_ends_put.nd rfl (Or.inl rfl) (qe_callB call_lenA sim_len (by rfl) T.m_len (by decide +kernel) (qa_cons (qv 1) qa_nil)))
      (qss_cons (qs_set (i := 5) sc_ends_put.nd rfl (Or.inl rfl) (qe_callTy (call_listA rfl) sim_list (by rfl) T.m_list (by decide +kernel) (qa_cons (qv 0) qa_nil)))
      (qss_cons (qs_for po rfl (qi_enumL (by rfl) T.m_enumerate (qa_cons (qv 1) qa_nil)) (qg_tup rfl (qgs_cons (qg_name (i := 6) sc_ends_put.nd rfl (by first | exact Or.inl rfl | exact Or.inr rfl)) (qgs_cons (qg_name (i := 7) sc_ends_put.nd rfl (by first | exact Or.inl rfl | exact Or.inr rfl)) qgs_nil))) (qss_cons (qs_set (i := 8) sc_ends_put.nd rfl (Or.inl rfl) (qe_call G_rank_0 (hr.mono (by decide)) (by rfl) T.g_rank tk (qcwP (qa_cons (qv 7) (qa_cons (qv 2) (qa_cons (qv 3) qa_nil)))) (by exact fun _ _ h _ => h)))
      (qss_one (qs_if (qt_cmp (op_ltP hr.units) sim_ltP (qv 8) (qe_gdat (by rfl) T.g_NOUGHT T.t_NOUGHT) (nomark _)) (qss_one (qs_expr (qe_bm PySem.F.plainAttrs_list PySem.F.slot_list_append PySem.F.type_list_append mt_append sim_append (qv 5) (qa_cons (qe_tup (qa_cons (qv 4) (qa_cons (qv 6) (qa_cons (qe_call G_turned_0 (hr.mono (by decide)) (by rfl) T.g_turned tk (qcwP (qa_cons (qv 7) qa_nil)) (by exact fun _ _ h _ => h)) (qa_cons (qe_tup (qa_cons qe_int (qa_cons qe_int qa_nil))) qa_nil))))) qa_nil)))) (qss_one (qs_if (qt_cmp (op_gtP hr.units) sim_gtP (qv 8) (qe_gdat (by rfl) T.g_NOUGHT T.t_NOUGHT) (nomark _)) (qss_one (qs_expr (qe_bm PySem.F.plainAttrs_list PySem.F.slot_list_append PySem.F.type_list_append mt_append sim_append (qv 5) (qa_cons (qe_tup (qa_cons (qv 6) (qa_cons (qe_op DW.op_plus sim_add (qv 4) qe_int) (qa_cons (qv 7) (qa_cons (qe_tup (qa_cons qe_int (qa_cons qe_int qa_nil))) qa_nil))))) qa_nil)))) qss_nil))))))
      (qss_one (qs_ret (qv 5))))))
theorem ok_ends_put_0 {P : Program} {w : World} {K : PySem.W.Frag} {mg : Str → Option Value} {base : Heap} (T : Tx w K mg)
    (G_rank_0 : Fn P w K mg base 1 (He.ga K "rank") ["move", "at", "ahead"] w_rank 3 [] (fun ds _ => ds))
    (G_turned_0 : Fn P w K mg base 1 (He.ga K "turned") ["m"] w_turned 1 [] (fun ds _ => ds)) :
    Fn P w K mg base 2 (He.ga K "ends_put") ["arcs", "needs", "at", "ahead"] w_ends_put 4 [] (fun ds _ => ds) := by
  obtain ⟨fd, F⟩ := T.d_ends_put
  refine ⟨⟨fd, fk_ends_put T G_rank_0 G_turned_0 F, ?_⟩, F.kp⟩
  exact dbn_all (FunD.bindsN F (ps := ["arcs", "needs", "at", "ahead"]) fun _ _ _ _ _ _ us hl => match us, hl with | [_, _, _, _], _ => rfl)
theorem sc_left_links : FnScope N_left_links ["arcs", "loads", "at", "ahead"] (defScope s_left_links) := ⟨rfl, rfl, rfl, by decide +kernel, rfl, by decide +kernel, by decide +kernel⟩
theorem fk_left_links {P : Program} {w : World} {K : PySem.W.Frag} {mg : Str → Option Value} {base : Heap} (T : Tx w K mg)
    (G_rank_0 : Fn P w K mg base 1 (He.ga K "rank") ["move", "at", "ahead"] w_rank 3 [] (fun ds _ => ds))
    (G_take_0 : Fn P w K mg base 1 (He.ga K "take") ["m", "n"] w_take 2 [] (fun ds _ => ds)) {fd : FuncData}
    (F : FunD K "left_links" "left_links" (defArgs s_left_links) (defBody s_left_links) (defScope s_left_links) [] [] (He.ga K "left_links") fd) :
    FnOk P w K mg base (MV.CX P w) 2 (He.ga K "left_links") fd ["arcs", "loads", "at", "ahead"] (spM K 4 w_left_links) :=
  fn_ok F sc_left_links fun cdv A outer s H E hr tk po =>
    (qss_cons (qs_set (i := 4) sc_left_links.nd rfl (Or.inl rfl) (qe_lst qa_nil))
      (qss_cons (qs_for po rfl (qi_enumL (by rfl) T.m_enumerate (qa_cons (qv 0) qa_nil)) (qg_tup rfl (qgs_cons (qg_name (i := 5) sc_left_links.nd rfl (by first | exact Or.inl rfl | exact Or.inr rfl)) (qgs_cons (qg_tup rfl (qgs_cons (qg_name (i := 6) sc_left_links.nd rfl (by first | exact Or.inl rfl | exact Or.inr rfl)) (qgs_cons (qg_name (i := 7) sc_left_links.nd rfl (by first | exact Or.inl rfl | exact Or.inr rfl)) (qgs_cons (qg_name (i := 8) sc_left_links.nd rfl (by first | exact Or.inl rfl | exact Or.inr rfl)) (qgs_cons (qg_name (i := 9) sc_left_links.nd rfl (by first | exact Or.inl rfl | exact Or.inr rfl)) qgs_nil))))) qgs_nil))) (qss_cons (qs_if (PW.pt (qw_or (qt_cmp op_isN1 sim_is (qv 8) qe_non (nomark _)) (qw_or1 (qt_cmp (op_gtP hr.units) sim_gtP (qe_call G_rank_0 (hr.mono (by decide)) (by rfl) T.g_rank tk (qcwP (qa_cons (qe_call G_take_0 (hr.mono (by decide)) (by rfl) T.g_take tk (qcwP (qa_cons (qv 8) (qa_cons (qe_ix (ix_any (units1 hr)) sim_ix (qv 1) (qv 5) (fun _ _ => rfl)) qa_nil))) (by exact fun _ _ h _ => h)) (qa_cons (qv 2) (qa_cons (qv 3) qa_nil)))) (by exact fun _ _ h _ => h)) (qe_gdat (by rfl) T.g_NOUGHT T.t_NOUGHT) (nomark _))))) (qss_one (qs_expr (qe_bm PySem.F.plainAttrs_list PySem.F.slot_list_append PySem.F.type_list_append mt_append sim_append (qv 4) (qa_cons (qe_tup (qa_cons (qv 6) (qa_cons (qv 7) (qa_cons (qv 5) (qa_cons qe_bl qa_nil))))) qa_nil)))) qss_nil)
      (qss_one (qs_if (qt_cmp (op_gtP hr.units) sim_gtP (qe_call G_rank_0 (hr.mono (by decide)) (by rfl) T.g_rank tk (qcwP (qa_cons (qe_ix (ix_any (units1 hr)) sim_ix (qv 1) (qv 5) (fun _ _ => rfl)) (qa_cons (qv 2) (qa_cons (qv 3) qa_nil)))) (by exact fun _ _ h _ => h)) (qe_gdat (by rfl) T.g_NOUGHT T.t_NOUGHT) (nomark _)) (qss_one (qs_expr (qe_bm PySem.F.plainAttrs_list PySem.F.slot_list_append PySem.F.type_list_append mt_append sim_append (qv 4) (qa_cons (qe_tup (qa_cons (qv 7) (qa_cons (qv 6) (qa_cons (qv 5) (qa_cons qe_bl qa_nil))))) qa_nil)))) qss_nil))))
      (qss_one (qs_ret (qv 4)))))
theorem ok_left_links_0 {P : Program} {w : World} {K : PySem.W.Frag} {mg : Str → Option Value} {base : Heap} (T : Tx w K mg)
    (G_rank_0 : Fn P w K mg base 1 (He.ga K "rank") ["move", "at", "ahead"] w_rank 3 [] (fun ds _ => ds))
    (G_take_0 : Fn P w K mg base 1 (He.ga K "take") ["m", "n"] w_take 2 [] (fun ds _ => ds)) :
    Fn P w K mg base 2 (He.ga K "left_links") ["arcs", "loads", "at", "ahead"] w_left_links 4 [] (fun ds _ => ds) := by
  obtain ⟨fd, F⟩ := T.d_left_links
  refine ⟨⟨fd, fk_left_links T G_rank_0 G_take_0 F, ?_⟩, F.kp⟩
  exact dbn_all (FunD.bindsN F (ps := ["arcs", "loads", "at", "ahead"]) fun _ _ _ _ _ _ us hl => match us, hl with | [_, _, _, _], _ => rfl)
theorem sc_tight_links : FnScope N_tight_links ["links", "heights", "arcs", "at", "ahead"] (defScope s_tight_links) := ⟨rfl, rfl, rfl, by decide +kernel, rfl, by decide +kernel, by decide +kernel⟩
theorem fk_tight_links {P : Program} {w : World} {K : PySem.W.Frag} {mg : Str → Option Value} {base : Heap} (T : Tx w K mg)
    (G_add_0 : Fn P w K mg base 1 (He.ga K "add") ["m", "n"] w_add 2 [] (fun ds _ => ds))
    (G_rank_0 : Fn P w K mg base 1 (He.ga K "rank") ["move", "at", "ahead"] w_rank 3 [] (fun ds _ => ds))
    (G_step_price_0 : Fn P w K mg base 2 (He.ga K "step_price") ["arcs", "link"] w_step_price 2 [] (fun ds _ => ds))
    (G_take_0 : Fn P w K mg base 1 (He.ga K "take") ["m", "n"] w_take 2 [] (fun ds _ => ds)) {fd : FuncData}
    (F : FunD K "tight_links" "tight_links" (defArgs s_tight_links) (defBody s_tight_links) (defScope s_tight_links) [] [] (He.ga K "tight_links") fd) :
    FnOk P w K mg base (MV.CX P w) 3 (He.ga K "tight_links") fd ["links", "heights", "arcs", "at", "ahead"] (spM K 5 w_tight_links) :=
  fn_ok F sc_tight_links fun cdv A outer s H E hr tk po =>
    (qss_cons (qs_set (i := 5) sc_tight_links.nd rfl (Or.inl rfl) (qe_lst qa_nil))
      (qss_cons (qs_for po rfl (qi_seq (qv 0)) (qg_name (i := 6) sc_tight_links.nd rfl (by first | exact Or.inl rfl | exact Or.inr rfl)) (qss_cons (qs_par (i := 8) (j := 9) (by rfl) sc_tight_links.nd rfl rfl (by decide) rfl rfl (qa_cons (qe_ix (ix_any (units1 hr)) sim_ix (qv 1) (qe_ix (ix_any (units1 hr)) sim_ix (qv 6) qe_int (fun _ _ => rfl)) (fun _ _ => rfl)) (qa_cons (qe_ix (ix_any (units1 hr)) sim_ix (qv 1) (qe_ix (ix_any (units1 hr)) sim_ix (qv 6) qe_int (fun _ _ => rfl)) (fun _ _ => rfl)) qa_nil)) (by rfl))
      (qss_cons (qs_if (PW.pt (qw_or (qt_cmp op_isN1 sim_is (qv 8) qe_non (nomark _)) (qw_or1 (qt_cmp op_isN1 sim_is (qv 9) qe_non (nomark _))))) (qss_one qs_cont) qss_nil)
      (qss_cons (qs_set (i := 7) sc_tight_links.nd rfl (Or.inl rfl) (qe_call G_take_0 (hr.mono (by decide)) (by rfl) T.g_take tk (qcwP (qa_cons (qe_call G_add_0 (hr.mono (by decide)) (by rfl) T.g_add tk (qcwP (qa_cons (qv 8) (qa_cons (qe_call G_step_price_0 (hr.mono (by decide)) (by rfl) T.g_step_price tk (qcwP (qa_cons (qv 2) (qa_cons (qv 6) qa_nil))) (by exact fun _ _ h _ => h)) qa_nil))) (by exact fun _ _ h _ => h)) (qa_cons (qv 9) qa_nil))) (by exact fun _ _ h _ => h)))
      (qss_one (qs_if (qt_cmp (DW.op_eqq hr.units) sim_eq (qe_call G_rank_0 (hr.mono (by decide)) (by rfl) T.g_rank tk (qcwP (qa_cons (qv 7) (qa_cons (qv 3) (qa_cons (qv 4) qa_nil)))) (by exact fun _ _ h _ => h)) (qe_gdat (by rfl) T.g_NOUGHT T.t_NOUGHT) (nomark _)) (qss_one (qs_expr (qe_bm PySem.F.plainAttrs_list PySem.F.slot_list_append PySem.F.type_list_append mt_append sim_append (qv 5) (qa_cons (qv 6) qa_nil)))) qss_nil))))))
      (qss_one (qs_ret (qv 5)))))
theorem ok_tight_links_0 {P : Program} {w : World} {K : PySem.W.Frag} {mg : Str → Option Value} {base : Heap} (T : Tx w K mg)
    (G_add_0 : Fn P w K mg base 1 (He.ga K "add") ["m", "n"] w_add 2 [] (fun ds _ => ds))
    (G_rank_0 : Fn P w K mg base 1 (He.ga K "rank") ["move", "at", "ahead"] w_rank 3 [] (fun ds _ => ds))
    (G_step_price_0 : Fn P w K mg base 2 (He.ga K "step_price") ["arcs", "link"] w_step_price 2 [] (fun ds _ => ds))
    (G_take_0 : Fn P w K mg base 1 (He.ga K "take") ["m", "n"] w_take 2 [] (fun ds _ => ds)) :
    Fn P w K mg base 3 (He.ga K "tight_links") ["links", "heights", "arcs", "at", "ahead"] w_tight_links 5 [] (fun ds _ => ds) := by
  obtain ⟨fd, F⟩ := T.d_tight_links
  refine ⟨⟨fd, fk_tight_links T G_add_0 G_rank_0 G_step_price_0 G_take_0 F, ?_⟩, F.kp⟩
  exact dbn_all (FunD.bindsN F (ps := ["links", "heights", "arcs", "at", "ahead"]) fun _ _ _ _ _ _ us hl => match us, hl with | [_, _, _, _, _], _ => rfl)
theorem sc_reached : FnScope N_reached ["links", "start", "goal"] (defScope s_reached) := ⟨rfl, rfl, rfl, by decide +kernel, rfl, by decide +kernel, by decide +kernel⟩
theorem fk_reached {P : Program} {w : World} {K : PySem.W.Frag} {mg : Str → Option Value} {base : Heap} (T : Tx w K mg) {fd : FuncData}
    (F : FunD K "reached" "reached" (defArgs s_reached) (defBody s_reached) (defScope s_reached) [] [] (He.ga K "reached") fd) :
    FnOk P w K mg base (MV.CX P w) 1 (He.ga K "reached") fd ["links", "start", "goal"] (spM K 3 w_reached) :=
  fn_ok F sc_reached fun cdv A outer s H E hr tk po =>
    (qss_cons (qs_set (i := 3) sc_reached.nd rfl (Or.inl rfl) (qe_disp (qps_cons (qv 1) qe_non qps_nil) (by rfl) (by rfl) (by simp) (by decide)))
      (qss_cons (qs_set (i := 4) sc_reached.nd rfl (Or.inl rfl) (qe_lst (qa_cons (qv 1) qa_nil)))
      (qss_cons (qs_set (i := 5) sc_reached.nd rfl (Or.inl rfl) qe_int)
      (qss_cons (qs_while po (PW.pt (qw_and (qt_cmp op_lt sim_lt (qv 5) (qe_callB call_lenA sim_len (by rfl) T.m_len (by decide +kernel) (qa_cons (qv 4) qa_nil)) (nomark _)) (qw_and1 (qt_cmp (op_notInA (units65 hr)) sim_notin (qv 2) (qv 3) rfl)))) (qss_cons (qs_for po rfl (qi_seq (qv 0)) (qg_name (i := 6) sc_reached.nd rfl (by first | exact Or.inl rfl | exact Or.inr rfl)) (qss_one (qs_if (PW.pt (qw_and (qt_cmp (DW.op_eqq hr.units) sim_eq (qe_ix (ix_any (units1 hr)) sim_ix (qv 6) qe_int (fun _ _ => rfl)) (qe_ix (ix_any (units1 hr)) sim_ix (qv 4) (qv 5) (fun _ _ => rfl)) (nomark _)) (qw_and1 (qt_cmp (op_notInA (units65 hr)) sim_notin (qe_ix (ix_any (units1 hr)) sim_ix (qv 6) qe_int (fun _ _ => rfl)) (qv 3) rfl)))) (qss_cons (qs_setIx (units1 hr) (qv 6) (qv 3) (qe_ix (ix_any (units1 hr)) sim_ix (qv 6) qe_int (fun _ _ => rfl)))
      (qss_one (qs_expr (qe_bm PySem.F.plainAttrs_list PySem.F.slot_list_append PySem.F.type_list_append mt_append sim_append (qv 4) (qa_cons (qe_ix (ix_any (units1 hr)) sim_ix (qv 6) qe_int (fun _ _ => rfl)) qa_nil))))) qss_nil)))
      (qss_one (qs_aug (i := 5) sc_reached.nd rfl (Or.inl rfl) qe_int ip_add sim_ipadd))))
      (qss_one (qs_ret (qv 3)))))))
theorem ok_reached_0 {P : Program} {w : World} {K : PySem.W.Frag} {mg : Str → Option Value} {base : Heap} (T : Tx w K mg) :
    Fn P w K mg base 1 (He.ga K "reached") ["links", "start", "goal"] w_reached 3 [] (fun ds _ => ds) := by
  obtain ⟨fd, F⟩ := T.d_reached
  refine ⟨⟨fd, fk_reached T F, ?_⟩, F.kp⟩
  exact dbn_all (FunD.bindsN F (ps := ["links", "start", "goal"]) fun _ _ _ _ _ _ us hl => match us, hl with | [_, _, _], _ => rfl)
theorem sc_push : FnScope N_push ["arcs", "loads", "came", "goal", "at", "ahead"] (defScope s_push) := ⟨rfl, rfl, rfl, by decide +kernel, rfl, by decide +kernel, by decide +kernel⟩
theorem fk_push {P : Program} {w : World} {K : PySem.W.Frag} {mg : Str → Option Value} {base : Heap} (T : Tx w K mg)
    (G_add_0 : Fn P w K mg base 1 (He.ga K "add") ["m", "n"] w_add 2 [] (fun ds _ => ds))
    (G_rank_0 : Fn P w K mg base 1 (He.ga K "rank") ["move", "at", "ahead"] w_rank 3 [] (fun ds _ => ds))
    (G_take_0 : Fn P w K mg base 1 (He.ga K "take") ["m", "n"] w_take 2 [] (fun ds _ => ds))
    (G_turned_0 : Fn P w K mg base 1 (He.ga K "turned") ["m"] w_turned 1 [] (fun ds _ => ds))
    (B_push : LamX.TabB base mg (He.codeOf K ("push", none)) (tabAd K "push")) {fd : FuncData}
    (F : FunD K "push" "push" (defArgs s_push) (defBody s_push) (defScope s_push) [] [] (He.ga K "push") fd) :
    FnOk P w K mg base (MV.CX P w) 4 (He.ga K "push") fd ["arcs", "loads", "came", "goal", "at", "ahead"] (spM K 6 w_push) :=
  fn_okT F sc_push fun cdv A outer s H E hcd hr tk po =>
    (qss_cons (qs_set (i := 6) sc_push.nd rfl (Or.inl rfl) (qe_lst qa_nil))
      (qss_cons (qs_set (i := 7) sc_push.nd rfl (Or.inl rfl) (qe_ix (ix_any (units1 hr)) sim_ix (qv 2) (qv 3) (fun _ _ => rfl)))
      (qss_cons (qs_while po (qt_cmp op_notN1 sim_isnot (qv 7) qe_non (nomark _)) (qss_cons (qs_expr (qe_bm PySem.F.plainAttrs_list PySem.F.slot_list_append PySem.F.type_list_append mt_append sim_append (qv 6) (qa_cons (qv 7) qa_nil)))
      (qss_one (qs_set (i := 7) sc_push.nd rfl (Or.inl rfl) (qe_ix (ix_any (units1 hr)) sim_ix (qv 2) (qe_ix (ix_any (units1 hr)) sim_ix (qv 7) qe_int (fun _ _ => rfl)) (fun _ _ => rfl))))))
      (qss_cons (qs_set (i := 8) sc_push.nd rfl (Or.inl rfl) (qe_lst qa_nil))
      (qss_cons (qs_for po rfl (qi_seq (qv 6)) (qg_tup rfl (qgs_cons (qg_name (i := 9) sc_push.nd rfl (by first | exact Or.inl rfl | exact Or.inr rfl)) (qgs_cons (qg_name (i := 10) sc_push.nd rfl (by first | exact Or.inl rfl | exact Or.inr rfl)) (qgs_cons (qg_name (i := 11) sc_push.nd rfl (by first | exact Or.inl rfl | exact Or.inr rfl)) (qgs_cons (qg_name (i := 12) sc_push.nd rfl (by first | exact Or.inl rfl | exact Or.inr rfl)) qgs_nil))))) (qss_one (qs_if (qt_not (qt_tru (qv 12) (by intro _; rfl))) (qss_one (qs_expr (qe_bm PySem.F.plainAttrs_list PySem.F.slot_list_append PySem.F.type_list_append mt_append sim_append (qv 8) (qa_cons (qe_ix (ix_any (units1 hr)) sim_ix (qv 1) (qv 11) (fun _ _ => rfl)) qa_nil)))) (qss_one (qs_if (qt_cmp op_notN1 sim_isnot (qe_ix (ix_any (units1 hr)) sim_ix (qe_ix (ix_any (units1 hr)) sim_ix (qv 0) (qv 11) (fun _ _ => rfl)) qe_int (fun _ _ => rfl)) qe_non (nomark _)) (qss_one (qs_expr (qe_bm PySem.F.plainAttrs_list PySem.F.slot_list_append PySem.F.type_list_append mt_append sim_append (qv 8) (qa_cons (qe_call G_take_0 (hr.mono (by decide)) (by rfl) T.g_take tk (qcwP (qa_cons (qe_ix (ix_any (units1 hr)) sim_ix (qe_ix (ix_any (units1 hr)) sim_ix (qv 0) (qv 11) (fun _ _ => rfl)) qe_int (fun _ _ => rfl)) (qa_cons (qe_ix (ix_any (units1 hr)) sim_ix (qv 1) (qv 11) (fun _ _ => rfl)) qa_nil))) (by exact fun _ _ h _ => h)) qa_nil)))) qss_nil)))))
      (qss_cons (qs_set (i := 13) sc_push.nd rfl (Or.inl rfl) (qe_minKey (params := laArgs ((C8.fnBody s_push).getD 5 (.Pass ⟨0, 0, 0, 0⟩))) (body := laBody ((C8.fnBody s_push).getD 5 (.Pass ⟨0, 0, 0, 0⟩))) (scope := laScope ((C8.fnBody s_push).getD 5 (.Pass ⟨0, 0, 0, 0⟩))) (d := "push") (js := [5, 4]) (fr := ["ahead", "at"]) (N := ["move", "ahead", "at"]) (k := 1) (me := (mCall w_rank 3 0 (fun ds _ => ds) (mArgsP (mCons (mVar 0) (mCons (mVar 2) (mCons (mVar 1) mNil)))))) hcd B_push (hr.mono (by decide)) (qv 8) (by rfl) T.m_min rfl (by kernel_rfl) (by rfl) (by rfl) (NdefX.nscope_by (by kernel_rfl)) (fun _ _ _ _ _ _ => rfl) (fun F f A outer s H hs hq hr tk => by
      obtain ⟨_, _, _, _, _, _, _⟩ := F
      dsimp only at hs
      subst hs
      exact (qe_call G_rank_0 (hr.mono (by decide)) (by rfl) T.g_rank tk (qcwP (qa_cons (qv 0) (qa_cons (qv 2) (qa_cons (qv 1) qa_nil)))) (by exact fun _ _ h _ => h)))))
      (qss_one (qs_for po rfl (qi_seq (qv 6)) (qg_tup rfl (qgs_cons (qg_name (i := 9) sc_push.nd rfl (by first | exact Or.inl rfl | exact Or.inr rfl)) (qgs_cons (qg_name (i := 10) sc_push.nd rfl (by first | exact Or.inl rfl | exact Or.inr rfl)) (qgs_cons (qg_name (i := 11) sc_push.nd rfl (by first | exact Or.inl rfl | exact Or.inr rfl)) (qgs_cons (qg_name (i := 12) sc_push.nd rfl (by first | exact Or.inl rfl | exact Or.inr rfl)) qgs_nil))))) (qss_one (qs_setIx (units1 hr) (qe_call G_add_0 (hr.mono (by decide)) (by rfl) T.g_add tk (qcwP (qa_cons (qe_ix (ix_any (units1 hr)) sim_ix (qv 1) (qv 11) (fun _ _ => rfl)) (qa_cons (qe_ifExp (qt_tru (qv 12) (by intro _; rfl)) (qv 13) (qe_call G_turned_0 (hr.mono (by decide)) (by rfl) T.g_turned tk (qcwP (qa_cons (qv 13) qa_nil)) (by exact fun _ _ h _ => h))) qa_nil))) (by exact fun _ _ h _ => h)) (qv 1) (qv 11)))))))))))
theorem ok_push_0 {P : Program} {w : World} {K : PySem.W.Frag} {mg : Str → Option Value} {base : Heap} (T : Tx w K mg)
    (G_add_0 : Fn P w K mg base 1 (He.ga K "add") ["m", "n"] w_add 2 [] (fun ds _ => ds))
    (G_rank_0 : Fn P w K mg base 1 (He.ga K "rank") ["move", "at", "ahead"] w_rank 3 [] (fun ds _ => ds))
    (G_take_0 : Fn P w K mg base 1 (He.ga K "take") ["m", "n"] w_take 2 [] (fun ds _ => ds))
    (G_turned_0 : Fn P w K mg base 1 (He.ga K "turned") ["m"] w_turned 1 [] (fun ds _ => ds))
    (B_push : LamX.TabB base mg (He.codeOf K ("push", none)) (tabAd K "push")) :
    Fn P w K mg base 4 (He.ga K "push") ["arcs", "loads", "came", "goal", "at", "ahead"] w_push 6 [] (fun ds _ => ds) := by
  obtain ⟨fd, F⟩ := T.d_push
  refine ⟨⟨fd, fk_push T G_add_0 G_rank_0 G_take_0 G_turned_0 B_push F, ?_⟩, F.kp⟩
  exact dbn_all (FunD.bindsN F (ps := ["arcs", "loads", "came", "goal", "at", "ahead"]) fun _ _ _ _ _ _ us hl => match us, hl with | [_, _, _, _, _, _], _ => rfl)
theorem sc_best : FnScope N_best ["needs", "arcs", "s", "t", "s_ahead", "t_ahead"] (defScope s_best) := ⟨rfl, rfl, rfl, by decide +kernel, rfl, by decide +kernel, by decide +kernel⟩
theorem fk_best {P : Program} {w : World} {K : PySem.W.Frag} {mg : Str → Option Value} {base : Heap} (T : Tx w K mg)
    (G_ends_put_0 : Fn P w K mg base 2 (He.ga K "ends_put") ["arcs", "needs", "at", "ahead"] w_ends_put 4 [] (fun ds _ => ds))
    (G_first_loads_0 : Fn P w K mg base 4 (He.ga K "first_loads") ["needs", "arcs", "t", "ahead"] w_first_loads 4 [] (fun ds _ => ds))
    (G_left_links_0 : Fn P w K mg base 2 (He.ga K "left_links") ["arcs", "loads", "at", "ahead"] w_left_links 4 [] (fun ds _ => ds))
    (G_push_0 : Fn P w K mg base 4 (He.ga K "push") ["arcs", "loads", "came", "goal", "at", "ahead"] w_push 6 [] (fun ds _ => ds))
    (G_reached_0 : Fn P w K mg base 1 (He.ga K "reached") ["links", "start", "goal"] w_reached 3 [] (fun ds _ => ds))
    (G_settled_0 : Fn P w K mg base 3 (He.ga K "settled") ["heights", "links", "arcs", "at", "ahead"] w_settled 5 [] (fun ds _ => ds))
    (G_tight_links_0 : Fn P w K mg base 3 (He.ga K "tight_links") ["links", "heights", "arcs", "at", "ahead"] w_tight_links 5 [] (fun ds _ => ds)) {fd : FuncData}
    (F : FunD K "best" "best" (defArgs s_best) (defBody s_best) (defScope s_best) [] [("s_ahead", (.bl false)), ("t_ahead", (.bl false))] (He.ga K "best") fd) :
    FnOk P w K mg base (MV.CX P w) 5 (He.ga K "best") fd ["needs", "arcs", "s", "t", "s_ahead", "t_ahead"] (spM K 6 w_best) :=
  fn_ok F sc_best fun cdv A outer s H E hr tk po =>
    (qss_cons (qs_asg (qe_call G_first_loads_0 (hr.mono (by decide)) (by rfl) T.g_first_loads tk (qcwP (qa_cons (qv 0) (qa_cons (qv 1) (qa_cons (qv 3) (qa_cons (qv 5) qa_nil))))) (by exact fun _ _ h _ => h)) (qg_tup rfl (qgs_cons (qg_name (i := 6) sc_best.nd rfl (by first | exact Or.inl rfl | exact Or.inr rfl)) (qgs_cons (qg_name (i := 7) sc_best.nd rfl (by first | exact Or.inl rfl | exact Or.inr rfl)) qgs_nil))))
      (qss_cons (qs_set (i := 8) sc_best.nd rfl (Or.inl rfl) (qe_callB call_lenA sim_len (by rfl) T.m_len (by decide +kernel) (qa_cons (qv 0) qa_nil)))
      (qss_cons (qs_set (i := 9) sc_best.nd rfl (Or.inl rfl) (qe_op DW.op_plus sim_add (qv 8) qe_int))
      (qss_cons (qs_set (i := 10) sc_best.nd rfl (Or.inl rfl) (qe_call G_ends_put_0 (hr.mono (by decide)) (by rfl) T.g_ends_put tk (qcwP (qa_cons (qv 1) (qa_cons (qv 7) (qa_cons (qv 2) (qa_cons (qv 4) qa_nil))))) (by exact fun _ _ h _ => h)))
      (qss_cons (qs_expr (qe_bm PySem.F.plainAttrs_list PySem.F.slot_list_extend PySem.F.type_list_extend mt_extend sim_extend (qv 6) (qa_cons (qe_lc (own := [("k", 11)]) (T := (.nm 11)) (tt := mYes) (me := (mCB oTup (mCons (mC (.int 0)) (mCons (mC (.int 0)) mNil)))) rfl sc_best.nd (qi_range2 (by rfl) T.m_range (qa_cons (qe_callB call_lenA sim_len (by rfl) T.m_len (by decide +kernel) (qa_cons (qv 1) qa_nil)) (qa_cons (qe_callB call_lenA sim_len (by rfl) T.m_len (by decide +kernel) (qa_cons (qv 10) qa_nil)) qa_nil))) (blkOk_by (N := N_best) (sc := defScope s_best) (by decide +kernel)) (fun _ _ _ _ _ => (qg_name (i := 11) sc_best.nd rfl (by first | exact Or.inl rfl | exact Or.inr rfl))) (fun _ _ _ _ _ => qts_nil) (fun _ _ _ _ _ => (qe_tup (qa_cons qe_int (qa_cons qe_int qa_nil)))) (by decide)) qa_nil)))
      (qss_cons (qs_set (i := 12) sc_best.nd rfl (Or.inl rfl) (qe_op DW.op_plus sim_add (qe_lc (own := [("need", 13)]) (T := (.nm 13)) (tt := mYes) (me := (mC .non)) rfl sc_best.nd (qi_seq (qv 0)) (blkOk_by (N := N_best) (sc := defScope s_best) (by decide +kernel)) (fun _ _ _ _ _ => (qg_name (i := 13) sc_best.nd rfl (by first | exact Or.inl rfl | exact Or.inr rfl))) (fun _ _ _ _ _ => qts_nil) (fun _ _ _ _ _ => qe_non) (by decide)) (qe_lst (qa_cons (qe_tup (qa_cons qe_int (qa_cons qe_int qa_nil))) (qa_cons qe_non qa_nil)))))
      (qss_cons (qs_set (i := 14) sc_best.nd rfl (Or.inl rfl) (qe_ix (ix_any (units1 hr)) sim_ix (qe_call G_settled_0 (hr.mono (by decide)) (by rfl) T.g_settled tk (qcwP (qa_cons (qv 12) (qa_cons (qe_call G_left_links_0 (hr.mono (by decide)) (by rfl) T.g_left_links tk (qcwP (qa_cons (qv 10) (qa_cons (qv 6) (qa_cons (qv 2) (qa_cons (qv 4) qa_nil))))) (by exact fun _ _ h _ => h)) (qa_cons (qv 10) (qa_cons (qv 3) (qa_cons (qv 5) qa_nil)))))) (by exact fun _ _ h _ => h)) qe_int (fun _ _ => rfl)))
      (qss_cons (qs_while po (qt_cmp op_notN1 sim_isnot (qe_ix (ix_any (units1 hr)) sim_ix (qv 14) (qv 9) (fun _ _ => rfl)) qe_non (nomark _)) (qss_cons (qs_set (i := 15) sc_best.nd rfl (Or.inl rfl) (qe_call G_tight_links_0 (hr.mono (by decide)) (by rfl) T.g_tight_links tk (qcwP (qa_cons (qe_call G_left_links_0 (hr.mono (by decide)) (by rfl) T.g_left_links tk (qcwP (qa_cons (qv 10) (qa_cons (qv 6) (qa_cons (qv 2) (qa_cons (qv 4) qa_nil))))) (by exact fun _ _ h _ => h)) (qa_cons (qv 14) (qa_cons (qv 10) (qa_cons (qv 3) (qa_cons (qv 5) qa_nil)))))) (by exact fun _ _ h _ => h)))
      (qss_cons (qs_set (i := 16) sc_best.nd rfl (Or.inl rfl) (qe_call G_reached_0 (hr.mono (by decide)) (by rfl) T.g_reached tk (qcwP (qa_cons (qv 15) (qa_cons (qv 8) (qa_cons (qv 9) qa_nil)))) (by exact fun _ _ h _ => h)))
      (qss_one (qs_if (qt_cmp (op_inA (units65 hr)) sim_in (qv 9) (qv 16) rfl) (qss_one (qs_expr (qe_call G_push_0 (hr.mono (by decide)) (by rfl) T.g_push tk (qcwP (qa_cons (qv 10) (qa_cons (qv 6) (qa_cons (qv 16) (qa_cons (qv 9) (qa_cons (qv 2) (qa_cons (qv 4) qa_nil))))))) (by exact fun _ _ h _ => h)))) (qss_one (qs_set (i := 14) sc_best.nd rfl (Or.inl rfl) (qe_ix (ix_any (units1 hr)) sim_ix (qe_call G_settled_0 (hr.mono (by decide)) (by rfl) T.g_settled tk (qcwP (qa_cons (qv 12) (qa_cons (qe_call G_left_links_0 (hr.mono (by decide)) (by rfl) T.g_left_links tk (qcwP (qa_cons (qv 10) (qa_cons (qv 6) (qa_cons (qv 2) (qa_cons (qv 4) qa_nil))))) (by exact fun _ _ h _ => h)) (qa_cons (qv 10) (qa_cons (qv 3) (qa_cons (qv 5) qa_nil)))))) (by exact fun _ _ h _ => h)) qe_int (fun _ _ => rfl)))))))))
      (qss_cons (qs_set (i := 6) sc_best.nd rfl (Or.inl rfl) (qe_slice (qv 6) qo_none (qo_some (qe_callB call_lenA sim_len (by rfl) T.m_len (by decide +kernel) (qa_cons (qv 1) qa_nil)))))
      (qss_cons (qs_setLc (i := 12) (own := [("need", 13)]) (T := (.nm 13)) (tt := mYes) (me := (mCB oTup (mCons (mC (.int 0)) (mCons (mC (.int 0)) mNil)))) rfl sc_best.nd rfl rfl (sw_true rfl rfl rfl (by decide +kernel)) (qi_seq (qv 0)) (blkOk_by (N := N_best) (sc := defScope s_best) (by decide +kernel)) (fun _ _ _ _ _ => (qg_name (i := 13) sc_best.nd rfl (by first | exact Or.inl rfl | exact Or.inr rfl))) (fun _ _ _ _ _ => qts_nil) (fun _ _ _ _ _ => (qe_tup (qa_cons qe_int (qa_cons qe_int qa_nil)))) (by decide))
      (qss_cons (qs_set (i := 14) sc_best.nd rfl (Or.inl rfl) (qe_ix (ix_any (units1 hr)) sim_ix (qe_call G_settled_0 (hr.mono (by decide)) (by rfl) T.g_settled tk (qcwP (qa_cons (qv 12) (qa_cons (qe_call G_left_links_0 (hr.mono (by decide)) (by rfl) T.g_left_links tk (qcwP (qa_cons (qv 1) (qa_cons (qv 6) (qa_cons (qv 2) (qa_cons (qv 4) qa_nil))))) (by exact fun _ _ h _ => h)) (qa_cons (qv 1) (qa_cons (qv 3) (qa_cons (qv 5) qa_nil)))))) (by exact fun _ _ h _ => h)) qe_int (fun _ _ => rfl)))
      (qss_one (qs_ret (qe_tup (qa_cons (qv 6) (qa_cons (qv 14) qa_nil))))))))))))))))
theorem ok_best_0 {P : Program} {w : World} {K : PySem.W.Frag} {mg : Str → Option Value} {base : Heap} (T : Tx w K mg)
    (G_ends_put_0 : Fn P w K mg base 2 (He.ga K "ends_put") ["arcs", "needs", "at", "ahead"] w_ends_put 4 [] (fun ds _ => ds))
    (G_first_loads_0 : Fn P w K mg base 4 (He.ga K "first_loads") ["needs", "arcs", "t", "ahead"] w_first_loads 4 [] (fun ds _ => ds))
    (G_left_links_0 : Fn P w K mg base 2 (He.ga K "left_links") ["arcs", "loads", "at", "ahead"] w_left_links 4 [] (fun ds _ => ds))
    (G_push_0 : Fn P w K mg base 4 (He.ga K "push") ["arcs", "loads", "came", "goal", "at", "ahead"] w_push 6 [] (fun ds _ => ds))
    (G_reached_0 : Fn P w K mg base 1 (He.ga K "reached") ["links", "start", "goal"] w_reached 3 [] (fun ds _ => ds))
    (G_settled_0 : Fn P w K mg base 3 (He.ga K "settled") ["heights", "links", "arcs", "at", "ahead"] w_settled 5 [] (fun ds _ => ds))
    (G_tight_links_0 : Fn P w K mg base 3 (He.ga K "tight_links") ["links", "heights", "arcs", "at", "ahead"] w_tight_links 5 [] (fun ds _ => ds)) :
    Fn P w K mg base 5 (He.ga K "best") ["needs", "arcs", "s", "t", "s_ahead", "t_ahead"] w_best 4 [] (fun ds es => [ds.getD 0 .non, ds.getD 1 .non, ds.getD 2 .non, ds.getD 3 .non, (.bl false), (.bl false)]) := by
  obtain ⟨fd, F⟩ := T.d_best
  refine ⟨⟨fd, fk_best T G_ends_put_0 G_first_loads_0 G_left_links_0 G_push_0 G_reached_0 G_settled_0 G_tight_links_0 F, ?_⟩, F.kp⟩
  obtain ⟨mv, hb⟩ := FunD.kbinds0 F (ps := ["needs", "arcs", "s", "t", "s_ahead", "t_ahead"]) 4 [] [("s_ahead", (.bl false)), ("t_ahead", (.bl false))] (fun us mv ws => pick (us ++ mv ++ ws) [0, 1, 2, 3, 4, 5]) (by simp) (by simp) vals_pick3 (fun D doc pm an cdv ct us mv ws h1 h2 h3 => match us, mv, ws, h1, h2, h3 with | [_, _, _, _], [_, _], [], _, _, _ => ⟨_, _, _, _, _, _, rfl, rfl, ⟨_, _, _, _, _, _, rfl, rfl, rfl⟩⟩)
  exact dbn_kw (md := [(.bl false), (.bl false)]) hb (fun as H => (.cons (.bl _) (.cons (.bl _) .nil))) (fun ds es h1 h2 => match ds, es, h1, h2 with | [_, _, _, _], [], _, _ => rfl)
theorem sc_Lplus : FnScope N_Lplus ["_law_a", "_law_b"] (defScope s_Lplus) := ⟨rfl, rfl, rfl, by decide +kernel, rfl, by decide +kernel, by decide +kernel⟩
theorem fk_Lplus {P : Program} {w : World} {K : PySem.W.Frag} {mg : Str → Option Value} {base : Heap} (T : Tx w K mg)
    (G_Lfrac_0 : Fn P w K mg base 2 (He.ga K "_law_frac") ["_law_top", "_law_under"] w_Lfrac 2 [] (fun ds _ => ds)) {fd : FuncData}
    (F : FunD K "_law_plus" "_law_plus" (defArgs s_Lplus) (defBody s_Lplus) (defScope s_Lplus) [] [] (He.ga K "_law_plus") fd) :
    FnOk P w K mg base (MV.CX P w) 3 (He.ga K "_law_plus") fd ["_law_a", "_law_b"] (spM K 2 w_Lplus) :=
  fn_ok F sc_Lplus fun cdv A outer s H E hr tk po =>
    (qss_one (qs_ret (qe_call G_Lfrac_0 (hr.mono (by decide)) (by rfl) T.g_Lfrac tk (qcwP (qa_cons (qe_op DW.op_plus sim_add (qe_op op_mulA sim_mul (qe_ix (ix_any (units1 hr)) sim_ix (qv 0) qe_int (fun _ _ => rfl)) (qe_ix (ix_any (units1 hr)) sim_ix (qv 1) qe_int (fun _ _ => rfl))) (qe_op op_mulA sim_mul (qe_ix (ix_any (units1 hr)) sim_ix (qv 1) qe_int (fun _ _ => rfl)) (qe_ix (ix_any (units1 hr)) sim_ix (qv 0) qe_int (fun _ _ => rfl)))) (qa_cons (qe_op op_mulA sim_mul (qe_ix (ix_any (units1 hr)) sim_ix (qv 0) qe_int (fun _ _ => rfl)) (qe_ix (ix_any (units1 hr)) sim_ix (qv 1) qe_int (fun _ _ => rfl))) qa_nil))) (by exact fun _ _ h _ => h))))
theorem ok_Lplus_0 {P : Program} {w : World} {K : PySem.W.Frag} {mg : Str → Option Value} {base : Heap} (T : Tx w K mg)
    (G_Lfrac_0 : Fn P w K mg base 2 (He.ga K "_law_frac") ["_law_top", "_law_under"] w_Lfrac 2 [] (fun ds _ => ds)) :
    Fn P w K mg base 3 (He.ga K "_law_plus") ["_law_a", "_law_b"] w_Lplus 2 [] (fun ds _ => ds) := by
  obtain ⟨fd, F⟩ := T.d_Lplus
  refine ⟨⟨fd, fk_Lplus T G_Lfrac_0 F, ?_⟩, F.kp⟩
  exact dbn_all (FunD.bindsN F (ps := ["_law_a", "_law_b"]) fun _ _ _ _ _ _ us hl => match us, hl with | [_, _], _ => rfl)
theorem sc_Ltimes : FnScope N_Ltimes ["_law_a", "_law_b"] (defScope s_Ltimes) := ⟨rfl, rfl, rfl, by decide +kernel, rfl, by decide +kernel, by decide +kernel⟩
theorem fk_Ltimes {P : Program} {w : World} {K : PySem.W.Frag} {mg : Str → Option Value} {base : Heap} (T : Tx w K mg)
    (G_Lfrac_0 : Fn P w K mg base 2 (He.ga K "_law_frac") ["_law_top", "_law_under"] w_Lfrac 2 [] (fun ds _ => ds)) {fd : FuncData}
    (F : FunD K "_law_times" "_law_times" (defArgs s_Ltimes) (defBody s_Ltimes) (defScope s_Ltimes) [] [] (He.ga K "_law_times") fd) :
    FnOk P w K mg base (MV.CX P w) 3 (He.ga K "_law_times") fd ["_law_a", "_law_b"] (spM K 2 w_Ltimes) :=
  fn_ok F sc_Ltimes fun cdv A outer s H E hr tk po =>
    (qss_one (qs_ret (qe_call G_Lfrac_0 (hr.mono (by decide)) (by rfl) T.g_Lfrac tk (qcwP (qa_cons (qe_op op_mulA sim_mul (qe_ix (ix_any (units1 hr)) sim_ix (qv 0) qe_int (fun _ _ => rfl)) (qe_ix (ix_any (units1 hr)) sim_ix (qv 1) qe_int (fun _ _ => rfl))) (qa_cons (qe_op op_mulA sim_mul (qe_ix (ix_any (units1 hr)) sim_ix (qv 0) qe_int (fun _ _ => rfl)) (qe_ix (ix_any (units1 hr)) sim_ix (qv 1) qe_int (fun _ _ => rfl))) qa_nil))) (by exact fun _ _ h _ => h))))
theorem ok_Ltimes_0 {P : Program} {w : World} {K : PySem.W.Frag} {mg : Str → Option Value} {base : Heap} (T : Tx w K mg)
    (G_Lfrac_0 : Fn P w K mg base 2 (He.ga K "_law_frac") ["_law_top", "_law_under"] w_Lfrac 2 [] (fun ds _ => ds)) :
    Fn P w K mg base 3 (He.ga K "_law_times") ["_law_a", "_law_b"] w_Ltimes 2 [] (fun ds _ => ds) := by
  obtain ⟨fd, F⟩ := T.d_Ltimes
  refine ⟨⟨fd, fk_Ltimes T G_Lfrac_0 F, ?_⟩, F.kp⟩
  exact dbn_all (FunD.bindsN F (ps := ["_law_a", "_law_b"]) fun _ _ _ _ _ _ us hl => match us, hl with | [_, _], _ => rfl)
theorem sc_Lat : FnScope N_Lat ["_law_move", "_law_at_here"] (defScope s_Lat) := ⟨rfl, rfl, rfl, by decide +kernel, rfl, by decide +kernel, by decide +kernel⟩
theorem fk_Lat {P : Program} {w : World} {K : PySem.W.Frag} {mg : Str → Option Value} {base : Heap} (T : Tx w K mg)
    (G_Lfrac_0 : Fn P w K mg base 2 (He.ga K "_law_frac") ["_law_top", "_law_under"] w_Lfrac 2 [] (fun ds _ => ds)) {fd : FuncData}
    (F : FunD K "_law_at" "_law_at" (defArgs s_Lat) (defBody s_Lat) (defScope s_Lat) [] [] (He.ga K "_law_at") fd) :
    FnOk P w K mg base (MV.CX P w) 3 (He.ga K "_law_at") fd ["_law_move", "_law_at_here"] (spM K 2 w_Lat) :=
  fn_ok F sc_Lat fun cdv A outer s H E hr tk po =>
    (qss_one (qs_ret (qe_call G_Lfrac_0 (hr.mono (by decide)) (by rfl) T.g_Lfrac tk (qcwP (qa_cons (qe_op DW.op_plus sim_add (qe_op op_mulA sim_mul (qe_ix (ix_any (units1 hr)) sim_ix (qv 0) qe_int (fun _ _ => rfl)) (qe_ix (ix_any (units1 hr)) sim_ix (qv 1) qe_int (fun _ _ => rfl))) (qe_op op_mulA sim_mul (qe_ix (ix_any (units1 hr)) sim_ix (qv 0) qe_int (fun _ _ => rfl)) (qe_ix (ix_any (units1 hr)) sim_ix (qv 1) qe_int (fun _ _ => rfl)))) (qa_cons (qe_ix (ix_any (units1 hr)) sim_ix (qv 1) qe_int (fun _ _ => rfl)) qa_nil))) (by exact fun _ _ h _ => h))))
theorem ok_Lat_0 {P : Program} {w : World} {K : PySem.W.Frag} {mg : Str → Option Value} {base : Heap} (T : Tx w K mg)
    (G_Lfrac_0 : Fn P w K mg base 2 (He.ga K "_law_frac") ["_law_top", "_law_under"] w_Lfrac 2 [] (fun ds _ => ds)) :
    Fn P w K mg base 3 (He.ga K "_law_at") ["_law_move", "_law_at_here"] w_Lat 2 [] (fun ds _ => ds) := by
  obtain ⟨fd, F⟩ := T.d_Lat
  refine ⟨⟨fd, fk_Lat T G_Lfrac_0 F, ?_⟩, F.kp⟩
  exact dbn_all (FunD.bindsN F (ps := ["_law_move", "_law_at_here"]) fun _ _ _ _ _ _ us hl => match us, hl with | [_, _], _ => rfl)
theorem sc_Lprice : FnScope N_Lprice ["_law_arcs", "_law_loads", "_law_sset", "_law_tset"] (defScope s_Lprice) := ⟨rfl, rfl, rfl, by decide +kernel, rfl, by decide +kernel, by decide +kernel⟩
theorem fk_Lprice {P : Program} {w : World} {K : PySem.W.Frag} {mg : Str → Option Value} {base : Heap} (T : Tx w K mg)
    (G_Lat_0 : Fn P w K mg base 3 (He.ga K "_law_at") ["_law_move", "_law_at_here"] w_Lat 2 [] (fun ds _ => ds))
    (G_Lplus_0 : Fn P w K mg base 3 (He.ga K "_law_plus") ["_law_a", "_law_b"] w_Lplus 2 [] (fun ds _ => ds))
    (G_Ltimes_0 : Fn P w K mg base 3 (He.ga K "_law_times") ["_law_a", "_law_b"] w_Ltimes 2 [] (fun ds _ => ds)) {fd : FuncData}
    (F : FunD K "_law_price" "_law_price" (defArgs s_Lprice) (defBody s_Lprice) (defScope s_Lprice) [] [] (He.ga K "_law_price") fd) :
    FnOk P w K mg base (MV.CX P w) 4 (He.ga K "_law_price") fd ["_law_arcs", "_law_loads", "_law_sset", "_law_tset"] (spM K 4 w_Lprice) :=
  fn_ok F sc_Lprice fun cdv A outer s H E hr tk po =>
    (qss_cons (qs_set (i := 4) sc_Lprice.nd rfl (Or.inl rfl) (qe_tup (qa_cons qe_int (qa_cons qe_int qa_nil))))
      (qss_cons (qs_for po rfl (qi_range1 (by rfl) T.m_range (qa_cons (qe_callB call_lenA sim_len (by rfl) T.m_len (by decide +kernel) (qa_cons (qv 0) qa_nil)) qa_nil)) (qg_name (i := 5) sc_Lprice.nd rfl (by first | exact Or.inl rfl | exact Or.inr rfl)) (qss_one (qs_set (i := 4) sc_Lprice.nd rfl (Or.inl rfl) (qe_call G_Lplus_0 (hr.mono (by decide)) (by rfl) T.g_Lplus tk (qcwP (qa_cons (qv 4) (qa_cons (qe_call G_Ltimes_0 (hr.mono (by decide)) (by rfl) T.g_Ltimes tk (qcwP (qa_cons (qe_call G_Lat_0 (hr.mono (by decide)) (by rfl) T.g_Lat tk (qcwP (qa_cons (qe_ix (ix_any (units1 hr)) sim_ix (qv 1) (qv 5) (fun _ _ => rfl)) (qa_cons (qv 2) qa_nil))) (by exact fun _ _ h _ => h)) (qa_cons (qe_call G_Lat_0 (hr.mono (by decide)) (by rfl) T.g_Lat tk (qcwP (qa_cons (qe_ix (ix_any (units1 hr)) sim_ix (qe_ix (ix_any (units1 hr)) sim_ix (qv 0) (qv 5) (fun _ _ => rfl)) qe_int (fun _ _ => rfl)) (qa_cons (qv 3) qa_nil))) (by exact fun _ _ h _ => h)) qa_nil))) (by exact fun _ _ h _ => h)) qa_nil))) (by exact fun _ _ h _ => h)))))
      (qss_one (qs_ret (qv 4)))))
theorem ok_Lprice_0 {P : Program} {w : World} {K : PySem.W.Frag} {mg : Str → Option Value} {base : Heap} (T : Tx w K mg)
    (G_Lat_0 : Fn P w K mg base 3 (He.ga K "_law_at") ["_law_move", "_law_at_here"] w_Lat 2 [] (fun ds _ => ds))
    (G_Lplus_0 : Fn P w K mg base 3 (He.ga K "_law_plus") ["_law_a", "_law_b"] w_Lplus 2 [] (fun ds _ => ds))
    (G_Ltimes_0 : Fn P w K mg base 3 (He.ga K "_law_times") ["_law_a", "_law_b"] w_Ltimes 2 [] (fun ds _ => ds)) :
    Fn P w K mg base 4 (He.ga K "_law_price") ["_law_arcs", "_law_loads", "_law_sset", "_law_tset"] w_Lprice 4 [] (fun ds _ => ds) := by
  obtain ⟨fd, F⟩ := T.d_Lprice
  refine ⟨⟨fd, fk_Lprice T G_Lat_0 G_Lplus_0 G_Ltimes_0 F, ?_⟩, F.kp⟩
  exact dbn_all (FunD.bindsN F (ps := ["_law_arcs", "_law_loads", "_law_sset", "_law_tset"]) fun _ _ _ _ _ _ us hl => match us, hl with | [_, _, _, _], _ => rfl)
theorem sc_Llt : FnScope N_Llt ["_law_a", "_law_b"] (defScope s_Llt) := ⟨rfl, rfl, rfl, by decide +kernel, rfl, by decide +kernel, by decide +kernel⟩
theorem fk_Llt {P : Program} {w : World} {K : PySem.W.Frag} {mg : Str → Option Value} {base : Heap} (T : Tx w K mg) {fd : FuncData}
    (F : FunD K "_law_lt" "_law_lt" (defArgs s_Llt) (defBody s_Llt) (defScope s_Llt) [] [] (He.ga K "_law_lt") fd) :
    FnOk P w K mg base (MV.CX P w) 1 (He.ga K "_law_lt") fd ["_law_a", "_law_b"] (spM K 2 w_Llt) :=
  fn_ok F sc_Llt fun cdv A outer s H E hr tk po =>
    (qss_one (qs_ret (qe_cmp op_lt sim_lt (qe_op op_mulA sim_mul (qe_ix (ix_any (units1 hr)) sim_ix (qv 0) qe_int (fun _ _ => rfl)) (qe_ix (ix_any (units1 hr)) sim_ix (qv 1) qe_int (fun _ _ => rfl))) (qe_op op_mulA sim_mul (qe_ix (ix_any (units1 hr)) sim_ix (qv 1) qe_int (fun _ _ => rfl)) (qe_ix (ix_any (units1 hr)) sim_ix (qv 0) qe_int (fun _ _ => rfl))) (nomark _))))
theorem ok_Llt_0 {P : Program} {w : World} {K : PySem.W.Frag} {mg : Str → Option Value} {base : Heap} (T : Tx w K mg) :
    Fn P w K mg base 1 (He.ga K "_law_lt") ["_law_a", "_law_b"] w_Llt 2 [] (fun ds _ => ds) := by
  obtain ⟨fd, F⟩ := T.d_Llt
  refine ⟨⟨fd, fk_Llt T F, ?_⟩, F.kp⟩
  exact dbn_all (FunD.bindsN F (ps := ["_law_a", "_law_b"]) fun _ _ _ _ _ _ us hl => match us, hl with | [_, _], _ => rfl)
theorem sc_Lleft : FnScope N_Lleft ["_law_needs", "_law_arcs", "_law_loads"] (defScope s_Lleft) := ⟨rfl, rfl, rfl, by decide +kernel, rfl, by decide +kernel, by decide +kernel⟩
theorem fk_Lleft {P : Program} {w : World} {K : PySem.W.Frag} {mg : Str → Option Value} {base : Heap} (T : Tx w K mg) {fd : FuncData}
    (F : FunD K "_law_left" "_law_left" (defArgs s_Lleft) (defBody s_Lleft) (defScope s_Lleft) [] [] (He.ga K "_law_left") fd) :
    FnOk P w K mg base (MV.CX P w) 1 (He.ga K "_law_left") fd ["_law_needs", "_law_arcs", "_law_loads"] (spM K 3 w_Lleft) :=
  fn_ok F sc_Lleft fun cdv A outer s H E hr tk po =>
    (qss_cons (qs_set (i := 3) sc_Lleft.nd rfl (Or.inl rfl) (qe_callTy (call_listA rfl) sim_list (by rfl) T.m_list (by decide +kernel) (qa_cons (qv 0) qa_nil)))
      (qss_cons (qs_for po rfl (qi_range1 (by rfl) T.m_range (qa_cons (qe_callB call_lenA sim_len (by rfl) T.m_len (by decide +kernel) (qa_cons (qv 1) qa_nil)) qa_nil)) (qg_name (i := 4) sc_Lleft.nd rfl (by first | exact Or.inl rfl | exact Or.inr rfl)) (qss_cons (qs_asg (qe_ix (ix_any (units1 hr)) sim_ix (qv 1) (qv 4) (fun _ _ => rfl)) (qg_tup rfl (qgs_cons (qg_name (i := 6) sc_Lleft.nd rfl (by first | exact Or.inl rfl | exact Or.inr rfl)) (qgs_cons (qg_name (i := 7) sc_Lleft.nd rfl (by first | exact Or.inl rfl | exact Or.inr rfl)) (qgs_cons (qg_name (i := 8) sc_Lleft.nd rfl (by first | exact Or.inl rfl | exact Or.inr rfl)) (qgs_cons (qg_name (i := 9) sc_Lleft.nd rfl (by first | exact Or.inl rfl | exact Or.inr rfl)) qgs_nil))))))
      (qss_cons (qs_set (i := 5) sc_Lleft.nd rfl (Or.inl rfl) (qe_ix (ix_any (units1 hr)) sim_ix (qv 2) (qv 4) (fun _ _ => rfl)))
      (qss_cons (qs_setIx (units1 hr) (qe_tup (qa_cons (qe_op op_sub sim_sub (qe_ix (ix_any (units1 hr)) sim_ix (qe_ix (ix_any (units1 hr)) sim_ix (qv 3) (qv 7) (fun _ _ => rfl)) qe_int (fun _ _ => rfl)) (qe_ix (ix_any (units1 hr)) sim_ix (qv 5) qe_int (fun _ _ => rfl))) (qa_cons (qe_op op_sub sim_sub (qe_ix (ix_any (units1 hr)) sim_ix (qe_ix (ix_any (units1 hr)) sim_ix (qv 3) (qv 7) (fun _ _ => rfl)) qe_int (fun _ _ => rfl)) (qe_ix (ix_any (units1 hr)) sim_ix (qv 5) qe_int (fun _ _ => rfl))) qa_nil))) (qv 3) (qv 7))
      (qss_one (qs_setIx (units1 hr) (qe_tup (qa_cons (qe_op DW.op_plus sim_add (qe_ix (ix_any (units1 hr)) sim_ix (qe_ix (ix_any (units1 hr)) sim_ix (qv 3) (qv 6) (fun _ _ => rfl)) qe_int (fun _ _ => rfl)) (qe_ix (ix_any (units1 hr)) sim_ix (qv 5) qe_int (fun _ _ => rfl))) (qa_cons (qe_op DW.op_plus sim_add (qe_ix (ix_any (units1 hr)) sim_ix (qe_ix (ix_any (units1 hr)) sim_ix (qv 3) (qv 6) (fun _ _ => rfl)) qe_int (fun _ _ => rfl)) (qe_ix (ix_any (units1 hr)) sim_ix (qv 5) qe_int (fun _ _ => rfl))) qa_nil))) (qv 3) (qv 6)))))))
      (qss_one (qs_ret (qv 3)))))
theorem ok_Lleft_0 {P : Program} {w : World} {K : PySem.W.Frag} {mg : Str → Option Value} {base : Heap} (T : Tx w K mg) :
    Fn P w K mg base 1 (He.ga K "_law_left") ["_law_needs", "_law_arcs", "_law_loads"] w_Lleft 3 [] (fun ds _ => ds) := by
  obtain ⟨fd, F⟩ := T.d_Lleft
  refine ⟨⟨fd, fk_Lleft T F, ?_⟩, F.kp⟩
  exact dbn_all (FunD.bindsN F (ps := ["_law_needs", "_law_arcs", "_law_loads"]) fun _ _ _ _ _ _ us hl => match us, hl with | [_, _, _], _ => rfl)
theorem sc_law : FnScope N_law ["_law_script"] (defScope s_law) := ⟨rfl, rfl, rfl, by decide +kernel, rfl, by decide +kernel, by decide +kernel⟩
theorem fk_law {P : Program} {w : World} {K : PySem.W.Frag} {mg : Str → Option Value} {base : Heap} (T : Tx w K mg)
    (G_Lat_0 : Fn P w K mg base 3 (He.ga K "_law_at") ["_law_move", "_law_at_here"] w_Lat 2 [] (fun ds _ => ds))
    (G_Ldraw_0 : Fn P w K mg base 1 (He.ga K "_law_draw") ["_law_feed_here", "_law_many"] w_Ldraw 2 [] (fun ds _ => ds))
    (G_Lfeed_0 : Fn P w K mg base 1 (He.ga K "_law_feed") ["_law_script"] w_Lfeed 1 [] (fun ds _ => ds))
    (G_Lleft_0 : Fn P w K mg base 1 (He.ga K "_law_left") ["_law_needs", "_law_arcs", "_law_loads"] w_Lleft 3 [] (fun ds _ => ds))
    (G_Llt_0 : Fn P w K mg base 1 (He.ga K "_law_lt") ["_law_a", "_law_b"] w_Llt 2 [] (fun ds _ => ds))
    (G_Lprice_0 : Fn P w K mg base 4 (He.ga K "_law_price") ["_law_arcs", "_law_loads", "_law_sset", "_law_tset"] w_Lprice 4 [] (fun ds _ => ds))
    (G_Lroom_0 : Fn P w K mg base 2 (He.ga K "_law_room") ["_law_feed_here", "_law_top", "_law_pair"] w_Lroom 3 [] (fun ds _ => ds))
    (G_Lsetting_0 : Fn P w K mg base 3 (He.ga K "_law_setting") ["_law_feed_here", "_law_pair"] w_Lsetting 2 [] (fun ds _ => ds))
    (G_Lsome_move_0 : Fn P w K mg base 2 (He.ga K "_law_some_move") ["_law_feed_here", "_law_far"] w_Lsome_move 2 [] (fun ds _ => ds))
    (G_Lsome_plain_0 : Fn P w K mg base 3 (He.ga K "_law_some_plain") ["_law_feed_here", "_law_s_pair", "_law_t_pair"] w_Lsome_plain 3 [] (fun ds _ => ds))
    (G_Ltimes_0 : Fn P w K mg base 3 (He.ga K "_law_times") ["_law_a", "_law_b"] w_Ltimes 2 [] (fun ds _ => ds))
    (G_best_0 : Fn P w K mg base 5 (He.ga K "best") ["needs", "arcs", "s", "t", "s_ahead", "t_ahead"] w_best 4 [] (fun ds es => [ds.getD 0 .non, ds.getD 1 .non, ds.getD 2 .non, ds.getD 3 .non, (.bl false), (.bl false)])) {fd : FuncData}
    (F : FunD K "law" "law" (defArgs s_law) (defBody s_law) (defScope s_law) [] [] (He.ga K "law") fd) :
    FnOk P w K mg base (MV.CX P w) 6 (He.ga K "law") fd ["_law_script"] (spM K 1 w_law) :=
  fn_ok F sc_law fun cdv A outer s H E hr tk po =>
    (qss_cons (qs_set (i := 1) sc_law.nd rfl (Or.inl rfl) (qe_call G_Lfeed_0 (hr.mono (by decide)) (by rfl) T.g_Lfeed tk (qcwP (qa_cons (qv 0) qa_nil)) (by exact fun _ _ h _ => h)))
      (qss_cons (qs_set (i := 2) sc_law.nd rfl (Or.inl rfl) (qe_tup (qa_cons (qe_un un_neg sim_neg qe_int) (qa_cons qe_int qa_nil))))
      (qss_cons (qs_asg (qe_call G_Lsome_plain_0 (hr.mono (by decide)) (by rfl) T.g_Lsome_plain tk (qcwP (qa_cons (qv 1) (qa_cons (qv 2) (qa_cons (qv 2) qa_nil)))) (by exact fun _ _ h _ => h)) (qg_tup rfl (qgs_cons (qg_name (i := 3) sc_law.nd rfl (by first | exact Or.inl rfl | exact Or.inr rfl)) (qgs_cons (qg_name (i := 4) sc_law.nd rfl (by first | exact Or.inl rfl | exact Or.inr rfl)) (qgs_cons (qg_name (i := 5) sc_law.nd rfl (by first | exact Or.inl rfl | exact Or.inr rfl)) qgs_nil)))))
      (qss_cons (qs_for po rfl (qi_range1 (by rfl) T.m_range (qa_cons (qe_callB call_lenA sim_len (by rfl) T.m_len (by decide +kernel) (qa_cons (qv 4) qa_nil)) qa_nil)) (qg_name (i := 6) sc_law.nd rfl (by first | exact Or.inl rfl | exact Or.inr rfl)) (qss_cons (qs_asg (qe_ix (ix_any (units1 hr)) sim_ix (qv 4) (qv 6) (fun _ _ => rfl)) (qg_tup rfl (qgs_cons (qg_name (i := 7) sc_law.nd rfl (by first | exact Or.inl rfl | exact Or.inr rfl)) (qgs_cons (qg_name (i := 8) sc_law.nd rfl (by first | exact Or.inl rfl | exact Or.inr rfl)) (qgs_cons (qg_name (i := 9) sc_law.nd rfl (by first | exact Or.inl rfl | exact Or.inr rfl)) (qgs_cons (qg_name (i := 10) sc_law.nd rfl (by first | exact Or.inl rfl | exact Or.inr rfl)) qgs_nil))))))
      (qss_one (qs_if (qt_cmp (DW.op_eqq hr.units) sim_eq (qe_call G_Ldraw_0 (hr.mono (by decide)) (by rfl) T.g_Ldraw tk (qcwP (qa_cons (qv 1) (qa_cons qe_int qa_nil))) (by exact fun _ _ h _ => h)) qe_int (nomark _)) (qss_cons (qs_expr (qe_bm PySem.F.plainAttrs_list PySem.F.slot_list_append PySem.F.type_list_append mt_append sim_append (qv 4) (qa_cons (qe_tup (qa_cons (qv 7) (qa_cons (qv 8) (qa_cons (qe_call G_Lroom_0 (hr.mono (by decide)) (by rfl) T.g_Lroom tk (qcwP (qa_cons (qv 1) (qa_cons qe_int (qa_cons (qv 2) qa_nil)))) (by exact fun _ _ h _ => h)) (qa_cons (qe_call G_Lsome_move_0 (hr.mono (by decide)) (by rfl) T.g_Lsome_move tk (qcwP (qa_cons (qv 1) (qa_cons qe_int qa_nil))) (by exact fun _ _ h _ => h)) qa_nil))))) qa_nil)))
      (qss_one (qs_expr (qe_bm PySem.F.plainAttrs_list PySem.F.slot_list_append PySem.F.type_list_append mt_append sim_append (qv 5) (qa_cons (qe_tup (qa_cons qe_int (qa_cons qe_int qa_nil))) qa_nil))))) qss_nil))))
      (qss_cons (qs_for po rfl (qi_range1 (by rfl) T.m_range (qa_cons qe_int qa_nil)) (qg_name (i := 11) sc_law.nd rfl (by first | exact Or.inl rfl | exact Or.inr rfl)) (qss_cons (qs_set (i := 12) sc_law.nd rfl (Or.inl rfl) (qe_call G_Lsetting_0 (hr.mono (by decide)) (by rfl) T.g_Lsetting tk (qcwP (qa_cons (qv 1) (qa_cons (qv 2) qa_nil))) (by exact fun _ _ h _ => h)))
      (qss_cons (qs_set (i := 13) sc_law.nd rfl (Or.inl rfl) (qe_call G_Lsetting_0 (hr.mono (by decide)) (by rfl) T.g_Lsetting tk (qcwP (qa_cons (qv 1) (qa_cons (qv 2) qa_nil))) (by exact fun _ _ h _ => h)))
      (qss_cons (qs_set (i := 14) sc_law.nd rfl (Or.inr rfl) (qe_ix (ix_any (units1 hr)) sim_ix (qe_call G_best_0 (hr.mono (by decide)) (by rfl) T.g_best tk (qcwP (qa_cons (qe_callTy (call_listA rfl) sim_list (by rfl) T.m_list (by decide +kernel) (qa_cons (qv 3) qa_nil)) (qa_cons (qe_callTy (call_listA rfl) sim_list (by rfl) T.m_list (by decide +kernel) (qa_cons (qv 4) qa_nil)) (qa_cons (qv 12) (qa_cons (qv 13) qa_nil))))) (by exact fun _ _ _ _ => rfl)) qe_int (fun _ _ => rfl)))
      (qss_cons (qs_set (i := 15) sc_law.nd rfl (Or.inl rfl) (qe_call G_Lprice_0 (hr.mono (by decide)) (by rfl) T.g_Lprice tk (qcwP (qa_cons (qv 4) (qa_cons (qv 14) (qa_cons (qv 12) (qa_cons (qv 13) qa_nil))))) (by exact fun _ _ h _ => h)))
      (qss_cons (qs_if (qt_tru (qe_call G_Llt_0 (hr.mono (by decide)) (by rfl) T.g_Llt tk (qcwP (qa_cons (qe_call G_Lprice_0 (hr.mono (by decide)) (by rfl) T.g_Lprice tk (qcwP (qa_cons (qv 4) (qa_cons (qv 5) (qa_cons (qv 12) (qa_cons (qv 13) qa_nil))))) (by exact fun _ _ h _ => h)) (qa_cons (qv 15) qa_nil))) (by exact fun _ _ h _ => h)) (by intro _; rfl)) (qss_one (qs_ret qe_bl)) qss_nil)
      (qss_cons (qs_for po rfl (qi_seq (qe_call G_Lleft_0 (hr.mono (by decide)) (by rfl) T.g_Lleft tk (qcwP (qa_cons (qv 3) (qa_cons (qv 4) (qa_cons (qv 14) qa_nil)))) (by exact fun _ _ h _ => h))) (qg_name (i := 16) sc_law.nd rfl (by first | exact Or.inl rfl | exact Or.inr rfl)) (qss_one (qs_if (qt_cmp (DW.op_nee hr.units) sim_ne (qe_call G_Lat_0 (hr.mono (by decide)) (by rfl) T.g_Lat tk (qcwP (qa_cons (qv 16) (qa_cons (qv 12) qa_nil))) (by exact fun _ _ h _ => h)) (qe_tup (qa_cons qe_int (qa_cons qe_int qa_nil))) (nomark _)) (qss_one (qs_ret qe_bl)) qss_nil)))
      (qss_cons (qs_setLc (i := 17) (own := [("_law_k", 6)]) (T := (.nm 6)) (tt := mYes) (me := (mCB oTup (mCons (mOp oAdd (mOp oIx (mOp oIx (mVar 14) (mVar 6)) (mC (.int 0))) (mOp oIx (mOp oIx (mVar 5) (mVar 6)) (mC (.int 0)))) (mCons (mOp oAdd (mOp oIx (mOp oIx (mVar 14) (mVar 6)) (mC (.int 1))) (mOp oIx (mOp oIx (mVar 5) (mVar 6)) (mC (.int 1)))) mNil)))) rfl sc_law.nd rfl rfl (sw_true rfl rfl rfl (by decide +kernel)) (qi_range1 (by rfl) T.m_range (qa_cons (qe_callB call_lenA sim_len (by rfl) T.m_len (by decide +kernel) (qa_cons (qv 4) qa_nil)) qa_nil)) (blkOk_by (N := N_law) (sc := defScope s_law) (by decide +kernel)) (fun _ _ _ _ _ => (qg_name (i := 6) sc_law.nd rfl (by first | exact Or.inl rfl | exact Or.inr rfl))) (fun _ _ _ _ _ => qts_nil) (fun _ _ _ _ _ => (qe_tup (qa_cons (qe_op DW.op_plus sim_add (qe_ix (ix_any (units1 hr)) sim_ix (qe_ix (ix_any (units1 hr)) sim_ix (qv 14) (qv 6) (fun _ _ => rfl)) qe_int (fun _ _ => rfl)) (qe_ix (ix_any (units1 hr)) sim_ix (qe_ix (ix_any (units1 hr)) sim_ix (qv 5) (qv 6) (fun _ _ => rfl)) qe_int (fun _ _ => rfl))) (qa_cons (qe_op DW.op_plus sim_add (qe_ix (ix_any (units1 hr)) sim_ix (qe_ix (ix_any (units1 hr)) sim_ix (qv 14) (qv 6) (fun _ _ => rfl)) qe_int (fun _ _ => rfl)) (qe_ix (ix_any (units1 hr)) sim_ix (qe_ix (ix_any (units1 hr)) sim_ix (qv 5) (qv 6) (fun _ _ => rfl)) qe_int (fun _ _ => rfl))) qa_nil)))) (by decide))
      (qss_cons (qs_set (i := 18) sc_law.nd rfl (Or.inl rfl) (qe_call G_Ltimes_0 (hr.mono (by decide)) (by rfl) T.g_Ltimes tk (qcwP (qa_cons (qe_call G_Lprice_0 (hr.mono (by decide)) (by rfl) T.g_Lprice tk (qcwP (qa_cons (qv 4) (qa_cons (qv 17) (qa_cons (qv 12) (qa_cons (qv 13) qa_nil))))) (by exact fun _ _ h _ => h)) (qa_cons (qe_tup (qa_cons qe_int (qa_cons qe_int qa_nil))) qa_nil))) (by exact fun _ _ h _ => h)))
      (qss_one (qs_if (qt_tru (qe_call G_Llt_0 (hr.mono (by decide)) (by rfl) T.g_Llt tk (qcwP (qa_cons (qv 18) (qa_cons (qv 15) qa_nil))) (by exact fun _ _ h _ => h)) (by intro _; rfl)) (qss_one (qs_ret qe_bl)) qss_nil)))))))))))
      (qss_one (qs_ret qe_bl)))))))
theorem tx_mk {w : World} {K : PySem.W.Frag} {h : Heap} {mg : Str → Option Value} (X : K.In h) (G : h.Ns mainGlobals mg) (c : SaysF faL fnL tsL (fun K => DW.allT (exL K)) w K) : Tx w K mg where
  g_Lfeed := He.glo_ok X G (c.d.fact 0 (f := .glo "_law_feed") rfl)
  d_Lfeed := c.d.def_ 0 (d := dd_Lfeed) rfl
  g_Ldraw := He.glo_ok X G (c.d.fact 1 (f := .glo "_law_draw") rfl)
  d_Ldraw := c.d.def_ 1 (d := dd_Ldraw) rfl
  g_Lroom := He.glo_ok X G (c.d.fact 2 (f := .glo "_law_room") rfl)
  d_Lroom := c.d.def_ 2 (d := dd_Lroom) rfl
  g_Lsome_move := He.glo_ok X G (c.d.fact 3 (f := .glo "_law_some_move") rfl)
  d_Lsome_move := c.d.def_ 3 (d := dd_Lsome_move) rfl
  g_Lsome_plain := He.glo_ok X G (c.d.fact 4 (f := .glo "_law_some_plain") rfl)
  d_Lsome_plain := c.d.def_ 4 (d := dd_Lsome_plain) rfl
  g_Lgcd := He.glo_ok X G (c.d.fact 5 (f := .glo "_law_gcd") rfl)
  d_Lgcd := c.d.def_ 5 (d := dd_Lgcd) rfl
  g_Lfrac := He.glo_ok X G (c.d.fact 6 (f := .glo "_law_frac") rfl)
  d_Lfrac := c.d.def_ 6 (d := dd_Lfrac) rfl
  g_Lsetting := He.glo_ok X G (c.d.fact 7 (f := .glo "_law_setting") rfl)
  d_Lsetting := c.d.def_ 7 (d := dd_Lsetting) rfl
  g_add := He.glo_ok X G (c.d.fact 8 (f := .glo "add") rfl)
  d_add := c.d.def_ 8 (d := dd_add) rfl
  g_turned := He.glo_ok X G (c.d.fact 9 (f := .glo "turned") rfl)
  d_turned := c.d.def_ 9 (d := dd_turned) rfl
  g_step_price := He.glo_ok X G (c.d.fact 10 (f := .glo "step_price") rfl)
  d_step_price := c.d.def_ 10 (d := dd_step_price) rfl
  g_rank := He.glo_ok X G (c.d.fact 11 (f := .glo "rank") rfl)
  d_rank := c.d.def_ 11 (d := dd_rank) rfl
  g_settled := He.glo_ok X G (c.d.fact 12 (f := .glo "settled") rfl)
  d_settled := c.d.def_ 12 (d := dd_settled) rfl
  g_open_links := He.glo_ok X G (c.d.fact 13 (f := .glo "open_links") rfl)
  d_open_links := c.d.def_ 13 (d := dd_open_links) rfl
  g_take := He.glo_ok X G (c.d.fact 14 (f := .glo "take") rfl)
  d_take := c.d.def_ 14 (d := dd_take) rfl
  g_first_loads := He.glo_ok X G (c.d.fact 15 (f := .glo "first_loads") rfl)
  d_first_loads := c.d.def_ 15 (d := dd_first_loads) rfl
  g_ends_put := He.glo_ok X G (c.d.fact 16 (f := .glo "ends_put") rfl)
  d_ends_put := c.d.def_ 16 (d := dd_ends_put) rfl
  g_left_links := He.glo_ok X G (c.d.fact 17 (f := .glo "left_links") rfl)
  d_left_links := c.d.def_ 17 (d := dd_left_links) rfl
  g_tight_links := He.glo_ok X G (c.d.fact 18 (f := .glo "tight_links") rfl)
  d_tight_links := c.d.def_ 18 (d := dd_tight_links) rfl
  g_reached := He.glo_ok X G (c.d.fact 19 (f := .glo "reached") rfl)
  d_reached := c.d.def_ 19 (d := dd_reached) rfl
  g_push := He.glo_ok X G (c.d.fact 20 (f := .glo "push") rfl)
  d_push := c.d.def_ 20 (d := dd_push) rfl
  g_best := He.glo_ok X G (c.d.fact 21 (f := .glo "best") rfl)
  d_best := c.d.def_ 21 (d := dd_best) rfl
  g_Lplus := He.glo_ok X G (c.d.fact 22 (f := .glo "_law_plus") rfl)
  d_Lplus := c.d.def_ 22 (d := dd_Lplus) rfl
  g_Ltimes := He.glo_ok X G (c.d.fact 23 (f := .glo "_law_times") rfl)
  d_Ltimes := c.d.def_ 23 (d := dd_Ltimes) rfl
  g_Lat := He.glo_ok X G (c.d.fact 24 (f := .glo "_law_at") rfl)
  d_Lat := c.d.def_ 24 (d := dd_Lat) rfl
  g_Lprice := He.glo_ok X G (c.d.fact 25 (f := .glo "_law_price") rfl)
  d_Lprice := c.d.def_ 25 (d := dd_Lprice) rfl
  g_Llt := He.glo_ok X G (c.d.fact 26 (f := .glo "_law_lt") rfl)
  d_Llt := c.d.def_ 26 (d := dd_Llt) rfl
  g_Lleft := He.glo_ok X G (c.d.fact 27 (f := .glo "_law_left") rfl)
  d_Lleft := c.d.def_ 27 (d := dd_Lleft) rfl
  g_law := He.glo_ok X G (c.d.fact 28 (f := .glo "law") rfl)
  d_law := c.d.def_ 28 (d := dd_law) rfl
  m_abs := He.free_ok X G (c.d.fact 29 (f := .free "abs") rfl)
  m_enumerate := He.free_ok X G (c.d.fact 30 (f := .free "enumerate") rfl)
  m_int := He.free_ok X G (c.d.fact 31 (f := .free "int") rfl)
  m_len := He.free_ok X G (c.d.fact 32 (f := .free "len") rfl)
  m_list := He.free_ok X G (c.d.fact 33 (f := .free "list") rfl)
  m_min := He.free_ok X G (c.d.fact 34 (f := .free "min") rfl)
  m_range := He.free_ok X G (c.d.fact 35 (f := .free "range") rfl)
  g_NOUGHT := He.glo_ok X G (c.d.fact 36 (f := .glo "NOUGHT") rfl)
  t_NOUGHT := fun as H => datAt_ok (DW.allT_get c.more 0 rfl)
  tn := of_decide_eq_true (DW.allT_get c.more 1 rfl)
theorem all_ok {P : Program} {w : World} {K : PySem.W.Frag} {mg : Str → Option Value} (T : Tx w K mg) (base : Heap) (B_push : LamX.TabB base mg (He.codeOf K ("push", none)) (tabAd K "push")) {fd : FuncData} (F : FunD K "law" "law" (defArgs s_law) (defBody s_law) (defScope s_law) [] [] (He.ga K "law") fd) : FnOk P w K mg base CX0 6 (He.ga K "law") fd ["_law_script"] (fun vs H Q _ => spM K 1 w_law vs H Q E0) := by
  have G_Lfeed_0 := ok_Lfeed_0 (P := P) (w := w) (base := base) T
  have G_Ldraw_0 := ok_Ldraw_0 (P := P) (w := w) (base := base) T
  have G_Lroom_0 := ok_Lroom_0 (P := P) (w := w) (base := base) T G_Ldraw_0
  have G_Lsome_move_0 := ok_Lsome_move_0 (P := P) (w := w) (base := base) T G_Ldraw_0
  have G_Lsome_plain_0 := ok_Lsome_plain_0 (P := P) (w := w) (base := base) T G_Ldraw_0 G_Lroom_0 G_Lsome_move_0
  have G_Lgcd_0 := ok_Lgcd_0 (P := P) (w := w) (base := base) T
  have G_Lfrac_0 := ok_Lfrac_0 (P := P) (w := w) (base := base) T G_Lgcd_0
  have G_Lsetting_0 := ok_Lsetting_0 (P := P) (w := w) (base := base) T G_Ldraw_0 G_Lfrac_0
  have G_add_0 := ok_add_0 (P := P) (w := w) (base := base) T
  have G_turned_0 := ok_turned_0 (P := P) (w := w) (base := base) T
  have G_step_price_0 := ok_step_price_0 (P := P) (w := w) (base := base) T G_turned_0
  have G_rank_0 := ok_rank_0 (P := P) (w := w) (base := base) T
  have G_settled_0 := ok_settled_0 (P := P) (w := w) (base := base) T G_add_0 G_rank_0 G_step_price_0
  have G_open_links_0 := ok_open_links_0 (P := P) (w := w) (base := base) T
  have G_take_0 := ok_take_0 (P := P) (w := w) (base := base) T
  have G_first_loads_0 := ok_first_loads_0 (P := P) (w := w) (base := base) T G_add_0 G_open_links_0 G_rank_0 G_settled_0 G_take_0
  have G_ends_put_0 := ok_ends_put_0 (P := P) (w := w) (base := base) T G_rank_0 G_turned_0
  have G_left_links_0 := ok_left_links_0 (P := P) (w := w) (base := base) T G_rank_0 G_take_0
  have G_tight_links_0 := ok_tight_links_0 (P := P) (w := w) (base := base) T G_add_0 G_rank_0 G_step_price_0 G_take_0
  have G_reached_0 := ok_reached_0 (P := P) (w := w) (base := base) T
  have G_push_0 := ok_push_0 (P := P) (w := w) (base := base) T G_add_0 G_rank_0 G_take_0 G_turned_0 B_push
  have G_best_0 := ok_best_0 (P := P) (w := w) (base := base) T G_ends_put_0 G_first_loads_0 G_left_links_0 G_push_0 G_reached_0 G_settled_0 G_tight_links_0
  have G_Lplus_0 := ok_Lplus_0 (P := P) (w := w) (base := base) T G_Lfrac_0
  have G_Ltimes_0 := ok_Ltimes_0 (P := P) (w := w) (base := base) T G_Lfrac_0
  have G_Lat_0 := ok_Lat_0 (P := P) (w := w) (base := base) T G_Lfrac_0
  have G_Lprice_0 := ok_Lprice_0 (P := P) (w := w) (base := base) T G_Lat_0 G_Lplus_0 G_Ltimes_0
  have G_Llt_0 := ok_Llt_0 (P := P) (w := w) (base := base) T
  have G_Lleft_0 := ok_Lleft_0 (P := P) (w := w) (base := base) T
  exact fn_law (fk_law T G_Lat_0 G_Ldraw_0 G_Lfeed_0 G_Lleft_0 G_Llt_0 G_Lprice_0 G_Lroom_0 G_Lsetting_0 G_Lsome_move_0 G_Lsome_plain_0 G_Ltimes_0 G_best_0 F)
end Prf
section
open PySem PySem.W PySem.Calls PyProof.Rows
theorem Prf.cw_pre (LH : ∀ ns : List Int, ns.length ≤ 63 → Prf.w_law [.kl (ns.map .int)] (MV.tabsM Prf.tlL) (fun d _ => d = .bl true) (fun _ _ => False)) : PySem.Challenge.rw_dialweir_k38_whole_nothing_cheaper_on_a.Holds := by
  refine Prf.cw_top Prf.run ?hc
  case hc =>
    refine LamX.walk_ofTsE (l := PySem.Challenge.rw_dialweir_k38_whole_nothing_cheaper_on_a) (n := 63) (k := 6) (x := "_law_script") (CX := fun _ => L2.CX0) rfl (by decide) (by kernel_rfl) ⟨rfl, by decide, by decide⟩ ?F (fun _ _ _ _ _ z => z)
    intro w mg fa h Y G hmg0
    obtain ⟨K, KX, c⟩ := Y
    have hmg : mg ("law" : PySem.Str) = some (.ref fa) := by
      have e : (HandSHeadRun.topDef (OpenLaw.row PySem.Challenge.rw_dialweir_k38_whole_nothing_cheaper_on_a).prog 33).name = ("law" : PySem.Str) := by kernel_rfl
      rw [← e]
      exact hmg0
    have T := Prf.tx_mk (w := w) KX G c.f
    have e := hmg.symm.trans T.g_law
    cases e
    obtain ⟨fd, F⟩ := T.d_law
    exact ⟨K, KX, MV.lawAt_Z KX c T.tn (fun s v => L2.FunD.bindsA (ps := ["_law_script"]) F (fun _ _ _ _ _ _ us hl => match us, hl with | [_], _ => rfl) s [v] rfl) LH (fun base TB => Prf.all_ok T base (TB ("push", Prf.tq_push) (by simp [Prf.tlL])) F)⟩

end
namespace MV
open PySem L2
theorem atI_0 {α : Type} {l : List α} : atI l 0 = l[0]? := by cases l <;> simp [atI, ixN]
theorem atI_n {α : Type} {l : List α} {n : Nat} : atI l (n : Int) = l[n]? := by
  unfold atI ixN
  rw [if_pos (by omega)]
  by_cases h : (n : Int) < l.length
  · rw [if_pos h]; simp
  · rw [if_neg h]; simp; omega
theorem atI_1 {α : Type} {l : List α} : atI l 1 = l[1]? := atI_n (n := 1)
theorem atI_i {α : Type} {l : List α} {i : Int} (h0 : 0 ≤ i) : atI l i = l[i.toNat]? := by
  obtain ⟨n, rfl⟩ := Int.eq_ofNat_of_zero_le h0
  rw [atI_n]; simp
theorem ixN_n {n : Nat} {j : Nat} (h : j < n) : ixN n (j : Int) = some j := by
  unfold ixN
  rw [if_pos (by omega), if_pos (by omega)]; simp
theorem mul_ok {i j : Int} (h : j.natAbs < 2 ^ 64) : okMul i j := .inl (.inr (by omega))
theorem mul_ok' {i j : Int} (h : i.natAbs < 2 ^ 64) : okMul i j := .inl (.inl (by omega))
theorem div_ok {j : Int} (h : j ≠ 0) (hb : j.natAbs < 2 ^ 64) : okDiv j := ⟨h, Nat.lt_of_lt_of_le (Nat.log2_lt (by omega) |>.mpr hb) (by decide)⟩
theorem fmod_in (a : Int) {m : Int} (h : 0 < m) : 0 ≤ a.fmod m ∧ a.fmod m < m := ⟨Int.fmod_nonneg_of_pos a h, Int.fmod_lt_of_pos a h⟩
/-- the objects of M, but those of S, stand in M' -/
structure Kp (S : List Nat) (M M' : Mem) : Prop where
  len : M.length ≤ M'.length
  at_ : ∀ i o, i ∉ S → M[i]? = some o → M'[i]? = some o
theorem Kp.refl {S : List Nat} {M : Mem} : Kp S M M := ⟨Nat.le_refl _, fun _ _ _ h => h⟩
theorem Kp.trans {S : List Nat} {M M1 M2 : Mem} (a : Kp S M M1) (b : Kp S M1 M2) : Kp S M M2 := ⟨Nat.le_trans a.len b.len, fun i o n h => b.at_ i o n (a.at_ i o n h)⟩
theorem Kp.app {S : List Nat} {M l : Mem} : Kp S M (M ++ l) := ⟨by simp, fun i o _ h => by
  have hl : i < M.length := (List.getElem?_eq_some_iff.mp h).1
  rw [List.getElem?_append_left hl]; exact h⟩
theorem Kp.set {S : List Nat} {M : Mem} {n : Nat} {o : O} (h : n ∈ S) : Kp S M (M.set n o) := ⟨by simp, fun i o' hi h' => by
  have hne : n ≠ i := fun e => hi (e ▸ h)
  rw [List.getElem?_set_ne hne]; exact h'⟩
theorem Kp.setNew {S : List Nat} {M0 M : Mem} {n : Nat} {o : O} (k : Kp S M0 M) (h : M0.length ≤ n) : Kp S M0 (M.set n o) := ⟨by simpa using k.len, fun i o' hi h' => by
  have hl : i < M0.length := (List.getElem?_eq_some_iff.mp h').1
  rw [List.getElem?_set_ne (by omega)]; exact k.at_ i o' hi h'⟩
theorem Kp.weak {S T : List Nat} {M M' : Mem} (k : Kp S M M') (h : ∀ i ∈ S, i ∈ T) : Kp T M M' := ⟨k.len, fun i o n q => k.at_ i o (fun m => n (h i m)) q⟩
theorem mlt {M : Mem} {i : Nat} {o : O} (h : M[i]? = some o) : i < M.length := (List.getElem?_eq_some_iff.mp h).1
theorem msame {M : Mem} {i : Nat} {o o' : O} (h : M[i]? = some o) : (M.set i o')[i]? = some o' := by
  have := mlt h; simp [this]
theorem mnew {M : Mem} {o : O} : (M ++ [o])[M.length]? = some o := by simp
theorem for_inv {guard : Mem → Prop} {T : Tg} {b : MS} {E : Nd} (I : List D → Ev → Mem → Prop) (hg : ∀ l ρ M, I l ρ M → guard M) (hn : ∀ ρ M, I [] ρ M → E.nx ρ M)
    (hs : ∀ d l ρ M (K : Ev → Mem → Prop), I (d :: l) ρ M → (∀ ρ2 M2, I l ρ2 M2 → K ρ2 M2) → T.mg d ρ M fun ρ1 => b ⟨K, E.rt, E.nx, K, E.ex⟩ ρ1 M) :
    ∀ {items : List D} {ρ : Ev} {M : Mem}, I items ρ M → mForL guard T b E items ρ M
  | [], ρ, M, h => ⟨hg _ _ _ h, hn _ _ h⟩
  | d :: l, ρ, M, h => ⟨hg _ _ _ h, hs d l ρ M _ h fun ρ2 M2 q => for_inv I hg hn hs q⟩
theorem lc_inv {guard : Mem → Prop} {i : Nat} {me : ME} {ρ : Ev} {n : Nat} {Q : Mem → Prop} (J : List D → List D → Mem → Prop) (hg : ∀ l acc M, J l acc M → guard M)
    (hs : ∀ d l acc M (K : DK), M[n]? = some (.lst acc) → J (d :: l) acc M → (∀ y M4, M4[n]? = some (.lst acc) → J l (acc ++ [y]) (M4.set n (.lst (acc ++ [y]))) → K y M4) → me (ρ.set i (some d)) M K noX)
    (hq : ∀ acc M, M[n]? = some (.lst acc) → J [] acc M → Q M) :
    ∀ (items acc : List D) (M : Mem), M[n]? = some (.lst acc) → acc.length + items.length < 16000000 → J items acc M → mLcL guard (.nm i) mYes me ρ n Q items M
  | [], acc, M, hn, _, h => ⟨hg _ _ _ h, hq acc M hn h⟩
  | d :: l, acc, M, hn, hl, h => ⟨hg _ _ _ h, hs d l acc M _ hn h fun y M4 h4 j => by
      show (match M4[n]? with
        | some (.lst acc) => acc.length < 16000000 ∧ mLcL guard (.nm i) mYes me ρ n Q l (M4.set n (.lst (acc ++ [y])))
        | _ => False)
      rw [h4]
      refine ⟨by simp at hl; omega, ?_⟩
      exact lc_inv J hg hs hq l (acc ++ [y]) _ (msame h4) (by simp at hl ⊢; omega) j⟩
mutual
theorem see_fine {M : Mem} : ∀ {k : Nat} {d : D}, fine k d = true → See M k d (toPy d)
  | k, .non, _ => by simpa only [toPy] using See.non k
  | k, .bl b, _ => by simpa only [toPy] using See.bl k b
  | k, .int b, _ => by simpa only [toPy] using See.int k b
  | k, .str b, h => by
    simp only [toPy]
    exact .str k (by cases k <;> simpa [fine] using h)
  | k + 1, .tup ds, h => by
    simp only [toPy]
    exact .tup (see_fineL (by simpa [fine] using h))
  | 0, .tup ds, h => by simp [fine] at h
  | k, .ref n, h => by cases k <;> simp [fine] at h
  | k, .ty n, h => by cases k <;> simp [fine] at h
  | k, .g n, h => by cases k <;> simp [fine] at h
  | k, .exn .., h => by cases k <;> simp [fine] at h
  | k, .kl n, h => by cases k <;> simp [fine] at h
  | k, .clo .., h => by cases k <;> simp [fine] at h
theorem see_fineL {M : Mem} : ∀ {k : Nat} {ds : List D}, (∀ d ∈ ds, fine k d = true) → SeeL M k ds (toPyL ds)
  | _, [], _ => by simpa only [toPyL] using SeeL.nil
  | k, d :: ds, h => by
    simp only [toPyL]
    exact .cons (see_fine (h d (by simp))) (see_fineL fun e he => h e (by simp [he]))
end
end MV
namespace MV
open PySem L2
section
variable {a b : MS} {E : Nd} {ρ : Ev} {M : Mem} {Q : DK} {X : XM} {m ma mb mc : ME} {t u : MT} {QB : Bool → Mem → Prop} {mr : MA} {QA' : List D → Mem → Prop} {o : OP} {ou : OU} {oa : OA} {i j : Nat} {d : D}
theorem x_seq (h : a ⟨fun ρ' M' => b E ρ' M', E.rt, E.bk, E.ct, E.ex⟩ ρ M) : mSeq a b E ρ M := h
theorem x_set (h : m ρ M (fun d M1 => E.nx (ρ.set i (some d)) M1) (fun x M1 => E.ex x ρ M1)) : mSet i m E ρ M := h
theorem x_ret (h : m ρ M E.rt (fun x M1 => E.ex x ρ M1)) : mRet m E ρ M := h
theorem x_retN (h : E.rt .non M) : mRetN E ρ M := h
theorem x_next (h : E.nx ρ M) : mNext E ρ M := h
theorem x_drop (h : m ρ M (fun _ M1 => E.nx ρ M1) (fun x M1 => E.ex x ρ M1)) : mDrop m E ρ M := h
theorem x_ifS (h : t ρ M (fun k M1 => if k = true then a E ρ M1 else b E ρ M1) (fun x M1 => E.ex x ρ M1)) : mIfS t a b E ρ M := h
theorem x_asg {T : Tg} (h : m ρ M (fun d M1 => T.mg d ρ M1 fun ρ' => E.nx ρ' M1) (fun x M1 => E.ex x ρ M1)) : mAsg m T E ρ M := h
theorem x_setIx {mv mo mi : ME} (h : mv ρ M (fun v M1 => mo ρ M1 (fun o M2 => mi ρ M2 (fun i M3 => oSetIx o i v M3 fun M4 => E.nx ρ M4) (fun x M3 => E.ex x ρ M3)) (fun x M2 => E.ex x ρ M2)) (fun x M1 => E.ex x ρ M1)) : mSetIx mv mo mi E ρ M := h
theorem x_for {mi : MI} {T : Tg} (h : mi ρ M (fun items guard M1 => mForL guard T a E items ρ M1) (fun x M1 => E.ex x ρ M1)) : mFor mi T a E ρ M := h
theorem x_lc {mi : MI} {T : Tg} {vs : List Nat} (h : mi ρ M (fun items guard M1 => mLcL guard T t m (wipeE ρ vs) M1.length (fun M2 => Q (.ref M1.length) M2) items (M1 ++ [.lst []])) X) : mLc mi T t m vs ρ M Q X := h
theorem x_var (e : ρ[i]? = some (some d)) (h : Q d M) : mVar i ρ M Q X := by unfold mVar; rw [e]; exact h
theorem x_c (h : Q d M) : mC d ρ M Q X := h
theorem x_op (h : ma ρ M (fun x M1 => mb ρ M1 (fun y M2 => o x y M2 Q) X) X) : mOp o ma mb ρ M Q X := h
theorem x_un (h : ma ρ M (fun x M1 => ou x M1 Q) X) : mUn ou ma ρ M Q X := h
theorem x_cb (h : mr ρ M (fun xs M1 => oa xs M1 Q) X) : mCB oa mr ρ M Q X := h
theorem x_nil (h : QA' [] M) : mNil ρ M QA' X := h
theorem x_cons (h : ma ρ M (fun x M1 => mr ρ M1 (fun xs M2 => QA' (x :: xs) M2) X) X) : mCons ma mr ρ M QA' X := h
theorem x_b (h : ma ρ M (fun x M1 => match x with | .bl k => QB k M1 | _ => False) X) : mB ma ρ M QB X := h
theorem x_tru (h : ma ρ M (fun x M1 => tru x M1 QB) X) : mTru ma ρ M QB X := h
theorem x_and (h : t ρ M (fun k M1 => if k = true then u ρ M1 QB X else QB false M1) X) : mAnd t u ρ M QB X := h
theorem x_or (h : t ρ M (fun k M1 => if k = true then QB true M1 else u ρ M1 QB X) X) : mOr t u ρ M QB X := h
theorem x_not (h : t ρ M (fun k M1 => QB (!k) M1) X) : mNot t ρ M QB X := h
theorem x_yes (h : QB true M) : mYes ρ M QB X := h
theorem x_ifE (h : t ρ M (fun k M1 => if k = true then ma ρ M1 Q X else mb ρ M1 Q X) X) : mIf t ma mb ρ M Q X := h
theorem x_call {w : WF} {n k : Nat} {gD : List D → List D → List D} {ms : MA2} (h : ms ρ M (fun ds es M1 => (ds.length = n ∧ es.length = k) ∧ w (gD ds es) M1 Q X) X) : mCall w n k gD ms ρ M Q X := h
theorem x_argsP {k : List D → List D → Mem → Prop} (h : mr ρ M (fun ds M1 => k ds [] M1) X) : mArgsP mr ρ M k X := h
theorem x_args0 {k : List D → List D → Mem → Prop} (h : k [] [] M) : mArgs0 ρ M k X := h
theorem x_len {α β : Type} {ds : List α} {es : List β} {n k : Nat} {P : Prop} (h1 : ds.length = n) (h2 : es.length = k) (h : P) : (ds.length = n ∧ es.length = k) ∧ P := ⟨⟨h1, h2⟩, h⟩
theorem x_bm {T : String} {r : OM} (h : ma ρ M (fun x M1 => isT T x M1 ∧ mr ρ M1 (fun xs M2 => r x xs M2 Q) X) X) : mBM T r ma mr ρ M Q X := h
theorem x_isL {n : Nat} {ds : List D} {P : Prop} (h : M[n]? = some (.lst ds)) (q : P) : isT "list" (.ref n) M ∧ P := ⟨by simp [isT, h], q⟩
def iseqK (k : List D → (Mem → Prop) → Mem → Prop) : DK := fun x M1 => match x with
  | .tup ds => k ds (fun _ => True) M1
  | .str z => k (z.cps.toList.map fun c => .str ⟨#[c]⟩) (fun _ => True) M1
  | .ref n => match M1[n]? with
    | some (.lst ds) => k ds (fun M => M[n]? = some (.lst ds)) M1
    | some (.frz ds) => k ds (fun M => M[n]? = some (.frz ds)) M1
    | some (.dct true kvs) => k (kvs.map fun kv => kD kv.1) (fun M => M[n]? = some (.dct true kvs)) M1
    | _ => False
  | _ => False
theorem x_iseq {me : ME} {k : List D → (Mem → Prop) → Mem → Prop} (h : me ρ M (iseqK k) X) : mISeq me ρ M k X := h
theorem iseqL {k : List D → (Mem → Prop) → Mem → Prop} {n : Nat} {ds : List D} (hd : M[n]? = some (.lst ds)) (h : k ds (fun M => M[n]? = some (.lst ds)) M) : iseqK k (.ref n) M := by
  unfold iseqK; dsimp only; rw [hd]; exact h
theorem x_iseqV {k : List D → (Mem → Prop) → Mem → Prop} {n : Nat} {ds : List D} (e : ρ[i]? = some (some (.ref n))) (hd : M[n]? = some (.lst ds)) (h : k ds (fun M => M[n]? = some (.lst ds)) M) : mISeq (mVar i) ρ M k X := by
  unfold mISeq mVar; rw [e]; dsimp only; rw [hd]; exact h
theorem x_rng {k : List D → (Mem → Prop) → Mem → Prop} (h : mr ρ M (fun ds M1 => match ds with | [.int j] => (-(2 ^ 62) ≤ j ∧ j < 2 ^ 62) ∧ k (rangeD 0 j.toNat) (fun _ => True) M1 | _ => False) X) : mIRng1 mr ρ M k X := h
theorem x_enT {k : List D → (Mem → Prop) → Mem → Prop} {ds : List D} (e : ρ[i]? = some (some (.tup ds))) (h : k (enumD ds) (fun _ => True) M) : mIEnumT (mCons (mVar i) mNil) ρ M k X := by
  simp only [mIEnumT, mCons, mNil, mVar, e]; exact h
theorem x_sl {ml mh : MO} (h : ma ρ M (fun x M1 => ml ρ M1 (fun l M2 => mh ρ M2 (fun h M3 => oSl x l h M3 Q) X) X) X) : mSl ma ml mh ρ M Q X := h
theorem x_noP {k : Option Int → Mem → Prop} (h : k none M) : mNoPart ρ M k X := h
theorem x_part {k : Option Int → Mem → Prop} (h : m ρ M (fun x M1 => match x with | .int i => k (some i) M1 | _ => False) X) : mPart m ρ M k X := h
theorem o_slK {ds : List D} {lo hi : Option Int} (h : Q (.ref M.length) (M ++ [.lst (cutD ds lo hi)])) : oSl (.kl ds) lo hi M Q := h
theorem o_slL {ds : List D} {lo hi : Option Int} {p : Nat} (el : M[p]? = some (.lst ds)) (h : Q (.ref M.length) (M ++ [.lst (cutD ds lo hi)])) : oSl (.ref p) lo hi M Q := by unfold oSl; dsimp only; rw [el]; exact h
theorem o_slT {ds : List D} {lo hi : Option Int} (h : Q (.tup (cutD ds lo hi)) M) : oSl (.tup ds) lo hi M Q := h
variable {x y : Int} {p : Nat} {ds es : List D} {s z : Str} {v : D}
theorem o_tup (hl : ds.length ≤ 1000) (h : Q (.tup ds) M) : oTup ds M Q := ⟨hl, h⟩
theorem o_lst (hl : ds.length ≤ 1000) (h : Q (.ref M.length) (M ++ [.lst ds])) : oLst ds M Q := ⟨hl, h⟩
theorem o_add (h : Q (.int (x + y)) M) : oAdd (.int x) (.int y) M Q := h
theorem o_sub (h : Q (.int (x - y)) M) : oSub (.int x) (.int y) M Q := h
theorem o_mul (hk : okMul x y) (h : Q (.int (x * y)) M) : oMul (.int x) (.int y) M Q := ⟨hk, h⟩
theorem o_div (hk : okDiv y) (h : Q (.int (x.fdiv y)) M) : oDiv (.int x) (.int y) M Q := ⟨hk, h⟩
theorem o_mod (hk : y ≠ 0) (h : Q (.int (x.fmod y)) M) : oMod (.int x) (.int y) M Q := ⟨hk, h⟩
theorem o_pow (hk : CPow x y) (h : Q (.int (x ^ y.toNat)) M) : oPow (.int x) (.int y) M Q := ⟨hk, h⟩
theorem o_neg (h : Q (.int (-x)) M) : oNeg (.int x) M Q := h
theorem o_lt (h : Q (.bl (decide (x < y))) M) : oLt (.int x) (.int y) M Q := h
theorem o_le (h : Q (.bl (decide (x ≤ y))) M) : oLe (.int x) (.int y) M Q := h
theorem o_gt (h : Q (.bl (decide (y < x))) M) : oGt (.int x) (.int y) M Q := h
theorem o_ge (h : Q (.bl (decide (y ≤ x))) M) : oGe (.int x) (.int y) M Q := h
theorem o_eqI (h : Q (.bl (decide (x = y))) M) : oEq (.int x) (.int y) M Q := h
theorem o_neI (h : Q (.bl (!decide (x = y))) M) : oNe (.int x) (.int y) M Q := h
theorem o_min (h : Q (.int (if y < x then y else x)) M) : oMin2 [.int x, .int y] M Q := h
theorem o_max (h : Q (.int (if y > x then y else x)) M) : oMax2 [.int x, .int y] M Q := h
theorem o_intB {k : Bool} (h : Q (.int (if k then 1 else 0)) M) : oInt1 [.bl k] M Q := h
theorem o_ixT (e : atI ds x = some v) (h : Q v M) : oIx (.tup ds) (.int x) M Q := by unfold oIx; dsimp only; rw [e]; exact h
theorem o_ixL (el : M[p]? = some (.lst ds)) (e : atI ds x = some v) (h : Q v M) : oIx (.ref p) (.int x) M Q := by unfold oIx; dsimp only; rw [el]; dsimp only; rw [e]; exact h
theorem o_lenT (h : Q (.int ds.length) M) : oLen [.tup ds] M Q := h
theorem o_lenL (el : M[p]? = some (.lst ds)) (h : Q (.int ds.length) M) : oLen [.ref p] M Q := by unfold oLen; dsimp only; rw [el]; exact h
theorem o_listL (el : M[p]? = some (.lst ds)) (h : Q (.ref M.length) (M ++ [.lst ds])) : oList1 [.ref p] M Q := by unfold oList1; dsimp only; rw [el]; exact h
theorem o_tupL (el : M[p]? = some (.lst ds)) (h : Q (.tup ds) M) : oTuple1 [.ref p] M Q := by unfold oTuple1; dsimp only; rw [el]; exact h
theorem o_setL {N : Mem → Prop} {j : Nat} (el : M[p]? = some (.lst ds)) (e : ixN ds.length x = some j) (h : N (M.set p (.lst (ds.set j v)))) : oSetIx (.ref p) (.int x) v M N := by unfold oSetIx; dsimp only; rw [el]; dsimp only; rw [e]; exact h
theorem o_app (el : M[p]? = some (.lst ds)) (hl : ds.length < 16000000) (h : Q .non (M.set p (.lst (ds ++ [v])))) : omAppend (.ref p) [v] M Q := by unfold omAppend; dsimp only; rw [el]; exact ⟨hl, h⟩
theorem o_isL {T : String} (el : M[p]? = some (.lst ds)) (hT : (["int", "str", "tuple", "list", "bool", "dict"].contains T = true)) (h : Q (.bl (subTy "list" T)) M) : oIsi [.ref p, .ty T] M Q := by simp only [oIsi, tyD, el]; exact ⟨hT, h⟩
theorem o_isT {T : String} (hT : (["int", "str", "tuple", "list", "bool", "dict"].contains T = true)) (h : Q (.bl (subTy "tuple" T)) M) : oIsi [.tup ds, .ty T] M Q := ⟨hT, h⟩
theorem o_isLL (el : M[p]? = some (.lst ds)) (h : Q (.bl true) M) : oIsi [.ref p, .ty "list"] M Q := o_isL el (by decide) h
theorem o_isTT (h : Q (.bl true) M) : oIsi [.tup ds, .ty "tuple"] M Q := o_isT (by decide) h
theorem o_truB {k : Bool} (h : QB k M) : tru (.bl k) M QB := h
theorem if_d {p : Prop} [Decidable p] {A B : Prop} (h1 : p → A) (h2 : ¬ p → B) : if decide p = true then A else B := by
  by_cases h : p
  · rw [if_pos (by simpa using h)]; exact h1 h
  · rw [if_neg (by simpa using h)]; exact h2 h
theorem if_n {p : Prop} [Decidable p] {A B : Prop} (h1 : ¬ p → A) (h2 : p → B) : if (!decide p) = true then A else B := by
  by_cases h : p
  · rw [if_neg (by simpa using h)]; exact h2 h
  · rw [if_pos (by simpa using h)]; exact h1 h
theorem if_nt {A B : Prop} (h : B) : if (!true) = true then A else B := by rw [if_neg (by simp)]; exact h
theorem if_nf {A B : Prop} (h : A) : if (!false) = true then A else B := by rw [if_pos (by simp)]; exact h
theorem if_t {A B : Prop} (h : A) : if true = true then A else B := by rw [if_pos rfl]; exact h
theorem if_f {A B : Prop} (h : B) : if false = true then A else B := by rw [if_neg (by simp)]; exact h
theorem x_nm {N : Ev → Prop} {i : Nat} {d : D} {ρ : Ev} {M : Mem} (h : N (ρ.set i (some d))) : (Tg.nm i).mg d ρ M N := h
theorem x_tp {N : Ev → Prop} {n : Nat} {l : Tgs} {ds : List D} {ρ : Ev} {M : Mem} (hl : ds.length = n) (h : l.mg ds ρ M N) : (Tg.tp n l).mg (.tup ds) ρ M N := ⟨hl, h⟩
theorem x_tc {N : Ev → Prop} {t : Tg} {l : Tgs} {d : D} {r : List D} {ρ : Ev} {M : Mem} (h : t.mg d ρ M fun ρ' => l.mg r ρ' M N) : (Tgs.cons t l).mg (d :: r) ρ M N := h
theorem x_tn {N : Ev → Prop} {ρ : Ev} {M : Mem} (h : N ρ) : Tgs.nil.mg [] ρ M N := h
theorem for_ix {guard : Mem → Prop} {T : Tg} {b : MS} {E : Nd} {items : List D} (I : Nat → Ev → Mem → Prop) (hg : ∀ k ρ M, I k ρ M → guard M) (hn : ∀ ρ M, I items.length ρ M → E.nx ρ M)
    (hs : ∀ k d ρ M (K : Ev → Mem → Prop), items[k]? = some d → I k ρ M → (∀ ρ2 M2, I (k + 1) ρ2 M2 → K ρ2 M2) → T.mg d ρ M fun ρ1 => b ⟨K, E.rt, E.nx, K, E.ex⟩ ρ1 M)
    {ρ : Ev} {M : Mem} (h0 : I 0 ρ M) : mForL guard T b E items ρ M := by
  refine for_inv (fun l ρ M => ∃ k, l = items.drop k ∧ k ≤ items.length ∧ I k ρ M) ?_ ?_ ?_ ⟨0, rfl, Nat.zero_le _, h0⟩
  · rintro l ρ M ⟨k, _, _, h⟩; exact hg k ρ M h
  · rintro ρ M ⟨k, e, hk, h⟩
    have : k = items.length := by
      have := congrArg List.length e
      simp at this; omega
    subst this; exact hn ρ M h
  · rintro d l ρ M K ⟨k, e, hk, h⟩ q
    have hlt : k < items.length := by
      have := congrArg List.length e
      simp at this; omega
    rw [List.drop_eq_getElem_cons hlt] at e
    injection e with e1 e2
    exact hs k d ρ M K (by rw [List.getElem?_eq_getElem hlt, e1]) h fun ρ2 M2 i => q ρ2 M2 ⟨k + 1, e2, hlt, i⟩
theorem lc_ix {guard : Mem → Prop} {i : Nat} {me : ME} {ρ : Ev} {n : Nat} {Q : Mem → Prop} {items : List D} {M : Mem} (J : Nat → List D → Mem → Prop) (hg : ∀ k acc M, J k acc M → guard M)
    (hs : ∀ k d acc M (K : DK), items[k]? = some d → M[n]? = some (.lst acc) → J k acc M → (∀ y M4, M4[n]? = some (.lst acc) → J (k + 1) (acc ++ [y]) (M4.set n (.lst (acc ++ [y]))) → K y M4) → me (ρ.set i (some d)) M K noX)
    (hq : ∀ acc M, M[n]? = some (.lst acc) → J items.length acc M → Q M) (hl : items.length < 16000000) (hn : M[n]? = some (.lst [])) (h0 : J 0 [] M) : mLcL guard (.nm i) mYes me ρ n Q items M := by
  refine lc_inv (fun l acc M => ∃ k, l = items.drop k ∧ k ≤ items.length ∧ J k acc M) ?_ ?_ ?_ items [] M hn (by simpa using hl) ⟨0, rfl, Nat.zero_le _, h0⟩
  · rintro l acc M ⟨k, _, _, h⟩; exact hg k acc M h
  · rintro d l acc M K hM ⟨k, e, hk, h⟩ q
    have hlt : k < items.length := by
      have := congrArg List.length e
      simp at this; omega
    rw [List.drop_eq_getElem_cons hlt] at e
    injection e with e1 e2
    exact hs k d acc M K (by rw [List.getElem?_eq_getElem hlt, e1]) hM h fun y M4 h4 j => q y M4 h4 ⟨k + 1, e2, hlt, j⟩
  · rintro acc M hM ⟨k, e, hk, h⟩
    have : k = items.length := by
      have := congrArg List.length e
      simp at this; omega
    subst this; exact hq acc M hM h
theorem rng_len {n : Nat} : (rangeD 0 n).length = n := by simp [rangeD]
theorem rng_at {n k : Nat} {d : D} (h : (rangeD 0 n)[k]? = some d) : d = .int k ∧ k < n := by
  simp [rangeD, List.getElem?_map, List.getElem?_range] at h
  by_cases hk : k < n
  · simp [hk] at h; exact ⟨h.symm, hk⟩
  · simp [hk] at h
theorem x_join {a b : MS} {E : Nd} {ρ : Ev} {M : Mem} (P : Ev → Mem → Prop) (h : ∀ K, (∀ ρ' M', P ρ' M' → K ρ' M') → a ⟨K, E.rt, E.bk, E.ct, E.ex⟩ ρ M) (h2 : ∀ ρ' M', P ρ' M' → b E ρ' M') : mSeq a b E ρ M := h _ h2
end
end MV
namespace MV
open PySem L2
/-- the fields of a net -/
def NF (h s t p r : D) : List (Str × D) := [("hours", h), ("s_box", s), ("t_box", t), ("places", p), ("roads", r)]
def noFld (f : Str) : Bool := !(["hours", "s_box", "t_box", "places", "roads"] : List Str).contains f
section
variable {h s t p r y : D}
theorem nf_hours : (NF h s t p r).lookup ("hours" : Str) = some h := by rfl
theorem nf_s : (NF h s t p r).lookup ("s_box" : Str) = some s := by rfl
theorem nf_t : (NF h s t p r).lookup ("t_box" : Str) = some t := by rfl
theorem nf_p : (NF h s t p r).lookup ("places" : Str) = some p := by rfl
theorem nf_r : (NF h s t p r).lookup ("roads" : Str) = some r := by rfl
theorem nf_no {f : Str} (hf : noFld f = true) : (NF h s t p r).lookup f = none := by
  simp only [noFld, List.contains_cons, List.contains_nil, Bool.not_eq_true', Bool.or_eq_false_iff] at hf
  obtain ⟨h1, h2, h3, h4, h5, -⟩ := hf
  simp only [NF, List.lookup, h1, h2, h3, h4, h5]
end
section
variable {a b : MS} {E : Nd} {ρ : Ev} {M : Mem} {Q : DK} {X : XM} {m ma mb mc : ME} {t u : MT} {QB : Bool → Mem → Prop} {mr : MA} {QA' : List D → Mem → Prop} {i j n : Nat} {d : D} {cs : List Str} {f : Str} {fs : List (Str × D)} {c : Str}
theorem x_fldV (e : ρ[i]? = some (some (.ref n))) (h : M[n]? = some (.ins c fs)) (hc : c ∈ cs) (hf : fs.lookup f = some d) (q : Q d M) : mFld cs (mVar i) f ρ M Q X := by
  unfold mFld mVar; rw [e]; dsimp only; rw [h]; dsimp only; rw [hf]; exact ⟨hc, q⟩
theorem x_methV {c mn : Str} {w : WF} {n' k : Nat} {gD : List D → List D → List D} {ms : MA2} (e : ρ[i]? = some (some (.ref n))) (h : M[n]? = some (.ins c fs)) (hm : fs.lookup mn = none) (q : ms ρ M (fun ds es M2 => ((D.ref n :: ds).length = n' ∧ es.length = k) ∧ w (gD (.ref n :: ds) es) M2 Q X) X) : mMeth c mn w n' k gD (mVar i) ms ρ M Q X := by
  unfold mMeth mVar; rw [e]; dsimp only; rw [h]; exact ⟨⟨rfl, hm⟩, q⟩
theorem x_make {c : Str} {w : WF} {n' k : Nat} {gD : List D → List D → List D} {ms : MA2} (q : ms ρ M (fun ds es M1 => (ds.length + 1 = n' ∧ es.length = k) ∧ w (gD (.ref M1.length :: ds) es) (M1 ++ [.ins c []]) (fun v M2 => match v with | .non => Q (.ref M1.length) M2 | _ => False) X) X) : mMake c w n' k gD ms ρ M Q X := q
theorem x_argsK {k : List D → List D → Mem → Prop} (h : mr ρ M (fun es M1 => k [] es M1) X) : mArgsK mr ρ M k X := h
theorem x_argsPK {mk : MA} {k : List D → List D → Mem → Prop} (h : mr ρ M (fun ds M1 => mk ρ M1 (fun es M2 => k ds es M2) X) X) : mArgsPK mr mk ρ M k X := h
theorem x_raise {x : Str} {n : Nat} {sp : List (Str × Src)} (h : mr ρ M (fun ds M1 => ds.length = n ∧ E.ex ⟨x, sp.map (·.1), sp.map fun p => p.2.d ds⟩ ρ M1) (fun y M1 => E.ex y ρ M1)) : mRaise x n sp mr E ρ M := h
theorem x_andV (h : ma ρ M (fun x M1 => match x with | .bl k => if k = true then mb ρ M1 Q X else Q (.bl false) M1 | _ => False) X) : mAndV ma mb ρ M Q X := h
theorem x_orV (h : ma ρ M (fun x M1 => match x with | .bl k => if k = true then Q (.bl true) M1 else mb ρ M1 Q X | _ => False) X) : mOrV ma mb ρ M Q X := h
theorem x_par {k l : Nat} (h : mr ρ M (fun ds M1 => match ds with | [d, e] => E.nx ((ρ.set k (some d)).set l (some e)) M1 | _ => False) (fun x M1 => E.ex x ρ M1)) : mPar k l mr E ρ M := h
theorem x_try {sub : Str → Str → Option Bool} {cl : List MCl} (h : a ⟨E.nx, E.rt, E.bk, E.ct, mCatch sub E cl⟩ ρ M) : mTry sub a cl E ρ M := h
theorem x_rng2 {k : List D → (Mem → Prop) → Mem → Prop} (h : mr ρ M (fun ds M1 => match ds with | [.int i, .int j] => (-(2 ^ 62) ≤ i ∧ i < 2 ^ 62 ∧ -(2 ^ 62) ≤ j ∧ j < 2 ^ 62) ∧ k (rangeD i (j - i).toNat) (fun _ => True) M1 | _ => False) X) : mIRng2 mr ρ M k X := h
theorem x_dict0 (h : Q (.ref M.length) (M ++ [.dct false []])) : mDict0 ρ M Q X := h
variable {x y : D} {p : Nat} {kvs : List (Key × D)} {lk : Bool} {z w : Str} {k : Key}
theorem o_eqS (h : Q (.bl (decide (z = w))) M) : oEq (.str z) (.str w) M Q := h
theorem o_neS (h : Q (.bl (!decide (z = w))) M) : oNe (.str z) (.str w) M Q := h
theorem o_isN (h : Q (.bl (match x with | .non => true | _ => false)) M) : oIs x .non M Q := h
theorem o_isnN (h : Q (.bl (match x with | .non => false | _ => true)) M) : oIsNot x .non M Q := h
theorem o_inS {c : Nat} (h : Q (.bl (decide (c ∈ z.cps.toList))) M) : oIn (.str ⟨#[c]⟩) (.str z) M Q := h
theorem o_ninS {c : Nat} (h : Q (.bl (!decide (c ∈ z.cps.toList))) M) : oNotIn (.str ⟨#[c]⟩) (.str z) M Q := h
theorem o_inD (e : M[p]? = some (.dct lk kvs)) (hk : keyOf x = some k) (h : Q (.bl (dget kvs k).isSome) M) : oIn x (.ref p) M Q := by
  unfold oIn oInB; dsimp only; rw [e]; dsimp only; rw [hk]; exact h
theorem o_ninD (e : M[p]? = some (.dct lk kvs)) (hk : keyOf x = some k) (h : Q (.bl (!(dget kvs k).isSome)) M) : oNotIn x (.ref p) M Q := by
  unfold oNotIn oInB; dsimp only; rw [e]; dsimp only; rw [hk]; exact h
theorem o_ixD (e : M[p]? = some (.dct lk kvs)) (hk : keyOf x = some k) (hd : dget kvs k = some d) (h : Q d M) : oIx (.ref p) x M Q := by
  unfold oIx; dsimp only; rw [e]; dsimp only; rw [hk]; dsimp only; rw [hd]; exact h
theorem o_lenD (e : M[p]? = some (.dct lk kvs)) (h : Q (.int kvs.length) M) : oLen [.ref p] M Q := by
  unfold oLen; dsimp only; rw [e]; exact h
theorem o_dictD (e : M[p]? = some (.dct lk kvs)) (h : Q (.ref M.length) (M ++ [.dct false kvs])) : oDict1 [.ref p] M Q := by
  unfold oDict1; dsimp only; rw [e]; exact h
theorem o_listD (e : M[p]? = some (.dct false kvs)) (h : Q (.ref M.length) (M ++ [.lst (kvs.map fun kv => kD kv.1)])) : oList1 [.ref p] M Q := by
  unfold oList1; dsimp only; rw [e]; exact h
theorem o_setD {N : Mem → Prop} (e : M[p]? = some (.dct false kvs)) (hk : keyOf x = some k) (hl : kvs.length < 16000000) (h : N (M.set p (.dct false (dput kvs k y)))) : oSetIx (.ref p) x y M N := by
  unfold oSetIx; dsimp only; rw [e]; dsimp only; rw [hk]; exact ⟨hl, h⟩
theorem o_strS (h : Q (.str z) M) : oStr1 [.str z] M Q := h
theorem o_abs {n : Int} (h : Q (.int (if n < 0 then -n else n)) M) : oAbs [.int n] M Q := h
theorem x_iseqTV {k : List D → (Mem → Prop) → Mem → Prop} {ds : List D} (e : ρ[i]? = some (some (.tup ds))) (h : k ds (fun _ => True) M) : mISeq (mVar i) ρ M k X := by
  unfold mISeq mVar; rw [e]; exact h
theorem x_iseqSV {k : List D → (Mem → Prop) → Mem → Prop} (e : ρ[i]? = some (some (.str z))) (h : k (z.cps.toList.map fun c => .str ⟨#[c]⟩) (fun _ => True) M) : mISeq (mVar i) ρ M k X := by
  unfold mISeq mVar; rw [e]; exact h
theorem x_isS {P : Prop} (q : P) : isT "str" (.str z) M ∧ P := ⟨rfl, q⟩
theorem if_b {k : Bool} {A B : Prop} (h1 : k = true → A) (h2 : k = false → B) : if k = true then A else B := by
  cases k
  · rw [if_neg (by decide)]; exact h2 rfl
  · rw [if_pos rfl]; exact h1 rfl
end
section
variable {κ : Type} [DecidableEq κ] {kvs : List (κ × D)} {k k' : κ} {v : D}
theorem dput_new (h : dget kvs k = none) : dput kvs k v = kvs ++ [(k, v)] := by
  unfold dput
  rw [if_neg]
  intro hc
  obtain ⟨x, hx, he⟩ := List.any_eq_true.mp hc
  unfold dget at h
  rw [Option.map_eq_none_iff, List.find?_eq_none] at h
  exact h x hx he
end
end MV
namespace MV
def pD (x : Int × Int) : D := .tup [.int x.1, .int x.2]
def omD : Option (Int × Int) → D
  | none => .non
  | some m => pD m
abbrev Rung := Option (Int × Int) × (Int × Int)
def rungD (r : Rung) : D := .tup [omD r.1, pD r.2]
section
variable {M : Mem} {Q : DK} {m : Int × Int} {r : Rung}
theorem o_pD0 (h : Q (.int m.1) M) : oIx (pD m) (.int 0) M Q := h
theorem o_pD1 (h : Q (.int m.2) M) : oIx (pD m) (.int 1) M Q := h
theorem o_rg0 (h : Q (omD r.1) M) : oIx (rungD r) (.int 0) M Q := h
theorem o_rg1 (h : Q (pD r.2) M) : oIx (rungD r) (.int 1) M Q := h
theorem x_tpR {N : Ev → Prop} {l : Tgs} {ρ : Ev} (h : l.mg [omD r.1, pD r.2] ρ M N) : (Tg.tp 2 l).mg (rungD r) ρ M N := ⟨rfl, h⟩
end
end MV
open PySem L2 MV
/-- the mirrors' steps -/
local macro_rules | `(tactic| walk_at "ex") => `(tactic| first
  | ((with_reducible refine x_var (d := ?vv) ?hh ?qq); (case hh => exact rfl))
  | ((with_reducible refine x_len ?l1 ?l2 ?qq); (case l1 => exact rfl); (case l2 => exact rfl))
  | ((with_reducible refine o_tup ?l1 ?qq); (case l1 => exact Nat.le_of_ble_eq_true rfl))
  | ((with_reducible refine o_lst ?l1 ?qq); (case l1 => exact Nat.le_of_ble_eq_true rfl))
  | ((with_reducible refine o_ixT (v := ?ww) ?l1 ?qq); (case l1 => exact rfl))
  | ((with_reducible refine x_tp ?l1 ?qq); (case l1 => exact rfl))
  | with_reducible first
  | refine x_lc ?_
  | refine x_c ?_ | refine x_op ?_ | refine x_un ?_ | refine x_cb ?_ | refine x_nil ?_ | refine x_cons ?_ | refine x_b ?_ | refine x_tru ?_ | refine x_and ?_ | refine x_or ?_ | refine x_not ?_ | refine x_yes ?_ | refine x_nm ?_ | refine x_tc ?_ | refine x_tn ?_ | refine x_ifE ?_ | refine x_andV ?_ | refine x_orV ?_ | refine x_argsK ?_ | refine x_argsPK ?_ | refine x_rng2 ?_ | refine x_dict0 ?_ | refine x_make ?_ | refine o_eqS ?_ | refine o_neS ?_ | refine o_isN ?_ | refine o_isnN ?_ | refine o_strS ?_ | refine o_abs ?_ | refine o_inS ?_ | refine o_ninS ?_ | refine o_pD0 ?_ | refine o_pD1 ?_ | refine o_rg0 ?_ | refine o_rg1 ?_ | refine x_tpR ?_ | refine x_isS ?_
  | refine x_call ?_ | refine x_argsP ?_ | refine x_args0 ?_ | refine x_bm ?_ | refine x_rng ?_ | refine x_sl ?_ | refine x_noP ?_ | refine x_part ?_
  | refine o_add ?_ | refine o_sub ?_ | refine o_neg ?_ | refine o_lt ?_ | refine o_le ?_ | refine o_gt ?_ | refine o_ge ?_ | refine o_eqI ?_ | refine o_neI ?_ | refine o_min ?_ | refine o_max ?_ | refine o_intB ?_ | refine o_lenT ?_ | refine o_truB ?_ | refine o_slK ?_ | refine o_slT ?_ | refine o_isTT ?_ | refine if_t ?_ | refine if_f ?_ | refine if_nt ?_ | refine if_nf ?_)
local macro_rules | `(tactic| walk_at "sx") => `(tactic| with_reducible first
  | refine x_seq ?_ | refine x_set ?_ | refine x_ret ?_ | refine x_retN ?_ | refine x_next ?_ | refine x_drop ?_ | refine x_ifS ?_ | refine x_asg ?_ | refine x_setIx ?_ | refine x_for ?_ | refine x_par ?_ | refine x_raise ?_ | refine x_try ?_)
local macro_rules | `(tactic| walk_at "mx") => `(tactic| first | walk_at "sx" | walk_at "ex")
local macro_rules | `(tactic| walk_at "fx") => `(tactic| first
  | ((with_reducible refine o_ixL (ds := ?ll) (v := ?ww) ?l0 ?l1 ?qq); (case l0 => assumption); (case l1 => exact rfl))
  | ((with_reducible refine o_lenL (ds := ?ll) ?l0 ?qq); (case l0 => assumption))
  | ((with_reducible refine x_iseqV (n := ?nn) (ds := ?ll) ?l0 ?l1 ?qq); (case l0 => exact rfl); (case l1 => assumption))
  | ((with_reducible refine x_enT (ds := ?ll) ?l0 ?qq); (case l0 => exact rfl))
  | ((with_reducible refine x_isL (ds := ?ll) ?l0 ?qq); (case l0 => assumption))
  | ((with_reducible refine o_isLL (ds := ?ll) ?l0 ?qq); (case l0 => assumption))
  | ((with_reducible refine o_listL (ds := ?ll) ?l0 ?qq); (case l0 => assumption))
  | ((with_reducible refine o_tupL (ds := ?ll) ?l0 ?qq); (case l0 => assumption))
  | ((with_reducible refine x_fldV (n := ?nn) (fs := ?ff) (d := ?dd) (c := ?cc) ?l0 ?l1 ?l2 ?l3 ?qq); (case l0 => exact rfl); (case l1 => assumption); (case l2 => decide +kernel); (case l3 => first | exact nf_hours | exact nf_s | exact nf_t | exact nf_p | exact nf_r))
  | ((with_reducible refine x_methV (n := ?nn) (fs := ?ff) ?l0 ?l1 ?l2 ?qq); (case l0 => exact rfl); (case l1 => assumption); (case l2 => exact nf_no (by decide +kernel)))
  | ((with_reducible refine o_lenD (lk := ?lk) (kvs := ?ll) ?l0 ?qq); (case l0 => assumption))
  | ((with_reducible refine o_dictD (lk := ?lk) (kvs := ?ll) ?l0 ?qq); (case l0 => assumption))
  | ((with_reducible refine o_listD (kvs := ?ll) ?l0 ?qq); (case l0 => assumption))
  | ((with_reducible refine o_inD (lk := ?lk) (kvs := ?ll) (k := ?kk) ?l0 ?l1 ?qq); (case l0 => assumption); (case l1 => exact rfl))
  | ((with_reducible refine o_ninD (lk := ?lk) (kvs := ?ll) (k := ?kk) ?l0 ?l1 ?qq); (case l0 => assumption); (case l1 => exact rfl))
  | ((with_reducible refine x_iseqTV (ds := ?ll) ?l0 ?qq); (case l0 => exact rfl))
  | ((with_reducible refine x_iseqSV (z := ?zz) ?l0 ?qq); (case l0 => exact rfl)))
local macro_rules | `(tactic| walk_at "m1") => `(tactic| first | walk_at "mx" | walk_at "fx")
local macro_rules | `(tactic| walk_at "ml") => `(tactic| repeat walk_at "m1")
local macro_rules | `(tactic| walk_at "q1") => `(tactic| first | walk_at "ex" | walk_at "fx")
local macro_rules | `(tactic| walk_at "mq") => `(tactic| repeat walk_at "q1")
namespace MV
def Feed (M : Mem) (p q : Nat) : Prop := ∃ (cs : List Int) (i r s : Int), M[p]? = some (.lst [.ref q, .int i, .int r, .int s]) ∧ M[q]? = some (.lst (cs.map .int)) ∧ p ≠ q ∧ 0 ≤ i ∧ 0 ≤ s ∧ s < 2147483647
theorem Feed.kp {M M' : Mem} {p q : Nat} {S : List Nat} (h : Feed M p q) (k : Kp S M M') (n1 : p ∉ S) (n2 : q ∉ S) : Feed M' p q := by
  obtain ⟨cs, i, r, s, h1, h2, h3⟩ := h
  exact ⟨cs, i, r, s, k.at_ _ _ n1 h1, k.at_ _ _ n2 h2, h3⟩
theorem Feed.lt {M : Mem} {p q : Nat} (h : Feed M p q) : p < M.length ∧ q < M.length := by
  obtain ⟨cs, i, r, s, h1, h2, h3⟩ := h
  exact ⟨mlt h1, mlt h2⟩
theorem Feed.app {M l : Mem} {p q : Nat} (h : Feed M p q) : Feed (M ++ l) p q := h.kp (S := []) Kp.app (by simp) (by simp)
end MV
namespace Prf
theorem ldraw {M : Mem} {p q : Nat} {m : Int} {Q : DK} {X : XM} (F : Feed M p q) (hm : 0 < m) (hb : m < 2 ^ 60) (k : ∀ d M', 0 ≤ d → d < m → Kp [p] M M' → Feed M' p q → Q (.int d) M') : w_Ldraw [.ref p, .int m] M Q X := by
  obtain ⟨cs, i, r, s, h1, h2, hne, hi, hs0, hs1⟩ := F
  have hm0 : m ≠ 0 := by omega
  have hd : okDiv m := div_ok hm0 (by omega)
  show m_Ldraw _ [some (.ref p), some (.int m), none, none, none] M
  unfold m_Ldraw
  walk_at "ml"
  refine if_d (fun hr => ?_) (fun hr => ?_)
  · walk_at "ml"
    refine o_mod hm0 ?_
    walk_at "ml"
    refine o_div hd ?_
    walk_at "ml"
    refine o_setL h1 (j := 2) rfl ?_
    walk_at "ml"
    obtain ⟨a1, a2⟩ := fmod_in r hm
    exact k _ _ a1 a2 (.set (by simp)) ⟨cs, i, _, s, msame h1, by rw [List.getElem?_set_ne hne]; exact h2, hne, hi, hs0, hs1⟩
  · iterate 4 walk_at "mx"
    with_reducible refine x_join (fun ρ' M' => ∃ c i' : Int, ρ' = [some (.ref p), some (.int m), none, some (.int c), none] ∧ 0 ≤ i' ∧ M'[p]? = some (.lst [.ref q, .int i', .int r, .int s]) ∧ M'[q]? = some (.lst (cs.map .int)) ∧ Kp [p] M M') ?_ ?_
    · intro K hK
      walk_at "ml"
      refine if_d (fun hc => ?_) (fun hc => ?_)
      · walk_at "ml"
        have hi2 : i.toNat < cs.length := by simp at hc; omega
        refine o_ixL h2 (v := .int cs[i.toNat]) (by rw [atI_i hi]; simp [hi2]) ?_
        walk_at "ml"
        refine o_setL h1 (j := 1) rfl ?_
        exact hK _ _ ⟨_, i + 1, rfl, by omega, msame h1, by rw [List.getElem?_set_ne hne]; exact h2, .set (by simp)⟩
      · walk_at "ml"
        exact hK _ _ ⟨0, i, rfl, hi, h1, h2, .refl⟩
    · rintro _ M1 ⟨c, i', rfl, hi', g1, g2, kp⟩
      walk_at "ml"
      refine if_d (fun hc => ?_) (fun hc => ?_)
      · walk_at "ml"
        refine o_div hd ?_
        walk_at "ml"
        refine o_setL g1 (j := 2) rfl ?_
        walk_at "ml"
        refine o_mod hm0 ?_
        obtain ⟨a1, a2⟩ := fmod_in c hm
        exact k _ _ a1 a2 (kp.trans (.set (by simp))) ⟨cs, i', _, s, msame g1, by rw [List.getElem?_set_ne hne]; exact g2, hne, hi', hs0, hs1⟩
      · walk_at "ml"
        refine o_mul (mul_ok (by decide)) ?_
        walk_at "ml"
        refine o_mod (by decide) ?_
        walk_at "ml"
        refine o_mod (by decide) ?_
        walk_at "ml"
        refine o_setL g1 (j := 3) rfl ?_
        obtain ⟨b1, b2⟩ := fmod_in (s * 48271 + c.fmod 1000003 + 11) (m := 2147483647) (by decide)
        generalize (s * 48271 + c.fmod 1000003 + 11).fmod 2147483647 = s' at b1 b2 ⊢
        have g3 : (M1.set p (.lst [.ref q, .int i', .int r, .int s']))[p]? = some (.lst [.ref q, .int i', .int r, .int s']) := msame g1
        have g4 : (M1.set p (.lst [.ref q, .int i', .int r, .int s']))[q]? = some (.lst (cs.map .int)) := by rw [List.getElem?_set_ne hne]; exact g2
        have kp2 : Kp [p] M (M1.set p (.lst [.ref q, .int i', .int r, .int s'])) := kp.trans (.set (by simp))
        show mSeq _ _ _ _ (M1.set p (.lst [.ref q, .int i', .int r, .int s']))
        generalize M1.set p (.lst [.ref q, .int i', .int r, .int s']) = M2 at g3 g4 kp2 ⊢
        walk_at "ml"
        refine o_pow ⟨by decide, by decide, by omega⟩ ?_
        walk_at "ml"
        refine o_ixL (ds := [.int s', .int (s' ^ 4)]) (v := .int (if 100000 < m then s' ^ 4 else s')) mnew ?_ ?_
        · by_cases hm5 : 100000 < m <;> simp [hm5, atI_0, atI_1]
        walk_at "ml"
        refine o_div (div_ok (by decide) (by decide)) ?_
        walk_at "ml"
        refine o_mod hm0 ?_
        have fin : ∀ a : Int, Q (.int (a.fmod m)) (M2 ++ [.lst [.int s', .int (s' ^ 4)]]) := fun a => by
          obtain ⟨a1, a2⟩ := fmod_in a hm
          exact k _ _ a1 a2 (kp2.trans .app) (Feed.app ⟨cs, i', r, s', g3, g4, hne, hi', b1, b2⟩)
        exact fin _
theorem lfeed {M : Mem} {ns : List Int} {Q : DK} {X : XM} (k : ∀ M', Kp [] M M' → Feed M' (M.length + 2) (M.length + 1) → Q (.ref (M.length + 2)) M') : w_Lfeed [.kl (ns.map .int)] M Q X := by
  show m_Lfeed _ [some (.kl (ns.map .int))] M
  unfold m_Lfeed
  walk_at "ml"
  show oList1 [.ref M.length] (M ++ [.lst (cutD (ns.map D.int) none (some 63))]) _
  have e : ∃ cs : List Int, cutD (ns.map D.int) none (some 63) = cs.map .int := ⟨_, by unfold cutD; rw [← List.map_drop, ← List.map_take]⟩
  obtain ⟨cs, e⟩ := e
  rw [e]
  refine o_listL mnew ?_
  walk_at "ml"
  have e2 : (M ++ [O.lst (cs.map D.int)]).length = M.length + 1 := by simp
  have e3 : (M ++ [O.lst (cs.map D.int)] ++ [O.lst (cs.map D.int)]).length = M.length + 2 := by simp
  rw [e2, e3]
  refine k _ ((Kp.app.trans .app).trans .app) ⟨cs, 0, 0, 1, ?_, ?_, by omega, by decide, by decide, by decide⟩
  · rw [← e3]; exact mnew
  · exact (Kp.app (S := [])).at_ _ _ (by simp) (by rw [← e2]; exact mnew)
theorem lmove {M : Mem} {p q : Nat} {f : Int} {Q : DK} {X : XM} (F : Feed M p q) (h0 : 0 ≤ f) (hb : f < 2 ^ 50) (k : ∀ a b M', -f ≤ a → a ≤ f → -f ≤ b → b ≤ f → Kp [p] M M' → Feed M' p q → Q (.tup [.int a, .int b]) M') : w_Lsome_move [.ref p, .int f] M Q X := by
  show m_Lsome_move _ [some (.ref p), some (.int f)] M
  unfold m_Lsome_move
  walk_at "ml"
  refine o_mul (mul_ok' (by decide)) ?_
  walk_at "ml"
  refine ldraw F (by omega) (by omega) fun a M1 a0 a1 k1 F1 => ?_
  walk_at "ml"
  refine o_mul (mul_ok' (by decide)) ?_
  walk_at "ml"
  refine ldraw F1 (by omega) (by omega) fun b M2 b0 b1 k2 F2 => ?_
  walk_at "ml"
  exact k _ _ _ (by omega) (by omega) (by omega) (by omega) (k1.trans k2) F2
end Prf

namespace MV
theorem frac_n (t u : Int) (h : u ≠ 0) : t.fdiv (if u < 0 then -(Int.gcd t u : Int) else (Int.gcd t u : Int)) = ((t : Rat) / (u : Rat)).num ∧ u.fdiv (if u < 0 then -(Int.gcd t u : Int) else (Int.gcd t u : Int)) = (((t : Rat) / (u : Rat)).den : Int) := by
  rw [← Rat.divInt_eq_div, Rat.num_divInt, Rat.den_divInt, if_neg h, Int.gcd_comm u t]
  have g0 : (0 : Int) < (Int.gcd t u : Int) := by
    have := Int.gcd_pos_of_ne_zero_right t h
    omega
  obtain ⟨a, ha⟩ : ∃ a, t = (Int.gcd t u : Int) * a := Int.gcd_dvd_left t u
  obtain ⟨b, hb⟩ : ∃ b, u = (Int.gcd t u : Int) * b := Int.gcd_dvd_right t u
  generalize hg : Int.gcd t u = g at *
  clear hg
  have gn : (g : Int) ≠ 0 := by omega
  have key : ∀ x : Int, ((g : Int) * x).fdiv g = x := fun x => by rw [Int.mul_comm]; exact Int.mul_fdiv_cancel x gn
  have kem : ∀ x : Int, ((g : Int) * x).fdiv (-g) = -x := fun x => by
    rw [show (g : Int) * x = (-x) * (-g) by rw [Int.neg_mul_neg, Int.mul_comm]]; exact Int.mul_fdiv_cancel _ (by omega)
  subst ha hb
  by_cases hu : (g : Int) * b < 0
  · have hb : b < 0 := by
      by_cases z : b < 0
      · exact z
      · have := Int.mul_nonneg (Int.le_of_lt g0) (show 0 ≤ b by omega); omega
    rw [if_pos hu, kem, kem]
    constructor
    · rw [Int.sign_eq_neg_one_of_neg hu, ← Int.mul_assoc, Int.mul_comm (-1), Int.mul_assoc, Int.mul_ediv_cancel_left _ gn]
      omega
    · rw [Int.natAbs_mul, Int.natAbs_natCast, Nat.mul_div_cancel_left _ (by omega)]
      omega
  · have hb : 0 < b := by
      by_cases z : 0 < b
      · exact z
      · exfalso
        have h2 := Int.mul_nonneg_of_nonpos_of_nonpos (a := -(g : Int)) (b := b) (by omega) (by omega)
        have e : -(g : Int) * b = -(g * b) := Int.neg_mul _ _
        omega
    rw [if_neg hu, key, key]
    constructor
    · rw [Int.sign_eq_one_of_pos (Int.mul_pos g0 hb), Int.one_mul, Int.mul_ediv_cancel_left _ gn]
    · rw [Int.natAbs_mul, Int.natAbs_natCast, Nat.mul_div_cancel_left _ (by omega)]
      omega
theorem q_nd (q : Rat) : (q.num : Rat) / ((q.den : Int) : Rat) = q := by
  have := Rat.num_divInt_den q
  rw [Rat.divInt_eq_div] at this
  exact this
theorem rne {b : Int} (h : b ≠ 0) : (b : Rat) ≠ 0 := by exact_mod_cast h
theorem q_den0 (q : Rat) : (q.den : Int) ≠ 0 := by have := q.den_pos; omega
theorem q_add (a b : Rat) : ((a.num * b.den + b.num * a.den : Int) : Rat) / ((a.den * b.den : Int) : Rat) = a + b := by
  have h1 := rne (q_den0 a); have h2 := rne (q_den0 b)
  have ea := q_nd a; have eb := q_nd b
  push_cast at *
  grind
theorem q_mul (a b : Rat) : ((a.num * b.num : Int) : Rat) / ((a.den * b.den : Int) : Rat) = a * b := by
  have h1 := rne (q_den0 a); have h2 := rne (q_den0 b)
  have ea := q_nd a; have eb := q_nd b
  push_cast at *
  grind
theorem q_val (m n : Int) (s : Rat) : ((m * s.den + n * s.num : Int) : Rat) / ((s.den : Int) : Rat) = m + n * s := by
  have h1 := rne (q_den0 s)
  have ea := q_nd s
  push_cast at *
  grind
theorem den_div_dvd (t u : Int) (h : u ≠ 0) : (((t : Rat) / (u : Rat)).den : Int) ∣ u := by
  obtain ⟨_, h2⟩ := frac_n t u h
  obtain ⟨b, hb⟩ : ∃ b, u = (Int.gcd t u : Int) * b := Int.gcd_dvd_right t u
  have e : u.fdiv (if u < 0 then -(Int.gcd t u : Int) else (Int.gcd t u : Int)) ∣ u := by
    have g0 : (0 : Int) < (Int.gcd t u : Int) := by
      have := Int.gcd_pos_of_ne_zero_right t h
      omega
    generalize Int.gcd t u = g at *
    subst hb
    have gn : (g : Int) ≠ 0 := by omega
    split
    · rw [show (g : Int) * b = (-b) * (-g) by rw [Int.neg_mul_neg, Int.mul_comm], Int.mul_fdiv_cancel _ (by omega)]; exact ⟨-g, rfl⟩
    · rw [show (g : Int) * b = b * g by rw [Int.mul_comm], Int.mul_fdiv_cancel _ gn]; exact ⟨g, rfl⟩
  rw [h2] at e; exact e
def DD (n : Nat) (q : Rat) : Prop := q.den ∣ n
theorem dd_of {n : Nat} {x : Int} {q : Rat} (hn : 0 < n) (h : q = (x : Rat) / ((n : Int) : Rat)) : DD n q := by
  subst h
  have := den_div_dvd x n (by omega)
  exact Int.natCast_dvd_natCast.mp this
theorem DD.to {n : Nat} {q : Rat} (hn : 0 < n) (h : DD n q) : ∃ x : Int, q = (x : Rat) / ((n : Int) : Rat) := by
  obtain ⟨k, hk⟩ := h
  refine ⟨q.num * k, ?_⟩
  have e := q_nd q
  have h1 := rne (q_den0 q)
  have h2 : ((n : Int) : Rat) ≠ 0 := rne (by omega)
  have hk' : ((n : Int) : Rat) = ((q.den : Int) : Rat) * ((k : Int) : Rat) := by rw [hk]; push_cast; rfl
  push_cast at *
  grind
theorem DD.add {n : Nat} {a b : Rat} (hn : 0 < n) (ha : DD n a) (hb : DD n b) : DD n (a + b) := by
  obtain ⟨x, rfl⟩ := ha.to hn
  obtain ⟨y, rfl⟩ := hb.to hn
  refine dd_of (x := x + y) hn ?_
  have h2 : ((n : Int) : Rat) ≠ 0 := rne (by omega)
  push_cast at *
  grind
theorem DD.sub {n : Nat} {a b : Rat} (hn : 0 < n) (ha : DD n a) (hb : DD n b) : DD n (a - b) := by
  obtain ⟨x, rfl⟩ := ha.to hn
  obtain ⟨y, rfl⟩ := hb.to hn
  refine dd_of (x := x - y) hn ?_
  have h2 : ((n : Int) : Rat) ≠ 0 := rne (by omega)
  push_cast at *
  grind
theorem DD.mul {n m : Nat} {a b : Rat} (hn : 0 < n) (hm : 0 < m) (ha : DD n a) (hb : DD m b) : DD (n * m) (a * b) := by
  obtain ⟨x, rfl⟩ := ha.to hn
  obtain ⟨y, rfl⟩ := hb.to hm
  refine dd_of (x := x * y) (Nat.mul_pos hn hm) ?_
  have h2 : ((n : Int) : Rat) ≠ 0 := rne (by omega)
  have h3 : ((m : Int) : Rat) ≠ 0 := rne (by omega)
  push_cast at *
  grind
theorem DD.val {n : Nat} {s : Rat} (hn : 0 < n) (hs : DD n s) (a b : Int) : DD n (a + b * s) := by
  obtain ⟨x, rfl⟩ := hs.to hn
  refine dd_of (x := a * n + b * x) hn ?_
  have h2 : ((n : Int) : Rat) ≠ 0 := rne (by omega)
  push_cast at *
  grind
theorem DD.up {n m : Nat} {q : Rat} (h : DD n q) (hd : n ∣ m) : DD m q := Nat.dvd_trans h hd
theorem DD.le {n : Nat} {q : Rat} (hn : 0 < n) (h : DD n q) : q.den ≤ n := Nat.le_of_dvd hn h
theorem DD.z {n : Nat} : DD n 0 := by unfold DD; exact ⟨n, by rw [show (0 : Rat).den = 1 from rfl]; omega⟩
def qD (q : Rat) : D := .tup [.int q.num, .int (q.den : Int)]
section
variable {M : Mem} {Q : DK} {q : Rat}
theorem o_q0 (h : Q (.int q.num) M) : oIx (qD q) (.int 0) M Q := h
theorem o_q1 (h : Q (.int (q.den : Int)) M) : oIx (qD q) (.int 1) M Q := h
end
theorem qD_of {t u : Int} (h : u ≠ 0) : D.tup [.int (t.fdiv (if u < 0 then -(Int.gcd t u : Int) else (Int.gcd t u : Int))), .int (u.fdiv (if u < 0 then -(Int.gcd t u : Int) else (Int.gcd t u : Int)))] = qD ((t : Rat) / (u : Rat)) := by
  obtain ⟨h1, h2⟩ := frac_n t u h
  unfold qD
  rw [h1, h2]
theorem x_while {c : MT} {b : MS} {E : Nd} {ρ : Ev} {M : Mem} (I : Nat → Ev → Mem → Prop) (m : Nat) (h0 : I m ρ M) (hs : ∀ m ρ M, I m ρ M → c ρ M (fun k M1 => if k = true then ∃ N : Ev → Mem → Prop, (∀ ρ' M', N ρ' M' → ∃ m', m' < m ∧ I m' ρ' M') ∧ b ⟨N, E.rt, E.nx, N, E.ex⟩ ρ M1 else E.nx ρ M1) (fun x M1 => E.ex x ρ M1)) : mWhile c b E ρ M := ⟨I, ⟨m, h0⟩, hs⟩
theorem w_gcd {E : Nd} {a b : Int} {M : Mem} {l : Ev} (k : ∀ c : Int, c.natAbs = Int.gcd a b → E.nx (some (.int c) :: some (.int 0) :: l) M) : mWhile (mTru (mVar 1)) (mPar 0 1 (mCons (mVar 1) (mCons (mOp oMod (mVar 0) (mVar 1)) mNil))) E (some (.int a) :: some (.int b) :: l) M := by
  refine x_while (fun m ρ M' => ∃ x y : Int, ρ = some (.int x) :: some (.int y) :: l ∧ M = M' ∧ Int.gcd x y = Int.gcd a b ∧ y.natAbs = m) b.natAbs ⟨a, b, rfl, rfl, rfl, rfl⟩ ?_
  rintro m _ _ ⟨x, y, rfl, rfl, hg, rfl⟩
  refine x_tru (x_var (d := .int y) rfl ?_)
  show if (y != 0) = true then _ else _
  by_cases hy : y = 0
  · subst hy
    rw [if_neg (by decide)]
    exact k x (by rw [← hg]; simp [Int.gcd])
  · rw [if_pos (by simpa using hy)]
    refine ⟨fun ρ' M' => ∃ m', m' < y.natAbs ∧ ∃ x' y' : Int, ρ' = some (.int x') :: some (.int y') :: l ∧ M = M' ∧ Int.gcd x' y' = Int.gcd a b ∧ y'.natAbs = m', fun _ _ h => h, ?_⟩
    refine x_par (x_cons (x_var (d := .int y) rfl (x_cons (x_op (x_var (d := .int x) rfl (x_var (d := .int y) rfl (o_mod hy ?_)))))))
    refine x_nil ?_
    refine ⟨(x.fmod y).natAbs, ?_, y, x.fmod y, rfl, rfl, ?_, rfl⟩
    · by_cases hp : 0 < y
      · have := fmod_in x hp; omega
      · have h2 : (x.fmod y) = -((-x).fmod (-y)) := by rw [Int.neg_fmod_neg, Int.neg_neg]
        have := fmod_in (-x) (m := -y) (by omega); omega
    · rw [← hg, Int.gcd_comm x y]
      have e : x.fmod y = x - y * (x.fdiv y) := by have := Int.mul_fdiv_add_fmod x y; omega
      rw [e]
      exact Int.gcd_sub_mul_left_right y x (x.fdiv y)
end MV
namespace Prf
section
variable {M : Mem} {Q : DK} {X : XM} {a b s t : Rat} {x y : Int} {m : Int × Int}
theorem gcd64 {x y : Int} (h0 : y ≠ 0) (hb : y.natAbs < 2 ^ 64) : okDiv (if y < 0 then -(Int.gcd x y : Int) else (Int.gcd x y : Int)) := by
  have h1 := Int.gcd_pos_of_ne_zero_right x h0
  have h2 : Int.gcd x y ≤ y.natAbs := Nat.le_of_dvd (by omega) (Int.gcd_dvd_natAbs_right x y)
  refine div_ok ?_ ?_
  · split <;> omega
  · split <;> omega
theorem lgcd (h : Q (.int (Int.gcd x y)) M) : w_Lgcd [.int x, .int y] M Q X := by
  unfold w_Lgcd wOf
  rw [show startE N_Lgcd [.int x, .int y] = [some (.int x), some (.int y)] from rfl]
  unfold m_Lgcd
  walk_at "sx"
  refine w_gcd fun c hc => ?_
  walk_at "ml"
  rw [show (if c < 0 then -c else c) = ((Int.gcd x y : Nat) : Int) by rw [← hc]; split <;> omega]
  exact h
theorem lfrac (h0 : y ≠ 0) (hb : y.natAbs < 2 ^ 64) (h : Q (qD ((x : Rat) / (y : Rat))) M) : w_Lfrac [.int x, .int y] M Q X := by
  unfold w_Lfrac wOf
  rw [show startE N_Lfrac [.int x, .int y] = [some (.int x), some (.int y), none] from rfl]
  unfold m_Lfrac
  have hd := gcd64 (x := x) h0 hb
  walk_at "ml"
  refine lgcd ?_
  walk_at "mq"
  with_reducible refine x_join (fun ρ M' => M = M' ∧ ρ = [some (.int x), some (.int y), some (.int (if y < 0 then -(Int.gcd x y : Int) else (Int.gcd x y : Int)))]) ?_ ?_
  · intro K hK
    walk_at "ml"
    refine if_d (fun e => ?_) (fun e => ?_)
    · walk_at "ml"
      exact hK _ _ ⟨rfl, by rw [if_pos e]; rfl⟩
    · walk_at "ml"
      exact hK _ _ ⟨rfl, by rw [if_neg e]; rfl⟩
  rintro _ _ ⟨rfl, rfl⟩
  walk_at "ml"
  refine o_div hd ?_
  walk_at "ml"
  refine o_div hd ?_
  walk_at "ml"
  rw [qD_of h0]
  exact h
theorem lplus (ha : a.den < 2 ^ 32) (hb : b.den < 2 ^ 32) (h : Q (qD (a + b)) M) : w_Lplus [qD a, qD b] M Q X := by
  unfold w_Lplus wOf
  rw [show startE N_Lplus [qD a, qD b] = [some (qD a), some (qD b)] from rfl]
  unfold m_Lplus
  have pa := a.den_pos; have pb := b.den_pos
  have hm : a.den * b.den < 2 ^ 32 * 2 ^ 32 := Nat.mul_lt_mul_of_lt_of_lt ha hb
  walk_at "ml"
  refine o_q0 ?_
  walk_at "ml"
  refine o_q1 ?_
  refine o_mul (by first | exact mul_ok (by omega) | exact mul_ok' (by omega)) ?_
  walk_at "ml"
  refine o_q0 ?_
  walk_at "ml"
  refine o_q1 ?_
  refine o_mul (by first | exact mul_ok (by omega) | exact mul_ok' (by omega)) ?_
  walk_at "ml"
  refine o_q1 ?_
  walk_at "ml"
  refine o_q1 ?_
  refine o_mul (by first | exact mul_ok (by omega) | exact mul_ok' (by omega)) ?_
  walk_at "ml"
  refine lfrac (Int.mul_ne_zero (by omega) (by omega)) (by rw [Int.natAbs_mul]; simpa using hm) ?_
  rw [q_add]
  exact h
theorem ltimes (ha : a.den < 2 ^ 32) (hb : b.den < 2 ^ 32) (hn : b.num.natAbs < 2 ^ 64) (h : Q (qD (a * b)) M) : w_Ltimes [qD a, qD b] M Q X := by
  unfold w_Ltimes wOf
  rw [show startE N_Ltimes [qD a, qD b] = [some (qD a), some (qD b)] from rfl]
  unfold m_Ltimes
  have pa := a.den_pos; have pb := b.den_pos
  have hm : a.den * b.den < 2 ^ 32 * 2 ^ 32 := Nat.mul_lt_mul_of_lt_of_lt ha hb
  walk_at "ml"
  refine o_q0 ?_
  walk_at "ml"
  refine o_q0 ?_
  refine o_mul (by first | exact mul_ok (by omega) | exact mul_ok' (by omega)) ?_
  walk_at "ml"
  refine o_q1 ?_
  walk_at "ml"
  refine o_q1 ?_
  refine o_mul (by first | exact mul_ok (by omega) | exact mul_ok' (by omega)) ?_
  walk_at "ml"
  refine lfrac (Int.mul_ne_zero (by omega) (by omega)) (by rw [Int.natAbs_mul]; simpa using hm) ?_
  rw [q_mul]
  exact h
theorem llt (ha : a.den < 2 ^ 32) (hb : b.den < 2 ^ 32) (h : Q (.bl (decide (a < b))) M) : w_Llt [qD a, qD b] M Q X := by
  unfold w_Llt wOf
  rw [show startE N_Llt [qD a, qD b] = [some (qD a), some (qD b)] from rfl]
  unfold m_Llt
  walk_at "ml"
  refine o_q0 ?_
  walk_at "ml"
  refine o_q1 ?_
  refine o_mul (mul_ok (by omega)) ?_
  walk_at "ml"
  refine o_q0 ?_
  walk_at "ml"
  refine o_q1 ?_
  refine o_mul (mul_ok (by omega)) ?_
  walk_at "ml"
  simp only [← Rat.lt_iff]
  exact h
end
end Prf

namespace MV
abbrev Mo := Int × Int
def madd (a b : Mo) : Mo := (a.1 + b.1, a.2 + b.2)
def mneg (a : Mo) : Mo := (-a.1, -a.2)
def mtake (a b : Mo) : Mo := (a.1 - b.1, a.2 - b.2)
structure Sg where
  p : Int
  q : Int
  ah : Bool
def rk (A : Sg) (m : Mo) : Mo := (m.1 * A.q + m.2 * A.p, if A.ah then m.2 else 0)
def wlt (a b : Mo) : Prop := a.1 < b.1 ∨ (a.1 = b.1 ∧ a.2 < b.2)
def wle (a b : Mo) : Prop := a.1 < b.1 ∨ (a.1 = b.1 ∧ a.2 ≤ b.2)
instance (a b : Mo) : Decidable (wlt a b) := inferInstanceAs (Decidable (_ ∨ _))
instance (a b : Mo) : Decidable (wle a b) := inferInstanceAs (Decidable (_ ∨ _))
theorem rk_add (A : Sg) (a b : Mo) : rk A (madd a b) = madd (rk A a) (rk A b) := by
  unfold rk madd
  refine Prod.ext ?_ ?_
  · show (a.1 + b.1) * A.q + (a.2 + b.2) * A.p = (a.1 * A.q + a.2 * A.p) + (b.1 * A.q + b.2 * A.p)
    grind
  · show (if A.ah then a.2 + b.2 else 0) = (if A.ah then a.2 else 0) + (if A.ah then b.2 else 0)
    split <;> omega
theorem rk_neg (A : Sg) (a : Mo) : rk A (mneg a) = mneg (rk A a) := by
  unfold rk mneg
  refine Prod.ext ?_ ?_
  · show (-a.1) * A.q + (-a.2) * A.p = -(a.1 * A.q + a.2 * A.p)
    grind
  · show (if A.ah then -a.2 else 0) = -(if A.ah then a.2 else 0)
    split <;> omega
theorem rk_take (A : Sg) (a b : Mo) : rk A (mtake a b) = mtake (rk A a) (rk A b) := by
  unfold rk mtake
  refine Prod.ext ?_ ?_
  · show (a.1 - b.1) * A.q + (a.2 - b.2) * A.p = (a.1 * A.q + a.2 * A.p) - (b.1 * A.q + b.2 * A.p)
    grind
  · show (if A.ah then a.2 - b.2 else 0) = (if A.ah then a.2 else 0) - (if A.ah then b.2 else 0)
    split <;> omega
theorem rk_zero (A : Sg) : rk A (0, 0) = (0, 0) := by
  unfold rk
  refine Prod.ext ?_ ?_
  · show (0 : Int) * A.q + 0 * A.p = 0
    omega
  · show (if A.ah then (0 : Int) else 0) = 0
    split <;> rfl
theorem wle_refl (a : Mo) : wle a a := .inr ⟨rfl, Int.le_refl _⟩
theorem wlt_irrefl {a : Mo} (h : wlt a a) : False := by unfold wlt at h; omega
theorem wle_trans {a b c : Mo} (h : wle a b) (k : wle b c) : wle a c := by unfold wle at *; omega
theorem wlt_le {a b c : Mo} (h : wlt a b) (k : wle b c) : wlt a c := by unfold wle wlt at *; omega
theorem wlt_trans {a b c : Mo} (h : wlt a b) (k : wlt b c) : wlt a c := by unfold wlt at *; omega
theorem wle_of_lt {a b : Mo} (h : wlt a b) : wle a b := by unfold wle wlt at *; omega
theorem wle_of_not {a b : Mo} (h : ¬ wlt a b) : wle b a := by unfold wle wlt at *; omega
theorem not_of_wle {a b : Mo} (h : wle b a) : ¬ wlt a b := by unfold wle wlt at *; omega
theorem wle_add {a b : Mo} (c : Mo) (h : wle a b) : wle (madd a c) (madd b c) := by
  unfold wle madd at *
  dsimp only
  omega
theorem madd_assoc (a b c : Mo) : madd (madd a b) c = madd a (madd b c) := by unfold madd; exact Prod.ext (by dsimp only; omega) (by dsimp only; omega)
theorem madd_comm (a b : Mo) : madd a b = madd b a := by unfold madd; exact Prod.ext (by dsimp only; omega) (by dsimp only; omega)
theorem zero_madd (a : Mo) : madd (0, 0) a = a := by unfold madd; exact Prod.ext (by dsimp only; omega) (by dsimp only; omega)
theorem madd_zero (a : Mo) : madd a (0, 0) = a := by unfold madd; exact Prod.ext (by dsimp only; omega) (by dsimp only; omega)
structure Li where
  tl : Nat
  hd : Nat
  k : Nat
  fw : Bool
abbrev HS := Nat → Option Mo
abbrev BS := Nat → Option Li
def upf {α : Type} (f : Nat → α) (i : Nat) (x : α) : Nat → α := fun j => if j = i then x else f j
theorem upf_same {α : Type} {f : Nat → α} {i : Nat} {x : α} : upf f i x i = x := if_pos rfl
theorem upf_ne {α : Type} {f : Nat → α} {i j : Nat} {x : α} (h : j ≠ i) : upf f i x j = f j := if_neg h
structure Sst where
  h : HS
  b : BS
  mv : Option Nat
section
variable (A : Sg) (pr : Li → Mo)
def better (h : HS) (l : Li) (f : Mo) : Bool := match h l.hd with
  | none => true
  | some b => decide (wlt (rk A f) (rk A b))
def relax (s : Sst) (l : Li) : Sst := match s.h l.tl with
  | none => s
  | some a => if better A s.h l (madd a (pr l)) then ⟨upf s.h l.hd (some (madd a (pr l))), upf s.b l.hd (some l), some l.hd⟩ else s
def rnd (ls : List Li) (s : Sst) : Sst := ls.foldl (relax A pr) ⟨s.h, s.b, none⟩
def itr (ls : List Li) (s : Sst) : Nat → Sst
  | 0 => s
  | n + 1 => rnd A pr ls (itr ls s n)
end
def Fall (A : Sg) (h' h : HS) : Prop := ∀ v a, h v = some a → ∃ b, h' v = some b ∧ wle (rk A b) (rk A a)
theorem Fall.refl {A : Sg} (h : HS) : Fall A h h := fun _ a e => ⟨a, e, wle_refl _⟩
theorem Fall.trans {A : Sg} {h1 h2 h3 : HS} (a : Fall A h1 h2) (b : Fall A h2 h3) : Fall A h1 h3 := fun v x e => by
  obtain ⟨y, e1, l1⟩ := b v x e
  obtain ⟨z, e2, l2⟩ := a v y e1
  exact ⟨z, e2, wle_trans l2 l1⟩
section
variable {A : Sg} {pr : Li → Mo} {ls : List Li} {h0 : HS}
theorem relax_cases (s : Sst) (l : Li) : relax A pr s l = s ∨ ∃ a, s.h l.tl = some a ∧ (∀ b, s.h l.hd = some b → wlt (madd (rk A a) (rk A (pr l))) (rk A b)) ∧
    relax A pr s l = ⟨upf s.h l.hd (some (madd a (pr l))), upf s.b l.hd (some l), some l.hd⟩ := by
  unfold relax
  cases e : s.h l.tl with
  | none => exact .inl rfl
  | some a =>
    dsimp only
    cases hb : better A s.h l (madd a (pr l)) with
    | false => exact .inl (if_neg Bool.false_ne_true)
    | true =>
      refine .inr ⟨a, rfl, fun b eb => ?_, if_pos rfl⟩
      unfold better at hb
      rw [eb] at hb
      have := of_decide_eq_true hb
      rwa [rk_add] at this
theorem relax_fall (s : Sst) (l : Li) : Fall A (relax A pr s l).h s.h := by
  rcases relax_cases (A := A) (pr := pr) s l with e | ⟨a, e1, e2, e⟩
  · rw [e]; exact .refl _
  · rw [e]
    intro v b hv
    by_cases q : v = l.hd
    · subst q
      exact ⟨_, upf_same, by rw [rk_add]; exact wle_of_lt (e2 b hv)⟩
    · exact ⟨b, by rw [← hv]; exact upf_ne q, wle_refl _⟩
theorem relax_ok (s : Sst) (l : Li) {a : Mo} (h : s.h l.tl = some a) : ∃ b, (relax A pr s l).h l.hd = some b ∧ wle (rk A b) (madd (rk A a) (rk A (pr l))) := by
  unfold relax
  rw [h]
  dsimp only
  split
  · exact ⟨_, upf_same, by rw [rk_add]; exact wle_refl _⟩
  · rename_i hb
    unfold better at hb
    cases e : s.h l.hd with
    | none => rw [e] at hb; exact (hb rfl).elim
    | some b =>
      rw [e] at hb
      have : ¬ wlt (rk A (madd a (pr l))) (rk A b) := fun z => hb (decide_eq_true z)
      rw [rk_add] at this
      exact ⟨b, rfl, wle_of_not this⟩
theorem fold_fall : ∀ (ls : List Li) (s : Sst), Fall A (ls.foldl (relax A pr) s).h s.h
  | [], s => .refl _
  | l :: ls, s => (fold_fall ls (relax A pr s l)).trans (relax_fall s l)
theorem fold_ok : ∀ (ls : List Li) (s : Sst) {l : Li} {a : Mo}, l ∈ ls → s.h l.tl = some a → ∃ b, (ls.foldl (relax A pr) s).h l.hd = some b ∧ wle (rk A b) (madd (rk A a) (rk A (pr l)))
  | m :: ls, s, l, a, hm, h => by
    rcases List.mem_cons.mp hm with e | e
    · subst e
      obtain ⟨b, h1, h2⟩ := relax_ok (A := A) (pr := pr) s l h
      obtain ⟨c, h3, h4⟩ := fold_fall (A := A) (pr := pr) ls (relax A pr s l) _ _ h1
      exact ⟨c, h3, wle_trans h4 h2⟩
    · obtain ⟨a', h1, h2⟩ := relax_fall (A := A) (pr := pr) s m _ _ h
      obtain ⟨b, h3, h4⟩ := fold_ok ls (relax A pr s m) e h1
      exact ⟨b, h3, wle_trans h4 (wle_add _ h2)⟩
theorem rnd_fall (ls : List Li) (s : Sst) : Fall A (rnd A pr ls s).h s.h := fold_fall ls ⟨s.h, s.b, none⟩
theorem itr_fall (ls : List Li) (s : Sst) : ∀ n, Fall A (itr A pr ls s n).h s.h
  | 0 => .refl _
  | n + 1 => (rnd_fall ls _).trans (itr_fall ls s n)
inductive Wk (A : Sg) (pr : Li → Mo) (ls : List Li) (h0 : HS) : Nat → Nat → Mo → Prop
  | nil {r : Nat} {a : Mo} : h0 r = some a → Wk A pr ls h0 0 r (rk A a)
  | cons {k : Nat} {l : Li} {w : Mo} : Wk A pr ls h0 k l.tl w → l ∈ ls → Wk A pr ls h0 (k + 1) l.hd (madd w (rk A (pr l)))
theorem itr_walk {s : Sst} {k v : Nat} {w : Mo} (h : Wk A pr ls s.h k v w) : ∀ {n : Nat}, k ≤ n → ∃ b, (itr A pr ls s n).h v = some b ∧ wle (rk A b) w := by
  induction h with
  | nil e => intro n _; exact itr_fall ls s n _ _ e
  | @cons k l w hw hl ih =>
    intro n hk
    cases n with
    | zero => omega
    | succ n =>
      obtain ⟨b, h1, h2⟩ := ih (n := n) (by omega)
      obtain ⟨c, h3, h4⟩ := fold_ok (A := A) (pr := pr) ls ⟨(itr A pr ls s n).h, (itr A pr ls s n).b, none⟩ hl h1
      exact ⟨c, h3, wle_trans h4 (wle_add _ h2)⟩
structure BI (A : Sg) (pr : Li → Mo) (ls : List Li) (h0 : HS) (s : Sst) : Prop where
  lk : ∀ v l, s.b v = some l → l ∈ ls ∧ l.hd = v ∧ ∃ a b, s.h l.tl = some a ∧ s.h v = some b ∧ wle (madd (rk A a) (rk A (pr l))) (rk A b)
  no : ∀ v, s.b v = none → s.h v = h0 v
theorem BI.relax {s : Sst} (i : BI A pr ls h0 s) {l : Li} (hl : l ∈ ls) : BI A pr ls h0 (relax A pr s l) := by
  rcases relax_cases (A := A) (pr := pr) s l with e | ⟨a, e1, e2, e⟩
  · rw [e]; exact i
  · rw [e]
    refine ⟨fun v m hm => ?_, fun v hv => ?_⟩
    · have fal := relax_fall (A := A) (pr := pr) s l
      rw [e] at fal
      by_cases q : v = l.hd
      · subst q
        obtain rfl : l = m := Option.some.inj (upf_same.symm.trans hm)
        obtain ⟨a', h1, h2⟩ := fal _ _ e1
        exact ⟨hl, rfl, a', _, h1, upf_same, by rw [rk_add]; exact wle_add _ h2⟩
      · have hm' : s.b v = some m := (upf_ne q).symm.trans hm
        obtain ⟨h1, h2, x, y, h3, h4, h5⟩ := i.lk v m hm'
        obtain ⟨x', h6, h7⟩ := fal _ _ h3
        exact ⟨h1, h2, x', y, h6, (upf_ne q).trans h4, wle_trans (wle_add _ h7) h5⟩
    · by_cases q : v = l.hd
      · subst q
        exact absurd (upf_same.symm.trans hv) (fun z => by cases z)
      · exact (upf_ne q).trans (i.no v ((upf_ne q).symm.trans hv))
theorem BI.fold : ∀ (ms : List Li) {s : Sst}, BI A pr ls h0 s → (∀ l ∈ ms, l ∈ ls) → BI A pr ls h0 (ms.foldl (MV.relax A pr) s)
  | [], _, i, _ => i
  | m :: ms, _, i, h => BI.fold ms (i.relax (h m (by simp))) fun l q => h l (by simp [q])
theorem BI.mv {s : Sst} {m : Option Nat} (i : BI A pr ls h0 s) : BI A pr ls h0 ⟨s.h, s.b, m⟩ := ⟨i.lk, i.no⟩
theorem BI.itr {s : Sst} (i : BI A pr ls h0 s) : ∀ n, BI A pr ls h0 (MV.itr A pr ls s n)
  | 0 => i
  | n + 1 => BI.fold ls (BI.mv (BI.itr i n)) fun _ h => h
def upb (b : BS) : Nat → Nat → Option Nat
  | 0, v => some v
  | k + 1, v => (b v).bind fun l => upb b k l.tl
theorem BI.root {s : Sst} (i : BI A pr ls h0 s) : ∀ {k v r : Nat} {c : Mo}, upb s.b k v = some r → s.b r = none → s.h v = some c → ∃ w, Wk A pr ls h0 k v w ∧ wle w (rk A c)
  | 0, v, r, c, h, hr, hv => by
    obtain rfl : v = r := Option.some.inj h
    exact ⟨_, .nil ((i.no v hr).symm.trans hv), wle_refl _⟩
  | k + 1, v, r, c, h, hr, hv => by
    unfold upb at h
    cases e : s.b v with
    | none => rw [e] at h; cases h
    | some l =>
      rw [e] at h
      obtain ⟨h1, h2, x, y, h3, h4, h5⟩ := i.lk v l e
      obtain ⟨w, g1, g2⟩ := BI.root i (k := k) (v := l.tl) h hr h3
      rw [hv] at h4
      obtain rfl : c = y := Option.some.inj h4
      subst h2
      exact ⟨_, .cons g1 h1, wle_trans (wle_add _ g2) h5⟩
def Less (A : Sg) (h' h : HS) (v : Nat) : Prop := ∃ b, h' v = some b ∧ ∀ a, h v = some a → wlt (rk A b) (rk A a)
theorem fold_moved {h1 : HS} : ∀ (ms : List Li) {s : Sst}, Fall A s.h h1 → (∀ v, s.mv = some v → Less A s.h h1 v) → ∀ v, (ms.foldl (relax A pr) s).mv = some v → Less A (ms.foldl (relax A pr) s).h h1 v
  | [], s, _, hm => hm
  | m :: ms, s, f, hm => by
    refine fold_moved ms ((relax_fall s m).trans f) fun v hv => ?_
    rcases relax_cases (A := A) (pr := pr) s m with e | ⟨a, e1, e2, e⟩
    · rw [e] at hv ⊢; exact hm v hv
    · rw [e] at hv ⊢
      obtain rfl : m.hd = v := Option.some.inj hv
      refine ⟨_, upf_same, fun x hx => ?_⟩
      obtain ⟨y, g1, g2⟩ := f _ _ hx
      rw [rk_add]
      exact wlt_le (e2 y g1) g2
theorem fold_still : ∀ (ms : List Li) {s : Sst}, (ms.foldl (relax A pr) s).mv = none → s.mv = none ∧ ms.foldl (relax A pr) s = s
  | [], s, h => ⟨h, rfl⟩
  | m :: ms, s, h => by
    obtain ⟨h1, h2⟩ := fold_still ms (s := relax A pr s m) h
    rcases relax_cases (A := A) (pr := pr) s m with e | ⟨a, e1, e2, e⟩
    · rw [e] at h1
      exact ⟨h1, by rw [List.foldl_cons, h2, e]⟩
    · rw [e] at h1; cases h1
theorem rnd_still {s : Sst} (h : (rnd A pr ls s).mv = none) : (rnd A pr ls s).h = s.h ∧ ∀ l ∈ ls, ∀ a, s.h l.tl = some a → ∃ b, s.h l.hd = some b ∧ wle (rk A b) (madd (rk A a) (rk A (pr l))) := by
  obtain ⟨h1, h2⟩ := fold_still ls h
  have e : (rnd A pr ls s).h = s.h := by
    show (ls.foldl (relax A pr) ⟨s.h, s.b, none⟩).h = s.h
    rw [h2]
  refine ⟨e, fun l hl a ha => ?_⟩
  obtain ⟨b, g1, g2⟩ := fold_ok (A := A) (pr := pr) ls ⟨s.h, s.b, none⟩ hl ha
  exact ⟨b, by rw [← e]; exact g1, g2⟩
theorem itr_back {s : Sst} (i : BI A pr ls s.h s) {n v : Nat} (h : (itr A pr ls s (n + 1)).mv = some v) : ∀ {k : Nat}, k ≤ n → ∀ {r : Nat}, upb (itr A pr ls s (n + 1)).b k v = some r → (itr A pr ls s (n + 1)).b r ≠ none := by
  intro k hk r hu hr
  obtain ⟨b, h1, h2⟩ := fold_moved (A := A) (pr := pr) (h1 := (itr A pr ls s n).h) ls (s := ⟨(itr A pr ls s n).h, (itr A pr ls s n).b, none⟩) (.refl _) (fun _ z => by cases z) v h
  obtain ⟨w, g1, g2⟩ := (i.itr (n + 1)).root hu hr h1
  obtain ⟨c, g3, g4⟩ := itr_walk (n := n) g1 hk
  exact wlt_irrefl (wlt_le (h2 c g3) (wle_trans g4 g2))
inductive Ch (A : Sg) (pr : Li → Mo) (b : BS) : Nat → Nat → Nat → Mo → Prop
  | nil {v : Nat} : Ch A pr b 0 v v (0, 0)
  | cons {k v u : Nat} {l : Li} {w : Mo} : b v = some l → Ch A pr b k l.tl u w → Ch A pr b (k + 1) v u (madd (rk A (pr l)) w)
theorem Ch.app {b : BS} {k j v u x : Nat} {w z : Mo} (c : Ch A pr b k v u w) (d : Ch A pr b j u x z) : Ch A pr b (k + j) v x (madd w z) := by
  induction c with
  | nil => rw [Nat.zero_add, madd_comm, madd_zero]; exact d
  | @cons k v u l w e c ih =>
    rw [madd_assoc, show k + 1 + j = (k + j) + 1 by omega]
    exact .cons e (ih d)
def Neg (A : Sg) (pr : Li → Mo) (b : BS) : Prop := ∀ k v w, Ch A pr b (k + 1) v v w → wlt w (0, 0)
theorem Ch.split {b : BS} {y : Nat} {l : Li} {k v u : Nat} {w : Mo} (c : Ch A pr (upf b y (some l)) k v u w) : Ch A pr b k v u w ∨ ∃ i j w1 w2, Ch A pr (upf b y (some l)) i v y w1 ∧ Ch A pr (upf b y (some l)) (j + 1) y u w2 ∧ w = madd w1 w2 ∧ k = i + (j + 1) := by
  induction c with
  | nil => exact .inl .nil
  | @cons k v u m w e c ih =>
    by_cases q : v = y
    · subst q
      exact .inr ⟨0, k, (0, 0), _, .nil, .cons e c, (zero_madd _).symm, by omega⟩
    · rcases ih with ih | ⟨i, j, w1, w2, c1, c2, rfl, rfl⟩
      · exact .inl (.cons ((upf_ne q).symm.trans e) ih)
      · exact .inr ⟨i + 1, j, _, w2, .cons e c1, c2, by rw [madd_assoc], by omega⟩
theorem Ch.bound {s : Sst} (i : BI A pr ls h0 s) {l : Li} {a : Mo} (ha : s.h l.tl = some a) (hb : ∀ b, s.h l.hd = some b → wlt (madd (rk A a) (rk A (pr l))) (rk A b)) :
    ∀ {k v : Nat} {w c : Mo}, Ch A pr (upf s.b l.hd (some l)) k v l.hd w → s.h v = some c → ∃ d, s.h l.hd = some d ∧ wle (madd w (rk A d)) (rk A c)
  | 0, _, _, c, .nil, hv => ⟨c, hv, by rw [madd_comm, madd_zero]; exact wle_refl _⟩
  | k + 1, v, _, c, .cons (l := m) (w := w) e ch, hv => by
    by_cases q : v = l.hd
    · subst q
      obtain rfl : l = m := Option.some.inj (upf_same.symm.trans e)
      obtain ⟨d, h1, h2⟩ := Ch.bound i ha hb ch ha
      refine ⟨d, h1, ?_⟩
      obtain rfl : c = d := Option.some.inj (hv.symm.trans h1)
      have := hb _ h1
      unfold wle wlt madd at *
      dsimp only at *
      omega
    · obtain ⟨_, g2, x, y, g3, g4, g5⟩ := i.lk v m ((upf_ne q).symm.trans e)
      obtain ⟨d, h1, h2⟩ := Ch.bound i ha hb ch g3
      refine ⟨d, h1, ?_⟩
      obtain rfl : y = c := Option.some.inj (g4.symm.trans hv)
      unfold wle madd at *
      dsimp only at *
      omega
theorem Neg.relax {s : Sst} (i : BI A pr ls h0 s) (g : Neg A pr s.b) {l : Li} : Neg A pr (MV.relax A pr s l).b := by
  rcases relax_cases (A := A) (pr := pr) s l with e | ⟨a, e1, e2, e⟩
  · rw [e]; exact g
  · rw [e]
    show Neg A pr (upf s.b l.hd (some l))
    have at_ : ∀ k w, Ch A pr (upf s.b l.hd (some l)) (k + 1) l.hd l.hd w → wlt w (0, 0) := fun k w c => by
      cases c with
      | @cons _ _ _ m w q c =>
        obtain rfl : l = m := Option.some.inj (upf_same.symm.trans q)
        obtain ⟨d, h1, h2⟩ := Ch.bound i e1 e2 c e1
        have := e2 d h1
        unfold wle wlt madd at *
        dsimp only at *
        omega
    intro k v w c
    rcases c.split with c | ⟨i', j, w1, w2, c1, c2, rfl, hk⟩
    · exact g k v w c
    · have := at_ (j + i') _ (by
        have := c2.app c1
        rw [show j + 1 + i' = j + i' + 1 by omega] at this
        exact this)
      rw [madd_comm]
      exact this
theorem Neg.fold : ∀ (ms : List Li) {s : Sst}, BI A pr ls h0 s → Neg A pr s.b → (∀ l ∈ ms, l ∈ ls) → Neg A pr (ms.foldl (MV.relax A pr) s).b
  | [], _, _, g, _ => g
  | m :: ms, _, i, g, h => Neg.fold ms (i.relax (h m (by simp))) (Neg.relax i g) fun l q => h l (by simp [q])
theorem Neg.itr {s : Sst} (i : BI A pr ls h0 s) (g : Neg A pr s.b) : ∀ n, Neg A pr (MV.itr A pr ls s n).b
  | 0 => g
  | n + 1 => Neg.fold ls (BI.mv (BI.itr i n)) (Neg.itr i g n) fun _ h => h
theorem BI.start {m : Option Nat} : BI A pr ls h0 ⟨h0, fun _ => none, m⟩ := ⟨(fun _ _ h => by cases h), fun _ _ => rfl⟩
theorem Neg.start : Neg A pr (fun _ => none) := fun k v w c => by
  cases c with
  | cons e _ => cases e
theorem Ch.kept {b : BS} {g : Nat → Mo} (hk : ∀ v l, b v = some l → l.hd = v ∧ wle (g l.hd) (madd (g l.tl) (rk A (pr l)))) : ∀ {k v u : Nat} {w : Mo}, Ch A pr b k v u w → wle (g v) (madd (g u) w)
  | 0, _, _, _, .nil => by rw [madd_zero]; exact wle_refl _
  | k + 1, v, u, _, .cons (l := l) (w := w) e c => by
    have h1 := Ch.kept hk c
    obtain ⟨h2, h3⟩ := hk v l e
    subst h2
    unfold wle madd at *
    dsimp only at *
    omega
end
end MV

namespace MV
theorem php : ∀ (n : Nat) (f : Nat → Nat), (∀ i, i ≤ n → f i < n) → ∃ i j, i < j ∧ j ≤ n ∧ f i = f j
  | 0, f, h => absurd (h 0 (Nat.le_refl _)) (Nat.not_lt_zero _)
  | n + 1, f, h => by
    by_cases q : ∃ i, i ≤ n ∧ f i = f (n + 1)
    · obtain ⟨i, h1, h2⟩ := q
      exact ⟨i, n + 1, by omega, Nat.le_refl _, h2⟩
    · have hne : ∀ i, i ≤ n → f i ≠ f (n + 1) := fun i hi e => q ⟨i, hi, e⟩
      have hc := h (n + 1) (Nat.le_refl _)
      obtain ⟨i, j, h1, h2, h3⟩ := php n (fun i => if f (n + 1) < f i then f i - 1 else f i) (fun i hi => by
        have h4 := h i (by omega)
        have h5 := hne i hi
        split <;> omega)
      refine ⟨i, j, h1, by omega, ?_⟩
      have h4 := hne i (by omega)
      have h5 := hne j (by omega)
      split at h3 <;> split at h3 <;> omega
theorem upb_add (b : BS) : ∀ (i j v : Nat), upb b (i + j) v = (upb b i v).bind (upb b j)
  | 0, j, v => by rw [Nat.zero_add]; rfl
  | i + 1, j, v => by
    rw [show i + 1 + j = (i + j) + 1 by omega]
    show (b v).bind (fun l => upb b (i + j) l.tl) = ((b v).bind fun l => upb b i l.tl).bind (upb b j)
    cases b v with
    | none => rfl
    | some l => exact upb_add b i j l.tl
theorem upb_all {b : BS} {n v : Nat} (hb : ∀ x l, b x = some l → l.tl < n) (hv : v < n) : ∀ {m : Nat}, (∀ k, k < m → ∀ r, upb b k v = some r → b r ≠ none) → ∃ x, upb b m v = some x ∧ x < n
  | 0, _ => ⟨v, rfl, hv⟩
  | m + 1, h => by
    obtain ⟨x, h1, h2⟩ := upb_all hb hv (m := m) fun k hk r hr => h k (by omega) r hr
    have h3 := h m (by omega) x h1
    cases e : b x with
    | none => exact (h3 e).elim
    | some l =>
      refine ⟨l.tl, ?_, hb x l e⟩
      rw [upb_add b m 1 v, h1]
      show (b x).bind (fun l => some l.tl) = some l.tl
      rw [e]; rfl
theorem upb_ring {b : BS} {n v : Nat} (hb : ∀ x l, b x = some l → l.tl < n) (hv : v < n) (h : ∀ k, k < n → ∀ r, upb b k v = some r → b r ≠ none) : ∃ y p, upb b n v = some y ∧ y < n ∧ 0 < p ∧ p ≤ n ∧ upb b p y = some y := by
  have all : ∀ m, m ≤ n → ∃ x, upb b m v = some x ∧ x < n := fun m hm => upb_all hb hv fun k hk => h k (by omega)
  obtain ⟨i, j, h1, h2, h3⟩ := php n (fun i => ((upb b i v).getD 0)) fun i hi => by
    obtain ⟨x, e, l⟩ := all i hi
    rw [e]; exact l
  obtain ⟨x, e1, l1⟩ := all i (by omega)
  obtain ⟨x', e2, l2⟩ := all j h2
  rw [e1, e2] at h3
  obtain rfl : x = x' := h3
  obtain ⟨y, e3, l3⟩ := all n (Nat.le_refl _)
  have c1 : upb b (j - i) x = some x := by
    have := upb_add b i (j - i) v
    rw [show i + (j - i) = j by omega, e1, e2] at this
    exact this.symm
  have c2 : upb b (n - i) x = some y := by
    have := upb_add b i (n - i) v
    rw [show i + (n - i) = n by omega, e1, e3] at this
    exact this.symm
  refine ⟨y, j - i, e3, l3, by omega, by omega, ?_⟩
  have d1 := upb_add b (n - i) (j - i) x
  have d2 := upb_add b (j - i) (n - i) x
  rw [c2] at d1
  rw [c1] at d2
  rw [Nat.add_comm, d2] at d1
  exact d1.symm.trans c2
def Bk (b : BS) : Nat → List Li → Nat → Prop
  | v, [], u => v = u
  | v, l :: cs, u => b v = some l ∧ Bk b l.tl cs u
theorem Bk.snoc {b : BS} {l : Li} : ∀ {cs : List Li} {v x : Nat}, Bk b v cs x → b x = some l → Bk b v (cs ++ [l]) l.tl
  | [], v, x, h, e => by
    obtain rfl : v = x := h
    exact ⟨e, rfl⟩
  | _ :: _, _, _, h, e => ⟨h.1, Bk.snoc h.2 e⟩
theorem Bk.up {b : BS} : ∀ {cs : List Li} {v x : Nat}, Bk b v cs x → upb b cs.length v = some x
  | [], v, x, h => congrArg some h
  | l :: cs, v, x, h => by
    show (b v).bind _ = _
    rw [h.1]
    exact Bk.up h.2
def bsum (A : Sg) (pr : Li → Mo) : List Li → Mo
  | [] => (0, 0)
  | l :: cs => madd (rk A (pr l)) (bsum A pr cs)
theorem Bk.ch {A : Sg} {pr : Li → Mo} {b : BS} : ∀ {cs : List Li} {v u : Nat}, Bk b v cs u → Ch A pr b cs.length v u (bsum A pr cs)
  | [], v, u, h => by
    obtain rfl : v = u := h
    exact .nil
  | _ :: _, _, _, h => .cons h.1 (Bk.ch h.2)
structure Arc where
  tl : Nat
  hd : Nat
  room : Option Mo
  price : Mo
def prL (arcs : List Arc) (l : Li) : Mo := match arcs[l.k]? with
  | some a => if l.fw then a.price else mneg a.price
  | none => (0, 0)
def openFrom : Nat → List Arc → List Li
  | _, [] => []
  | k, a :: as => if a.room = none then ⟨a.tl, a.hd, k, true⟩ :: openFrom (k + 1) as else openFrom (k + 1) as
def openL (arcs : List Arc) : List Li := openFrom 0 arcs
theorem mem_openFrom : ∀ {as : List Arc} {k : Nat} {l : Li}, l ∈ openFrom k as ↔ ∃ j a, as[j]? = some a ∧ a.room = none ∧ l = ⟨a.tl, a.hd, k + j, true⟩
  | [], k, l => by simp [openFrom]
  | a :: as, k, l => by
    have ih := mem_openFrom (as := as) (k := k + 1) (l := l)
    have key : (∃ j b, (a :: as)[j]? = some b ∧ b.room = none ∧ l = ⟨b.tl, b.hd, k + j, true⟩) ↔ ((a.room = none ∧ l = ⟨a.tl, a.hd, k, true⟩) ∨ ∃ j b, as[j]? = some b ∧ b.room = none ∧ l = ⟨b.tl, b.hd, k + 1 + j, true⟩) := by
      constructor
      · rintro ⟨j, b, h1, h2, h3⟩
        cases j with
        | zero =>
          obtain rfl : a = b := Option.some.inj h1
          exact .inl ⟨h2, h3⟩
        | succ j => exact .inr ⟨j, b, h1, h2, by rw [h3, show k + (j + 1) = k + 1 + j by omega]⟩
      · rintro (⟨h1, h2⟩ | ⟨j, b, h1, h2, h3⟩)
        · exact ⟨0, a, rfl, h1, h2⟩
        · exact ⟨j + 1, b, h1, h2, by rw [h3, show k + (j + 1) = k + 1 + j by omega]⟩
    unfold openFrom
    rw [key]
    by_cases q : a.room = none
    · rw [if_pos q, List.mem_cons, ih]
      simp [q]
    · rw [if_neg q, ih]
      simp [q]
theorem mem_openL {arcs : List Arc} {l : Li} : l ∈ openL arcs ↔ ∃ a, arcs[l.k]? = some a ∧ a.room = none ∧ l.tl = a.tl ∧ l.hd = a.hd ∧ l.fw = true := by
  unfold openL
  rw [mem_openFrom]
  constructor
  · rintro ⟨j, a, h1, h2, rfl⟩
    exact ⟨a, by simpa using h1, h2, rfl, rfl, rfl⟩
  · rintro ⟨a, h1, h2, h3, h4, h5⟩
    refine ⟨l.k, a, h1, h2, ?_⟩
    obtain ⟨t, h, k, f⟩ := l
    simp only at h3 h4 h5
    subst h3 h4 h5
    simp
def Pth (arcs : List Arc) : Nat → List Nat → Nat → Prop
  | u, [], v => u = v
  | u, k :: R, v => ∃ a, arcs[k]? = some a ∧ a.room = none ∧ a.tl = u ∧ Pth arcs a.hd R v
theorem Pth.app {arcs : List Arc} : ∀ {R S : List Nat} {u v x : Nat}, Pth arcs u R v → Pth arcs v S x → Pth arcs u (R ++ S) x
  | [], _, u, v, _, h, k => by
    obtain rfl : u = v := h
    exact k
  | _ :: _, _, _, _, _, ⟨a, h1, h2, h3, h4⟩, k => ⟨a, h1, h2, h3, Pth.app h4 k⟩
def arcSum (A : Sg) (arcs : List Arc) : List Nat → Mo
  | [] => (0, 0)
  | k :: R => madd (rk A (prL arcs ⟨0, 0, k, true⟩)) (arcSum A arcs R)
structure RingOk (A : Sg) (arcs : List Arc) (R : List Nat) : Prop where
  ne : R ≠ []
  cl : ∃ y, Pth arcs y R y
  neg : wlt (arcSum A arcs R) (0, 0)
end MV

namespace Prf
def liD (l : Li) : D := .tup [.int (l.tl : Nat), .int (l.hd : Nat), .int (l.k : Nat), .bl l.fw]
def olD : Option Li → D
  | none => .non
  | some l => liD l
def onD : Option Nat → D
  | none => .non
  | some v => .int (v : Nat)
def arcD (a : Arc) : D := .tup [.int (a.tl : Nat), .int (a.hd : Nat), omD a.room, pD a.price]
def hsD (n : Nat) (h : HS) : List D := (List.range n).map fun v => omD (h v)
def bsD (n : Nat) (b : BS) : List D := (List.range n).map fun v => olD (b v)
def sg (t : Rat) (ah : Bool) : Sg := ⟨t.num, t.den, ah⟩
theorem map_upf {α : Type} {n j : Nat} {f : Nat → α} {x : α} {g : α → D} (h : j < n) : ((List.range n).map fun v => g (f v)).set j (g x) = (List.range n).map fun v => g (upf f j x v) := by
  apply List.ext_getElem?
  intro i
  rw [List.getElem?_set, List.getElem?_map, List.getElem?_map]
  by_cases q : j = i
  · subst q
    rw [if_pos rfl, if_pos (by simpa using h), List.getElem?_range h]
    simp [upf_same]
  · rw [if_neg q]
    by_cases hi : i < n
    · rw [List.getElem?_range hi]
      simp [upf_ne (f := f) (x := x) (Ne.symm q)]
    · rw [List.getElem?_eq_none (by simp; omega)]; rfl
theorem hs_at {n v : Nat} {h : HS} (hv : v < n) : atI (hsD n h) (v : Int) = some (omD (h v)) := by
  rw [atI_n]; unfold hsD
  rw [List.getElem?_map, List.getElem?_range hv]; rfl
theorem arc_at {arcs : List Arc} {k : Nat} {a : Arc} (h : arcs[k]? = some a) : atI (arcs.map arcD) (k : Int) = some (arcD a) := by
  rw [atI_n, List.getElem?_map, h]; rfl
section
variable {M : Mem} {Q : DK} {X : XM}
theorem add_S {x y : Int × Int} (h : Q (pD (madd x y)) M) : w_add [pD x, pD y] M Q X := by
  unfold w_add wOf
  rw [show startE N_add [pD x, pD y] = [some (pD x), some (pD y)] from rfl]
  unfold m_add
  walk_at "ml"
  exact h
theorem turned_S {x : Int × Int} (h : Q (pD (mneg x)) M) : w_turned [pD x] M Q X := by
  unfold w_turned wOf
  rw [show startE N_turned [pD x] = [some (pD x)] from rfl]
  unfold m_turned
  walk_at "ml"
  exact h
theorem rank_S {m : Int × Int} {t : Rat} {ah : Bool} (hn : t.num.natAbs < 2 ^ 64) (hd : t.den < 2 ^ 64) (h : Q (pD (rk (sg t ah) m)) M) : w_rank [pD m, qD t, .bl ah] M Q X := by
  unfold w_rank wOf
  rw [show startE N_rank [pD m, qD t, .bl ah] = [some (pD m), some (qD t), some (.bl ah)] from rfl]
  unfold m_rank
  walk_at "ml"
  refine o_q1 ?_
  refine o_mul (mul_ok (by omega)) ?_
  walk_at "ml"
  refine o_q0 ?_
  refine o_mul (mul_ok (by omega)) ?_
  walk_at "ml"
  have key : ∀ z : Int, (z = if ah then m.2 else 0) → D.tup [.int (m.1 * (t.den : Int) + m.2 * t.num), .int z] = pD (rk (sg t ah) m) := fun z e => by subst e; rfl
  refine if_b (fun e => ?_) (fun e => ?_)
  · walk_at "ml"
    rw [key _ (by rw [e, if_pos rfl])]
    exact h
  · walk_at "ml"
    rw [key _ (by rw [e, if_neg Bool.false_ne_true])]
    exact h
theorem step_price_S {pa : Nat} {arcs : List Arc} {l : Li} {a : Arc} (ga : M[pa]? = some (.lst (arcs.map arcD))) (hk : arcs[l.k]? = some a) (h : Q (pD (prL arcs l)) M) : w_step_price [.ref pa, liD l] M Q X := by
  unfold w_step_price wOf
  rw [show startE N_step_price [.ref pa, liD l] = [some (.ref pa), some (liD l), none] from rfl]
  unfold m_step_price
  walk_at "sx"
  walk_at "sx"
  refine x_op (x_op (x_var rfl (x_op (x_var rfl (x_c (o_ixT (v := .int (l.k : Nat)) rfl (o_ixL ga (arc_at hk) (x_c (o_ixT (v := pD a.price) rfl ?_)))))))))
  have e : prL arcs l = if l.fw then a.price else mneg a.price := by unfold prL; rw [hk]
  walk_at "sx"
  refine x_ifE (x_tru (x_op ?_))
  refine x_var rfl (x_c ?_)
  refine o_ixT (v := .bl l.fw) rfl ?_
  refine o_truB ?_
  refine if_b (fun q => ?_) (fun q => ?_)
  · refine x_var rfl ?_
    rw [e, q, if_pos rfl] at h
    exact h
  · walk_at "ml"
    refine turned_S ?_
    rw [e, q, if_neg Bool.false_ne_true] at h
    exact h
end
end Prf

namespace Prf
def LiOk (n : Nat) (arcs : List Arc) (l : Li) : Prop := l.tl < n ∧ l.hd < n ∧ ∃ a, arcs[l.k]? = some a
def Se2 (t : Rat) : Prop := t.num.natAbs < 2 ^ 64 ∧ t.den < 2 ^ 64
theorem ltP_wlt {a b : Int × Int} : ltP a.1 a.2 b.1 b.2 = decide (wlt a b) := rfl
theorem relax_none {A : Sg} {pr : Li → Mo} {s : Sst} {l : Li} (e : s.h l.tl = none) : relax A pr s l = s := by unfold relax; rw [e]
theorem relax_some {A : Sg} {pr : Li → Mo} {s : Sst} {l : Li} {a : Mo} (e : s.h l.tl = some a) : relax A pr s l = if better A s.h l (madd a (pr l)) then ⟨upf s.h l.hd (some (madd a (pr l))), upf s.b l.hd (some l), some l.hd⟩ else s := by unfold relax; rw [e]
theorem l_settled {M : Mem} {Q : DK} {X : XM} {ph pl pa n : Nat} {t : Rat} {ah : Bool} {h0 : HS} {ls : List Li} {arcs : List Arc} (ht : Se2 t) (hn : n ≤ 1000) (gh : M[ph]? = some (.lst (hsD n h0))) (gl : M[pl]? = some (.lst (ls.map liD))) (ga : M[pa]? = some (.lst (arcs.map arcD))) (hl : ∀ l ∈ ls, LiOk n arcs l) (hll : ls.length ≤ 100000)
    (k : ∀ M' y1 y2 m s, Kp [] M M' → M.length ≤ y1 → M.length ≤ y2 → s = itr (sg t ah) (prL arcs) ls ⟨h0, fun _ => none, none⟩ m → m ≤ n → (s.mv ≠ none → m = n) → (m = 0 → n = 0) → M'[y1]? = some (.lst (hsD n s.h)) → M'[y2]? = some (.lst (bsD n s.b)) → Q (.tup [.ref y1, .ref y2, onD s.mv]) M') :
    w_settled [.ref ph, .ref pl, .ref pa, qD t, .bl ah] M Q X := by
  unfold w_settled wOf
  rw [show startE N_settled [.ref ph, .ref pl, .ref pa, qD t, .bl ah] = [some (.ref ph), some (.ref pl), some (.ref pa), some (qD t), some (.bl ah), none, none, none, none, none, none, none, none] from rfl]
  unfold m_settled
  walk_at "sx"
  walk_at "sx"
  walk_at "mq"
  have k1 : Kp [] M (M ++ [O.lst (hsD n h0)]) := .app
  have g1 : (M ++ [O.lst (hsD n h0)])[M.length]? = some (.lst (hsD n h0)) := mnew
  generalize hy1 : M.length = y1 at *
  generalize M ++ [O.lst (hsD n h0)] = M1 at *
  dsimp only
  walk_at "sx"
  walk_at "sx"
  walk_at "mq"
  have k2 : Kp [] M1 (M1 ++ [O.lst []]) := .app
  refine lc_ix (fun j acc M' => acc = List.replicate j D.non ∧ Kp [] M1 M') (fun _ _ _ h => h.2.at_ _ _ (by simp) g1) ?_ ?_ (by unfold hsD; simp; omega) mnew ⟨rfl, .app⟩
  · rintro j d acc M' K' hd hM ⟨rfl, k'⟩ hK
    refine x_c (hK _ _ hM ⟨by rw [List.replicate_succ'], ?_⟩)
    exact k'.setNew (Nat.le_refl _)
  rintro acc M2 hM ⟨rfl, k3⟩
  have lt2 := mlt hM
  have e1 := mlt g1
  have eb : List.replicate (hsD n h0).length D.non = bsD n (fun _ => none) := by
    unfold bsD hsD
    rw [List.length_map, List.length_range]
    apply List.ext_getElem?
    intro i
    by_cases hi : i < n
    · simp [hi, olD]
    · simp [hi]
  rw [eb] at hM
  have g1' := k3.at_ _ _ (by simp) g1
  have gl' := (k1.trans k3).at_ _ _ (by simp) gl
  have ga' := (k1.trans k3).at_ _ _ (by simp) ga
  have kk := k1.trans k3
  have ly2 : y1 ≤ M1.length := by omega
  have hne : y1 ≠ M1.length := by omega
  generalize hy2 : M1.length = y2 at *
  dsimp only
  walk_at "sx"
  walk_at "sx"
  walk_at "mq"
  have ltl := mlt gl
  have lta := mlt ga
  have lenh : (hsD n h0).length = n := by simp [hsD]
  let s0 : Sst := ⟨h0, fun _ => none, none⟩
  with_reducible refine x_join (fun ρ M' => ∃ m s, (∃ o8 o9 o10 o11 o12, ρ = [some (.ref y1), some (.ref pl), some (.ref pa), some (qD t), some (.bl ah), some (.ref y2), none, some (onD s.mv), o8, o9, o10, o11, o12]) ∧ s = itr (sg t ah) (prL arcs) ls s0 m ∧ m ≤ n ∧ (s.mv ≠ none → m = n) ∧ (m = 0 → n = 0) ∧ Kp [] M M' ∧ M'[y1]? = some (.lst (hsD n s.h)) ∧ M'[y2]? = some (.lst (bsD n s.b))) ?_ ?_
  · intro K hK
    walk_at "sx"
    walk_at "mq"
    rw [lenh]
    refine ⟨by omega, ?_⟩
    rw [show ((n : Nat) : Int).toNat = n by omega]
    refine for_ix (fun i ρ M' => ∃ s, (∃ o8 o9 o10 o11 o12, ρ = [some (.ref y1), some (.ref pl), some (.ref pa), some (qD t), some (.bl ah), some (.ref y2), none, some (onD s.mv), o8, o9, o10, o11, o12]) ∧ s = itr (sg t ah) (prL arcs) ls s0 i ∧ (i ≠ 0 → s.mv ≠ none) ∧ Kp [] M M' ∧ M'[y1]? = some (.lst (hsD n s.h)) ∧ M'[y2]? = some (.lst (bsD n s.b))) (fun _ _ _ _ => trivial) ?_ ?_ ⟨s0, ⟨_, _, _, _, _, rfl⟩, rfl, (fun h => (h rfl).elim), kk, g1', hM⟩
    · rintro ρ M' ⟨s, hρ, hs, hm, k', a1, a2⟩
      rw [rng_len] at hs hm
      exact hK _ _ ⟨n, s, hρ, hs, Nat.le_refl _, (fun _ => rfl), (fun h => h), k', a1, a2⟩
    · rintro i d ρ M' K' hd ⟨s, ⟨o8, o9, o10, o11, o12, rfl⟩, hs, hm, k', a1, a2⟩ hK'
      obtain ⟨rfl, hi⟩ := rng_at hd
      refine x_nm ?_
      walk_at "sx"
      walk_at "sx"
      walk_at "mq"
      have gl2 := k'.at_ _ _ (by simp) gl
      have ga2 := k'.at_ _ _ (by simp) ga
      have er : rnd (sg t ah) (prL arcs) ls s = ls.foldl (relax (sg t ah) (prL arcs)) ⟨s.h, s.b, none⟩ := rfl
      have es : rnd (sg t ah) (prL arcs) ls s = itr (sg t ah) (prL arcs) ls s0 (i + 1) := by rw [hs]; rfl
      rw [er] at es
      generalize hS1 : itr (sg t ah) (prL arcs) ls s0 (i + 1) = S1 at *
      with_reducible refine x_join (fun ρ M' => (∃ o8 o9 o10 o11 o12, ρ = [some (.ref y1), some (.ref pl), some (.ref pa), some (qD t), some (.bl ah), some (.ref y2), none, some (onD S1.mv), o8, o9, o10, o11, o12]) ∧ Kp [] M M' ∧ M'[y1]? = some (.lst (hsD n S1.h)) ∧ M'[y2]? = some (.lst (bsD n S1.b))) ?_ ?_
      · intro K2 hK2
        walk_at "sx"
        walk_at "mq"
        refine for_inv (fun l ρ M' => ∃ rest s, l = rest.map liD ∧ (∀ x ∈ rest, x ∈ ls) ∧ rest.foldl (relax (sg t ah) (prL arcs)) s = S1 ∧ (∃ o8 o9 o10 o11 o12, ρ = [some (.ref y1), some (.ref pl), some (.ref pa), some (qD t), some (.bl ah), some (.ref y2), none, some (onD s.mv), o8, o9, o10, o11, o12]) ∧ Kp [] M M' ∧ M'[y1]? = some (.lst (hsD n s.h)) ∧ M'[y2]? = some (.lst (bsD n s.b))) ?_ ?_ ?_ ⟨ls, ⟨s.h, s.b, none⟩, rfl, (fun _ h => h), es, ⟨_, _, _, _, _, rfl⟩, k', a1, a2⟩
        · rintro l ρ M' ⟨rest, s, _, _, _, _, k', _, _⟩
          exact k'.at_ _ _ (by simp) gl
        · rintro ρ M' ⟨rest, s, h1, _, h3, h4, h5, h6, h7⟩
          obtain rfl : rest = [] := by cases rest with | nil => rfl | cons a b => cases h1
          obtain rfl : s = S1 := h3
          exact hK2 _ _ ⟨h4, h5, h6, h7⟩
        · rintro d l ρ M' K3 ⟨rest, s, h1, h2, h3, ⟨p8, p9, p10, p11, p12, rfl⟩, h5, h6, h7⟩ hK3
          cases rest with
          | nil => cases h1
          | cons lk rest =>
            rw [List.map_cons] at h1
            injection h1 with h1 h1'
            subst h1 h1'
            obtain ⟨t1, t2, a, t3⟩ := hl lk (h2 lk (by simp))
            have ga3 := h5.at_ _ _ (by simp) ga
            have hr2 : ∀ x ∈ rest, x ∈ ls := fun x hx => h2 x (by simp [hx])
            rw [List.foldl_cons] at h3
            refine x_nm ?_
            walk_at "sx"
            refine x_par (x_cons (x_op (x_var rfl (x_c (o_ixT (v := .int (lk.tl : Nat)) rfl (x_cons (x_op (x_var rfl (x_c (o_ixT (v := .int (lk.hd : Nat)) rfl (x_nil ?_)))))))))))
            walk_at "sx"
            refine x_ifS (x_b (x_op (x_op (x_var rfl (x_var rfl (o_ixL h6 (hs_at t1) (x_c (o_isN ?_))))))))
            cases e : s.h lk.tl with
            | none =>
              refine if_t ?_
              show K3 _ _
              exact hK3 _ _ ⟨rest, s, rfl, hr2, by rw [relax_none e] at h3; exact h3, ⟨_, _, _, _, _, rfl⟩, h5, h6, h7⟩
            | some av =>
              refine if_f (x_next ?_)
              dsimp only
              walk_at "sx"
              refine x_set (x_call (x_argsP (x_cons (x_op (x_var rfl (x_var rfl (o_ixL h6 (hs_at t1) ?_)))))))
              refine x_cons (x_call (x_argsP (x_cons (x_var rfl (x_cons (x_var rfl (x_nil (x_len rfl rfl ?_))))))))
              refine step_price_S ga3 t3 ?_
              refine x_nil (x_len rfl rfl ?_)
              rw [e]
              refine add_S (x := av) ?_
              rw [relax_some e] at h3
              dsimp only
              refine x_ifS (x_or (x_b (x_op (x_op ?_))))
              refine x_var rfl (x_var rfl (o_ixL h6 (hs_at t2) (x_c (o_isN ?_))))
              have fin : ∀ {ρ : Ev} {M'' : Mem}, better (sg t ah) s.h lk (madd av (prL arcs lk)) = false → ρ = [some (.ref y1), some (.ref pl), some (.ref pa), some (qD t), some (.bl ah), some (.ref y2), none, some (onD s.mv), p8, some (liD lk), some (pD (madd av (prL arcs lk))), some (.int (lk.tl : Nat)), some (.int (lk.hd : Nat))] → M'' = M' → K3 ρ M'' := fun hb e1 e2 => by
                subst e1 e2
                rw [hb, if_neg Bool.false_ne_true] at h3
                exact hK3 _ _ ⟨rest, s, rfl, hr2, h3, ⟨_, _, _, _, _, rfl⟩, h5, h6, h7⟩
              have put : ∀ (rt : DK) (bk ct : Ev → Mem → Prop) (ex : Exn → Ev → Mem → Prop), better (sg t ah) s.h lk (madd av (prL arcs lk)) = true → mSeq (mSetIx (mVar 10) (mVar 0) (mVar 12)) (mSeq (mSetIx (mVar 9) (mVar 5) (mVar 12)) (mSet 7 (mVar 12))) ⟨K3, rt, bk, ct, ex⟩ [some (.ref y1), some (.ref pl), some (.ref pa), some (qD t), some (.bl ah), some (.ref y2), none, some (onD s.mv), p8, some (liD lk), some (pD (madd av (prL arcs lk))), some (.int (lk.tl : Nat)), some (.int (lk.hd : Nat))] M' := fun rt bk ct ex hb => by
                rw [hb, if_pos rfl] at h3
                walk_at "sx"
                refine x_setIx (x_var rfl (x_var rfl (x_var rfl (o_setL h6 (ixN_n (by simpa [hsD] using t2)) ?_))))
                have h6' : (M'.set y1 (.lst ((hsD n s.h).set lk.hd (pD (madd av (prL arcs lk))))))[y1]? = some (.lst (hsD n (upf s.h lk.hd (some (madd av (prL arcs lk)))))) := by
                  rw [msame h6]
                  congr 2
                  exact map_upf (g := omD) (x := some (madd av (prL arcs lk))) t2
                have h7' : (M'.set y1 (.lst ((hsD n s.h).set lk.hd (pD (madd av (prL arcs lk))))))[y2]? = some (.lst (bsD n s.b)) := by
                  rw [List.getElem?_set_ne hne]; exact h7
                have h5' : Kp [] M (M'.set y1 (.lst ((hsD n s.h).set lk.hd (pD (madd av (prL arcs lk)))))) := h5.setNew (by omega)
                generalize M'.set y1 (.lst ((hsD n s.h).set lk.hd (pD (madd av (prL arcs lk))))) = M3 at *
                walk_at "sx"
                refine x_setIx (x_var rfl (x_var rfl (x_var rfl (o_setL h7' (ixN_n (by simpa [bsD] using t2)) ?_))))
                have h7'' : (M3.set y2 (.lst ((bsD n s.b).set lk.hd (liD lk))))[y2]? = some (.lst (bsD n (upf s.b lk.hd (some lk)))) := by
                  rw [msame h7']
                  congr 2
                  exact map_upf (g := olD) (x := some lk) t2
                have h6'' : (M3.set y2 (.lst ((bsD n s.b).set lk.hd (liD lk))))[y1]? = some (.lst (hsD n (upf s.h lk.hd (some (madd av (prL arcs lk)))))) := by
                  rw [List.getElem?_set_ne (Ne.symm hne)]; exact h6'
                have h5'' : Kp [] M (M3.set y2 (.lst ((bsD n s.b).set lk.hd (liD lk)))) := h5'.setNew (by omega)
                generalize M3.set y2 (.lst ((bsD n s.b).set lk.hd (liD lk))) = M4 at *
                dsimp only
                refine x_set (x_var rfl ?_)
                exact hK3 _ _ ⟨rest, _, rfl, hr2, h3, ⟨_, _, _, _, _, rfl⟩, h5'', h6'', h7''⟩
              cases e2 : s.h lk.hd with
              | none =>
                refine if_t (if_t ?_)
                exact put _ _ _ _ (by unfold better; rw [e2])
              | some bv =>
                refine if_f (x_b (x_op ?_))
                refine x_call (x_argsP (x_cons ?_))
                refine x_var rfl (x_cons (x_var rfl (x_cons (x_var rfl (x_nil (x_len rfl rfl ?_))))))
                refine rank_S ht.1 ht.2 ?_
                refine x_call (x_argsP (x_cons (x_op (x_var rfl (x_var rfl (o_ixL h6 (hs_at t2) (x_cons (x_var rfl (x_cons (x_var rfl (x_nil (x_len rfl rfl ?_))))))))))))
                rw [e2]
                refine rank_S (m := bv) ht.1 ht.2 ?_
                refine o_ltP ?_
                rw [ltP_wlt]
                have eb : better (sg t ah) s.h lk (madd av (prL arcs lk)) = decide (wlt (rk (sg t ah) (madd av (prL arcs lk))) (rk (sg t ah) bv)) := by unfold better; rw [e2]
                rw [← eb]
                refine if_b (fun q => put _ _ _ _ q) (fun q => x_next (fin q rfl rfl))
      · rintro ρ M' ⟨⟨o8, o9, o10, o11, o12, rfl⟩, b1, b2, b3⟩
        refine x_ifS (x_b (x_op (x_var rfl (x_c (o_isN ?_)))))
        have hS := hS1.symm
        cases e : S1.mv with
        | none =>
          refine if_t ?_
          show K _ _
          exact hK _ _ ⟨i + 1, S1, ⟨_, _, _, _, _, by rw [e]⟩, (by first | exact hS | rfl), by omega, (fun h => (h e).elim), (fun h => by omega), b1, b2, b3⟩
        | some v =>
          refine if_f (x_next ?_)
          exact hK' _ _ ⟨S1, ⟨_, _, _, _, _, by rw [e]⟩, rfl, (fun _ => by rw [e]; simp), b1, b2, b3⟩
  · rintro ρ M' ⟨m, s, ⟨o8, o9, o10, o11, o12, rfl⟩, hs, hm, h1, h2, h3, h4, h5⟩
    refine x_ret (x_cb (x_cons (x_var rfl (x_cons (x_var rfl (x_cons (x_var rfl (x_nil ?_))))))))
    refine o_tup (Nat.le_of_ble_eq_true rfl) ?_
    exact k M' y1 y2 m s h3 (by omega) (by omega) hs hm h1 h2 h4 h5
end Prf

namespace Prf
theorem lc_filt {α : Type} {guard : Mem → Prop} {T : Tg} {tt : MT} {me : ME} {ρ : Ev} {n : Nat} {Q : Mem → Prop} {f g : α → D} {p : α → Bool} (I : Mem → Prop) (hI : ∀ M o, I M → I (M.set n o)) (hg : ∀ M, I M → guard M)
    (hs : ∀ (x : α) (M : Mem) (K : DK) (K0 : Mem → Prop), I M → (p x = true → K (g x) M) → (p x = false → K0 M) → T.mg (f x) ρ M fun ρ2 => tt ρ2 M (fun b M3 => if b = true then me ρ2 M3 K noX else K0 M3) noX) :
    ∀ (l : List α) (acc : List D) (M : Mem), M[n]? = some (.lst acc) → acc.length + l.length < 16000000 → I M → (∀ M', I M' → Kp [n] M M' → M'[n]? = some (.lst (acc ++ (l.filter p).map g)) → Q M') → mLcL guard T tt me ρ n Q (l.map f) M
  | [], acc, M, hn, _, hi, q => ⟨hg M hi, q M hi .refl (by simpa using hn)⟩
  | x :: l, acc, M, hn, hl, hi, q => by
    rw [List.length_cons] at hl
    refine ⟨hg M hi, hs x M _ _ hi (fun hp => ?_) (fun hp => ?_)⟩
    · rw [hn]
      refine ⟨by omega, lc_filt I hI hg hs l (acc ++ [g x]) _ (msame hn) (by simp; omega) (hI _ _ hi) fun M' i' k' h' => ?_⟩
      refine q M' i' ((Kp.set (by simp)).trans k') ?_
      rw [h', List.filter_cons_of_pos hp, List.map_cons, List.append_assoc]; rfl
    · refine lc_filt I hI hg hs l acc M hn (by omega) hi fun M' i' k' h' => ?_
      refine q M' i' k' ?_
      rw [h', List.filter_cons_of_neg (by simp [hp])]
def enumSK (k : List D → (Mem → Prop) → Mem → Prop) : List D → Mem → Prop := fun ds M1 => match ds with
  | [.ref n] => match M1[n]? with
    | some (.lst ds) => k (enumD ds) (fun M => M[n]? = some (.lst ds)) M1
    | _ => False
  | _ => False
theorem x_enumS {ma : MA} {ρ : Ev} {M : Mem} {k : List D → (Mem → Prop) → Mem → Prop} {X : XM} (h : ma ρ M (enumSK k) X) : mIEnumL ma ρ M k X := h
theorem enumS_at {M : Mem} {n : Nat} {ds : List D} {k : List D → (Mem → Prop) → Mem → Prop} (e : M[n]? = some (.lst ds)) (h : k (enumD ds) (fun M => M[n]? = some (.lst ds)) M) : enumSK k [.ref n] M := by
  unfold enumSK
  dsimp only
  rw [e]
  exact h
theorem enumD_zip {α : Type} {f : α → D} (l : List α) : enumD (l.map f) = l.zipIdx.map fun x => .tup [.int (x.2 : Nat), f x.1] := by
  unfold enumD
  apply List.ext_getElem?
  intro i
  rw [List.getElem?_mapIdx, List.getElem?_map, List.getElem?_map, List.getElem?_zipIdx]
  cases l[i]? <;> simp
theorem openFrom_zip : ∀ (arcs : List Arc) (k : Nat), openFrom k arcs = ((arcs.zipIdx k).filter fun x => x.1.room.isNone).map fun x => ⟨x.1.tl, x.1.hd, x.2, true⟩
  | [], k => rfl
  | a :: as, k => by
    rw [List.zipIdx_cons]
    unfold openFrom
    rw [openFrom_zip as (k + 1)]
    cases e : a.room with
    | none => rw [if_pos rfl, List.filter_cons_of_pos (by simp [e])]; rfl
    | some r => rw [if_neg (by simp), List.filter_cons_of_neg (by simp [e])]
theorem l_open_links {M : Mem} {Q : DK} {X : XM} {pa : Nat} {arcs : List Arc} (ga : M[pa]? = some (.lst (arcs.map arcD))) (hl : arcs.length ≤ 100000)
    (k : ∀ M', Kp [] M M' → M'[M.length]? = some (.lst ((openL arcs).map liD)) → Q (.ref M.length) M') : w_open_links [.ref pa] M Q X := by
  unfold w_open_links wOf
  rw [show startE N_open_links [.ref pa] = [some (.ref pa), none, none, none, none, none] from rfl]
  unfold m_open_links
  refine x_ret (x_lc ?_)
  refine x_enumS (x_cons (x_var rfl (x_nil (enumS_at ga ?_))))
  rw [enumD_zip]
  refine lc_filt (p := fun x : Arc × Nat => x.1.room.isNone) (g := fun x => liD ⟨x.1.tl, x.1.hd, x.2, true⟩) (fun M' => M'[pa]? = some (.lst (arcs.map arcD))) (fun M' o h => ?_) (fun M' h => h) (fun x M' K K0 hi h1 h2 => ?_) arcs.zipIdx [] _ mnew (by simp; omega) ((Kp.app (S := [])).at_ _ _ (by simp) ga) fun M' _ k' h' => ?_
  · have := mlt ga
    rw [List.getElem?_set_ne (by omega)]; exact h
  · obtain ⟨a, i⟩ := x
    refine x_tp rfl (x_tc (x_nm (x_tc ?_)))
    refine x_tp rfl (x_tc (x_nm (x_tc (x_nm (x_tc (x_nm (x_tc (x_nm (x_tn (x_tn ?_))))))))))
    refine x_b (x_op (x_var rfl (x_c (o_isN ?_))))
    cases er : a.room with
    | some r => exact if_f (h2 (by rw [er]; rfl))
    | none =>
    refine if_t ?_
    have e : (fun x : Arc × Nat => x.1.room.isNone) (a, i) = true := by show a.room.isNone = true; rw [er]; rfl
    refine x_cb (x_cons (x_var rfl (x_cons (x_var rfl (x_cons (x_var rfl (x_cons (x_c (x_nil ?_)))))))))
    refine o_tup (Nat.le_of_ble_eq_true rfl) (h1 e)
  · have lt := mlt ga
    refine k M' ?_ ?_
    · refine ⟨?_, fun j o _ q => ?_⟩
      · have := k'.len
        simp at this; omega
      · have := mlt q
        exact k'.at_ _ _ (by simp; omega) ((Kp.app (S := [])).at_ _ _ (by simp) q)
    · rw [h', List.nil_append]
      unfold openL
      rw [openFrom_zip, List.map_map]
      rfl
theorem openL_len (arcs : List Arc) : (openL arcs).length ≤ arcs.length := by
  unfold openL
  rw [openFrom_zip, List.length_map]
  exact Nat.le_trans (List.length_filter_le _ _) (by simp)
def ArcsOk (n : Nat) (arcs : List Arc) : Prop := ∀ a ∈ arcs, a.tl < n ∧ a.hd < n
theorem openL_ok {n : Nat} {arcs : List Arc} (h : ArcsOk n arcs) : ∀ l ∈ openL arcs, LiOk n arcs l := fun l hl => by
  obtain ⟨a, h1, h2, h3, h4, h5⟩ := mem_openL.mp hl
  obtain ⟨g1, g2⟩ := h a (List.mem_of_getElem? h1)
  exact ⟨by omega, by omega, a, h1⟩
def flatN (n : Nat) : HS := fun v => if v < n then some (0, 0) else none
theorem flat_D (n : Nat) : hsD n (flatN n) = (List.range n).map fun _ => pD (0, 0) := by
  unfold hsD
  apply List.map_congr_left
  intro v hv
  rw [List.mem_range] at hv
  unfold flatN
  rw [if_pos hv]; rfl
end Prf

namespace MV
theorem madd_l0 {a b c : Mo} : madd (madd a b) c = madd (madd a c) b := by unfold madd; exact Prod.ext (by dsimp only; omega) (by dsimp only; omega)
def msc (c : Int) (m : Mo) : Mo := (c * m.1, c * m.2)
theorem msc_zero {m : Mo} : msc 0 m = (0, 0) := by unfold msc; simp
theorem msc_one {m : Mo} : msc 1 m = m := by unfold msc; simp
theorem msc_o {c : Int} : msc c (0, 0) = (0, 0) := by unfold msc; simp
theorem msc_madd {c : Int} {a b : Mo} : msc c (madd a b) = madd (msc c a) (msc c b) := by
  unfold msc madd
  exact Prod.ext (by dsimp only; grind) (by dsimp only; grind)
theorem madd_msc {c d : Int} {a : Mo} : msc (c + d) a = madd (msc c a) (msc d a) := by
  unfold msc madd
  exact Prod.ext (by dsimp only; grind) (by dsimp only; grind)
theorem msc_neg {c : Int} {a : Mo} : msc c (mneg a) = msc (-c) a := by
  unfold msc mneg
  exact Prod.ext (by dsimp only; grind) (by dsimp only; grind)
theorem rk_msc (A : Sg) (c : Int) (a : Mo) : rk A (msc c a) = msc c (rk A a) := by
  unfold rk msc
  refine Prod.ext ?_ ?_
  · show c * a.1 * A.q + c * a.2 * A.p = c * (a.1 * A.q + a.2 * A.p)
    grind
  · show (if A.ah then c * a.2 else 0) = c * (if A.ah then a.2 else 0)
    split <;> simp
def fwdB (A : Sg) (a : Arc) (m : Mo) : Bool := match a.room with
  | none => true
  | some r => decide (wlt (0, 0) (rk A (mtake r m)))
def bwdB (A : Sg) (m : Mo) : Bool := decide (wlt (0, 0) (rk A m))
def leftF (A : Sg) : Nat → List Arc → List Mo → List Li
  | k, a :: as, m :: ms => (if fwdB A a m then [⟨a.tl, a.hd, k, true⟩] else []) ++ ((if bwdB A m then [⟨a.hd, a.tl, k, false⟩] else []) ++ leftF A (k + 1) as ms)
  | _, _, _ => []
def leftL (A : Sg) (as : List Arc) (ms : List Mo) : List Li := leftF A 0 as ms
def Lnk (A : Sg) (as : List Arc) (ms : List Mo) (l : Li) : Prop := ∃ a m, as[l.k]? = some a ∧ ms[l.k]? = some m ∧ ((l.fw = true ∧ l.tl = a.tl ∧ l.hd = a.hd ∧ fwdB A a m = true) ∨ (l.fw = false ∧ l.tl = a.hd ∧ l.hd = a.tl ∧ bwdB A m = true))
theorem mem_leftF {A : Sg} : ∀ {as : List Arc} {ms : List Mo} {k : Nat} {l : Li}, l ∈ leftF A k as ms ↔ ∃ j a m, l.k = k + j ∧ as[j]? = some a ∧ ms[j]? = some m ∧ ((l.fw = true ∧ l.tl = a.tl ∧ l.hd = a.hd ∧ fwdB A a m = true) ∨ (l.fw = false ∧ l.tl = a.hd ∧ l.hd = a.tl ∧ bwdB A m = true))
  | [], ms, k, l => by
    constructor
    · intro h; cases ms <;> simp [leftF] at h
    · rintro ⟨j, a, m, _, h, _⟩; simp at h
  | a :: as, [], k, l => by
    constructor
    · intro h; simp [leftF] at h
    · rintro ⟨j, a, m, _, _, h, _⟩; simp at h
  | a :: as, m :: ms, k, l => by
    unfold leftF
    rw [List.mem_append, List.mem_append, mem_leftF]
    constructor
    · rintro (h | h | ⟨j, a', m', h1, h2, h3, h4⟩)
      · split at h
        · rename_i q
          rw [List.mem_singleton] at h
          subst h
          exact ⟨0, a, m, rfl, rfl, rfl, .inl ⟨rfl, rfl, rfl, q⟩⟩
        · cases h
      · split at h
        · rename_i q
          rw [List.mem_singleton] at h
          subst h
          exact ⟨0, a, m, rfl, rfl, rfl, .inr ⟨rfl, rfl, rfl, q⟩⟩
        · cases h
      · exact ⟨j + 1, a', m', by omega, h2, h3, h4⟩
    · rintro ⟨j, a', m', h1, h2, h3, h4⟩
      cases j with
      | zero =>
        simp only [List.getElem?_cons_zero, Option.some.injEq] at h2 h3
        subst h2 h3
        rcases h4 with ⟨q1, q2, q3, q4⟩ | ⟨q1, q2, q3, q4⟩
        · left
          rw [if_pos q4, List.mem_singleton]
          obtain ⟨x, y, z, w⟩ := l
          dsimp only at *
          subst q1 q2 q3
          rw [h1]; rfl
        · right; left
          rw [if_pos q4, List.mem_singleton]
          obtain ⟨x, y, z, w⟩ := l
          dsimp only at *
          subst q1 q2 q3
          rw [h1]; rfl
      | succ j =>
        right; right
        simp only [List.getElem?_cons_succ] at h2 h3
        exact ⟨j, a', m', by omega, h2, h3, h4⟩
theorem mem_leftL {A : Sg} {as : List Arc} {ms : List Mo} {l : Li} : l ∈ leftL A as ms ↔ Lnk A as ms l := by
  unfold leftL Lnk
  rw [mem_leftF]
  constructor
  · rintro ⟨j, a, m, h1, h2, h3, h4⟩
    rw [Nat.zero_add] at h1
    exact ⟨a, m, by rw [h1]; exact h2, by rw [h1]; exact h3, h4⟩
  · rintro ⟨a, m, h2, h3, h4⟩
    exact ⟨l.k, a, m, by omega, h2, h3, h4⟩
def Wy (L : Li → Prop) : Nat → List Li → Nat → Prop
  | u, [], v => u = v
  | u, l :: P, v => L l ∧ l.tl = u ∧ Wy L l.hd P v
theorem Wy.snoc {L : Li → Prop} {l : Li} (hl : L l) : ∀ {P : List Li} {u : Nat}, Wy L u P l.tl → Wy L u (P ++ [l]) l.hd
  | [], u, h => ⟨hl, h.symm, rfl⟩
  | _ :: _, _, h => ⟨h.1, h.2.1, Wy.snoc hl h.2.2⟩
theorem Wy.imp {L L' : Li → Prop} (i : ∀ l, L l → L' l) : ∀ {P : List Li} {u v : Nat}, Wy L u P v → Wy L' u P v
  | [], _, _, h => h
  | _ :: _, _, _, h => ⟨i _ h.1, h.2.1, Wy.imp i h.2.2⟩
theorem Wy.all {L : Li → Prop} : ∀ {P : List Li} {u v : Nat}, Wy L u P v → ∀ l ∈ P, L l
  | l :: P, _, _, h, x, hx => by
    rcases List.mem_cons.mp hx with rfl | hx
    · exact h.1
    · exact Wy.all h.2.2 x hx
theorem Wy.le {L : Li → Prop} {lv : Nat → Nat} (h : ∀ l, L l → lv l.hd ≤ lv l.tl + 1) : ∀ {P : List Li} {u v : Nat}, Wy L u P v → lv v ≤ lv u + P.length
  | [], u, v, e => by
    have e : u = v := e
    subst e; simp
  | l :: P, u, v, ⟨h1, h2, h3⟩ => by
    have := Wy.le h h3
    have := h l h1
    rw [h2] at this
    simp only [List.length_cons]
    omega
theorem Wy.tight {L : Li → Prop} {lv : Nat → Nat} (h : ∀ l, L l → lv l.hd ≤ lv l.tl + 1) : ∀ {P : List Li} {u v : Nat}, Wy L u P v → lv v = lv u + P.length → ∀ l ∈ P, lv l.hd = lv l.tl + 1
  | l :: P, u, v, ⟨h1, h2, h3⟩, e, x, hx => by
    have a := Wy.le h h3
    have b := h l h1
    rw [h2] at b
    simp only [List.length_cons] at e
    have e1 : lv l.hd = lv u + 1 := by omega
    rcases List.mem_cons.mp hx with rfl | hx
    · rw [h2]; exact e1
    · exact Wy.tight h h3 (by omega) x hx
theorem Wy.nodup {A : Sg} {as : List Arc} {ms : List Mo} {lv : Nat → Nat} : ∀ {P : List Li} {u v : Nat}, Wy (Lnk A as ms) u P v → (∀ l ∈ P, lv l.hd = lv l.tl + 1) → (P.map (·.k)).Nodup ∧ ∀ l ∈ P, lv u ≤ lv l.tl
  | [], _, _, _, _ => ⟨List.nodup_nil, fun _ h => by cases h⟩
  | l :: P, u, v, ⟨h1, h2, h3⟩, hl => by
    have e0 := hl l (by simp)
    obtain ⟨n1, n2⟩ := Wy.nodup h3 fun x hx => hl x (by simp [hx])
    rw [h2] at e0
    refine ⟨?_, fun x hx => ?_⟩
    · rw [List.map_cons, List.nodup_cons]
      refine ⟨fun hm => ?_, n1⟩
      obtain ⟨x, hx, ex⟩ := List.mem_map.mp hm
      have g := n2 x hx
      have gx := hl x (by simp [hx])
      obtain ⟨a, m, a1, a2, a3⟩ := h1
      obtain ⟨b, m', b1, b2, b3⟩ := h3.all x hx
      rw [ex, a1] at b1
      cases b1
      rcases a3 with ⟨-, q1, q2, -⟩ | ⟨-, q1, q2, -⟩ <;> rcases b3 with ⟨-, r1, r2, -⟩ | ⟨-, r1, r2, -⟩
      · rw [r1, ← q1, h2] at g; omega
      · rw [r1, r2, ← q1, ← q2, h2] at gx; omega
      · rw [r1, r2, ← q1, ← q2, h2] at gx; omega
      · rw [r1, ← q1, h2] at g; omega
    · rcases List.mem_cons.mp hx with rfl | hx
      · rw [h2]; exact Nat.le_refl _
      · have := n2 x hx; omega
def exW (φ : Nat → Int) : List Arc → List Mo → Mo
  | a :: as, m :: ms => madd (msc (φ a.hd - φ a.tl) m) (exW φ as ms)
  | _, _ => (0, 0)
theorem exW_set {φ : Nat → Int} : ∀ {as : List Arc} {ms : List Mo} {k : Nat} {a : Arc} {m x : Mo}, as[k]? = some a → ms[k]? = some m → exW φ as (ms.set k (madd m x)) = madd (exW φ as ms) (msc (φ a.hd - φ a.tl) x)
  | a :: as, m :: ms, 0, _, _, x, h1, h2 => by
    simp only [List.getElem?_cons_zero, Option.some.injEq] at h1 h2
    subst h1 h2
    show madd (msc _ (madd m x)) (exW φ as ms) = madd (madd (msc _ m) (exW φ as ms)) _
    rw [msc_madd, madd_l0]
  | a :: as, m :: ms, k + 1, b, m', x, h1, h2 => by
    simp only [List.getElem?_cons_succ] at h1 h2
    show madd (msc _ m) (exW φ as (ms.set k (madd m' x))) = madd (madd (msc _ m) (exW φ as ms)) _
    rw [exW_set h1 h2, madd_assoc]
theorem exW_zero {φ : Nat → Int} : ∀ {as : List Arc} {ms : List Mo}, (∀ m ∈ ms, m = (0, 0)) → exW φ as ms = (0, 0)
  | [], ms, _ => by cases ms <;> rfl
  | _ :: _, [], _ => rfl
  | a :: as, m :: ms, h => by
    show madd (msc _ m) (exW φ as ms) = _
    rw [h m (by simp), msc_o, zero_madd, exW_zero fun x hx => h x (by simp [hx])]
def pu1 (x : Mo) (ms : List Mo) (l : Li) : List Mo := ms.set l.k (madd (ms.getD l.k (0, 0)) (if l.fw = true then x else mneg x))
def puL (x : Mo) (ms : List Mo) (P : List Li) : List Mo := P.foldl (pu1 x) ms
theorem pu1_len {x : Mo} {ms : List Mo} {l : Li} : (pu1 x ms l).length = ms.length := by unfold pu1; rw [List.length_set]
theorem puL_len {x : Mo} : ∀ {P : List Li} {ms : List Mo}, (puL x ms P).length = ms.length
  | [], _ => rfl
  | l :: P, ms => by
    show (puL x (pu1 x ms l) P).length = _
    rw [puL_len, pu1_len]
theorem getD_some {α : Type} {l : List α} {k : Nat} {a d : α} (h : l[k]? = some a) : l.getD k d = a := by rw [List.getD_eq_getElem?_getD, h]; rfl
theorem puL_off {x : Mo} : ∀ {P : List Li} {ms : List Mo} {k : Nat}, k ∉ P.map (·.k) → (puL x ms P)[k]? = ms[k]?
  | [], _, _, _ => rfl
  | l :: P, ms, k, h => by
    simp only [List.map_cons, List.mem_cons, not_or] at h
    show (puL x (pu1 x ms l) P)[k]? = _
    rw [puL_off h.2]
    unfold pu1
    rw [List.getElem?_set_ne (Ne.symm h.1)]
theorem puL_on {x : Mo} : ∀ {P : List Li} {ms : List Mo} {l : Li} {m : Mo}, (P.map (·.k)).Nodup → l ∈ P → ms[l.k]? = some m → (puL x ms P)[l.k]? = some (madd m (if l.fw = true then x else mneg x))
  | y :: P, ms, l, m, nd, hl, hm => by
    rw [List.map_cons, List.nodup_cons] at nd
    show (puL x (pu1 x ms y) P)[l.k]? = _
    rcases List.mem_cons.mp hl with rfl | hl
    · rw [puL_off nd.1]
      unfold pu1
      rw [List.getElem?_set_self (List.getElem?_eq_some_iff.mp hm).1, getD_some hm]
    · refine puL_on nd.2 hl ?_
      unfold pu1
      rw [List.getElem?_set_ne (fun e => nd.1 (by rw [e]; exact List.mem_map_of_mem hl))]
      exact hm
theorem puL_ex {φ : Nat → Int} {A : Sg} {as : List Arc} {x : Mo} : ∀ {P : List Li} {ms ms0 : List Mo} {u v : Nat}, ms.length = ms0.length → Wy (Lnk A as ms0) u P v → exW φ as (puL x ms P) = madd (exW φ as ms) (msc (φ v - φ u) x)
  | [], ms, ms0, u, v, _, h => by
    have h : u = v := h
    subst h
    show exW φ as ms = _
    rw [Int.sub_self, msc_zero, madd_zero]
  | l :: P, ms, ms0, u, v, hl, ⟨⟨a, m0, h1, h2, h3⟩, h4, h5⟩ => by
    have lk : l.k < ms.length := by rw [hl]; exact (List.getElem?_eq_some_iff.mp h2).1
    have hm : ms[l.k]? = some ms[l.k] := List.getElem?_eq_getElem lk
    show exW φ as (puL x (pu1 x ms l) P) = _
    rw [puL_ex (by rw [pu1_len]; exact hl) h5]
    unfold pu1
    rw [getD_some hm, exW_set h1 hm, madd_assoc]
    congr 1
    rcases h3 with ⟨f, e1, e2, -⟩ | ⟨f, e1, e2, -⟩
    · rw [if_pos f, ← e1, ← e2, h4, ← madd_msc]
      congr 1; omega
    · rw [if_neg (show ¬ l.fw = true by rw [f]; decide), msc_neg, ← e1, ← e2, h4, ← madd_msc]
      congr 1; omega
def BdL (A : Sg) (as : List Arc) (ms : List Mo) : Prop := ∀ (k : Nat) (a : Arc) (m : Mo), as[k]? = some a → ms[k]? = some m → wle (0, 0) (rk A m) ∧ ∀ r, a.room = some r → wle (rk A m) (rk A r)
def capL (as : List Arc) (ms : List Mo) (l : Li) : Option Mo := if l.fw = true then ((as[l.k]?).bind (·.room)).map fun r => mtake r (ms.getD l.k (0, 0)) else some (ms.getD l.k (0, 0))
theorem cap_pos {A : Sg} {as : List Arc} {ms : List Mo} {l : Li} (h : Lnk A as ms l) {c : Mo} (hc : capL as ms l = some c) : wlt (0, 0) (rk A c) := by
  obtain ⟨a, m, h1, h2, h3⟩ := h
  unfold capL at hc
  rcases h3 with ⟨f, -, -, q⟩ | ⟨f, -, -, q⟩
  · rw [if_pos f, h1, getD_some h2] at hc
    unfold fwdB at q
    cases er : a.room with
    | none => rw [Option.bind_some, er] at hc; cases hc
    | some r =>
      rw [Option.bind_some, er] at hc
      cases hc
      rw [er] at q
      exact of_decide_eq_true q
  · rw [if_neg (show ¬ l.fw = true by rw [f]; decide), getD_some h2] at hc
    cases hc
    exact of_decide_eq_true q
theorem mneg_add {a b : Mo} : madd a (mneg b) = mtake a b := by unfold madd mneg mtake; exact Prod.ext (by dsimp only; omega) (by dsimp only; omega)
theorem puL_bd {A : Sg} {as : List Arc} {ms : List Mo} {x : Mo} {P : List Li} {u v : Nat} (B : BdL A as ms) (W : Wy (Lnk A as ms) u P v) (nd : (P.map (·.k)).Nodup) (x0 : wle (0, 0) (rk A x)) (hx : ∀ l ∈ P, ∀ c, capL as ms l = some c → wle (rk A x) (rk A c)) : BdL A as (puL x ms P) := by
  intro k a m h1 h2
  by_cases hk : k ∈ P.map (·.k)
  · obtain ⟨l, hl, rfl⟩ := List.mem_map.mp hk
    obtain ⟨a', m0, g1, g2, g3⟩ := W.all l hl
    rw [h1] at g1
    cases g1
    rw [puL_on nd hl g2] at h2
    cases h2
    obtain ⟨b1, b2⟩ := B l.k a m0 h1 g2
    have hc := hx l hl
    unfold capL at hc
    rcases g3 with ⟨f, -, -, -⟩ | ⟨f, -, -, -⟩
    · rw [if_pos f] at hc
      rw [if_pos f, rk_add]
      rw [h1, getD_some g2, Option.bind_some] at hc
      refine ⟨?_, fun r hr => ?_⟩
      · unfold wle madd at *; dsimp only at *; omega
      · rw [hr] at hc
        have := hc _ rfl
        rw [rk_take] at this
        unfold wle madd mtake at *; dsimp only at *; omega
    · rw [if_neg (show ¬ l.fw = true by rw [f]; decide)] at hc
      rw [if_neg (show ¬ l.fw = true by rw [f]; decide), rk_add, rk_neg]
      rw [getD_some g2] at hc
      have := hc _ rfl
      refine ⟨?_, fun r hr => ?_⟩
      · unfold wle madd mneg at *; dsimp only at *; omega
      · have := b2 r hr
        unfold wle madd mneg at *; dsimp only at *; omega
  · rw [puL_off hk] at h2
    exact B k a m h1 h2
def lv1 (A : Sg) (ok : Nat → Bool) (lv : Nat → Nat) (k : Nat) (a : Arc) (m : Mo) : Nat :=
  (if ok k = true ∧ fwdB A a m = true ∧ lv a.hd = lv a.tl + 1 then 1 else 0) + (if ok k = true ∧ bwdB A m = true ∧ lv a.tl = lv a.hd + 1 then 1 else 0)
def lvC (A : Sg) (ok : Nat → Bool) (lv : Nat → Nat) : Nat → List Arc → List Mo → Nat
  | k, a :: as, m :: ms => lv1 A ok lv k a m + lvC A ok lv (k + 1) as ms
  | _, _, _ => 0
theorem lv1_le {A : Sg} {ok : Nat → Bool} {lv : Nat → Nat} {k : Nat} {a : Arc} {m : Mo} : lv1 A ok lv k a m ≤ 1 := by
  unfold lv1
  split <;> split <;> omega
theorem lvC_le {A : Sg} {ok : Nat → Bool} {lv : Nat → Nat} : ∀ {as : List Arc} {ms : List Mo} {k : Nat}, lvC A ok lv k as ms ≤ as.length
  | [], ms, _ => by cases ms <;> simp [lvC]
  | _ :: _, [], _ => by simp [lvC]
  | a :: as, m :: ms, k => by
    have := lvC_le (A := A) (ok := ok) (lv := lv) (as := as) (ms := ms) (k := k + 1)
    have := lv1_le (A := A) (ok := ok) (lv := lv) (k := k) (a := a) (m := m)
    show lv1 A ok lv k a m + lvC A ok lv (k + 1) as ms ≤ as.length + 1
    omega
theorem lvC_mono {A : Sg} {ok : Nat → Bool} {lv : Nat → Nat} : ∀ {as : List Arc} {ms ms' : List Mo} {k : Nat}, ms'.length = ms.length → (∀ j a m m', as[j]? = some a → ms[j]? = some m → ms'[j]? = some m' → lv1 A ok lv (k + j) a m' ≤ lv1 A ok lv (k + j) a m) →
    lvC A ok lv k as ms' ≤ lvC A ok lv k as ms ∧ ((∃ j a m m', as[j]? = some a ∧ ms[j]? = some m ∧ ms'[j]? = some m' ∧ lv1 A ok lv (k + j) a m' < lv1 A ok lv (k + j) a m) → lvC A ok lv k as ms' < lvC A ok lv k as ms)
  | [], ms, ms', _, _, _ => by
    refine ⟨by cases ms <;> cases ms' <;> simp [lvC], ?_⟩
    rintro ⟨j, a, m, m', h, _⟩
    simp at h
  | _ :: _, [], ms', _, e, _ => by
    obtain rfl : ms' = [] := List.eq_nil_of_length_eq_zero e
    refine ⟨by simp [lvC], ?_⟩
    rintro ⟨j, a, m, m', _, h, _⟩
    simp at h
  | _ :: _, _ :: _, [], _, e, _ => by simp at e
  | a :: as, m :: ms, m' :: ms', k, e, h => by
    have h0 : lv1 A ok lv k a m' ≤ lv1 A ok lv k a m := h 0 a m m' rfl rfl rfl
    obtain ⟨i1, i2⟩ := lvC_mono (as := as) (ms := ms) (ms' := ms') (k := k + 1) (by simpa using e) fun j b n n' g1 g2 g3 => by
      have := h (j + 1) b n n' (by simpa using g1) (by simpa using g2) (by simpa using g3)
      rw [show k + (j + 1) = k + 1 + j by omega] at this
      exact this
    show lv1 A ok lv k a m' + lvC A ok lv (k + 1) as ms' ≤ lv1 A ok lv k a m + lvC A ok lv (k + 1) as ms ∧ (_ → lv1 A ok lv k a m' + lvC A ok lv (k + 1) as ms' < lv1 A ok lv k a m + lvC A ok lv (k + 1) as ms)
    refine ⟨by omega, ?_⟩
    rintro ⟨j, b, n, n', g1, g2, g3, g4⟩
    cases j with
    | zero =>
      simp only [List.getElem?_cons_zero, Option.some.injEq] at g1 g2 g3
      subst g1 g2 g3
      rw [Nat.add_zero] at g4
      omega
    | succ j =>
      have := i2 ⟨j, b, n, n', by simpa using g1, by simpa using g2, by simpa using g3, by rw [show k + 1 + j = k + (j + 1) by omega]; exact g4⟩
      omega
def LnkO (A : Sg) (as : List Arc) (ms : List Mo) (ok : Nat → Bool) (l : Li) : Prop := Lnk A as ms l ∧ ok l.k = true
def LipL (A : Sg) (as : List Arc) (ms : List Mo) (ok : Nat → Bool) (lv : Nat → Nat) : Prop := ∀ l, LnkO A as ms ok l → lv l.hd ≤ lv l.tl + 1
theorem push_lip {A : Sg} {as : List Arc} {ms : List Mo} {ok : Nat → Bool} {lv : Nat → Nat} {x : Mo} {P : List Li} {u v : Nat} (W : Wy (LnkO A as ms ok) u P v) (hl : ∀ l ∈ P, lv l.hd = lv l.tl + 1) (L : LipL A as ms ok lv)
    (hc : ∃ l ∈ P, capL as ms l = some x) : LipL A as (puL x ms P) ok lv ∧ lvC A ok lv 0 as (puL x ms P) < lvC A ok lv 0 as ms := by
  have W0 : Wy (Lnk A as ms) u P v := W.imp fun _ h => h.1
  have nd := (W0.nodup hl).1
  -- a load at a place, ahead and behind
  have key : ∀ k a m, as[k]? = some a → (puL x ms P)[k]? = some m → (ms[k]? = some m ∧ k ∉ P.map (·.k)) ∨ ∃ l ∈ P, l.k = k ∧ ok k = true ∧ ∃ m0, ms[k]? = some m0 ∧ m = madd m0 (if l.fw = true then x else mneg x) ∧ ((l.fw = true ∧ l.tl = a.tl ∧ l.hd = a.hd ∧ fwdB A a m0 = true ∧ lv a.hd = lv a.tl + 1) ∨ (l.fw = false ∧ l.tl = a.hd ∧ l.hd = a.tl ∧ bwdB A m0 = true ∧ lv a.tl = lv a.hd + 1)) := fun k a m h1 h2 => by
    by_cases hk : k ∈ P.map (·.k)
    · right
      obtain ⟨l, hlP, rfl⟩ := List.mem_map.mp hk
      obtain ⟨⟨a', m0, g1, g2, g3⟩, g4⟩ := W.all l hlP
      rw [h1] at g1
      cases g1
      rw [puL_on nd hlP g2] at h2
      have e := hl l hlP
      refine ⟨l, hlP, rfl, g4, m0, g2, (Option.some.inj h2).symm, ?_⟩
      rcases g3 with ⟨f, e1, e2, q⟩ | ⟨f, e1, e2, q⟩
      · exact .inl ⟨f, e1, e2, q, by rw [← e1, ← e2]; exact e⟩
      · exact .inr ⟨f, e1, e2, q, by rw [← e1, ← e2]; exact e⟩
    · exact .inl ⟨by rw [puL_off hk] at h2; exact h2, hk⟩
  refine ⟨fun l hlk => ?_, ?_⟩
  · obtain ⟨⟨a, m, h1, h2, h3⟩, h4⟩ := hlk
    rcases key l.k a m h1 h2 with ⟨g, -⟩ | ⟨l0, hl0, ek, eo, m0, g1, g2, g3⟩
    · exact L l ⟨⟨a, m, h1, g, h3⟩, h4⟩
    · rcases h3 with ⟨f, e1, e2, q⟩ | ⟨f, e1, e2, q⟩ <;> rcases g3 with ⟨f0, t0, d0, q0, v0⟩ | ⟨f0, t0, d0, q0, v0⟩ <;> rw [e1, e2] <;> omega
  · refine (lvC_mono puL_len fun j a m m' h1 h2 h3 => ?_).2 ?_
    · rw [Nat.zero_add]
      rcases key j a m' h1 h3 with ⟨g, -⟩ | ⟨l0, hl0, ek, eo, m0, g1, g2, g3⟩
      · rw [h2] at g; cases g; exact Nat.le_refl _
      · rw [h2] at g1
        cases g1
        unfold lv1
        rcases g3 with ⟨f0, t0, d0, q0, v0⟩ | ⟨f0, t0, d0, q0, v0⟩
        · rw [if_pos (show ok j = true ∧ fwdB A a m = true ∧ lv a.hd = lv a.tl + 1 from ⟨eo, q0, v0⟩), if_neg (show ¬ (ok j = true ∧ bwdB A m' = true ∧ lv a.tl = lv a.hd + 1) from fun h => by omega)]
          split <;> omega
        · rw [if_neg (show ¬ (ok j = true ∧ fwdB A a m' = true ∧ lv a.hd = lv a.tl + 1) from fun h => by omega), if_pos (show ok j = true ∧ bwdB A m = true ∧ lv a.tl = lv a.hd + 1 from ⟨eo, q0, v0⟩)]
          split <;> omega
    · obtain ⟨l, hlP, hcap⟩ := hc
      obtain ⟨⟨a, m, g1, g2, g3⟩, g4⟩ := W.all l hlP
      have e := hl l hlP
      refine ⟨l.k, a, m, _, g1, g2, puL_on nd hlP g2, ?_⟩
      rw [Nat.zero_add]
      unfold capL at hcap
      unfold lv1
      rcases g3 with ⟨f, e1, e2, q⟩ | ⟨f, e1, e2, q⟩
      · rw [if_pos f] at hcap ⊢
        rw [g1, getD_some g2, Option.bind_some] at hcap
        rw [e1, e2] at e
        cases er : a.room with
        | none => rw [er] at hcap; cases hcap
        | some r =>
          rw [er] at hcap
          have hx : mtake r m = x := Option.some.inj hcap
          have z : fwdB A a (madd m x) = false := by
            unfold fwdB
            rw [er]
            refine decide_eq_false fun h => ?_
            rw [show mtake r (madd m x) = (0, 0) by rw [← hx]; unfold mtake madd; exact Prod.ext (by dsimp only; omega) (by dsimp only; omega), rk_zero] at h
            exact wlt_irrefl h
          rw [z, if_pos (show ok l.k = true ∧ fwdB A a m = true ∧ lv a.hd = lv a.tl + 1 from ⟨g4, q, e⟩), if_neg (show ¬ (ok l.k = true ∧ false = true ∧ lv a.hd = lv a.tl + 1) from fun h => by cases h.2.1), if_neg (show ¬ (ok l.k = true ∧ bwdB A (madd m x) = true ∧ lv a.tl = lv a.hd + 1) from fun h => by omega)]
          omega
      · rw [if_neg (show ¬ l.fw = true by rw [f]; decide)] at hcap ⊢
        rw [getD_some g2] at hcap
        have hx : m = x := Option.some.inj hcap
        rw [e1, e2] at e
        have z : bwdB A (madd m (mneg x)) = false := by
          unfold bwdB
          refine decide_eq_false fun h => ?_
          rw [show madd m (mneg x) = (0, 0) by rw [← hx]; unfold madd mneg; exact Prod.ext (by dsimp only; omega) (by dsimp only; omega), rk_zero] at h
          exact wlt_irrefl h
        rw [z, if_pos (show ok l.k = true ∧ bwdB A m = true ∧ lv a.tl = lv a.hd + 1 from ⟨g4, q, e⟩), if_neg (show ¬ (ok l.k = true ∧ false = true ∧ lv a.tl = lv a.hd + 1) from fun h => by cases h.2.1), if_neg (show ¬ (ok l.k = true ∧ fwdB A a (madd m (mneg x)) = true ∧ lv a.hd = lv a.tl + 1) from fun h => by omega)]
        omega
structure CmOk (L : Li → Prop) (st N : Nat) (cm : List (Nat × Option Li)) (lv : Nat → Nat) : Prop where
  hd : cm[0]? = some (st, none)
  nd : (cm.map (·.1)).Nodup
  lt : ∀ x ∈ cm, x.1 < N
  lk : ∀ (i v : Nat) (l : Li), cm[i]? = some (v, some l) → L l ∧ l.hd = v ∧ lv v = lv l.tl + 1 ∧ ∃ j : Nat, j < i ∧ (cm.map (·.1))[j]? = some l.tl
  no : ∀ (i v : Nat), cm[i]? = some (v, none) → v = st ∧ i = 0
  l0 : lv st = 0
theorem CmOk.way {L : Li → Prop} {st N : Nat} {cm : List (Nat × Option Li)} {lv : Nat → Nat} (C : CmOk L st N cm lv) : ∀ (i : Nat) {v : Nat}, (cm.map (·.1))[i]? = some v → ∃ P, Wy L st P v ∧ (∀ l ∈ P, lv l.hd = lv l.tl + 1) ∧ lv v = P.length ∧ P.length ≤ i := by
  intro i
  induction i using Nat.strongRecOn with
  | _ i ih =>
    intro v hv
    rw [List.getElem?_map] at hv
    cases e : cm[i]? with
    | none => rw [e] at hv; cases hv
    | some x =>
      obtain ⟨w, o⟩ := x
      rw [e] at hv
      cases hv
      cases o with
      | none =>
        obtain ⟨rfl, rfl⟩ := C.no i w e
        exact ⟨[], rfl, (fun _ h => nomatch h), C.l0, Nat.le_refl _⟩
      | some l =>
        obtain ⟨h1, h2, h3, j, h4, h5⟩ := C.lk i w l e
        obtain ⟨P, p1, p2, p3, p4⟩ := ih j h4 h5
        refine ⟨P ++ [l], by rw [← h2]; exact Wy.snoc h1 p1, fun y hy => ?_, ?_, ?_⟩
        · rcases List.mem_append.mp hy with hy | hy
          · exact p2 y hy
          · rw [List.mem_singleton.mp hy, h2]; exact h3
        · rw [h3, p3, List.length_append]; rfl
        · rw [List.length_append]
          simp only [List.length_cons, List.length_nil]
          omega
end MV

namespace MV
structure BfI (L : Li → Prop) (st gl N : Nat) (cm : List (Nat × Option Li)) (lv : Nat → Nat) (k : Nat) : Prop where
  c : CmOk L st N cm lv
  pr : ∀ (i u : Nat), i < k → (cm.map (·.1))[i]? = some u → ∀ l, L l → l.tl = u → l.hd ∈ cm.map (·.1) ∧ lv l.hd ≤ lv u + 1
  mo : ∀ (i j u v : Nat), i ≤ j → (cm.map (·.1))[i]? = some u → (cm.map (·.1))[j]? = some v → lv u ≤ lv v
  up : ∀ (j u : Nat), k = j + 1 → (cm.map (·.1))[j]? = some u → ∀ v ∈ cm.map (·.1), lv v ≤ lv u + 1
  z : k = 0 → cm.length = 1
  g : gl ∈ cm.map (·.1) → ∃ j u, k = j + 1 ∧ (cm.map (·.1))[j]? = some u ∧ lv gl = lv u + 1
  kl : k ≤ cm.length
structure ScI (L : Li → Prop) (st gl N : Nat) (cm : List (Nat × Option Li)) (lv : Nat → Nat) (k u : Nat) (sn : Li → Prop) : Prop where
  c : CmOk L st N cm lv
  pr : ∀ (i u : Nat), i < k → (cm.map (·.1))[i]? = some u → ∀ l, L l → l.tl = u → l.hd ∈ cm.map (·.1) ∧ lv l.hd ≤ lv u + 1
  mo : ∀ (i j u v : Nat), i ≤ j → (cm.map (·.1))[i]? = some u → (cm.map (·.1))[j]? = some v → lv u ≤ lv v
  cu : (cm.map (·.1))[k]? = some u
  up : ∀ v ∈ cm.map (·.1), lv v ≤ lv u + 1
  g : gl ∈ cm.map (·.1) → lv gl = lv u + 1
  sn : ∀ l, sn l → l.tl = u → l.hd ∈ cm.map (·.1) ∧ lv l.hd ≤ lv u + 1
section
variable {L : Li → Prop} {st gl N : Nat} {cm : List (Nat × Option Li)} {lv : Nat → Nat} {k u : Nat} {sn : Li → Prop}
theorem bf_start (hs : st < N) (hg : gl ≠ st) : BfI L st gl N [(st, none)] (fun _ => 0) 0 := by
  refine ⟨⟨rfl, by simp, fun x hx => by rw [List.mem_singleton.mp hx]; exact hs, fun i v l h => ?_, fun i v h => ?_, rfl⟩, fun i u h => by omega, fun _ _ _ _ _ _ _ => Nat.le_refl _, fun j u h => by omega, fun _ => rfl, fun h => ?_, Nat.zero_le _⟩
  · cases i <;> simp at h
  · cases i with
    | zero => simp at h; exact ⟨h.symm, rfl⟩
    | succ i => simp at h
  · simp at h; exact absurd h hg
theorem BfI.scan (b : BfI L st gl N cm lv k) (hg : gl ∉ cm.map (·.1)) (hu : (cm.map (·.1))[k]? = some u) : ScI L st gl N cm lv k u (fun _ => False) := by
  refine ⟨b.c, b.pr, b.mo, hu, fun v hv => ?_, fun h => absurd h hg, fun l h => h.elim⟩
  cases k with
  | zero =>
    have e := b.z rfl
    obtain ⟨x, hx⟩ := List.length_eq_one_iff.mp e
    rw [hx] at hv hu
    simp at hv hu
    rw [hv, hu]; omega
  | succ j =>
    obtain ⟨w, hw⟩ : ∃ w, (cm.map (·.1))[j]? = some w := ⟨_, List.getElem?_eq_getElem (by have := (List.getElem?_eq_some_iff.mp hu).1; omega)⟩
    have h1 := b.up j w rfl hw v hv
    have h2 := b.mo j (j + 1) w u (by omega) hw hu
    omega
theorem ScI.done (b : ScI L st gl N cm lv k u sn) (h : ∀ l, L l → sn l) : BfI L st gl N cm lv (k + 1) := by
  have hk := (List.getElem?_eq_some_iff.mp b.cu).1
  rw [List.length_map] at hk
  refine ⟨b.c, fun i v hi hv l hl ht => ?_, b.mo, fun j w e hw v hv => ?_, fun e => by omega, fun hg => ⟨k, u, rfl, b.cu, b.g hg⟩, hk⟩
  · by_cases q : i < k
    · exact b.pr i v q hv l hl ht
    · obtain rfl : i = k := by omega
      rw [b.cu] at hv
      cases hv
      exact b.sn l (h l hl) ht
  · obtain rfl : j = k := by omega
    rw [b.cu] at hw
    cases hw
    exact b.up v hv
theorem ScI.skip (b : ScI L st gl N cm lv k u sn) {l : Li} (h : l.tl = u → l.hd ∈ cm.map (·.1)) : ScI L st gl N cm lv k u (fun x => sn x ∨ x = l) :=
  ⟨b.c, b.pr, b.mo, b.cu, b.up, b.g, fun x hx ht => by
    rcases hx with hx | rfl
    · exact b.sn x hx ht
    · exact ⟨h ht, b.up _ (h ht)⟩⟩
theorem ScI.put (b : ScI L st gl N cm lv k u sn) {l : Li} (hl : L l) (ht : l.tl = u) (hN : l.hd < N) (h : l.hd ∉ cm.map (·.1)) : ScI L st gl N (cm ++ [(l.hd, some l)]) (upf lv l.hd (lv u + 1)) k u (fun x => sn x ∨ x = l) := by
  have ne : ∀ v ∈ cm.map (·.1), upf lv l.hd (lv u + 1) v = lv v := fun v hv => upf_ne fun e => h (e ▸ hv)
  have km : (cm ++ [(l.hd, some l)]).map (·.1) = cm.map (·.1) ++ [l.hd] := by simp
  have mem : ∀ {i v : Nat}, (cm.map (·.1))[i]? = some v → v ∈ cm.map (·.1) := fun e => List.mem_of_getElem? e
  have um := mem b.cu
  have old : ∀ {i v : Nat}, ((cm ++ [(l.hd, some l)]).map (·.1))[i]? = some v → ((cm.map (·.1))[i]? = some v ∧ i < cm.length) ∨ (i = cm.length ∧ v = l.hd) := fun {i v} e => by
    rw [km] at e
    by_cases q : i < cm.length
    · rw [List.getElem?_append_left (by simpa using q)] at e
      exact .inl ⟨e, q⟩
    · have := (List.getElem?_eq_some_iff.mp e).1
      simp at this
      obtain rfl : i = cm.length := by omega
      rw [List.getElem?_append_right (by simp)] at e
      simp at e
      exact .inr ⟨rfl, e.symm⟩
  have lu : upf lv l.hd (lv u + 1) u = lv u := ne u um
  have lh : upf lv l.hd (lv u + 1) l.hd = lv u + 1 := upf_same
  have stm : st ∈ cm.map (·.1) := List.mem_map.mpr ⟨(st, none), List.mem_of_getElem? b.c.hd, rfl⟩
  have cl : 0 < cm.length := (List.getElem?_eq_some_iff.mp b.c.hd).1
  refine ⟨⟨?_, ?_, fun x hx => ?_, fun i v y e => ?_, fun i v e => ?_, ?_⟩, fun i v hi e y hy hyt => ?_, fun i j x y hij ex ey => ?_, ?_, fun v hv => ?_, fun hg => ?_, fun x hx hxt => ?_⟩
  · rw [List.getElem?_append_left cl]; exact b.c.hd
  · rw [km, List.nodup_append]
    exact ⟨b.c.nd, by simp, fun a ha c hc => by rw [List.mem_singleton.mp hc]; exact fun e => h (e ▸ ha)⟩
  · rcases List.mem_append.mp hx with hx | hx
    · exact b.c.lt x hx
    · rw [List.mem_singleton.mp hx]; exact hN
  · by_cases q : i < cm.length
    · rw [List.getElem?_append_left q] at e
      obtain ⟨h1, h2, h3, j, h4, h5⟩ := b.c.lk i v y e
      have vm : v ∈ cm.map (·.1) := List.mem_map.mpr ⟨_, List.mem_of_getElem? e, rfl⟩
      exact ⟨h1, h2, by rw [ne v vm, ne _ (mem h5)]; exact h3, j, h4, by rw [km, List.getElem?_append_left (by have := (List.getElem?_eq_some_iff.mp h5).1; exact this)]; exact h5⟩
    · have := (List.getElem?_eq_some_iff.mp e).1
      simp at this
      obtain rfl : i = cm.length := by omega
      rw [List.getElem?_append_right (Nat.le_refl _)] at e
      simp at e
      obtain ⟨rfl, rfl⟩ := e
      refine ⟨hl, rfl, by rw [lh, ht, lu], k, ?_, ?_⟩
      · have := (List.getElem?_eq_some_iff.mp b.cu).1
        rw [List.length_map] at this; exact this
      · rw [km, List.getElem?_append_left (List.getElem?_eq_some_iff.mp b.cu).1, ht]; exact b.cu
  · by_cases q : i < cm.length
    · rw [List.getElem?_append_left q] at e
      exact b.c.no i v e
    · have := (List.getElem?_eq_some_iff.mp e).1
      simp at this
      obtain rfl : i = cm.length := by omega
      rw [List.getElem?_append_right (Nat.le_refl _)] at e
      simp at e
  · rw [ne st stm]; exact b.c.l0
  · rcases old e with ⟨e, -⟩ | ⟨rfl, rfl⟩
    · obtain ⟨h1, h2⟩ := b.pr i v hi e y hy hyt
      rw [ne _ h1, ne _ (mem e), km]
      exact ⟨List.mem_append_left _ h1, h2⟩
    · have := (List.getElem?_eq_some_iff.mp b.cu).1
      rw [List.length_map] at this
      omega
  · rcases old ex with ⟨ex, q1⟩ | ⟨rfl, rfl⟩ <;> rcases old ey with ⟨ey, q2⟩ | ⟨rfl, rfl⟩
    · rw [ne _ (mem ex), ne _ (mem ey)]; exact b.mo i j x y hij ex ey
    · rw [ne _ (mem ex), lh]; exact b.up x (mem ex)
    · omega
    · exact Nat.le_refl _
  · rw [km, List.getElem?_append_left (List.getElem?_eq_some_iff.mp b.cu).1]; exact b.cu
  · rw [lu]
    rw [km] at hv
    rcases List.mem_append.mp hv with hv | hv
    · rw [ne v hv]; exact b.up v hv
    · rw [List.mem_singleton.mp hv, lh]; exact Nat.le_refl _
  · rw [lu]
    rw [km] at hg
    rcases List.mem_append.mp hg with hg | hg
    · rw [ne _ hg]; exact b.g hg
    · rw [List.mem_singleton.mp hg, lh]
  · rw [km, lu]
    rcases hx with hx | rfl
    · obtain ⟨h1, h2⟩ := b.sn x hx hxt
      rw [ne _ h1]
      exact ⟨List.mem_append_left _ h1, h2⟩
    · exact ⟨by simp, by rw [lh]; exact Nat.le_refl _⟩
structure RchOk (L : Li → Prop) (st gl N : Nat) (cm : List (Nat × Option Li)) (lv : Nat → Nat) : Prop where
  c : CmOk L st N cm lv
  y : gl ∈ cm.map (·.1) → ∀ l, L l → (if l.hd ∈ cm.map (·.1) then lv l.hd else lv gl) ≤ (if l.tl ∈ cm.map (·.1) then lv l.tl else lv gl) + 1
  n : gl ∉ cm.map (·.1) → ∀ l, L l → l.tl ∈ cm.map (·.1) → l.hd ∈ cm.map (·.1)
theorem BfI.fin (b : BfI L st gl N cm lv k) (h : k = cm.length ∨ gl ∈ cm.map (·.1)) : RchOk L st gl N cm lv := by
  refine ⟨b.c, fun hg l hl => ?_, fun hg l hl ht => ?_⟩
  · obtain ⟨j, u, rfl, hu, eg⟩ := b.g hg
    have up := b.up j u rfl hu
    by_cases q : l.tl ∈ cm.map (·.1)
    · rw [if_pos q]
      obtain ⟨i, hi⟩ := List.mem_iff_getElem?.mp q
      by_cases qi : i < j + 1
      · obtain ⟨h1, h2⟩ := b.pr i _ qi hi l hl rfl
        rw [if_pos h1]; exact h2
      · have m := b.mo j i u _ (by omega) hu hi
        split
        · rename_i q2
          have := up _ q2
          omega
        · omega
    · rw [if_neg q]
      split
      · rename_i q2
        have := up _ q2
        omega
      · omega
  · rcases h with h | h
    · obtain ⟨i, hi⟩ := List.mem_iff_getElem?.mp ht
      have := (List.getElem?_eq_some_iff.mp hi).1
      rw [List.length_map] at this
      exact (b.pr i _ (by omega) hi l hl rfl).1
    · exact absurd h hg
theorem nodup_len {l : List Nat} {n : Nat} (nd : l.Nodup) (h : ∀ x ∈ l, x < n) : l.length ≤ n := by
  by_cases q : l.length ≤ n
  · exact q
  · obtain ⟨i, j, h1, h2, h3⟩ := php n (fun i => l.getD i 0) fun i hi => by
      have hl : i < l.length := by omega
      show l.getD i 0 < n
      rw [getD_some (List.getElem?_eq_getElem hl)]
      exact h _ (List.getElem_mem hl)
    have e1 := List.getElem?_eq_getElem (l := l) (i := i) (by omega)
    have e2 := List.getElem?_eq_getElem (l := l) (i := j) (by omega)
    have h3 : l.getD i 0 = l.getD j 0 := h3
    rw [getD_some e1, getD_some e2] at h3
    have := (List.getElem_inj nd).mp h3
    omega
theorem CmOk.len (c : CmOk L st N cm lv) : cm.length ≤ N := by
  have := nodup_len c.nd fun x hx => by
    obtain ⟨y, hy, rfl⟩ := List.mem_map.mp hx
    exact c.lt y hy
  simpa using this
def BkC (cm : List (Nat × Option Li)) : Nat → List Li → Prop
  | v, [] => (v, none) ∈ cm
  | v, l :: S => (v, some l) ∈ cm ∧ BkC cm l.tl S
theorem CmOk.back (C : CmOk L st N cm lv) : ∀ (i : Nat) {v : Nat}, (cm.map (·.1))[i]? = some v → ∃ S, BkC cm v S ∧ Wy L st S.reverse v ∧ (∀ l ∈ S, lv l.hd = lv l.tl + 1 ∧ l.hd ∈ cm.map (·.1) ∧ l.tl ∈ cm.map (·.1)) ∧ lv v = S.length ∧ S.length ≤ i := by
  intro i
  induction i using Nat.strongRecOn with
  | _ i ih =>
    intro v hv
    rw [List.getElem?_map] at hv
    cases e : cm[i]? with
    | none => rw [e] at hv; cases hv
    | some x =>
      obtain ⟨w, o⟩ := x
      rw [e] at hv
      cases hv
      cases o with
      | none =>
        obtain ⟨rfl, rfl⟩ := C.no i w e
        exact ⟨[], List.mem_of_getElem? e, rfl, (fun _ h => nomatch h), C.l0, Nat.le_refl _⟩
      | some l =>
        obtain ⟨h1, h2, h3, j, h4, h5⟩ := C.lk i w l e
        obtain ⟨S, p0, p1, p2, p3, p4⟩ := ih j h4 h5
        refine ⟨l :: S, ⟨List.mem_of_getElem? e, p0⟩, ?_, fun y hy => ?_, ?_, ?_⟩
        · rw [List.reverse_cons, ← h2]; exact Wy.snoc h1 p1
        · rcases List.mem_cons.mp hy with rfl | hy
          · exact ⟨by rw [h2]; exact h3, List.mem_map.mpr ⟨_, List.mem_of_getElem? e, h2.symm⟩, List.mem_of_getElem? h5⟩
          · exact p2 y hy
        · rw [h3, p3]; rfl
        · simp only [List.length_cons]; omega
end
def muL (A : Sg) (ok : Nat → Bool) (as : List Arc) (gl N : Nat) (lv : Nat → Nat) (ms : List Mo) : Nat := (N + 1 - lv gl) * (as.length + 1) + lvC A ok lv 0 as ms
structure PuI (A : Sg) (ok : Nat → Bool) (as : List Arc) (st gl N : Nat) (ms : List Mo) (lv : Nat → Nat) : Prop where
  l : LipL A as ms ok lv
  z : lv st = 0
  b : lv gl ≤ N
theorem pui_start {A : Sg} {ok : Nat → Bool} {as : List Arc} {st gl N : Nat} {ms : List Mo} : PuI A ok as st gl N ms (fun _ => 0) := ⟨fun _ _ => Nat.zero_le _, rfl, Nat.zero_le _⟩
theorem muL_le {A : Sg} {ok : Nat → Bool} {as : List Arc} {gl N : Nat} {lv : Nat → Nat} {ms : List Mo} : muL A ok as gl N lv ms ≤ (N + 2) * (as.length + 1) := by
  unfold muL
  have h1 := lvC_le (A := A) (ok := ok) (lv := lv) (as := as) (ms := ms) (k := 0)
  have h2 : (N + 1 - lv gl) * (as.length + 1) ≤ (N + 1) * (as.length + 1) := Nat.mul_le_mul_right _ (by omega)
  have h3 : (N + 2) * (as.length + 1) = (N + 1) * (as.length + 1) + (as.length + 1) := by rw [show N + 2 = (N + 1) + 1 by omega, Nat.succ_mul]
  omega
theorem turn_dec {A : Sg} {ok : Nat → Bool} {as : List Arc} {ms : List Mo} {st gl N : Nat} {cm : List (Nat × Option Li)} {lv lv0 : Nat → Nat} (R : RchOk (LnkO A as ms ok) st gl N cm lv) (hg : gl ∈ cm.map (·.1)) (I : PuI A ok as st gl N ms lv0) :
    ∃ S, BkC cm gl S ∧ Wy (LnkO A as ms ok) st S.reverse gl ∧ (S.reverse.map (·.k)).Nodup ∧ S.length ≤ N ∧ ∀ x, (∃ l ∈ S.reverse, capL as ms l = some x) → ∃ lv1, PuI A ok as st gl N (puL x ms S.reverse) lv1 ∧ muL A ok as gl N lv1 (puL x ms S.reverse) < muL A ok as gl N lv0 ms := by
  obtain ⟨i, hi⟩ := List.mem_iff_getElem?.mp hg
  obtain ⟨S, b0, b1, b2, b3, b4⟩ := R.c.back i hi
  have il : i < N := by
    have := (List.getElem?_eq_some_iff.mp hi).1
    rw [List.length_map] at this
    have := R.c.len
    omega
  have W0 : Wy (Lnk A as ms) st S.reverse gl := b1.imp fun _ h => h.1
  have h1 : ∀ l ∈ S.reverse, lv l.hd = lv l.tl + 1 := fun l hl => (b2 l (List.mem_reverse.mp hl)).1
  refine ⟨S, b0, b1, (W0.nodup h1).1, by omega, fun x hx => ?_⟩
  have hle := Wy.le I.l b1
  rw [I.z, List.length_reverse, Nat.zero_add] at hle
  by_cases q : lv0 gl = S.length
  · obtain ⟨p1, p2⟩ := push_lip b1 (Wy.tight I.l b1 (by rw [I.z, List.length_reverse, Nat.zero_add]; exact q)) I.l hx
    exact ⟨lv0, ⟨p1, I.z, I.b⟩, by unfold muL; omega⟩
  · obtain ⟨lvn, hn⟩ : ∃ lvn : Nat → Nat, ∀ v, lvn v = if v ∈ cm.map (·.1) then lv v else lv gl := ⟨_, fun _ => rfl⟩
    have lip : LipL A as ms ok lvn := fun l hl => by rw [hn, hn]; exact R.y hg l hl
    obtain ⟨p1, p2⟩ := push_lip b1 (fun l hl => by
      obtain ⟨e, m1, m2⟩ := b2 l (List.mem_reverse.mp hl)
      rw [hn, hn, if_pos m1, if_pos m2]; exact e) lip hx
    have stm : st ∈ cm.map (·.1) := List.mem_map.mpr ⟨(st, none), List.mem_of_getElem? R.c.hd, rfl⟩
    have eg : lvn gl = S.length := by rw [hn, if_pos hg, b3]
    refine ⟨lvn, ⟨p1, by rw [hn, if_pos stm]; exact R.c.l0, by omega⟩, ?_⟩
    unfold muL
    rw [eg]
    have h5 := lvC_le (A := A) (ok := ok) (lv := lvn) (as := as) (ms := ms) (k := 0)
    have h6 : (N + 1 - S.length) + 1 ≤ N + 1 - lv0 gl := by omega
    have h7 := Nat.mul_le_mul_right (as.length + 1) h6
    rw [Nat.succ_mul] at h7
    omega
end MV

namespace Prf
def enumGK (k : List D → (Mem → Prop) → Mem → Prop) : List D → Mem → Prop := fun ds M1 => match ds with
  | [.ref n] => match M1[n]? with
    | some (.lst ds) => k (enumD ds) (fun M => M[n]? = some (.lst ds)) M1
    | _ => False
  | _ => False
theorem x_enumG {ma : MA} {ρ : Ev} {M : Mem} {k : List D → (Mem → Prop) → Mem → Prop} {X : XM} (h : ma ρ M (enumGK k) X) : mIEnumL ma ρ M k X := h
theorem enumG_at {M : Mem} {n : Nat} {ds : List D} {k : List D → (Mem → Prop) → Mem → Prop} (e : M[n]? = some (.lst ds)) (h : k (enumD ds) (fun M => M[n]? = some (.lst ds)) M) : enumGK k [.ref n] M := by
  unfold enumGK
  dsimp only
  rw [e]
  exact h
theorem enumG_len {α : Type} {f : α → D} {l : List α} : (enumD (l.map f)).length = l.length := by simp [enumD]
theorem enumG_get {α : Type} {f : α → D} {l : List α} {j : Nat} {d : D} (h : (enumD (l.map f))[j]? = some d) : ∃ a, l[j]? = some a ∧ d = .tup [.int (j : Nat), f a] := by
  unfold enumD at h
  rw [List.getElem?_mapIdx, List.getElem?_map] at h
  cases e : l[j]? with
  | none => rw [e] at h; cases h
  | some a =>
    rw [e] at h
    simp at h
    exact ⟨a, rfl, h.symm⟩
theorem ms_at {ms : List Mo} {k : Nat} {m : Mo} (h : ms[k]? = some m) : atI (ms.map pD) (k : Int) = some (pD m) := by
  rw [atI_n, List.getElem?_map, h]; rfl
section
variable {M : Mem} {Q : DK} {X : XM}
theorem take_S {x y : Int × Int} (h : Q (pD (mtake x y)) M) : w_take [pD x, pD y] M Q X := by
  unfold w_take wOf
  rw [show startE N_take [pD x, pD y] = [some (pD x), some (pD y)] from rfl]
  unfold m_take
  walk_at "ml"
  exact h
theorem drop_cons {α : Type} {l : List α} {j : Nat} {a : α} (h : l[j]? = some a) : l.drop j = a :: l.drop (j + 1) := by
  obtain ⟨h1, h2⟩ := List.getElem?_eq_some_iff.mp h
  rw [List.drop_eq_getElem_cons h1, h2]
theorem leftF_len {A : Sg} : ∀ {as : List Arc} {ms : List Mo} {k : Nat}, (leftF A k as ms).length ≤ 2 * as.length
  | [], ms, _ => by cases ms <;> simp [leftF]
  | _ :: _, [], _ => by simp [leftF]
  | a :: as, m :: ms, k => by
    have := leftF_len (A := A) (as := as) (ms := ms) (k := k + 1)
    unfold leftF
    rw [List.length_append, List.length_append, List.length_cons]
    have h1 : (if fwdB A a m = true then [(⟨a.tl, a.hd, k, true⟩ : Li)] else []).length ≤ 1 := by split <;> simp
    have h2 : (if bwdB A m = true then [(⟨a.hd, a.tl, k, false⟩ : Li)] else []).length ≤ 1 := by split <;> simp
    omega
theorem l_left {pa pm : Nat} {arcs : List Arc} {ms : List Mo} {t : Rat} {ah : Bool} (ht : Se2 t) (hl : arcs.length ≤ 100000) (he : ms.length = arcs.length) (ga : M[pa]? = some (.lst (arcs.map arcD))) (gm : M[pm]? = some (.lst (ms.map pD)))
    (k : ∀ M' y, Kp [] M M' → M.length ≤ y → M'[y]? = some (.lst ((leftL (sg t ah) arcs ms).map liD)) → Q (.ref y) M') : w_left_links [.ref pa, .ref pm, qD t, .bl ah] M Q X := by
  unfold w_left_links wOf
  rw [show startE N_left_links [.ref pa, .ref pm, qD t, .bl ah] = [some (.ref pa), some (.ref pm), some (qD t), some (.bl ah), none, none, none, none, none, none] from rfl]
  unfold m_left_links
  walk_at "sx"
  refine x_set (x_cb (x_nil (o_lst (by simp) ?_)))
  have k1 : Kp [] M (M ++ [O.lst []]) := .app
  have g1 : (M ++ [O.lst []])[M.length]? = some (.lst []) := mnew
  have lta := mlt ga
  have ltm := mlt gm
  have ly : M.length ≤ M.length := Nat.le_refl _
  generalize hy : M.length = y at *
  generalize M ++ [O.lst []] = M1 at *
  dsimp only
  walk_at "sx"
  refine x_for (x_enumG (x_cons (x_var rfl (x_nil (enumG_at (k1.at_ _ _ (by simp) ga) ?_)))))
  refine for_ix (fun j ρ M' => ∃ acc : List Li, acc ++ leftF (sg t ah) j (arcs.drop j) (ms.drop j) = leftL (sg t ah) arcs ms ∧ (∃ o5 o6 o7 o8 o9, ρ = [some (.ref pa), some (.ref pm), some (qD t), some (.bl ah), some (.ref y), o5, o6, o7, o8, o9]) ∧ Kp [] M M' ∧ M'[y]? = some (.lst (acc.map liD))) (fun j ρ M' h => ?_) ?_ ?_ ⟨[], rfl, ⟨_, _, _, _, _, rfl⟩, k1, g1⟩
  · obtain ⟨_, _, _, k', _⟩ := h
    exact k'.at_ _ _ (by simp) ga
  · rintro ρ M' ⟨acc, h1, ⟨o5, o6, o7, o8, o9, rfl⟩, k', g'⟩
    rw [enumG_len, List.drop_length] at h1
    rw [show leftF (sg t ah) arcs.length [] (ms.drop arcs.length) = [] by cases (ms.drop arcs.length) <;> rfl, List.append_nil] at h1
    subst h1
    dsimp only
    refine x_ret (x_var rfl ?_)
    exact k M' y k' ly g'
  · rintro j d ρ M' K' hd ⟨acc, h1, ⟨o5, o6, o7, o8, o9, rfl⟩, k', g'⟩ hK
    obtain ⟨a, ha, rfl⟩ := enumG_get hd
    have ja := (List.getElem?_eq_some_iff.mp ha).1
    obtain ⟨m, hm⟩ : ∃ m, ms[j]? = some m := ⟨_, List.getElem?_eq_getElem (by omega)⟩
    have gm' := k'.at_ _ _ (by simp) gm
    have e1 : leftF (sg t ah) j (arcs.drop j) (ms.drop j) = (if fwdB (sg t ah) a m then [⟨a.tl, a.hd, j, true⟩] else []) ++ ((if bwdB (sg t ah) m then [⟨a.hd, a.tl, j, false⟩] else []) ++ leftF (sg t ah) (j + 1) (arcs.drop (j + 1)) (ms.drop (j + 1))) := by
      rw [drop_cons ha, drop_cons hm]; rfl
    rw [e1] at h1
    have hlen : acc.length ≤ 2 * arcs.length + 2 := by
      have := congrArg List.length h1
      rw [List.length_append] at this
      have h2 := leftF_len (A := sg t ah) (as := arcs) (ms := ms) (k := 0)
      unfold leftL at this
      omega
    refine x_tp rfl (x_tc (x_nm (x_tc ?_)))
    refine x_tp rfl (x_tc (x_nm (x_tc (x_nm (x_tc (x_nm (x_tc (x_nm (x_tn (x_tn ?_))))))))))
    dsimp only
    with_reducible refine x_join (fun ρ M' => ∃ acc : List Li, acc ++ ((if bwdB (sg t ah) m then [⟨a.hd, a.tl, j, false⟩] else []) ++ leftF (sg t ah) (j + 1) (arcs.drop (j + 1)) (ms.drop (j + 1))) = leftL (sg t ah) arcs ms ∧ acc.length ≤ 2 * arcs.length + 3 ∧ ρ = [some (.ref pa), some (.ref pm), some (qD t), some (.bl ah), some (.ref y), some (.int (j : Nat)), some (.int (a.tl : Nat)), some (.int (a.hd : Nat)), some (omD a.room), some (pD a.price)] ∧ Kp [] M M' ∧ M'[y]? = some (.lst (acc.map liD))) ?_ ?_
    · intro K2 hK2
      have yes : ∀ (rt : DK) (bk ct : Ev → Mem → Prop) (ex : Exn → Ev → Mem → Prop), fwdB (sg t ah) a m = true → mDrop (mBM "list" omAppend (mVar 4) (mCons (mCB oTup (mCons (mVar 6) (mCons (mVar 7) (mCons (mVar 5) (mCons (mC (.bl true)) mNil))))) mNil)) ⟨K2, rt, bk, ct, ex⟩ [some (.ref pa), some (.ref pm), some (qD t), some (.bl ah), some (.ref y), some (.int (j : Nat)), some (.int (a.tl : Nat)), some (.int (a.hd : Nat)), some (omD a.room), some (pD a.price)] M' := fun rt bk ct ex hb => by
        rw [if_pos hb, ← List.append_assoc] at h1
        refine x_drop (x_bm (x_var rfl (x_isL g' (x_cons (x_cb (x_cons (x_var rfl (x_cons (x_var rfl (x_cons (x_var rfl (x_cons (x_c (x_nil (o_tup (Nat.le_of_ble_eq_true rfl) (x_nil (o_app g' (by rw [List.length_map]; omega) ?_)))))))))))))))))
        refine hK2 _ _ ⟨_, h1, by simp; omega, rfl, k'.setNew (by omega), ?_⟩
        rw [msame g', List.map_append]; rfl
      refine x_ifS (x_or (x_b (x_op (x_var rfl (x_c (o_isN ?_))))))
      cases er : a.room with
      | none =>
        refine if_t (if_t ?_)
        rw [er] at yes
        exact yes _ _ _ _ (by unfold fwdB; rw [er])
      | some r =>
        refine if_f (x_b (x_op ?_))
        refine x_call (x_argsP (x_cons (x_call (x_argsP (x_cons (x_var rfl (x_cons (x_op (x_var rfl (x_var rfl (o_ixL gm' (ms_at hm) (x_nil (x_len rfl rfl ?_)))))))))))))
        refine take_S (x := r) ?_
        refine x_cons (x_var rfl (x_cons (x_var rfl (x_nil (x_len rfl rfl ?_)))))
        refine rank_S ht.1 ht.2 (x_c (o_gtP ?_))
        have eb : ltP 0 0 (rk (sg t ah) (mtake r m)).1 (rk (sg t ah) (mtake r m)).2 = fwdB (sg t ah) a m := by unfold fwdB; rw [er]; rfl
        rw [eb]
        rw [er] at yes
        refine if_b (fun q => yes _ _ _ _ q) (fun q => x_next ?_)
        rw [q, if_neg Bool.false_ne_true, List.nil_append] at h1
        exact hK2 _ _ ⟨acc, h1, by omega, by rw [er]; rfl, k', g'⟩
    · rintro ρ M2 ⟨acc2, h2, hl2, rfl, k2, g2⟩
      have gm2 := k2.at_ _ _ (by simp) gm
      refine x_ifS (x_b (x_op (x_call (x_argsP (x_cons (x_op (x_var rfl (x_var rfl (o_ixL gm2 (ms_at hm) (x_cons (x_var rfl (x_cons (x_var rfl (x_nil (x_len rfl rfl ?_)))))))))))))))
      refine rank_S ht.1 ht.2 (x_c (o_gtP ?_))
      have eb : ltP 0 0 (rk (sg t ah) m).1 (rk (sg t ah) m).2 = bwdB (sg t ah) m := rfl
      rw [eb]
      refine if_b (fun q => ?_) (fun q => x_next ?_)
      · rw [if_pos q, ← List.append_assoc] at h2
        refine x_drop (x_bm (x_var rfl (x_isL g2 (x_cons (x_cb (x_cons (x_var rfl (x_cons (x_var rfl (x_cons (x_var rfl (x_cons (x_c (x_nil (o_tup (Nat.le_of_ble_eq_true rfl) (x_nil (o_app g2 (by rw [List.length_map]; omega) ?_)))))))))))))))))
        refine hK _ _ ⟨_, h2, ⟨_, _, _, _, _, rfl⟩, k2.setNew (by omega), ?_⟩
        rw [msame g2, List.map_append]; rfl
      · rw [q, if_neg Bool.false_ne_true, List.nil_append] at h2
        exact hK _ _ ⟨acc2, h2, ⟨_, _, _, _, _, rfl⟩, k2, g2⟩
end
end Prf

namespace Prf
def cmD (cm : List (Nat × Option Li)) : List (Key × D) := cm.map fun x => (.inl (x.1 : Int), olD x.2)
theorem cm_get {v : Nat} {o : Option Li} : ∀ {cm : List (Nat × Option Li)}, (cm.map (·.1)).Nodup → (v, o) ∈ cm → dget (cmD cm) (.inl (v : Int)) = some (olD o)
  | [], _, h => by cases h
  | (j, e) :: cm, nd, h => by
    rw [List.map_cons, List.nodup_cons] at nd
    unfold dget cmD
    rw [List.map_cons, List.find?_cons]
    rcases List.mem_cons.mp h with h | h
    · cases h
      rw [decide_eq_true rfl]; rfl
    · have : j ≠ v := fun e => nd.1 (e ▸ List.mem_map_of_mem (f := (·.1)) h)
      rw [decide_eq_false (fun e => this (by injection e; omega))]
      exact cm_get nd.2 h
theorem cm_non {v : Nat} {cm : List (Nat × Option Li)} (h : v ∉ cm.map (·.1)) : dget (cmD cm) (.inl (v : Int)) = none := by
  unfold dget cmD
  rw [List.find?_eq_none.mpr]
  · rfl
  · intro x hx
    obtain ⟨y, hy, rfl⟩ := List.mem_map.mp hx
    simp
    intro e
    exact h (List.mem_map.mpr ⟨y, hy, by omega⟩)
theorem cm_has {v : Nat} {cm : List (Nat × Option Li)} (nd : (cm.map (·.1)).Nodup) : (dget (cmD cm) (.inl (v : Int))).isSome = decide (v ∈ cm.map (·.1)) := by
  by_cases q : v ∈ cm.map (·.1)
  · obtain ⟨⟨a, o⟩, h1, rfl⟩ := List.mem_map.mp q
    rw [cm_get nd h1, decide_eq_true q]; rfl
  · rw [cm_non q, decide_eq_false q]; rfl
def cmR (cm : List (Nat × Option Li)) : List D := cm.map fun x => .int (x.1 : Int)
theorem cmR_at {cm : List (Nat × Option Li)} {k u : Nat} (h : (cm.map (·.1))[k]? = some u) : atI (cmR cm) (k : Int) = some (.int (u : Int)) := by
  rw [atI_n]; unfold cmR
  rw [List.getElem?_map] at h ⊢
  cases e : cm[k]? with
  | none => rw [e] at h; cases h
  | some x => rw [e] at h; cases h; rfl
theorem x_augG {i : Nat} {x y : Int} {me : ME} {ρ : Ev} {M : Mem} {E : Nd} (e : ρ[i]? = some (some (.int x))) (he : ∀ (Q : DK) (X : XM), Q (.int y) M → me ρ M Q X) (h : E.nx (ρ.set i (some (.int (x + y)))) M) : mAug i oAddI me E ρ M := by
  unfold mAug
  rw [e]
  exact he _ _ h
theorem x_dispG {ρ : Ev} {M : Mem} {Q : DK} {X : XM} {k : Int} {mk mv : ME} {d : D} (hk : ∀ (Q : DK) (X : XM) (M : Mem), Q (.int k) M → mk ρ M Q X) (hv : ∀ (Q : DK) (X : XM) (M : Mem), Q d M → mv ρ M Q X) (h : Q (.ref M.length) ((M ++ [O.dct false []]).set M.length (O.dct false [(.inl k, d)]))) : mDisp [(mk, mv)] ρ M Q X := by
  unfold mDisp mPairs
  refine hk _ _ _ (hv _ _ _ ?_)
  unfold mPairs
  exact ⟨mnew, Nat.le_of_ble_eq_true rfl, h⟩
theorem cmR_len {cm : List (Nat × Option Li)} : (cmR cm).length = cm.length := by simp [cmR]
theorem l_reached {M : Mem} {Q : DK} {X : XM} {pl st gl N : Nat} {ls : List Li} (hs : st < N) (hg : gl ≠ st) (hN : N ≤ 100000) (hl : ∀ l ∈ ls, l.hd < N) (gp : M[pl]? = some (.lst (ls.map liD)))
    (k : ∀ M' y cm lv, Kp [] M M' → M.length ≤ y → M'[y]? = some (.dct false (cmD cm)) → RchOk (fun l => l ∈ ls) st gl N cm lv → Q (.ref y) M') : w_reached [.ref pl, .int (st : Nat), .int (gl : Nat)] M Q X := by
  unfold w_reached wOf
  rw [show startE N_reached [.ref pl, .int (st : Nat), .int (gl : Nat)] = [some (.ref pl), some (.int (st : Nat)), some (.int (gl : Nat)), none, none, none, none] from rfl]
  unfold m_reached
  walk_at "sx"
  refine x_set (x_dispG (k := (st : Int)) (d := .non) (fun Q X M h => h) (fun Q X M h => h) ?_)
  have ltl := mlt gp
  have k1 : Kp [] M ((M ++ [O.dct false []]).set M.length (.dct false [((.inl (st : Int) : Key), D.non)])) := Kp.app.setNew (Nat.le_refl _)
  have g1 : ((M ++ [O.dct false []]).set M.length (.dct false [((.inl (st : Int) : Key), D.non)]))[M.length]? = some (.dct false (cmD [(st, none)])) := by
    rw [msame mnew]; rfl
  have ly : M.length ≤ M.length := Nat.le_refl _
  generalize hy : M.length = y at *
  generalize (M ++ [O.dct false []]).set y (.dct false [((.inl (st : Int) : Key), D.non)]) = M1 at *
  dsimp only
  walk_at "sx"
  refine x_set (x_cb (x_cons (x_var rfl (x_nil (o_lst (Nat.le_of_ble_eq_true rfl) ?_)))))
  have k2 : Kp [] M1 (M1 ++ [O.lst [.int (st : Nat)]]) := .app
  have g2 : (M1 ++ [O.lst [.int (st : Nat)]])[M1.length]? = some (.lst (cmR [(st, none)])) := mnew
  have g1' := k2.at_ _ _ (by simp) g1
  have ne : y ≠ M1.length := by have := mlt g1; omega
  have lz : M.length ≤ M1.length := k1.len
  rw [hy] at lz
  have k12 := k1.trans k2
  generalize hz : M1.length = z at *
  generalize M1 ++ [O.lst [.int (st : Nat)]] = M2 at *
  dsimp only
  walk_at "sx"
  refine x_set (x_c ?_)
  dsimp only
  walk_at "sx"
  refine x_while (fun q ρ M' => ∃ cm lv k, (∃ o6, ρ = [some (.ref pl), some (.int (st : Nat)), some (.int (gl : Nat)), some (.ref y), some (.ref z), some (.int (k : Nat)), o6]) ∧ q = N - k ∧ BfI (fun l => l ∈ ls) st gl N cm lv k ∧ Kp [] M M' ∧ M'[y]? = some (.dct false (cmD cm)) ∧ M'[z]? = some (.lst (cmR cm))) N ⟨_, _, 0, ⟨_, rfl⟩, rfl, bf_start hs hg, k12, g1', g2⟩ ?_
  rintro q ρ M' ⟨cm, lv, kk, ⟨o6, rfl⟩, rfl, B, k', a1, a2⟩
  have fin : ∀ {M''}, M'' = M' → (kk = cm.length ∨ gl ∈ cm.map (·.1)) → Q (.ref y) M'' := fun e h => by
    subst e
    exact k _ y cm lv k' ly a1 (B.fin h)
  refine x_and (x_b (x_op (x_var rfl (x_cb (x_cons (x_var rfl (x_nil (o_lenL a2 (o_lt ?_)))))))))
  rw [cmR_len]
  refine if_d (fun hk => ?_) (fun hk => ?_)
  rotate_left
  · rw [if_neg Bool.false_ne_true]
    dsimp only
    refine x_ret (x_var rfl ?_)
    exact fin rfl (.inl (by have := B.kl; omega))
  refine x_b (x_op (x_var rfl (x_var rfl (o_ninD a1 (k := .inl (gl : Int)) rfl ?_))))
  rw [cm_has B.c.nd]
  refine if_n (fun hgl => ?_) (fun hgl => ?_)
  rotate_left
  · dsimp only
    refine x_ret (x_var rfl ?_)
    exact fin rfl (.inr hgl)
  obtain ⟨u, hu⟩ : ∃ u, (cm.map (·.1))[kk]? = some u := ⟨_, List.getElem?_eq_getElem (by rw [List.length_map]; omega)⟩
  have lenN := B.c.len
  refine ⟨_, fun _ _ h => h, ?_⟩
  have sc := B.scan hgl hu
  with_reducible refine x_join (fun ρ M' => ∃ cm lv, (∃ o6, ρ = [some (.ref pl), some (.int (st : Nat)), some (.int (gl : Nat)), some (.ref y), some (.ref z), some (.int (kk : Nat)), o6]) ∧ BfI (fun l => l ∈ ls) st gl N cm lv (kk + 1) ∧ Kp [] M M' ∧ M'[y]? = some (.dct false (cmD cm)) ∧ M'[z]? = some (.lst (cmR cm))) ?_ ?_
  · intro K hK
    have gp' := k'.at_ _ _ (by simp) gp
    refine x_for (x_iseqV rfl gp' ?_)
    refine for_inv (fun l ρ M' => ∃ rest done cm lv, l = rest.map liD ∧ ls = done ++ rest ∧ (∃ o6, ρ = [some (.ref pl), some (.int (st : Nat)), some (.int (gl : Nat)), some (.ref y), some (.ref z), some (.int (kk : Nat)), o6]) ∧ ScI (fun l => l ∈ ls) st gl N cm lv kk u (fun l => l ∈ done) ∧ Kp [] M M' ∧ M'[y]? = some (.dct false (cmD cm)) ∧ M'[z]? = some (.lst (cmR cm))) ?_ ?_ ?_ ⟨ls, [], cm, lv, rfl, rfl, ⟨_, rfl⟩, by refine ⟨sc.c, sc.pr, sc.mo, sc.cu, sc.up, sc.g, fun l h => by cases h⟩, k', a1, a2⟩
    · rintro l ρ M' ⟨rest, done, cm, lv, _, _, _, _, k', _, _⟩
      exact k'.at_ _ _ (by simp) gp
    · rintro ρ M' ⟨rest, done, cm, lv, h1, h2, h3, h4, h5, h6, h7⟩
      obtain rfl : rest = [] := by cases rest with | nil => rfl | cons a b => cases h1
      rw [List.append_nil] at h2
      subst h2
      exact hK _ _ ⟨cm, lv, h3, h4.done fun l h => h, h5, h6, h7⟩
    · rintro d l ρ M' K3 ⟨rest, done, cm, lv, h1, h2, ⟨o6, rfl⟩, S, h5, h6, h7⟩ hK3
      cases rest with
      | nil => cases h1
      | cons lk rest =>
        rw [List.map_cons] at h1
        injection h1 with h1 h1'
        subst h1 h1'
        have e2 : ls = (done ++ [lk]) ++ rest := by rw [h2]; simp
        have ml : lk ∈ ls := by rw [h2]; simp
        have up : ∀ {cm lv}, ScI (fun l => l ∈ ls) st gl N cm lv kk u (fun x => x ∈ done ∨ x = lk) → ScI (fun l => l ∈ ls) st gl N cm lv kk u (fun x => x ∈ done ++ [lk]) := fun s => ⟨s.c, s.pr, s.mo, s.cu, s.up, s.g, fun x hx => s.sn x (by simpa using hx)⟩
        have lenc := S.c.len
        refine x_nm ?_
        refine x_ifS (x_and (x_b (x_op (x_op (x_var rfl (x_c (o_ixT (v := .int (lk.tl : Nat)) rfl (x_op (x_var rfl (x_var rfl (o_ixL h7 (cmR_at S.cu) (o_eqI ?_))))))))))))
        refine if_d (fun q1 => ?_) (fun q1 => ?_)
        rotate_left
        · rw [if_neg Bool.false_ne_true]
          exact x_next (hK3 _ _ ⟨rest, done ++ [lk], cm, lv, rfl, e2, ⟨_, rfl⟩, up (S.skip fun e => (q1 (by omega)).elim), h5, h6, h7⟩)
        have q1' : lk.tl = u := by omega
        refine x_b (x_op (x_op (x_var rfl (x_c (o_ixT (v := .int (lk.hd : Nat)) rfl (x_var rfl (o_ninD h6 (k := .inl (lk.hd : Int)) rfl ?_)))))))
        rw [cm_has S.c.nd]
        refine if_n (fun q2 => ?_) (fun q2 => x_next (hK3 _ _ ⟨rest, done ++ [lk], cm, lv, rfl, e2, ⟨_, rfl⟩, up (S.skip fun _ => q2), h5, h6, h7⟩))
        walk_at "sx"
        refine x_setIx (x_var rfl (x_var rfl (x_op (x_var rfl (x_c (o_ixT (v := .int (lk.hd : Nat)) rfl (o_setD h6 (k := .inl (lk.hd : Int)) rfl (by unfold cmD; rw [List.length_map]; omega) ?_)))))))
        rw [dput_new (cm_non q2)]
        have b1 := msame (o' := O.dct false (cmD cm ++ [(.inl (lk.hd : Int), liD lk)])) h6
        have b2 : (M'.set y (O.dct false (cmD cm ++ [(.inl (lk.hd : Int), liD lk)])))[z]? = some (.lst (cmR cm)) := by
          rw [List.getElem?_set_ne ne]; exact h7
        have b3 : Kp [] M (M'.set y (O.dct false (cmD cm ++ [(.inl (lk.hd : Int), liD lk)]))) := h5.setNew (by omega)
        have eD : cmD cm ++ [(.inl (lk.hd : Int), liD lk)] = cmD (cm ++ [(lk.hd, some lk)]) := by unfold cmD; rw [List.map_append]; rfl
        rw [eD] at b1 b2 b3
        rw [eD]
        generalize M'.set y (O.dct false (cmD (cm ++ [(lk.hd, some lk)]))) = M4 at *
        dsimp only
        refine x_drop (x_bm (x_var rfl (x_isL b2 (x_cons (x_op (x_var rfl (x_c (o_ixT (v := .int (lk.hd : Nat)) rfl (x_nil (o_app b2 (by rw [cmR_len]; omega) ?_))))))))))
        have c2 := msame (o' := O.lst (cmR cm ++ [.int (lk.hd : Nat)])) b2
        have c1 : (M4.set z (O.lst (cmR cm ++ [.int (lk.hd : Nat)])))[y]? = some (.dct false (cmD (cm ++ [(lk.hd, some lk)]))) := by
          rw [List.getElem?_set_ne (Ne.symm ne)]; exact b1
        refine hK3 _ _ ⟨rest, done ++ [lk], _, _, rfl, e2, ⟨_, rfl⟩, up (S.put ml q1' (hl lk ml) q2), b3.setNew (by omega), c1, ?_⟩
        rw [c2]
        unfold cmR
        rw [List.map_append]; rfl
  · rintro ρ M' ⟨cm, lv, ⟨o6, rfl⟩, h1, h2, h3, h4⟩
    refine x_augG (x := (kk : Int)) (y := 1) rfl (fun Q X h => h) ?_
    exact ⟨N - (kk + 1), by omega, cm, lv, kk + 1, ⟨_, rfl⟩, rfl, h1, h2, h3, h4⟩
end Prf

namespace Prf
theorem bstK_least (kf : Nat → Int × Int) : ∀ (j i : Nat), i ≤ j → wle (kf (bstK kf j)) (kf i)
  | 0, i, h => by
    obtain rfl : i = 0 := by omega
    exact wle_refl _
  | j + 1, i, h => by
    unfold bstK
    by_cases q : ltP (kf (j + 1)).1 (kf (j + 1)).2 (kf (bstK kf j)).1 (kf (bstK kf j)).2 = true
    · rw [if_pos q]
      have q : wlt (kf (j + 1)) (kf (bstK kf j)) := of_decide_eq_true q
      by_cases e : i = j + 1
      · rw [e]; exact wle_refl _
      · exact wle_trans (wle_of_lt q) (bstK_least kf j i (by omega))
    · rw [if_neg q]
      have q : ¬ wlt (kf (j + 1)) (kf (bstK kf j)) := fun h => q (decide_eq_true h)
      by_cases e : i = j + 1
      · rw [e]; exact wle_of_not q
      · exact bstK_least kf j i (by omega)
theorem puL_rev {x : Mo} {P : List Li} {ms : List Mo} (nd : (P.map (·.k)).Nodup) (h : ∀ l ∈ P, ∃ m, ms[l.k]? = some m) : puL x ms P = puL x ms P.reverse := by
  apply List.ext_getElem?
  intro i
  by_cases q : i ∈ P.map (·.k)
  · obtain ⟨l, hl, rfl⟩ := List.mem_map.mp q
    obtain ⟨m, hm⟩ := h l hl
    rw [puL_on nd hl hm, puL_on (by rw [List.map_reverse]; exact List.pairwise_reverse.mpr (nd.imp fun h => Ne.symm h)) (List.mem_reverse.mpr hl) hm]
  · rw [puL_off q, puL_off (by rw [List.map_reverse, List.mem_reverse]; exact q)]
def hdD : List Li → D
  | [] => .non
  | l :: _ => liD l
theorem bk_get {cm : List (Nat × Option Li)} {v : Nat} {S : List Li} (nd : (cm.map (·.1)).Nodup) (h : BkC cm v S) : dget (cmD cm) (.inl (v : Int)) = some (hdD S) := by
  cases S with
  | nil => exact cm_get (o := none) nd h
  | cons l S => exact cm_get (o := some l) nd h.1
theorem l_push {M : Mem} {Q : DK} {X : XM} {it pa pm pc gl : Nat} {t : Rat} {ah : Bool} {arcs : List Arc} {ms : List Mo} {cm : List (Nat × Option Li)} {S : List Li} (ht : Se2 t) (hSl : S.length ≤ 100000) (git : M[it]? = some (.tab "push" tq_push)) (ga : M[pa]? = some (.lst (arcs.map arcD))) (gm : M[pm]? = some (.lst (ms.map pD))) (gc : M[pc]? = some (.dct false (cmD cm))) (nc : (cm.map (·.1)).Nodup) (hS : BkC cm gl S) (hL : ∀ l ∈ S, Lnk (sg t ah) arcs ms l) (nd : (S.map (·.k)).Nodup) (hne : ∃ l ∈ S, capL arcs ms l ≠ none)
    (k : ∀ M' x, Kp [pm] M M' → M'[pm]? = some (.lst ((puL x ms S.reverse).map pD)) → (∃ l ∈ S, capL arcs ms l = some x) → (∀ l ∈ S, ∀ c, capL arcs ms l = some c → wle (rk (sg t ah) x) (rk (sg t ah) c)) → Q .non M') : w_push [.ref pa, .ref pm, .ref pc, .int (gl : Nat), qD t, .bl ah] M Q X := by
  unfold w_push wOf
  rw [show startE N_push [.ref pa, .ref pm, .ref pc, .int (gl : Nat), qD t, .bl ah] = [some (.ref pa), some (.ref pm), some (.ref pc), some (.int (gl : Nat)), some (qD t), some (.bl ah), none, none, none, none, none, none, none, none] from rfl]
  unfold m_push
  have lta := mlt ga
  have ltm := mlt gm
  have ltc := mlt gc
  have lti := mlt git
  walk_at "sx"
  refine x_set (x_cb (x_nil (o_lst (by simp) ?_)))
  have k1 : Kp [] M (M ++ [O.lst []]) := .app
  have g1 : (M ++ [O.lst []])[M.length]? = some (.lst []) := mnew
  have ly : M.length ≤ M.length := Nat.le_refl _
  generalize hy : M.length = y at *
  generalize M ++ [O.lst []] = M1 at *
  dsimp only
  walk_at "sx"
  refine x_set (x_op (x_var rfl (x_var rfl (o_ixD (k1.at_ _ _ (by simp) gc) (k := .inl (gl : Int)) rfl (bk_get nc hS) ?_))))
  dsimp only
  with_reducible refine x_join (fun ρ M' => (∃ o7, ρ = [some (.ref pa), some (.ref pm), some (.ref pc), some (.int (gl : Nat)), some (qD t), some (.bl ah), some (.ref y), o7, none, none, none, none, none, none]) ∧ Kp [] M M' ∧ M'[y]? = some (.lst (S.map liD))) ?_ ?_
  · intro K hK
    refine x_while (fun q ρ M' => ∃ done rest v, S = done ++ rest ∧ BkC cm v rest ∧ q = rest.length ∧ ρ = [some (.ref pa), some (.ref pm), some (.ref pc), some (.int (gl : Nat)), some (qD t), some (.bl ah), some (.ref y), some (hdD rest), none, none, none, none, none, none] ∧ Kp [] M M' ∧ M'[y]? = some (.lst (done.map liD))) S.length ⟨[], S, gl, rfl, hS, rfl, rfl, k1, g1⟩ ?_
    rintro q ρ M' ⟨done, rest, v, h1, h2, rfl, rfl, k', g'⟩
    refine x_b (x_op (x_var rfl (x_c (o_isnN ?_))))
    cases rest with
    | nil =>
      show if false = true then _ else _
      rw [if_neg Bool.false_ne_true, List.append_nil] at *
      subst h1
      exact hK _ _ ⟨⟨_, rfl⟩, k', g'⟩
    | cons l rest =>
      rw [show hdD (l :: rest) = liD l from rfl]
      show if true = true then _ else _
      rw [if_pos rfl]
      refine ⟨_, fun _ _ h => h, ?_⟩
      walk_at "sx"
      have hl : done.length ≤ S.length := by rw [h1, List.length_append]; omega
      refine x_drop (x_bm (x_var rfl (x_isL g' (x_cons (x_var rfl (x_nil (o_app g' (by rw [List.length_map]; omega) ?_)))))))
      have g2 := msame (o' := O.lst (done.map liD ++ [liD l])) g'
      have k2 : Kp [] M (M'.set y (O.lst (done.map liD ++ [liD l]))) := k'.setNew (by omega)
      generalize M'.set y (O.lst (done.map liD ++ [liD l])) = M2 at *
      dsimp only
      refine x_set (x_op (x_var rfl (x_op (x_var rfl (x_c (o_ixT (v := .int (l.tl : Nat)) rfl (o_ixD (k2.at_ _ _ (by simp) gc) (k := .inl (l.tl : Int)) rfl (bk_get nc h2.2) ?_)))))))
      exact ⟨rest.length, by simp, done ++ [l], rest, l.tl, by rw [h1]; simp, h2.2, rfl, rfl, k2, by rw [g2, List.map_append]; rfl⟩
  rintro ρ M2 ⟨⟨o7, rfl⟩, k2, g2⟩
  have lz : M.length ≤ M2.length := k2.len
  have nyz : y ≠ M2.length := by have := mlt g2; omega
  rw [hy] at lz
  walk_at "sx"
  refine x_set (x_cb (x_nil (o_lst (by simp) ?_)))
  have k3 : Kp [] M (M2 ++ [O.lst []]) := k2.trans .app
  have g3 : (M2 ++ [O.lst []])[M2.length]? = some (.lst []) := mnew
  have g2' := (Kp.app (S := []) (M := M2) (l := [O.lst []])).at_ _ _ (by simp) g2
  generalize hz : M2.length = z at *
  generalize M2 ++ [O.lst []] = M3 at *
  dsimp only
  -- a link's words
  have look : ∀ l ∈ S, ∃ a m, arcs[l.k]? = some a ∧ ms[l.k]? = some m := fun l hl => by
    obtain ⟨a, m, h1, h2, _⟩ := hL l hl
    exact ⟨a, m, h1, h2⟩
  with_reducible refine x_join (fun ρ M' => (∃ o9 o10 o11 o12, ρ = [some (.ref pa), some (.ref pm), some (.ref pc), some (.int (gl : Nat)), some (qD t), some (.bl ah), some (.ref y), o7, some (.ref z), o9, o10, o11, o12, none]) ∧ Kp [] M M' ∧ M'[y]? = some (.lst (S.map liD)) ∧ M'[z]? = some (.lst ((S.filterMap (capL arcs ms)).map pD))) ?_ ?_
  · intro K hK
    refine x_for (x_iseqV rfl g2' ?_)
    refine for_inv (fun l ρ M' => ∃ rest done, l = rest.map liD ∧ S = done ++ rest ∧ (∃ o9 o10 o11 o12, ρ = [some (.ref pa), some (.ref pm), some (.ref pc), some (.int (gl : Nat)), some (qD t), some (.bl ah), some (.ref y), o7, some (.ref z), o9, o10, o11, o12, none]) ∧ Kp [] M M' ∧ M'[y]? = some (.lst (S.map liD)) ∧ M'[z]? = some (.lst ((done.filterMap (capL arcs ms)).map pD))) ?_ ?_ ?_ ⟨S, [], rfl, rfl, ⟨_, _, _, _, rfl⟩, k3, g2', g3⟩
    · rintro l ρ M' ⟨rest, done, _, _, _, _, g, _⟩
      exact g
    · rintro ρ M' ⟨rest, done, h1, h2, h3, h4, h5, h6⟩
      obtain rfl : rest = [] := by cases rest with | nil => rfl | cons a b => cases h1
      rw [List.append_nil] at h2
      subst h2
      exact hK _ _ ⟨h3, h4, h5, h6⟩
    · rintro d l ρ M' K3 ⟨rest, done, h1, h2, ⟨o9, o10, o11, o12, rfl⟩, h4, h5, h6⟩ hK3
      cases rest with
      | nil => cases h1
      | cons lk rest =>
        rw [List.map_cons] at h1
        injection h1 with h1 h1'
        subst h1 h1'
        have e2 : S = (done ++ [lk]) ++ rest := by rw [h2]; simp
        have ml : lk ∈ S := by rw [h2]; simp
        obtain ⟨a, m, ha, hm⟩ := look lk ml
        have hl1 : (done.filterMap (capL arcs ms)).length ≤ done.length := List.length_filterMap_le _ _
        have hl2 : done.length ≤ S.length := by rw [h2, List.length_append]; omega
        have ga' := h4.at_ _ _ (by simp) ga
        have gm' := h4.at_ _ _ (by simp) gm
        refine x_tp rfl (x_tc (x_nm (x_tc (x_nm (x_tc (x_nm (x_tc (x_nm (x_tn ?_)))))))))
        dsimp only
        have put : ∀ c, capL arcs ms lk = some c → M'[z]? = some (.lst ((done.filterMap (capL arcs ms)).map pD)) → (M'.set z (O.lst ((done.filterMap (capL arcs ms)).map pD ++ [pD c])))[z]? = some (.lst (((done ++ [lk]).filterMap (capL arcs ms)).map pD)) := fun c hc hz => by
          rw [msame hz, List.filterMap_append, List.map_append]
          congr 2
          rw [List.filterMap_cons, hc]; rfl
        refine x_ifS (x_not (x_tru (x_var rfl (o_truB ?_))))
        cases ef : lk.fw with
        | false =>
          refine if_nf ?_
          have hc : capL arcs ms lk = some m := by unfold capL; rw [ef, if_neg Bool.false_ne_true, getD_some hm]
          refine x_drop (x_bm (x_var rfl (x_isL h6 (x_cons (x_op (x_var rfl (x_var rfl (o_ixL gm' (ms_at hm) (x_nil (o_app h6 (by rw [List.length_map]; omega) ?_))))))))))
          exact hK3 _ _ ⟨rest, done ++ [lk], rfl, e2, ⟨_, _, _, _, rfl⟩, h4.setNew (by omega), by rw [List.getElem?_set_ne (Ne.symm nyz)]; exact h5, put m hc h6⟩
        | true =>
          refine if_nt ?_
          refine x_ifS (x_b (x_op (x_op (x_op (x_var rfl (x_var rfl (o_ixL ga' (arc_at ha) (x_c (o_ixT (v := omD a.room) rfl (x_c (o_isnN ?_)))))))))))
          cases er : a.room with
          | none =>
            refine if_f (x_next ?_)
            have hc : capL arcs ms lk = none := by unfold capL; rw [ef, if_pos rfl, ha, Option.bind_some, er]; rfl
            exact hK3 _ _ ⟨rest, done ++ [lk], rfl, e2, ⟨_, _, _, _, rfl⟩, h4, h5, by rw [List.filterMap_append, List.filterMap_cons, hc, List.filterMap_nil, List.append_nil]; exact h6⟩
          | some r =>
            refine if_t ?_
            have hc : capL arcs ms lk = some (mtake r m) := by unfold capL; rw [ef, if_pos rfl, ha, Option.bind_some, er, getD_some hm]; rfl
            refine x_drop (x_bm (x_var rfl (x_isL h6 (x_cons (x_call (x_argsP (x_cons (x_op (x_op (x_var rfl (x_var rfl (o_ixL ga' (arc_at ha) (x_c (o_ixT (v := omD a.room) rfl (x_cons (x_op (x_var rfl (x_var rfl (o_ixL gm' (ms_at hm) (x_nil (x_len rfl rfl ?_)))))))))))))))))))))
            rw [er]
            refine take_S (x := r) (x_nil (o_app h6 (by rw [List.length_map]; omega) ?_))
            exact hK3 _ _ ⟨rest, done ++ [lk], rfl, e2, ⟨_, _, _, _, rfl⟩, h4.setNew (by omega), by rw [List.getElem?_set_ne (Ne.symm nyz)]; exact h5, put _ hc h6⟩
  rintro ρ M4 ⟨⟨o9, o10, o11, o12, rfl⟩, k4, g4, g5⟩
  obtain ⟨cs, hcs⟩ : ∃ cs, cs = S.filterMap (capL arcs ms) := ⟨_, rfl⟩
  rw [← hcs] at g5
  have mem : ∀ c, c ∈ cs ↔ ∃ l ∈ S, capL arcs ms l = some c := fun c => by rw [hcs, List.mem_filterMap]
  have c0 : 0 < cs.length := by
    obtain ⟨l, h1, h2⟩ := hne
    cases e : capL arcs ms l with
    | none => exact (h2 e).elim
    | some c => exact List.length_pos_of_mem ((mem c).mpr ⟨l, h1, e⟩)
  walk_at "sx"
  refine x_set ?_
  unfold mMinKey
  refine x_var rfl ?_
  refine ⟨it, z, cs.map pD, [.bl ah, qD t], fun i => rk (sg t ah) (cs.getD i (0, 0)), k4.at_ _ _ (by simp) git, rfl, g5, by rw [List.length_map]; exact c0, rfl, fun i d' hi => ?_, fun d' hd' => ?_⟩
  · rw [List.getElem?_map] at hi
    cases e : cs[i]? with
    | none => rw [e] at hi; cases hi
    | some c =>
      rw [e] at hi
      cases hi
      refine x_call (x_argsP (x_cons (x_var rfl (x_cons (x_var rfl (x_cons (x_var rfl (x_nil (x_len rfl rfl ?_)))))))))
      refine rank_S ht.1 ht.2 ⟨rfl, ?_⟩
      have e' : cs.getD i (0, 0) = c := getD_some e
      dsimp only
      rw [e']; rfl
  rw [List.length_map] at hd'
  have ble := bstK_le (fun i => rk (sg t ah) (cs.getD i (0, 0))) (cs.length - 1)
  obtain ⟨x, hx⟩ : ∃ x, cs[bstK (fun i => rk (sg t ah) (cs.getD i (0, 0))) (cs.length - 1)]? = some x := ⟨_, List.getElem?_eq_getElem (by omega)⟩
  rw [List.getElem?_map, hx] at hd'
  cases hd'
  have px : ∃ l ∈ S, capL arcs ms l = some x := (mem x).mp (List.mem_of_getElem? hx)
  have lx : ∀ l ∈ S, ∀ c, capL arcs ms l = some c → wle (rk (sg t ah) x) (rk (sg t ah) c) := fun l hl c hc => by
    obtain ⟨i, hi⟩ := List.mem_iff_getElem?.mp ((mem c).mpr ⟨l, hl, hc⟩)
    have hil := (List.getElem?_eq_some_iff.mp hi).1
    have : wle (rk (sg t ah) (cs.getD (bstK (fun i => rk (sg t ah) (cs.getD i (0, 0))) (cs.length - 1)) (0, 0))) (rk (sg t ah) (cs.getD i (0, 0))) := bstK_least (fun i => rk (sg t ah) (cs.getD i (0, 0))) (cs.length - 1) i (by omega)
    rw [getD_some hx, getD_some hi] at this
    exact this
  dsimp only
  have gm4 := k4.at_ _ _ (by simp) gm
  have nmy : pm ≠ y := by omega
  refine x_for (x_iseqV rfl g4 ?_)
  refine for_inv (fun l ρ M' => ∃ rest ms1, l = rest.map liD ∧ (∀ l ∈ rest, l ∈ S) ∧ puL x ms1 rest = puL x ms S ∧ ms1.length = ms.length ∧ (∃ o9 o10 o11 o12, ρ = [some (.ref pa), some (.ref pm), some (.ref pc), some (.int (gl : Nat)), some (qD t), some (.bl ah), some (.ref y), o7, some (.ref z), o9, o10, o11, o12, some (pD x)]) ∧ Kp [pm] M M' ∧ M'[y]? = some (.lst (S.map liD)) ∧ M'[pm]? = some (.lst (ms1.map pD))) ?_ ?_ ?_ ⟨S, ms, rfl, (fun _ h => h), rfl, rfl, ⟨_, _, _, _, rfl⟩, k4.weak (by simp), g4, gm4⟩
  · rintro l ρ M' ⟨rest, ms1, _, _, _, _, _, _, g, _⟩
    exact g
  · rintro ρ M' ⟨rest, ms1, h1, _, h2, _, _, h4, h5, h6⟩
    obtain rfl : rest = [] := by cases rest with | nil => rfl | cons a b => cases h1
    have h2 : ms1 = puL x ms S := h2
    rw [puL_rev nd fun l hl => (look l hl).elim fun a h => h.elim fun m h => ⟨m, h.2⟩] at h2
    subst h2
    exact k _ x h4 h6 px lx
  · rintro d l ρ M' K3 ⟨rest, ms1, h1, hr, h2, h3, ⟨p9, p10, p11, p12, rfl⟩, h4, h5, h6⟩ hK3
    cases rest with
    | nil => cases h1
    | cons lk rest =>
      rw [List.map_cons] at h1
      injection h1 with h1 h1'
      subst h1 h1'
      obtain ⟨a, m, ha, hm⟩ := look lk (hr lk (by simp))
      have hkl : lk.k < ms1.length := by rw [h3]; exact (List.getElem?_eq_some_iff.mp hm).1
      have hm1 : ms1[lk.k]? = some ms1[lk.k] := List.getElem?_eq_getElem hkl
      have hp : puL x (pu1 x ms1 lk) rest = puL x ms S := h2
      refine x_tp rfl (x_tc (x_nm (x_tc (x_nm (x_tc (x_nm (x_tc (x_nm (x_tn ?_)))))))))
      dsimp only
      have set : ∀ w, w = (if lk.fw = true then x else mneg x) → Kp [pm] M (M'.set pm (O.lst ((ms1.map pD).set lk.k (pD (madd ms1[lk.k] w))))) ∧ (M'.set pm (O.lst ((ms1.map pD).set lk.k (pD (madd ms1[lk.k] w)))))[pm]? = some (.lst ((pu1 x ms1 lk).map pD)) ∧ (M'.set pm (O.lst ((ms1.map pD).set lk.k (pD (madd ms1[lk.k] w)))))[y]? = some (.lst (S.map liD)) := fun w e => by
        refine ⟨h4.trans (Kp.set (by simp)), ?_, by rw [List.getElem?_set_ne nmy]; exact h5⟩
        rw [msame h6]
        unfold pu1
        rw [getD_some hm1, List.map_set, e]
      refine x_setIx ?_
      refine x_call (x_argsP (x_cons (x_op (x_var rfl (x_var rfl (o_ixL h6 (ms_at hm1) (x_cons (x_ifE (x_tru (x_var rfl (o_truB ?_)))))))))))
      refine if_b (fun q => ?_) (fun q => ?_)
      · refine x_var rfl (x_nil (x_len rfl rfl (add_S (x := ms1[lk.k]) (y := x) ?_)))
        refine x_var rfl (x_var rfl (o_setL h6 (ixN_n (by simpa using hkl)) ?_))
        obtain ⟨s1, s2, s3⟩ := set x (by rw [if_pos q])
        exact hK3 _ _ ⟨rest, _, rfl, (fun l h => hr l (by simp [h])), hp, by rw [pu1_len]; exact h3, ⟨_, _, _, _, rfl⟩, s1, s3, s2⟩
      · refine x_call (x_argsP (x_cons (x_var rfl (x_nil (x_len rfl rfl (turned_S (x := x) ?_))))))
        refine x_nil (x_len rfl rfl (add_S (x := ms1[lk.k]) (y := mneg x) ?_))
        refine x_var rfl (x_var rfl (o_setL h6 (ixN_n (by simpa using hkl)) ?_))
        obtain ⟨s1, s2, s3⟩ := set (mneg x) (by rw [if_neg (by rw [q]; exact Bool.false_ne_true)])
        exact hK3 _ _ ⟨rest, _, rfl, (fun l h => hr l (by simp [h])), hp, by rw [pu1_len]; exact h3, ⟨_, _, _, _, rfl⟩, s1, s3, s2⟩
end Prf

namespace MV
def rI (A : Sg) (m : Mo) : Int := (rk A m).1
theorem rI_add {A : Sg} {a b : Mo} : rI A (madd a b) = rI A a + rI A b := by unfold rI; rw [rk_add]; rfl
theorem rI_neg {A : Sg} {a : Mo} : rI A (mneg a) = -rI A a := by unfold rI; rw [rk_neg]; rfl
theorem rI_take {A : Sg} {a b : Mo} : rI A (mtake a b) = rI A a - rI A b := by unfold rI; rw [rk_take]; rfl
theorem rI_zero {A : Sg} : rI A (0, 0) = 0 := by unfold rI; rw [rk_zero]
theorem rI_msc {A : Sg} {c : Int} {a : Mo} : rI A (msc c a) = c * rI A a := by unfold rI; rw [rk_msc]; rfl
theorem rk2 {A : Sg} (ha : A.ah = false) (m : Mo) : rk A m = (rI A m, 0) := by
  unfold rI rk
  rw [ha]; rfl
theorem wle_rI {A : Sg} (ha : A.ah = false) {a b : Mo} : wle (rk A a) (rk A b) ↔ rI A a ≤ rI A b := by
  rw [rk2 ha, rk2 ha]; unfold wle; simp; omega
theorem wlt0_rI {A : Sg} (ha : A.ah = false) {b : Mo} : wlt (0, 0) (rk A b) ↔ 0 < rI A b := by
  rw [rk2 ha]; unfold wlt; simp
theorem wlt0_rI' {A : Sg} (ha : A.ah = false) {b : Mo} : wlt (rk A b) (0, 0) ↔ rI A b < 0 := by
  rw [rk2 ha]; unfold wlt; simp
theorem wle0_rI {A : Sg} (ha : A.ah = false) {b : Mo} : wle (0, 0) (rk A b) ↔ 0 ≤ rI A b := by
  rw [rk2 ha]; unfold wle; simp; omega
def inB (out : Bool) (f : Nat → Bool) (a : Arc) : Bool := if out then f a.tl && !f a.hd else f a.hd && !f a.tl
def capM (out : Bool) (f : Nat → Bool) : List Arc → Mo
  | [] => (0, 0)
  | a :: as => if inB out f a then madd (a.room.getD (0, 0)) (capM out f as) else capM out f as
def needM (f : Nat → Bool) : Nat → List Mo → Mo
  | _, [] => (0, 0)
  | k, x :: xs => if f k then madd x (needM f (k + 1) xs) else needM f (k + 1) xs
def opnB (out : Bool) (f : Nat → Bool) (as : List Arc) : Bool := as.any fun a => inB out f a && a.room.isNone
def ind (f : Nat → Bool) (v : Nat) : Int := if f v then 1 else 0
theorem exW_const {φ : Nat → Int} : ∀ {as : List Arc} {ms : List Mo}, (∀ a ∈ as, φ a.hd = φ a.tl) → exW φ as ms = (0, 0)
  | [], ms, _ => by cases ms <;> rfl
  | _ :: _, [], _ => rfl
  | a :: as, m :: ms, h => by
    show madd (msc _ m) (exW φ as ms) = _
    rw [h a (by simp), Int.sub_self, msc_zero, zero_madd, exW_const fun x hx => h x (by simp [hx])]
theorem exW_app {φ : Nat → Int} : ∀ {as bs : List Arc} {ms ns : List Mo}, ms.length = as.length → exW φ (as ++ bs) (ms ++ ns) = madd (exW φ as ms) (exW φ bs ns)
  | [], bs, ms, ns, h => by
    obtain rfl : ms = [] := List.eq_nil_of_length_eq_zero h
    exact (zero_madd _).symm
  | a :: as, bs, [], ns, h => by simp at h
  | a :: as, bs, m :: ms, ns, h => by
    show madd (msc _ m) (exW φ (as ++ bs) (ms ++ ns)) = madd (madd (msc _ m) (exW φ as ms)) _
    rw [exW_app (by simpa using h), madd_assoc]
theorem ind_in {f : Nat → Bool} {a : Arc} (h : inB false f a = true) : ind f a.hd - ind f a.tl = 1 := by
  unfold inB at h; rw [if_neg Bool.false_ne_true] at h
  unfold ind
  cases e1 : f a.tl <;> cases e2 : f a.hd <;> simp [e1, e2] at h ⊢
theorem ind_out {f : Nat → Bool} {a : Arc} (h : inB true f a = true) : ind f a.hd - ind f a.tl = -1 := by
  unfold inB at h; rw [if_pos rfl] at h
  unfold ind
  cases e1 : f a.tl <;> cases e2 : f a.hd <;> simp [e1, e2] at h ⊢
theorem ind_no {f : Nat → Bool} {a : Arc} (h : inB false f a = false) (h' : inB true f a = false) : ind f a.hd - ind f a.tl = 0 := by
  unfold inB at h h'; rw [if_neg Bool.false_ne_true] at h; rw [if_pos rfl] at h'
  unfold ind
  cases e1 : f a.tl <;> cases e2 : f a.hd <;> simp [e1, e2] at h h' ⊢
theorem cut_arcs {A : Sg} {f : Nat → Bool} : ∀ {as : List Arc} {ms : List Mo}, ms.length = as.length → (∀ (j : Nat) (a : Arc) (m : Mo), as[j]? = some a → ms[j]? = some m → (inB false f a = true → ∃ r, a.room = some r ∧ rI A m = rI A r) ∧ (inB true f a = true → rI A m = 0)) → rI A (exW (ind f) as ms) = rI A (capM false f as)
  | [], ms, h, _ => by
    obtain rfl : ms = [] := List.eq_nil_of_length_eq_zero h
    rfl
  | a :: as, [], h, _ => by simp at h
  | a :: as, m :: ms, h, g => by
    have ih := cut_arcs (A := A) (f := f) (as := as) (ms := ms) (by simpa using h) fun j b n h1 h2 => g (j + 1) b n (by simpa using h1) (by simpa using h2)
    obtain ⟨g1, g2⟩ := g 0 a m rfl rfl
    show rI A (madd (msc (ind f a.hd - ind f a.tl) m) (exW (ind f) as ms)) = rI A (if inB false f a then madd (a.room.getD (0, 0)) (capM false f as) else capM false f as)
    rw [rI_add, rI_msc, ih]
    cases e : inB false f a with
    | true =>
      obtain ⟨r, h1, h2⟩ := g1 e
      rw [ind_in e, if_pos rfl, rI_add, h1, h2]
      show 1 * rI A r + _ = rI A r + _
      omega
    | false =>
      rw [if_neg Bool.false_ne_true]
      cases e' : inB true f a with
      | true => rw [g2 e']; omega
      | false => rw [ind_no e e']; omega
theorem dual_arcs {A : Sg} {f : Nat → Bool} : ∀ {as : List Arc} {ms : List Mo}, (∀ (j : Nat) (a : Arc) (m : Mo), as[j]? = some a → ms[j]? = some m → 0 ≤ rI A m ∧ ∀ r, a.room = some r → rI A m ≤ rI A r) → ms.length = as.length →
    (opnB false f as = false → rI A (exW (ind f) as ms) ≤ rI A (capM false f as)) ∧ (opnB true f as = false → -rI A (exW (ind f) as ms) ≤ rI A (capM true f as))
  | [], ms, _, h => by
    obtain rfl : ms = [] := List.eq_nil_of_length_eq_zero h
    exact ⟨fun _ => Int.le_refl _, fun _ => by show -rI A (0, 0) ≤ rI A (0, 0); rw [rI_zero]; omega⟩
  | a :: as, [], _, h => by simp at h
  | a :: as, m :: ms, g, h => by
    obtain ⟨i1, i2⟩ := dual_arcs (A := A) (f := f) (as := as) (ms := ms) (fun j b n h1 h2 => g (j + 1) b n (by simpa using h1) (by simpa using h2)) (by simpa using h)
    obtain ⟨g1, g2⟩ := g 0 a m rfl rfl
    have e0 : exW (ind f) (a :: as) (m :: ms) = madd (msc (ind f a.hd - ind f a.tl) m) (exW (ind f) as ms) := rfl
    have e1 : ∀ out, capM out f (a :: as) = if inB out f a then madd (a.room.getD (0, 0)) (capM out f as) else capM out f as := fun _ => rfl
    have e2 : ∀ out, opnB out f (a :: as) = ((inB out f a && a.room.isNone) || opnB out f as) := fun _ => rfl
    rw [e0, e1, e1, e2, e2, rI_add, rI_msc]
    refine ⟨fun q => ?_, fun q => ?_⟩
    · rw [Bool.or_eq_false_iff] at q
      have := i1 q.2
      cases e : inB false f a with
      | true =>
        rw [ind_in e, if_pos rfl, rI_add]
        have q1 := q.1
        rw [e, Bool.true_and] at q1
        cases er : a.room with
        | none => rw [er] at q1; cases q1
        | some r =>
          have := g2 r er
          show 1 * rI A m + _ ≤ rI A r + _
          omega
      | false =>
        rw [if_neg Bool.false_ne_true]
        cases e' : inB true f a with
        | true => rw [ind_out e']; omega
        | false => rw [ind_no e e']; omega
    · rw [Bool.or_eq_false_iff] at q
      have := i2 q.2
      cases e : inB true f a with
      | true =>
        rw [ind_out e, if_pos rfl, rI_add]
        have q1 := q.1
        rw [e, Bool.true_and] at q1
        cases er : a.room with
        | none => rw [er] at q1; cases q1
        | some r =>
          have := g2 r er
          show -(-1 * rI A m + _) ≤ rI A r + _
          omega
      | false =>
        rw [if_neg Bool.false_ne_true]
        cases e' : inB false f a with
        | true => rw [ind_in e']; omega
        | false => rw [ind_no e' e]; omega
def end1 (A : Sg) (n k : Nat) (x : Mo) : List Arc := if wlt (rk A x) (0, 0) then [⟨n, k, some (mneg x), (0, 0)⟩] else if wlt (0, 0) (rk A x) then [⟨k, n + 1, some x, (0, 0)⟩] else []
def endsF (A : Sg) (n : Nat) : Nat → List Mo → List Arc
  | _, [] => []
  | k, x :: xs => end1 A n k x ++ endsF A n (k + 1) xs
def posS (A : Sg) : List Mo → Int
  | [] => 0
  | x :: xs => (if 0 < rI A x then rI A x else 0) + posS A xs
def negS (A : Sg) : List Mo → Int
  | [] => 0
  | x :: xs => (if rI A x < 0 then -rI A x else 0) + negS A xs
def cS (A : Sg) (f : Nat → Bool) : Nat → List Mo → Int
  | _, [] => 0
  | k, x :: xs => (if rI A x < 0 then (if f k then -rI A x else 0) else if 0 < rI A x then (if f k then 0 else rI A x) else 0) + cS A f (k + 1) xs
theorem pos_cS {A : Sg} {f : Nat → Bool} : ∀ {xs : List Mo} {k : Nat}, posS A xs - cS A f k xs = rI A (needM f k xs)
  | [], _ => by show (0 : Int) - 0 = rI A (0, 0); rw [rI_zero]; rfl
  | x :: xs, k => by
    have := pos_cS (A := A) (f := f) (xs := xs) (k := k + 1)
    show ((if 0 < rI A x then rI A x else 0) + posS A xs) - ((if rI A x < 0 then (if f k then -rI A x else 0) else if 0 < rI A x then (if f k then 0 else rI A x) else 0) + cS A f (k + 1) xs) = rI A (if f k then madd x (needM f (k + 1) xs) else needM f (k + 1) xs)
    cases f k with
    | true =>
      simp only [if_pos]
      rw [rI_add]
      (repeat' split) <;> omega
    | false =>
      simp only [Bool.false_eq_true, if_false]
      (repeat' split) <;> omega
theorem neg_cS {A : Sg} {f : Nat → Bool} : ∀ {xs : List Mo} {k : Nat}, negS A xs - cS A f k xs = -rI A (needM (fun v => !f v) k xs)
  | [], _ => by show (0 : Int) - 0 = -rI A (0, 0); rw [rI_zero]; rfl
  | x :: xs, k => by
    have := neg_cS (A := A) (f := f) (xs := xs) (k := k + 1)
    show ((if rI A x < 0 then -rI A x else 0) + negS A xs) - ((if rI A x < 0 then (if f k then -rI A x else 0) else if 0 < rI A x then (if f k then 0 else rI A x) else 0) + cS A f (k + 1) xs) = -rI A (if !f k then madd x (needM (fun v => !f v) (k + 1) xs) else needM (fun v => !f v) (k + 1) xs)
    cases f k with
    | true =>
      simp only [Bool.not_true, Bool.false_eq_true, if_false, if_pos]
      (repeat' split) <;> omega
    | false =>
      simp only [Bool.false_eq_true, if_false, Bool.not_false, if_pos]
      rw [rI_add]
      (repeat' split) <;> omega
theorem end1_cases {A : Sg} (ha : A.ah = false) (n k : Nat) (x : Mo) : (rI A x < 0 ∧ end1 A n k x = [⟨n, k, some (mneg x), (0, 0)⟩]) ∨ (0 < rI A x ∧ end1 A n k x = [⟨k, n + 1, some x, (0, 0)⟩]) ∨ (rI A x = 0 ∧ end1 A n k x = []) := by
  unfold end1
  by_cases q : rI A x < 0
  · exact .inl ⟨q, if_pos ((wlt0_rI' ha).mpr q)⟩
  · have q' : ¬ wlt (rk A x) (0, 0) := fun h => q ((wlt0_rI' ha).mp h)
    by_cases q2 : 0 < rI A x
    · exact .inr (.inl ⟨q2, by rw [if_neg q', if_pos ((wlt0_rI ha).mpr q2)]⟩)
    · exact .inr (.inr ⟨by omega, by rw [if_neg q', if_neg fun h => q2 ((wlt0_rI ha).mp h)]⟩)
theorem ends_sum {A : Sg} (ha : A.ah = false) {n : Nat} {f : Nat → Bool} (f0 : f n = false) (f1 : f (n + 1) = true) : ∀ {xs : List Mo} {k : Nat} {ms : List Mo}, k + xs.length ≤ n → ms.length = (endsF A n k xs).length →
    (∀ (j : Nat) (a : Arc) (m : Mo), (endsF A n k xs)[j]? = some a → ms[j]? = some m → 0 ≤ rI A m ∧ ∀ r, a.room = some r → rI A m ≤ rI A r) →
    ((∀ (j : Nat) (a : Arc) (m : Mo), (endsF A n k xs)[j]? = some a → ms[j]? = some m → (inB false f a = true → ∃ r, a.room = some r ∧ rI A m = rI A r) ∧ (inB true f a = true → rI A m = 0)) → rI A (exW (ind f) (endsF A n k xs) ms) = cS A f k xs) ∧
    (rI A (exW (ind (fun v => v == n + 1)) (endsF A n k xs) ms) ≤ posS A xs ∧ ((∃ (j : Nat) (a : Arc) (m r : Mo), (endsF A n k xs)[j]? = some a ∧ ms[j]? = some m ∧ a.room = some r ∧ a.hd = n + 1 ∧ rI A m < rI A r) → rI A (exW (ind (fun v => v == n + 1)) (endsF A n k xs) ms) < posS A xs)) ∧
    (rI A (exW (ind (fun v => v != n)) (endsF A n k xs) ms) ≤ negS A xs ∧ ((∃ (j : Nat) (a : Arc) (m r : Mo), (endsF A n k xs)[j]? = some a ∧ ms[j]? = some m ∧ a.room = some r ∧ a.hd ≠ n + 1 ∧ rI A m < rI A r) → rI A (exW (ind (fun v => v != n)) (endsF A n k xs) ms) < negS A xs)) ∧
    ((∀ (j : Nat) (a : Arc) (m r : Mo), (endsF A n k xs)[j]? = some a → ms[j]? = some m → a.room = some r → rI A r ≤ rI A m) → ∀ g : Nat → Bool, g n = false → g (n + 1) = false → rI A (exW (ind g) (endsF A n k xs) ms) = -rI A (needM g k xs))
  | [], k, ms, _, h, _ => by
    obtain rfl : ms = [] := List.eq_nil_of_length_eq_zero h
    have z : ∀ φ, rI A (exW φ (endsF A n k []) []) = 0 := fun φ => rI_zero
    refine ⟨fun _ => z _, ⟨by rw [z]; exact Int.le_refl _, ?_⟩, ⟨by rw [z]; exact Int.le_refl _, ?_⟩, fun _ g _ _ => ?_⟩
    · rintro ⟨j, a, m, r, h, _⟩; simp [endsF] at h
    · rintro ⟨j, a, m, r, h, _⟩; simp [endsF] at h
    · rw [z]; show (0 : Int) = -rI A (0, 0); rw [rI_zero]; rfl
  | x :: xs, k, ms, hk, h, g => by
    have hk' : k + 1 + xs.length ≤ n := by simp only [List.length_cons] at hk; omega
    have hkn : k < n := by simp only [List.length_cons] at hk; omega
    have eE : endsF A n k (x :: xs) = end1 A n k x ++ endsF A n (k + 1) xs := rfl
    have eP : posS A (x :: xs) = (if 0 < rI A x then rI A x else 0) + posS A xs := rfl
    have eN : negS A (x :: xs) = (if rI A x < 0 then -rI A x else 0) + negS A xs := rfl
    have eC : cS A f k (x :: xs) = (if rI A x < 0 then (if f k then -rI A x else 0) else if 0 < rI A x then (if f k then 0 else rI A x) else 0) + cS A f (k + 1) xs := rfl
    have eM : ∀ g : Nat → Bool, needM g k (x :: xs) = if g k then madd x (needM g (k + 1) xs) else needM g (k + 1) xs := fun _ => rfl
    rcases end1_cases ha n k x with ⟨s, e⟩ | ⟨s, e⟩ | ⟨s, e⟩
    · rw [eE, e] at h g ⊢
      cases ms with
      | nil => simp at h
      | cons m ms =>
        obtain ⟨i1, ⟨i2, i2'⟩, ⟨i3, i3'⟩, i4⟩ := ends_sum ha f0 f1 (xs := xs) (k := k + 1) (ms := ms) hk' (by simpa using h) fun j a m h1 h2 => g (j + 1) a m (by simpa using h1) (by simpa using h2)
        obtain ⟨g1, g2⟩ := g 0 _ m rfl rfl
        have g2 := g2 _ rfl
        rw [rI_neg] at g2
        have ex : ∀ φ, rI A (exW φ ([⟨n, k, some (mneg x), (0, 0)⟩] ++ endsF A n (k + 1) xs) (m :: ms)) = (φ k - φ n) * rI A m + rI A (exW φ (endsF A n (k + 1) xs) ms) := fun φ => by
          show rI A (madd (msc (φ k - φ n) m) (exW φ (endsF A n (k + 1) xs) ms)) = _
          rw [rI_add, rI_msc]
        simp only [ex]
        rw [eP, eN, eC, if_pos s, if_pos s, if_neg (show ¬ 0 < rI A x by omega)]
        refine ⟨fun c => ?_, ⟨?_, ?_⟩, ⟨?_, ?_⟩, fun c q q0 q1 => ?_⟩
        · rw [i1 fun j a m h1 h2 => c (j + 1) a m (by simpa using h1) (by simpa using h2)]
          obtain ⟨c1, c2⟩ := c 0 _ m rfl rfl
          cases ek : f k with
          | true =>
            obtain ⟨r, c3, c4⟩ := c1 (by unfold inB; rw [if_neg Bool.false_ne_true]; simp [ek, f0])
            cases c3
            rw [rI_neg] at c4
            unfold ind
            rw [ek, f0, if_pos rfl, if_pos rfl, if_neg Bool.false_ne_true]
            omega
          | false =>
            unfold ind
            rw [ek, f0, if_neg Bool.false_ne_true, if_neg Bool.false_ne_true]
            omega
        · have e1 : ind (fun v => v == n + 1) k = 0 := by unfold ind; rw [if_neg (by simp; omega)]
          have e2 : ind (fun v => v == n + 1) n = 0 := by unfold ind; rw [if_neg (by simp)]
          rw [e1, e2]; omega
        · have e1 : ind (fun v => v == n + 1) k = 0 := by unfold ind; rw [if_neg (by simp; omega)]
          have e2 : ind (fun v => v == n + 1) n = 0 := by unfold ind; rw [if_neg (by simp)]
          rw [e1, e2]
          rintro ⟨j, a, m', r, h1, h2, h3, h4, h5⟩
          cases j with
          | zero => cases h1; dsimp only at h4; omega
          | succ j =>
            have := i2' ⟨j, a, m', r, by simpa using h1, by simpa using h2, h3, h4, h5⟩
            omega
        · have e1 : ind (fun v => v != n) k = 1 := by unfold ind; rw [if_pos (by simp; omega)]
          have e2 : ind (fun v => v != n) n = 0 := by unfold ind; rw [if_neg (by simp)]
          rw [e1, e2]; omega
        · have e1 : ind (fun v => v != n) k = 1 := by unfold ind; rw [if_pos (by simp; omega)]
          have e2 : ind (fun v => v != n) n = 0 := by unfold ind; rw [if_neg (by simp)]
          rw [e1, e2]
          rintro ⟨j, a, m', r, h1, h2, h3, h4, h5⟩
          cases j with
          | zero =>
            cases h1
            cases h2
            cases h3
            rw [rI_neg] at h5
            omega
          | succ j =>
            have := i3' ⟨j, a, m', r, by simpa using h1, by simpa using h2, h3, h4, h5⟩
            omega
        · have c0 := c 0 _ m _ rfl rfl rfl
          rw [rI_neg] at c0
          rw [i4 (fun j a m r h1 h2 h3 => c (j + 1) a m r (by simpa using h1) (by simpa using h2) h3) q q0 q1, eM]
          unfold ind
          rw [q0, if_neg Bool.false_ne_true]
          cases ek : q k with
          | true => rw [if_pos rfl, if_pos rfl, rI_add]; omega
          | false => rw [if_neg Bool.false_ne_true, if_neg Bool.false_ne_true]; omega
    · rw [eE, e] at h g ⊢
      cases ms with
      | nil => simp at h
      | cons m ms =>
        obtain ⟨i1, ⟨i2, i2'⟩, ⟨i3, i3'⟩, i4⟩ := ends_sum ha f0 f1 (xs := xs) (k := k + 1) (ms := ms) hk' (by simpa using h) fun j a m h1 h2 => g (j + 1) a m (by simpa using h1) (by simpa using h2)
        obtain ⟨g1, g2⟩ := g 0 _ m rfl rfl
        have g2 := g2 _ rfl
        have ex : ∀ φ, rI A (exW φ ([⟨k, n + 1, some x, (0, 0)⟩] ++ endsF A n (k + 1) xs) (m :: ms)) = (φ (n + 1) - φ k) * rI A m + rI A (exW φ (endsF A n (k + 1) xs) ms) := fun φ => by
          show rI A (madd (msc (φ (n + 1) - φ k) m) (exW φ (endsF A n (k + 1) xs) ms)) = _
          rw [rI_add, rI_msc]
        simp only [ex]
        rw [eP, eN, eC, if_neg (show ¬ rI A x < 0 by omega), if_neg (show ¬ rI A x < 0 by omega), if_pos s, if_pos s]
        refine ⟨fun c => ?_, ⟨?_, ?_⟩, ⟨?_, ?_⟩, fun c q q0 q1 => ?_⟩
        · rw [i1 fun j a m h1 h2 => c (j + 1) a m (by simpa using h1) (by simpa using h2)]
          obtain ⟨c1, c2⟩ := c 0 _ m rfl rfl
          cases ek : f k with
          | false =>
            obtain ⟨r, c3, c4⟩ := c1 (by unfold inB; rw [if_neg Bool.false_ne_true]; simp [ek, f1])
            cases c3
            unfold ind
            rw [ek, f1, if_pos rfl, if_neg Bool.false_ne_true, if_neg Bool.false_ne_true]
            omega
          | true =>
            unfold ind
            rw [ek, f1, if_pos rfl, if_pos rfl]
            omega
        · have e1 : ind (fun v => v == n + 1) k = 0 := by unfold ind; rw [if_neg (by simp; omega)]
          have e2 : ind (fun v => v == n + 1) (n + 1) = 1 := by unfold ind; rw [if_pos (by simp)]
          rw [e1, e2]; omega
        · have e1 : ind (fun v => v == n + 1) k = 0 := by unfold ind; rw [if_neg (by simp; omega)]
          have e2 : ind (fun v => v == n + 1) (n + 1) = 1 := by unfold ind; rw [if_pos (by simp)]
          rw [e1, e2]
          rintro ⟨j, a, m', r, h1, h2, h3, h4, h5⟩
          cases j with
          | zero =>
            cases h1
            cases h2
            cases h3
            omega
          | succ j =>
            have := i2' ⟨j, a, m', r, by simpa using h1, by simpa using h2, h3, h4, h5⟩
            omega
        · have e1 : ind (fun v => v != n) k = 1 := by unfold ind; rw [if_pos (by simp; omega)]
          have e2 : ind (fun v => v != n) (n + 1) = 1 := by unfold ind; rw [if_pos (by simp)]
          rw [e1, e2]; omega
        · have e1 : ind (fun v => v != n) k = 1 := by unfold ind; rw [if_pos (by simp; omega)]
          have e2 : ind (fun v => v != n) (n + 1) = 1 := by unfold ind; rw [if_pos (by simp)]
          rw [e1, e2]
          rintro ⟨j, a, m', r, h1, h2, h3, h4, h5⟩
          cases j with
          | zero => cases h1; dsimp only at h4; omega
          | succ j =>
            have := i3' ⟨j, a, m', r, by simpa using h1, by simpa using h2, h3, h4, h5⟩
            omega
        · have c0 := c 0 _ m _ rfl rfl rfl
          rw [i4 (fun j a m r h1 h2 h3 => c (j + 1) a m r (by simpa using h1) (by simpa using h2) h3) q q0 q1, eM]
          unfold ind
          rw [q1, if_neg Bool.false_ne_true]
          cases ek : q k with
          | true => rw [if_pos rfl, if_pos rfl, rI_add]; omega
          | false => rw [if_neg Bool.false_ne_true, if_neg Bool.false_ne_true]; omega
    · rw [eE, e, List.nil_append] at h g ⊢
      obtain ⟨i1, ⟨i2, i2'⟩, ⟨i3, i3'⟩, i4⟩ := ends_sum ha f0 f1 (xs := xs) (k := k + 1) (ms := ms) hk' h g
      rw [eP, eN, eC, if_neg (show ¬ rI A x < 0 by omega), if_neg (show ¬ rI A x < 0 by omega), if_neg (show ¬ 0 < rI A x by omega), if_neg (show ¬ 0 < rI A x by omega), Int.zero_add, Int.zero_add, Int.zero_add]
      refine ⟨i1, ⟨i2, i2'⟩, ⟨i3, i3'⟩, fun c q q0 q1 => ?_⟩
      rw [i4 c q q0 q1, eM]
      cases q k with
      | true => rw [if_pos rfl, rI_add]; omega
      | false => rw [if_neg Bool.false_ne_true]
end MV

namespace Prf
theorem endsF_len {A : Sg} {n : Nat} : ∀ {xs : List Mo} {k : Nat}, (endsF A n k xs).length ≤ xs.length
  | [], _ => Nat.le_refl _
  | x :: xs, k => by
    have := endsF_len (A := A) (n := n) (xs := xs) (k := k + 1)
    unfold endsF end1
    rw [List.length_append, List.length_cons]
    split
    · simp; omega
    · split
      · simp; omega
      · simp; omega
theorem endsF_mem {A : Sg} {n : Nat} : ∀ {xs : List Mo} {k : Nat} {a : Arc}, a ∈ endsF A n k xs → ∃ j x, xs[j]? = some x ∧ ((a = ⟨n, k + j, some (mneg x), (0, 0)⟩ ∧ wlt (rk A x) (0, 0)) ∨ (a = ⟨k + j, n + 1, some x, (0, 0)⟩ ∧ wlt (0, 0) (rk A x)))
  | [], _, a, h => by cases h
  | x :: xs, k, a, h => by
    unfold endsF at h
    rcases List.mem_append.mp h with h | h
    · unfold end1 at h
      split at h
      · rename_i q
        exact ⟨0, x, rfl, .inl ⟨List.mem_singleton.mp h, q⟩⟩
      · split at h
        · rename_i q
          exact ⟨0, x, rfl, .inr ⟨List.mem_singleton.mp h, q⟩⟩
        · cases h
    · obtain ⟨j, y, h1, h2⟩ := endsF_mem h
      refine ⟨j + 1, y, by simpa using h1, ?_⟩
      rw [show k + (j + 1) = k + 1 + j by omega]
      exact h2
section
variable {M : Mem} {Q : DK} {X : XM}
theorem l_ends {pa pn n : Nat} {arcs : List Arc} {needs : List Mo} {t : Rat} {ah : Bool} (ht : Se2 t) (hn : needs.length = n) (hn1 : n ≤ 100000) (hl : arcs.length ≤ 100000) (ga : M[pa]? = some (.lst (arcs.map arcD))) (gn : M[pn]? = some (.lst (needs.map pD)))
    (k : ∀ M' y, Kp [] M M' → M.length ≤ y → M'[y]? = some (.lst ((arcs ++ endsF (sg t ah) n 0 needs).map arcD)) → Q (.ref y) M') : w_ends_put [.ref pa, .ref pn, qD t, .bl ah] M Q X := by
  unfold w_ends_put wOf
  rw [show startE N_ends_put [.ref pa, .ref pn, qD t, .bl ah] = [some (.ref pa), some (.ref pn), some (qD t), some (.bl ah), none, none, none, none, none] from rfl]
  unfold m_ends_put
  walk_at "sx"
  refine x_set (x_cb (x_cons (x_var rfl (x_nil (o_lenL gn ?_)))))
  rw [List.length_map, hn]
  dsimp only
  walk_at "sx"
  refine x_set (x_cb (x_cons (x_var rfl (x_nil (o_listL ga ?_)))))
  have k1 : Kp [] M (M ++ [O.lst (arcs.map arcD)]) := .app
  have g1 : (M ++ [O.lst (arcs.map arcD)])[M.length]? = some (.lst (arcs.map arcD)) := mnew
  have lta := mlt ga
  have ltn := mlt gn
  have ly : M.length ≤ M.length := Nat.le_refl _
  generalize hy : M.length = y at *
  generalize M ++ [O.lst (arcs.map arcD)] = M1 at *
  dsimp only
  walk_at "sx"
  refine x_for (x_enumG (x_cons (x_var rfl (x_nil (enumG_at (k1.at_ _ _ (by simp) gn) ?_)))))
  refine for_ix (fun j ρ M' => ∃ acc : List Arc, acc ++ endsF (sg t ah) n j (needs.drop j) = arcs ++ endsF (sg t ah) n 0 needs ∧ (∃ o6 o7 o8, ρ = [some (.ref pa), some (.ref pn), some (qD t), some (.bl ah), some (.int (n : Nat)), some (.ref y), o6, o7, o8]) ∧ Kp [] M M' ∧ M'[y]? = some (.lst (acc.map arcD))) (fun j ρ M' h => ?_) ?_ ?_ ⟨arcs, rfl, ⟨_, _, _, rfl⟩, k1, g1⟩
  · obtain ⟨_, _, _, k', _⟩ := h
    exact k'.at_ _ _ (by simp) gn
  · rintro ρ M' ⟨acc, h1, ⟨o6, o7, o8, rfl⟩, k', g'⟩
    rw [enumG_len, List.drop_length] at h1
    rw [show endsF (sg t ah) n needs.length [] = [] from rfl, List.append_nil] at h1
    subst h1
    dsimp only
    refine x_ret (x_var rfl ?_)
    exact k M' y k' ly g'
  · rintro j d ρ M' K' hd ⟨acc, h1, ⟨o6, o7, o8, rfl⟩, k', g'⟩ hK
    obtain ⟨x, hx, rfl⟩ := enumG_get hd
    have e1 : endsF (sg t ah) n j (needs.drop j) = end1 (sg t ah) n j x ++ endsF (sg t ah) n (j + 1) (needs.drop (j + 1)) := by
      rw [drop_cons hx]; rfl
    rw [e1, ← List.append_assoc] at h1
    have hlen : (acc ++ end1 (sg t ah) n j x).length ≤ arcs.length + n := by
      have := congrArg List.length h1
      rw [List.length_append, List.length_append (as := arcs)] at this
      have h2 := endsF_len (A := sg t ah) (n := n) (xs := needs) (k := 0)
      omega
    rw [List.length_append] at hlen
    refine x_tp rfl (x_tc (x_nm (x_tc (x_nm (x_tn ?_)))))
    dsimp only
    walk_at "sx"
    refine x_set (x_call (x_argsP (x_cons (x_var rfl (x_cons (x_var rfl (x_cons (x_var rfl (x_nil (x_len rfl rfl ?_)))))))))) 
    refine rank_S ht.1 ht.2 ?_
    dsimp only
    refine x_ifS (x_b (x_op (x_var rfl (x_c (o_ltP ?_)))))
    have eb : ltP (rk (sg t ah) x).1 (rk (sg t ah) x).2 0 0 = decide (wlt (rk (sg t ah) x) (0, 0)) := rfl
    have eb2 : ltP 0 0 (rk (sg t ah) x).1 (rk (sg t ah) x).2 = decide (wlt (0, 0) (rk (sg t ah) x)) := rfl
    rw [eb]
    refine if_d (fun q => ?_) (fun q => ?_)
    · have e2 : end1 (sg t ah) n j x = [⟨n, j, some (mneg x), (0, 0)⟩] := by unfold end1; rw [if_pos q]
      rw [e2] at h1
      refine x_drop (x_bm (x_var rfl (x_isL g' (x_cons (x_cb (x_cons (x_var rfl (x_cons (x_var rfl (x_cons (x_call (x_argsP (x_cons (x_var rfl (x_nil (x_len rfl rfl ?_))))))))))))))))
      refine turned_S (x := x) ?_
      refine x_cons (x_cb (x_cons (x_c (x_cons (x_c (x_nil (o_tup (Nat.le_of_ble_eq_true rfl) ?_)))))))
      refine x_nil (o_tup (Nat.le_of_ble_eq_true rfl) (x_nil (o_app g' (by rw [List.length_map]; omega) ?_)))
      refine hK _ _ ⟨_, h1, ⟨_, _, _, rfl⟩, k'.setNew (by omega), ?_⟩
      rw [msame g', List.map_append]; rfl
    · refine x_ifS (x_b (x_op (x_var rfl (x_c (o_gtP ?_)))))
      rw [eb2]
      refine if_d (fun q2 => ?_) (fun q2 => ?_)
      · have e2 : end1 (sg t ah) n j x = [⟨j, n + 1, some x, (0, 0)⟩] := by unfold end1; rw [if_neg q, if_pos q2]
        rw [e2] at h1
        refine x_drop (x_bm (x_var rfl (x_isL g' (x_cons (x_cb (x_cons (x_var rfl (x_cons (x_op (x_var rfl (x_c (o_add (x_cons (x_var rfl ?_))))))))))))))
        refine x_cons (x_cb (x_cons (x_c (x_cons (x_c (x_nil (o_tup (Nat.le_of_ble_eq_true rfl) ?_)))))))
        refine x_nil (o_tup (Nat.le_of_ble_eq_true rfl) (x_nil (o_app g' (by rw [List.length_map]; omega) ?_)))
        refine hK _ _ ⟨_, h1, ⟨_, _, _, rfl⟩, k'.setNew (by omega), ?_⟩
        rw [msame g', List.map_append]; rfl
      · have e2 : end1 (sg t ah) n j x = [] := by unfold end1; rw [if_neg q, if_neg q2]
        rw [e2, List.append_nil] at h1
        exact x_next (hK _ _ ⟨acc, h1, ⟨_, _, _, rfl⟩, k', g'⟩)
end
end Prf

namespace Prf
structure BarI (A : Sg) (as : List Arc) (n : Nat) (ms : List Mo) : Prop where
  len : ms.length = as.length
  b : BdL A as ms
  f : ∃ F : Mo, ∀ φ : Nat → Int, exW φ as ms = msc (φ (n + 1) - φ n) F
theorem grown_nodes {A : Sg} {n : Nat} {arcs : List Arc} {needs : List Mo} (hn : needs.length = n) (hA : ∀ a ∈ arcs, a.tl < n ∧ a.hd < n) : ∀ a ∈ arcs ++ endsF A n 0 needs, a.tl < n + 2 ∧ a.hd < n + 2 ∧ a.hd ≠ n ∧ (a.tl = n → a.room ≠ none) := fun a h => by
  rcases List.mem_append.mp h with h | h
  · obtain ⟨h1, h2⟩ := hA a h
    exact ⟨by omega, by omega, by omega, fun e => by omega⟩
  · obtain ⟨j, x, h1, h2⟩ := endsF_mem h
    have := (List.getElem?_eq_some_iff.mp h1).1
    rcases h2 with ⟨rfl, -⟩ | ⟨rfl, -⟩
    · exact ⟨by dsimp only; omega, by dsimp only; omega, by dsimp only; omega, fun _ => by dsimp only; simp⟩
    · exact ⟨by dsimp only; omega, by dsimp only; omega, by dsimp only; omega, fun _ => by dsimp only; simp⟩
theorem BarI.start {A : Sg} {as : List Arc} {n : Nat} (h : ∀ a ∈ as, ∀ r, a.room = some r → wle (0, 0) (rk A r)) : BarI A as n (List.replicate as.length (0, 0)) := by
  refine ⟨by simp, fun k a m h1 h2 => ?_, (0, 0), fun φ => ?_⟩
  · obtain rfl : m = (0, 0) := List.eq_of_mem_replicate (List.mem_of_getElem? h2)
    rw [rk_zero]
    exact ⟨wle_refl _, fun r hr => h a (List.mem_of_getElem? h1) r hr⟩
  · rw [exW_zero fun m hm => List.eq_of_mem_replicate hm, msc_o]
theorem BarI.push {A : Sg} {as : List Arc} {n : Nat} {ms : List Mo} {P : List Li} {x : Mo} (I : BarI A as n ms) (W : Wy (Lnk A as ms) n P (n + 1)) (nd : (P.map (·.k)).Nodup) (hp : ∃ l ∈ P, capL as ms l = some x) (hx : ∀ l ∈ P, ∀ c, capL as ms l = some c → wle (rk A x) (rk A c)) : BarI A as n (puL x ms P) := by
  obtain ⟨F, hF⟩ := I.f
  obtain ⟨l, hl, hc⟩ := hp
  refine ⟨by rw [puL_len]; exact I.len, puL_bd I.b W nd (wle_of_lt (cap_pos (W.all l hl) hc)) hx, madd F x, fun φ => ?_⟩
  rw [puL_ex rfl W, hF, msc_madd]
end Prf

namespace Prf
structure RmG (b m : Int × Int) : Prop where
  a1 : m.1.natAbs ≤ 1000
  b1 : m.2.natAbs ≤ 10
  l : 0 ≤ m.1 + m.2 * b.1
  h : 0 ≤ m.1 + m.2 * b.2
structure StG (b : Int × Int) (s : Rat) : Prop where
  d : s.den ≤ 5
  n : s.num.natAbs ≤ 1000000000
  l : b.1 * (s.den : Int) ≤ s.num
  h : s.num ≤ b.2 * (s.den : Int)
theorem StG.se {b : Int × Int} {s : Rat} (h : StG b s) : Se2 s := ⟨by have := h.n; omega, by have := h.d; omega⟩
theorem RmG.ge {b m : Int × Int} {s : Rat} {ah : Bool} (h : RmG b m) (k : StG b s) : 0 ≤ rI (sg s ah) m := by
  show 0 ≤ m.1 * (s.den : Int) + m.2 * s.num
  have d0 : (0 : Int) ≤ (s.den : Int) := by omega
  by_cases q : 0 ≤ m.2
  · have h1 := Int.mul_le_mul_of_nonneg_left k.l q
    have h2 := Int.mul_nonneg h.l d0
    have h3 : (m.1 + m.2 * b.1) * (s.den : Int) = m.1 * s.den + m.2 * (b.1 * s.den) := by grind
    omega
  · have h1 := Int.mul_le_mul_of_nonneg_left k.h (show 0 ≤ -m.2 by omega)
    have h2 := Int.mul_nonneg h.h d0
    have h3 : (m.1 + m.2 * b.2) * (s.den : Int) = m.1 * s.den + m.2 * (b.2 * s.den) := by grind
    have h4 : -m.2 * s.num = -(m.2 * s.num) := by grind
    have h5 : -m.2 * (b.2 * (s.den : Int)) = -(m.2 * (b.2 * s.den)) := by grind
    omega
theorem num_leG {x y : Int} (hy : 0 < y) : ((x : Rat) / (y : Rat)).num.natAbs ≤ x.natAbs ∧ (((x : Rat) / (y : Rat)).den : Int) ≤ y ∧ ∃ g : Int, 0 < g ∧ x = ((x : Rat) / (y : Rat)).num * g ∧ y = (((x : Rat) / (y : Rat)).den : Int) * g := by
  have hy0 : y ≠ 0 := by omega
  obtain ⟨h1, h2⟩ := frac_n x y hy0
  rw [if_neg (by omega)] at h1 h2
  have hg := Int.gcd_pos_of_ne_zero_right x hy0
  have hg0 : ((Int.gcd x y : Nat) : Int) ≠ 0 := by omega
  have ex : x.fdiv (Int.gcd x y : Nat) * ((Int.gcd x y : Nat) : Int) = x := by
    obtain ⟨c, hc⟩ := Int.gcd_dvd_left x y
    generalize ((Int.gcd x y : Nat) : Int) = g at *
    subst hc
    rw [Int.mul_fdiv_cancel_left _ hg0, Int.mul_comm]
  have ey : y.fdiv (Int.gcd x y : Nat) * ((Int.gcd x y : Nat) : Int) = y := by
    obtain ⟨c, hc⟩ := Int.gcd_dvd_right x y
    generalize ((Int.gcd x y : Nat) : Int) = g at *
    subst hc
    rw [Int.mul_fdiv_cancel_left _ hg0, Int.mul_comm]
  rw [h1] at ex
  rw [h2] at ey
  have g1 : 1 ≤ ((Int.gcd x y : Nat) : Int) := by omega
  generalize ((Int.gcd x y : Nat) : Int) = g at *
  refine ⟨?_, ?_, g, by omega, ex.symm, ey.symm⟩
  · conv => rhs; rw [← ex, Int.natAbs_mul]
    exact Nat.le_mul_of_pos_right _ (by omega)
  · have : (((x : Rat) / (y : Rat)).den : Int) * 1 ≤ (((x : Rat) / (y : Rat)).den : Int) * g := Int.mul_le_mul_of_nonneg_left g1 (by omega)
    omega
theorem lsettingG {M : Mem} {Q : DK} {X : XM} {p q : Nat} {pr : Int × Int} (F : Feed M p q) (h1 : pr.1 ≤ pr.2) (h2 : pr.1.natAbs ≤ 1000 ∧ pr.2.natAbs ≤ 1000)
    (k : ∀ M' s, Kp [p] M M' → Feed M' p q → StG pr s → Q (qD s) M') : w_Lsetting [.ref p, pD pr] M Q X := by
  unfold w_Lsetting wOf
  rw [show startE N_Lsetting [.ref p, pD pr] = [some (.ref p), some (pD pr), none] from rfl]
  unfold m_Lsetting
  walk_at "ml"
  refine ldraw F (by decide) (by decide) fun d M1 d0 d1 k1 F1 => ?_
  walk_at "ml"
  generalize hu : 1 + d = u at *
  have u0 : 1 ≤ u ∧ u ≤ 5 := by omega
  have e1 : 0 ≤ (pr.2 - pr.1) * u := Int.mul_nonneg (by omega) (by omega)
  have e2 : (pr.2 - pr.1) * u ≤ 2000 * 5 := Int.mul_le_mul (by omega) (by omega) (by omega) (by omega)
  have e3 : (pr.1 * u).natAbs ≤ 1000 * 5 := by rw [Int.natAbs_mul]; exact Nat.mul_le_mul h2.1 (by omega)
  refine o_mul (mul_ok (by omega)) ?_
  walk_at "ml"
  refine o_mul (mul_ok (by omega)) ?_
  walk_at "ml"
  refine ldraw F1 (by omega) (by omega) fun e M2 e0 e1' k2 F2 => ?_
  walk_at "ml"
  refine lfrac (by omega) (by omega) ?_
  obtain ⟨n1, n2, g, n3, n4, n5⟩ := num_leG (x := pr.1 * u + e) (y := u) (by omega)
  have e4 : (pr.2 - pr.1) * u = pr.2 * u - pr.1 * u := Int.sub_mul _ _ _
  refine k _ _ (k1.trans k2) F2 ⟨by omega, by omega, ?_, ?_⟩
  · generalize ((pr.1 * u + e : Int) : Rat) / ((u : Int) : Rat) = s at *
    have : pr.1 * (s.den : Int) * g ≤ s.num * g := by
      rw [← n4, Int.mul_assoc, ← n5]; omega
    exact Int.le_of_mul_le_mul_right this n3
  · generalize ((pr.1 * u + e : Int) : Rat) / ((u : Int) : Rat) = s at *
    have : s.num * g ≤ pr.2 * (s.den : Int) * g := by
      rw [← n4, Int.mul_assoc, ← n5]; omega
    exact Int.le_of_mul_le_mul_right this n3
theorem lroomG {M : Mem} {p q : Nat} {t : Int} {b : Int × Int} {Q : DK} {X : XM} (F : Feed M p q) (h0 : 0 ≤ t) (hb : t ≤ 100) (hs : b.1.natAbs ≤ 50 ∧ b.2.natAbs ≤ 50) (k : ∀ m M', m.1.natAbs ≤ 150 → m.2.natAbs ≤ 1 → RmG b m → Kp [p] M M' → Feed M' p q → Q (pD m) M') : w_Lroom [.ref p, .int t, pD b] M Q X := by
  obtain ⟨lo, hi⟩ := b
  obtain ⟨s1, s2⟩ := hs
  simp only at s1 s2
  show m_Lroom _ [some (.ref p), some (.int t), some (pD (lo, hi)), none, none, none] M
  unfold m_Lroom
  walk_at "ml"
  refine ldraw F (by omega) (by omega) fun a M1 a0 a1 k1 F1 => ?_
  walk_at "ml"
  refine ldraw F1 (by omega) (by omega) fun c M2 c0 c1 k2 F2 => ?_
  walk_at "ml"
  refine o_mul (mul_ok' (by omega)) ?_
  walk_at "ml"
  refine o_mul (mul_ok' (by omega)) ?_
  walk_at "ml"
  have hc : c - 1 = -1 ∨ c - 1 = 0 ∨ c - 1 = 1 := by omega
  generalize c - 1 = s at hc ⊢
  refine if_d (fun hc' => ?_) (fun hc' => ?_)
  · walk_at "ml"
    refine k (_, s) _ ?_ ?_ ?_ (k1.trans k2) F2
    · rcases hc with rfl | rfl | rfl <;> simp only <;> split at hc' <;> (try split) <;> omega
    · exact (show s.natAbs ≤ 1 by omega)
    · rcases hc with rfl | rfl | rfl <;> (refine ⟨?_, ?_, ?_, ?_⟩ <;> simp only <;> split at hc' <;> (try split) <;> omega)
  · walk_at "ml"
    refine k (a, s) _ ?_ ?_ ?_ (k1.trans k2) F2
    · simp only; omega
    · exact (show s.natAbs ≤ 1 by omega)
    · rcases hc with rfl | rfl | rfl <;> (refine ⟨?_, ?_, ?_, ?_⟩ <;> simp only <;> split at hc' <;> omega)
def dotM (φ : Nat → Int) : Nat → List Mo → Mo
  | _, [] => (0, 0)
  | k, x :: xs => madd (msc (φ k) x) (dotM φ (k + 1) xs)
theorem dotM_set {φ : Nat → Int} : ∀ {xs : List Mo} {k j : Nat} {x y : Mo}, xs[j]? = some x → dotM φ k (xs.set j (madd x y)) = madd (dotM φ k xs) (msc (φ (k + j)) y)
  | x :: xs, k, 0, _, y, h => by
    simp only [List.getElem?_cons_zero, Option.some.injEq] at h
    subst h
    show madd (msc _ (madd x y)) (dotM φ (k + 1) xs) = madd (madd (msc _ x) (dotM φ (k + 1) xs)) _
    rw [msc_madd, madd_l0]; rfl
  | x :: xs, k, j + 1, z, y, h => by
    simp only [List.getElem?_cons_succ] at h
    show madd (msc _ x) (dotM φ (k + 1) (xs.set j (madd z y))) = madd (madd (msc _ x) (dotM φ (k + 1) xs)) _
    rw [dotM_set h, madd_assoc, show k + 1 + j = k + (j + 1) by omega]
theorem dotM_zero {φ : Nat → Int} : ∀ {n k : Nat}, dotM φ k (List.replicate n (0, 0)) = (0, 0)
  | 0, _ => rfl
  | n + 1, k => by
    show madd (msc _ (0, 0)) (dotM φ (k + 1) (List.replicate n (0, 0))) = _
    rw [msc_o, zero_madd, dotM_zero]
structure PlG (b b2 : Int × Int) (n : Nat) (arcs : List Arc) (base needs : List Mo) : Prop where
  hn : needs.length = n
  hb : base.length = arcs.length
  nd : ∀ a ∈ arcs, a.tl < n ∧ a.hd < n
  rm : ∀ a ∈ arcs, ∀ r, a.room = some r → RmG b r
  pr : ∀ a ∈ arcs, a.price.1.natAbs ≤ 1000 ∧ a.price.2.natAbs ≤ 10 ∧ (a.room = none → RmG b2 a.price)
  ld : ∀ (k : Nat) (a : Arc) (m : Mo), arcs[k]? = some a → base[k]? = some m → RmG b m ∧ ∀ r, a.room = some r → RmG b (mtake r m)
  bal : ∀ φ : Nat → Int, dotM φ 0 needs = exW φ arcs base
  sm : ∀ x ∈ needs, x.1.natAbs ≤ 300 * arcs.length ∧ x.2.natAbs ≤ 2 * arcs.length
theorem PlG.start {b b2 : Int × Int} {n : Nat} : PlG b b2 n [] [] (List.replicate n (0, 0)) := by
  refine ⟨by simp, rfl, (fun a h => by cases h), (fun a h => by cases h), (fun a h => by cases h), (fun k a m h => by simp at h), fun φ => by rw [dotM_zero]; rfl, fun x hx => ?_⟩
  rw [List.eq_of_mem_replicate hx]; decide
theorem PlG.more {b b2 : Int × Int} {n : Nat} {arcs : List Arc} {base needs : List Mo} (P : PlG b b2 n arcs base needs) {a : Arc} {m x y : Mo} (ht : a.tl < n) (hh : a.hd < n) (hr : ∀ r, a.room = some r → RmG b r ∧ RmG b (mtake r m)) (hp : a.price.1.natAbs ≤ 1000 ∧ a.price.2.natAbs ≤ 10 ∧ (a.room = none → RmG b2 a.price)) (hm : RmG b m) (m1 : m.1.natAbs ≤ 150) (m2 : m.2.natAbs ≤ 1) (hx : needs[a.hd]? = some x) (hy : (needs.set a.hd (madd x m))[a.tl]? = some y) :
    PlG b b2 n (arcs ++ [a]) (base ++ [m]) ((needs.set a.hd (madd x m)).set a.tl (mtake y m)) := by
  have sm1 : ∀ z ∈ needs.set a.hd (madd x m), z.1.natAbs ≤ 300 * arcs.length + 150 ∧ z.2.natAbs ≤ 2 * arcs.length + 1 := fun z hz => by
    rcases List.mem_or_eq_of_mem_set hz with h | h
    · have := P.sm z h; omega
    · have := P.sm x (List.mem_of_getElem? hx)
      rw [h]; unfold madd; dsimp only; omega
  refine ⟨by rw [List.length_set, List.length_set]; exact P.hn, by rw [List.length_append, List.length_append, P.hb]; rfl, fun c hc => ?_, fun c hc => ?_, fun c hc => ?_, fun k c w h1 h2 => ?_, fun φ => ?_, fun z hz => ?_⟩
  · rcases List.mem_append.mp hc with hc | hc
    · exact P.nd c hc
    · rw [List.mem_singleton.mp hc]; exact ⟨ht, hh⟩
  · rcases List.mem_append.mp hc with hc | hc
    · exact P.rm c hc
    · rw [List.mem_singleton.mp hc]; exact fun r h => (hr r h).1
  · rcases List.mem_append.mp hc with hc | hc
    · exact P.pr c hc
    · rw [List.mem_singleton.mp hc]; exact hp
  · by_cases q : k < arcs.length
    · rw [List.getElem?_append_left q] at h1
      rw [List.getElem?_append_left (by rw [P.hb]; exact q)] at h2
      exact P.ld k c w h1 h2
    · rw [List.getElem?_append_right (by omega)] at h1
      rw [List.getElem?_append_right (by rw [P.hb]; omega), P.hb] at h2
      have hk : k - arcs.length = 0 := by
        have := (List.getElem?_eq_some_iff.mp h1).1
        simp at this; omega
      rw [hk] at h1 h2
      cases h1
      cases h2
      exact ⟨hm, fun r h => (hr r h).2⟩
  · rw [← mneg_add, dotM_set hy, dotM_set hx, P.bal, exW_app P.hb]
    show _ = madd (exW φ arcs base) (madd (msc (φ a.hd - φ a.tl) m) (0, 0))
    rw [madd_zero, madd_assoc, Nat.zero_add, Nat.zero_add, msc_neg, ← madd_msc, ← Int.sub_eq_add_neg]
  · have hl : (arcs ++ [a]).length = arcs.length + 1 := by simp
    rw [hl]
    rcases List.mem_or_eq_of_mem_set hz with h | h
    · have := sm1 z h; omega
    · have := sm1 y (List.mem_of_getElem? hy)
      rw [h]; unfold mtake; dsimp only; omega
end Prf

namespace Prf
theorem l_some_plain {M : Mem} {Q : DK} {X : XM} {p q : Nat} {b b2 : Int × Int} (F : Feed M p q) (hs : b.1.natAbs ≤ 50 ∧ b.2.natAbs ≤ 50) (hs2 : b2.1.natAbs ≤ 50 ∧ b2.2.natAbs ≤ 50)
    (k : ∀ M' n arcs base needs x y z, Kp [p] M M' → Feed M' p q → 1 ≤ n → n ≤ 4 → arcs.length ≤ 6 → PlG b b2 n arcs base needs → M.length ≤ x → M.length ≤ y → M.length ≤ z → x ≠ y → x ≠ z → y ≠ z → M'[x]? = some (.lst (needs.map pD)) → M'[y]? = some (.lst (arcs.map arcD)) → M'[z]? = some (.lst (base.map pD)) → Q (.tup [.ref x, .ref y, .ref z]) M') : w_Lsome_plain [.ref p, pD b, pD b2] M Q X := by
  unfold w_Lsome_plain wOf
  rw [show startE N_Lsome_plain [.ref p, pD b, pD b2] = [some (.ref p), some (pD b), some (pD b2), none, none, none, none, none, none, none, none, none, none, none, none] from rfl]
  unfold m_Lsome_plain
  walk_at "ml"
  refine ldraw F (by decide) (by decide) fun m0 M1 m00 m01 k1 F1 => ?_
  obtain ⟨n, hn⟩ : ∃ n : Nat, 1 + m0 = n := ⟨(1 + m0).toNat, by omega⟩
  have n1 : 1 ≤ n ∧ n ≤ 4 := by omega
  walk_at "mq"
  rw [hn]
  dsimp only
  walk_at "sx"
  refine x_set (x_lc (x_rng (x_cons (x_var rfl (x_nil ⟨by omega, ?_⟩)))))
  rw [show ((n : Nat) : Int).toNat = n by omega]
  refine lc_ix (fun j acc M' => acc = List.replicate j (pD (0, 0)) ∧ Kp [] M1 M') (fun _ _ _ _ => trivial) ?_ ?_ (by rw [rng_len]; omega) mnew ⟨rfl, .app⟩
  · rintro j d acc M' K' hd hM ⟨rfl, k'⟩ hK
    refine x_cb (x_cons (x_c (x_cons (x_c (x_nil (o_tup (Nat.le_of_ble_eq_true rfl) ?_))))))
    refine hK _ _ hM ⟨by rw [List.replicate_succ']; rfl, ?_⟩
    exact k'.setNew (Nat.le_refl _)
  rintro acc M2 hM ⟨rfl, k2⟩
  have lt1 := F1.lt
  have F2 := F1.kp k2 (by simp) (by simp)
  rw [rng_len, show List.replicate n (pD (0, 0)) = (List.replicate n ((0, 0) : Mo)).map pD by rw [List.map_replicate]] at hM
  have lx1 : M.length ≤ M1.length := k1.len
  have px : p ≠ M1.length := by omega
  have qx : q ≠ M1.length := by omega
  have lx2 := mlt hM
  generalize hx : M1.length = x at *
  dsimp only
  walk_at "sx"
  refine x_set (x_cb (x_nil (o_lst (by simp) ?_)))
  have k3 : Kp [] M2 (M2 ++ [O.lst []]) := .app
  have g3 : (M2 ++ [O.lst []])[M2.length]? = some (.lst []) := mnew
  have h3 := k3.at_ _ _ (by simp) hM
  have F3 := F2.kp k3 (by simp) (by simp)
  have lt3 := F2.lt
  have xy : x ≠ M2.length := by omega
  have py : p ≠ M2.length := by omega
  have qy : q ≠ M2.length := by omega
  have ly1 : x ≤ M2.length := by omega
  generalize hy : M2.length = y at *
  generalize M2 ++ [O.lst []] = M3 at *
  dsimp only
  walk_at "sx"
  refine x_set (x_cb (x_nil (o_lst (by simp) ?_)))
  have k4 : Kp [] M3 (M3 ++ [O.lst []]) := .app
  have g4 : (M3 ++ [O.lst []])[M3.length]? = some (.lst []) := mnew
  have h4 := k4.at_ _ _ (by simp) h3
  have g3' := k4.at_ _ _ (by simp) g3
  have F4 := F3.kp k4 (by simp) (by simp)
  have lt4 := F3.lt
  have lyy := mlt g3
  have lxx := mlt h3
  have xz : x ≠ M3.length := by omega
  have yz : y ≠ M3.length := by omega
  have pz : p ≠ M3.length := by omega
  have qz : q ≠ M3.length := by omega
  have lz1 : x ≤ M3.length := by omega
  have kk : Kp [p] M (M3 ++ [O.lst []]) := k1.trans ((k2.trans (k3.trans k4)).weak (by simp))
  generalize hz : M3.length = z at *
  generalize M3 ++ [O.lst []] = M4 at *
  dsimp only
  with_reducible refine x_join (fun ρ M' => ∃ arcs base needs, (∃ o8 o9 o10 o11 o12 o13 o14, ρ = [some (.ref p), some (pD b), some (pD b2), some (.int (n : Nat)), some (.ref x), none, some (.ref y), some (.ref z), o8, o9, o10, o11, o12, o13, o14]) ∧ arcs.length ≤ 6 ∧ PlG b b2 n arcs base needs ∧ Kp [p] M M' ∧ Feed M' p q ∧ M'[x]? = some (.lst (needs.map pD)) ∧ M'[y]? = some (.lst (arcs.map arcD)) ∧ M'[z]? = some (.lst (base.map pD))) ?_ ?_
  · intro K hK
    walk_at "ml"
    refine ldraw F4 (by decide) (by decide) fun c M5 c0 c1 k5 F5 => ?_
    obtain ⟨c, rfl⟩ := Int.eq_ofNat_of_zero_le c0
    walk_at "ml"
    refine ⟨by omega, ?_⟩
    rw [show ((c : Nat) : Int).toNat = c by omega]
    refine for_ix (fun i ρ M' => ∃ arcs base needs, (∃ o8 o9 o10 o11 o12 o13 o14, ρ = [some (.ref p), some (pD b), some (pD b2), some (.int (n : Nat)), some (.ref x), none, some (.ref y), some (.ref z), o8, o9, o10, o11, o12, o13, o14]) ∧ arcs.length = i ∧ PlG b b2 n arcs base needs ∧ Kp [p] M M' ∧ Feed M' p q ∧ M'[x]? = some (.lst (needs.map pD)) ∧ M'[y]? = some (.lst (arcs.map arcD)) ∧ M'[z]? = some (.lst (base.map pD))) (fun _ _ _ _ => trivial) ?_ ?_ ⟨[], [], List.replicate n (0, 0), ⟨_, _, _, _, _, _, _, rfl⟩, rfl, .start, kk.trans k5, F5, k5.at_ _ _ (by simp; omega) h4, k5.at_ _ _ (by simp; omega) g3', k5.at_ _ _ (by simp; omega) g4⟩
    · rintro ρ M' ⟨arcs, base, needs, h1, h2, h3⟩
      rw [rng_len] at h2
      exact hK _ _ ⟨arcs, base, needs, h1, by omega, h3⟩
    · rintro i d ρ M' K' hd ⟨arcs, base, needs, ⟨o8, o9, o10, o11, o12, o13, o14, rfl⟩, hl, P, k', F', hx', hy', hz'⟩ hK'
      obtain ⟨rfl, hi⟩ := rng_at hd
      refine x_nm ?_
      walk_at "ml"
      refine ldraw F' (by omega) (by omega) fun a M6 a0 a1 k6 F6 => ?_
      obtain ⟨a, rfl⟩ := Int.eq_ofNat_of_zero_le a0
      walk_at "ml"
      refine ldraw F6 (by omega) (by omega) fun e M7 e0 e1 k7 F7 => ?_
      obtain ⟨e, rfl⟩ := Int.eq_ofNat_of_zero_le e0
      walk_at "ml"
      refine lroomG F7 (by decide) (by decide) hs fun m M8 m1 m2 hm k8 F8 => ?_
      walk_at "ml"
      refine lroomG F8 (by decide) (by decide) hs fun w M9 w1 w2 hw k9 F9 => ?_
      have k69 := k6.trans (k7.trans (k8.trans k9))
      have hx9 := k69.at_ _ _ (by simp; omega) hx'
      have hy9 := k69.at_ _ _ (by simp; omega) hy'
      have hz9 := k69.at_ _ _ (by simp; omega) hz'
      have kk9 := k'.trans k69
      dsimp only
      walk_at "sx"
      refine x_set (x_cb (x_cons (x_op (x_op (x_var rfl (x_c (o_pD0 (x_op (x_var rfl (x_c (o_pD0 (o_add (x_cons (x_op (x_op (x_var rfl (x_c (o_pD1 (x_op (x_var rfl (x_c (o_pD1 (o_add (x_nil (o_tup (Nat.le_of_ble_eq_true rfl) ?_)))))))))))))))))))))))))
      have ew : D.tup [.int (m.1 + w.1), .int (m.2 + w.2)] = omD (some (madd m w)) := rfl
      rw [ew]
      dsimp only
      walk_at "sx"
      refine x_set (x_call (x_argsP (x_cons (x_var rfl (x_cons (x_c (x_nil (x_len rfl rfl ?_))))))))
      refine lmove F9 (by decide) (by decide) fun u v M10 u0 u1 v0 v1 k10 F10 => ?_
      have hx10 := k10.at_ _ _ (by simp; omega) hx9
      have hy10 := k10.at_ _ _ (by simp; omega) hy9
      have hz10 := k10.at_ _ _ (by simp; omega) hz9
      have kk10 := kk9.trans k10
      have eu : D.tup [.int u, .int v] = pD (u, v) := rfl
      rw [eu]
      have sumOk : RmG b (madd m w) := ⟨by unfold madd; dsimp only; omega, by unfold madd; dsimp only; omega, by
        unfold madd; dsimp only
        have := hm.l
        have := hw.l
        rw [Int.add_mul]; omega, by
        unfold madd; dsimp only
        have := hm.h
        have := hw.h
        rw [Int.add_mul]; omega⟩
      have backOk : mtake (madd m w) m = w := by unfold mtake madd; exact Prod.ext (by dsimp only; omega) (by dsimp only; omega)
      dsimp only
      with_reducible refine x_join (fun ρ M' => ∃ (r : Option Mo) (pr : Mo), ρ = [some (.ref p), some (pD b), some (pD b2), some (.int (n : Nat)), some (.ref x), none, some (.ref y), some (.ref z), some (.int (i : Nat)), some (.int (a : Nat)), some (.int (e : Nat)), some (pD m), some (pD w), some (omD r), some (pD pr)] ∧ (∀ r', r = some r' → RmG b r' ∧ RmG b (mtake r' m)) ∧ (pr.1.natAbs ≤ 1000 ∧ pr.2.natAbs ≤ 10 ∧ (r = none → RmG b2 pr)) ∧ Kp [p] M M' ∧ Feed M' p q ∧ M'[x]? = some (.lst (needs.map pD)) ∧ M'[y]? = some (.lst (arcs.map arcD)) ∧ M'[z]? = some (.lst (base.map pD))) ?_ ?_
      · intro K2 hK2
        walk_at "ml"
        refine ldraw F10 (by decide) (by decide) fun g M11 g0 g1 k11 F11 => ?_
        have hx11 := k11.at_ _ _ (by simp; omega) hx10
        have hy11 := k11.at_ _ _ (by simp; omega) hy10
        have hz11 := k11.at_ _ _ (by simp; omega) hz10
        walk_at "ml"
        refine if_d (fun _ => ?_) (fun _ => ?_)
        · walk_at "ml"
          refine lroomG F11 (by decide) (by decide) hs2 fun pr M12 p1 p2 hp k12 F12 => ?_
          refine hK2 _ _ ⟨none, pr, rfl, (fun r' h => by cases h), ⟨hp.a1, hp.b1, fun _ => hp⟩, kk10.trans (k11.trans k12), F12, k12.at_ _ _ (by simp; omega) hx11, k12.at_ _ _ (by simp; omega) hy11, k12.at_ _ _ (by simp; omega) hz11⟩
        · refine x_next ?_
          refine hK2 _ _ ⟨some (madd m w), (u, v), rfl, (fun r' h => by cases h; exact ⟨sumOk, by rw [backOk]; exact hw⟩), ⟨by dsimp only; omega, by dsimp only; omega, fun h => by cases h⟩, kk10.trans k11, F11, hx11, hy11, hz11⟩
      · rintro ρ M12 ⟨r, pr, rfl, hr, hp, k12, F12, hx12, hy12, hz12⟩
        walk_at "sx"
        refine x_drop (x_bm (x_var rfl (x_isL hy12 (x_cons (x_cb (x_cons (x_var rfl (x_cons (x_var rfl (x_cons (x_var rfl (x_cons (x_var rfl (x_nil (o_tup (Nat.le_of_ble_eq_true rfl) (x_nil (o_app hy12 (by rw [List.length_map]; omega) ?_)))))))))))))))))
        have hy13 := msame (o' := O.lst (arcs.map arcD ++ [arcD ⟨a, e, r, pr⟩])) hy12
        have hx13 : (M12.set y (O.lst (arcs.map arcD ++ [arcD ⟨a, e, r, pr⟩])))[x]? = some (.lst (needs.map pD)) := by rw [List.getElem?_set_ne (Ne.symm xy)]; exact hx12
        have hz13 : (M12.set y (O.lst (arcs.map arcD ++ [arcD ⟨a, e, r, pr⟩])))[z]? = some (.lst (base.map pD)) := by rw [List.getElem?_set_ne yz]; exact hz12
        have F13 : Feed (M12.set y (O.lst (arcs.map arcD ++ [arcD ⟨a, e, r, pr⟩]))) p q := F12.kp (S := [y]) (Kp.set (by simp)) (by simp; omega) (by simp; omega)
        have k13 : Kp [p] M (M12.set y (O.lst (arcs.map arcD ++ [arcD ⟨a, e, r, pr⟩]))) := k12.setNew (by omega)
        rw [show D.tup [.int (a : Nat), .int (e : Nat), omD r, pD pr] = arcD ⟨a, e, r, pr⟩ from rfl]
        generalize M12.set y (O.lst (arcs.map arcD ++ [arcD ⟨a, e, r, pr⟩])) = M13 at *
        dsimp only
        walk_at "sx"
        refine x_drop (x_bm (x_var rfl (x_isL hz13 (x_cons (x_var rfl (x_nil (o_app hz13 (by rw [List.length_map, P.hb]; omega) ?_)))))))
        have hz14 := msame (o' := O.lst (base.map pD ++ [pD m])) hz13
        have hx14 : (M13.set z (O.lst (base.map pD ++ [pD m])))[x]? = some (.lst (needs.map pD)) := by rw [List.getElem?_set_ne (Ne.symm xz)]; exact hx13
        have hy14 : (M13.set z (O.lst (base.map pD ++ [pD m])))[y]? = some (.lst (arcs.map arcD ++ [arcD ⟨a, e, r, pr⟩])) := by rw [List.getElem?_set_ne (Ne.symm yz)]; exact hy13
        have F14 : Feed (M13.set z (O.lst (base.map pD ++ [pD m]))) p q := F13.kp (S := [z]) (Kp.set (by simp)) (by simp; omega) (by simp; omega)
        have k14 : Kp [p] M (M13.set z (O.lst (base.map pD ++ [pD m]))) := k13.setNew (by omega)
        generalize M13.set z (O.lst (base.map pD ++ [pD m])) = M14 at *
        dsimp only
        have ea : a < n := by omega
        have ee : e < n := by omega
        obtain ⟨xv, hxv⟩ : ∃ xv, needs[e]? = some xv := ⟨_, List.getElem?_eq_getElem (by rw [P.hn]; exact ee)⟩
        walk_at "sx"
        refine x_setIx (x_cb (x_cons (x_op (x_op (x_op (x_var rfl (x_var rfl (o_ixL hx14 (ms_at hxv) (x_c (o_pD0 (x_op (x_var rfl (x_c (o_pD0 (o_add (x_cons (x_op (x_op (x_op (x_var rfl (x_var rfl (o_ixL hx14 (ms_at hxv) (x_c (o_pD1 (x_op (x_var rfl (x_c (o_pD1 (o_add (x_nil (o_tup (Nat.le_of_ble_eq_true rfl) (x_var rfl (x_var rfl (o_setL hx14 (ixN_n (by rw [List.length_map, P.hn]; exact ee)) ?_))))))))))))))))))))))))))))))))))
        have ex1 : (needs.map pD).set e (D.tup [.int (xv.1 + m.1), .int (xv.2 + m.2)]) = (needs.set e (madd xv m)).map pD := by rw [List.map_set]; rfl
        rw [ex1]
        have hx15 := msame (o' := O.lst ((needs.set e (madd xv m)).map pD)) hx14
        have hy15 : (M14.set x (O.lst ((needs.set e (madd xv m)).map pD)))[y]? = some (.lst (arcs.map arcD ++ [arcD ⟨a, e, r, pr⟩])) := by rw [List.getElem?_set_ne xy]; exact hy14
        have hz15 : (M14.set x (O.lst ((needs.set e (madd xv m)).map pD)))[z]? = some (.lst (base.map pD ++ [pD m])) := by rw [List.getElem?_set_ne xz]; exact hz14
        have F15 : Feed (M14.set x (O.lst ((needs.set e (madd xv m)).map pD))) p q := F14.kp (S := [x]) (Kp.set (by simp)) (by simp; omega) (by simp; omega)
        have k15 : Kp [p] M (M14.set x (O.lst ((needs.set e (madd xv m)).map pD))) := k14.setNew (by omega)
        generalize M14.set x (O.lst ((needs.set e (madd xv m)).map pD)) = M15 at *
        obtain ⟨yv, hyv⟩ : ∃ yv, (needs.set e (madd xv m))[a]? = some yv := ⟨_, List.getElem?_eq_getElem (by rw [List.length_set, P.hn]; exact ea)⟩
        dsimp only
        refine x_setIx (x_cb (x_cons (x_op (x_op (x_op (x_var rfl (x_var rfl (o_ixL hx15 (ms_at hyv) (x_c (o_pD0 (x_op (x_var rfl (x_c (o_pD0 (o_sub (x_cons (x_op (x_op (x_op (x_var rfl (x_var rfl (o_ixL hx15 (ms_at hyv) (x_c (o_pD1 (x_op (x_var rfl (x_c (o_pD1 (o_sub (x_nil (o_tup (Nat.le_of_ble_eq_true rfl) (x_var rfl (x_var rfl (o_setL hx15 (ixN_n (by rw [List.length_map, List.length_set, P.hn]; exact ea)) ?_))))))))))))))))))))))))))))))))))
        have ex2 : ((needs.set e (madd xv m)).map pD).set a (D.tup [.int (yv.1 - m.1), .int (yv.2 - m.2)]) = ((needs.set e (madd xv m)).set a (mtake yv m)).map pD := by rw [List.map_set (l := needs.set e (madd xv m))]; rfl
        rw [ex2]
        refine hK' _ _ ⟨arcs ++ [⟨a, e, r, pr⟩], base ++ [m], _, ⟨_, _, _, _, _, _, _, rfl⟩, by rw [List.length_append, hl]; rfl, P.more ea ee hr hp hm m1 m2 hxv hyv, k15.setNew (by omega), F15.kp (S := [x]) (Kp.set (by simp)) (by simp; omega) (by simp; omega), msame hx15, ?_, ?_⟩
        · rw [List.getElem?_set_ne xy, hy15, List.map_append]; rfl
        · rw [List.getElem?_set_ne xz, hz15, List.map_append]; rfl
  rintro ρ M5 ⟨arcs, base, needs, ⟨o8, o9, o10, o11, o12, o13, o14, rfl⟩, h1, P, k5, F5, g5, g6, g7⟩
  refine x_ret (x_cb (x_cons (x_var rfl (x_cons (x_var rfl (x_cons (x_var rfl (x_nil (o_tup (Nat.le_of_ble_eq_true rfl) ?_)))))))))
  exact k M5 n arcs base needs x y z k5 F5 n1.1 n1.2 h1 P (by omega) (by omega) (by omega) xy xz yz g5 g6 g7
end Prf

namespace Prf
def worthG (m : Mo) (t : Rat) : Rat := m.1 + m.2 * t
theorem worthG_rI {t : Rat} {ah : Bool} {m : Mo} : worthG m t = ((rI (sg t ah) m : Int) : Rat) / ((t.den : Int) : Rat) := (q_val m.1 m.2 t).symm
theorem DD_worthG {t : Rat} {m : Mo} : DD t.den (worthG m t) := DD.val t.den_pos (Nat.dvd_refl _) m.1 m.2
theorem fineG_int {k : Nat} {i : Int} : fine k (.int i) = true := by cases k <;> rfl
theorem fineG_tup {k : Nat} {ds : List D} : fine (k + 1) (.tup ds) = ds.all (fine k) := rfl
theorem fineG_pD {k : Nat} {m : Int × Int} : fine (k + 1) (pD m) = true := by simp [pD, fineG_tup, fineG_int]
end Prf

namespace MV
def psum (pr : Li → Mo) (P : List Li) : Mo := P.foldl (fun x l => madd x (pr l)) (0, 0)
theorem psum_snoc {pr : Li → Mo} {P : List Li} {l : Li} : psum pr (P ++ [l]) = madd (psum pr P) (pr l) := by unfold psum; rw [List.foldl_append]; rfl
theorem foldl_psum {pr : Li → Mo} : ∀ {P : List Li} {x : Mo}, P.foldl (fun x l => madd x (pr l)) x = madd x (psum pr P)
  | [], x => (madd_zero x).symm
  | l :: P, x => by
    show P.foldl (fun x l => madd x (pr l)) (madd x (pr l)) = madd x (P.foldl (fun x l => madd x (pr l)) (madd (0, 0) (pr l)))
    rw [foldl_psum (x := madd x (pr l)), foldl_psum (x := madd (0, 0) (pr l)), zero_madd, madd_assoc]
theorem psum_cons {pr : Li → Mo} {P : List Li} {l : Li} : psum pr (l :: P) = madd (pr l) (psum pr P) := by
  conv => lhs; unfold psum
  rw [List.foldl_cons, foldl_psum, zero_madd]
def Ach (pr : Li → Mo) (ls : List Li) (h0 h : HS) (K : Nat) : Prop := ∀ v a, h v = some a → ∃ r P a0, h0 r = some a0 ∧ Wy (fun l => l ∈ ls) r P v ∧ P.length ≤ K ∧ a = madd a0 (psum pr P)
theorem Ach.mono {pr : Li → Mo} {ls : List Li} {h0 h : HS} {K K' : Nat} (a : Ach pr ls h0 h K) (hk : K ≤ K') : Ach pr ls h0 h K' := fun v x e => by
  obtain ⟨r, P, a0, h1, h2, h3, h4⟩ := a v x e
  exact ⟨r, P, a0, h1, h2, by omega, h4⟩
theorem Ach.relax {A : Sg} {pr : Li → Mo} {ls : List Li} {h0 : HS} {s : Sst} {K : Nat} (a : Ach pr ls h0 s.h K) {l : Li} (hl : l ∈ ls) : Ach pr ls h0 (MV.relax A pr s l).h (K + 1) := by
  rcases relax_cases (A := A) (pr := pr) s l with e | ⟨x, e1, e2, e⟩
  · rw [e]; exact a.mono (by omega)
  · rw [e]
    intro v y hy
    by_cases q : v = l.hd
    · subst q
      obtain rfl : madd x (pr l) = y := Option.some.inj (upf_same.symm.trans hy)
      obtain ⟨r, P, a0, h1, h2, h3, h4⟩ := a _ _ e1
      refine ⟨r, P ++ [l], a0, h1, Wy.snoc hl h2, by simp; omega, ?_⟩
      rw [psum_snoc, h4, madd_assoc]
    · have hy' : s.h v = some y := (upf_ne q).symm.trans hy
      exact a.mono (by omega) v y hy'
theorem Ach.fold {A : Sg} {pr : Li → Mo} {ls : List Li} {h0 : HS} : ∀ (ms : List Li) {s : Sst} {K : Nat}, Ach pr ls h0 s.h K → (∀ l ∈ ms, l ∈ ls) → Ach pr ls h0 (ms.foldl (MV.relax A pr) s).h (K + ms.length)
  | [], _, _, a, _ => a
  | m :: ms, s, K, a, h => by
    have := Ach.fold (A := A) ms (a.relax (A := A) (h m (by simp))) fun l q => h l (by simp [q])
    rw [List.length_cons, show K + (ms.length + 1) = K + 1 + ms.length by omega]
    exact this
theorem Ach.itr {A : Sg} {pr : Li → Mo} {ls : List Li} {h0 : HS} {b0 : BS} : ∀ n, Ach pr ls h0 (MV.itr A pr ls ⟨h0, b0, none⟩ n).h (n * ls.length)
  | 0 => fun v a e => ⟨v, [], a, e, rfl, by simp, (madd_zero a).symm⟩
  | n + 1 => by
    have := Ach.fold (A := A) ls (s := ⟨(MV.itr A pr ls ⟨h0, b0, none⟩ n).h, (MV.itr A pr ls ⟨h0, b0, none⟩ n).b, none⟩) (Ach.itr n) fun _ h => h
    rw [show (n + 1) * ls.length = n * ls.length + ls.length by rw [Nat.succ_mul]]
    exact this
def PotL (T : Sg) (pr : Li → Mo) (L : Li → Prop) (π : Nat → Mo) : Prop := ∀ l, L l → wle (rk T (π l.hd)) (rk T (madd (π l.tl) (pr l)))
theorem PotL.way {T : Sg} {pr : Li → Mo} {L : Li → Prop} {π : Nat → Mo} (p : PotL T pr L π) : ∀ {P : List Li} {u v : Nat}, Wy L u P v → wle (rk T (π v)) (rk T (madd (π u) (psum pr P)))
  | [], u, v, h => by
    have h : u = v := h
    subst h
    show wle _ (rk T (madd (π u) (0, 0)))
    rw [madd_zero]; exact wle_refl _
  | l :: P, u, v, ⟨h1, h2, h3⟩ => by
    have i := p.way h3
    have q := p l h1
    rw [h2] at q
    rw [psum_cons]
    rw [rk_add] at i q ⊢
    rw [rk_add]
    unfold wle madd at *
    dsimp only at *
    omega
theorem upb_bk {b : BS} : ∀ {p v x : Nat}, upb b p v = some x → ∃ cs, Bk b v cs x ∧ cs.length = p
  | 0, v, x, h => ⟨[], Option.some.inj h, rfl⟩
  | p + 1, v, x, h => by
    unfold upb at h
    cases e : b v with
    | none => rw [e] at h; cases h
    | some l =>
      rw [e] at h
      obtain ⟨cs, h1, h2⟩ := upb_bk (p := p) (v := l.tl) h
      exact ⟨l :: cs, ⟨e, h1⟩, by rw [List.length_cons, h2]⟩
theorem bf_still {T : Sg} {pr : Li → Mo} {ls : List Li} {h0 : HS} {n m : Nat} {s : Sst} (hs : s = itr T pr ls ⟨h0, fun _ => none, none⟩ m) (h1 : s.mv ≠ none → m = n) (h2 : m = 0 → n = 0) (n0 : 0 < n) (hl : ∀ l ∈ ls, l.tl < n ∧ l.hd < n) {π : Nat → Mo} (hπ : PotL T pr (fun l => l ∈ ls) π) :
    (∀ l ∈ ls, ∀ a, s.h l.tl = some a → ∃ b, s.h l.hd = some b ∧ wle (rk T b) (rk T (madd a (pr l)))) ∧ Fall T s.h h0 ∧ Ach pr ls h0 s.h (m * ls.length) := by
  have m0 : m ≠ 0 := fun e => by have := h2 e; omega
  obtain ⟨k, rfl⟩ : ∃ k, m = k + 1 := ⟨m - 1, by omega⟩
  have no : s.mv = none := by
    cases e : s.mv with
    | none => rfl
    | some v =>
      exfalso
      obtain rfl : k + 1 = n := h1 (by rw [e]; simp)
      have BIs : BI T pr ls h0 s := by rw [hs]; exact BI.itr BI.start _
      have NGs : Neg T pr s.b := by rw [hs]; exact Neg.itr (ls := ls) (h0 := h0) BI.start Neg.start _
      have hb : ∀ x l, s.b x = some l → l.tl < k + 1 := fun x l q => (hl l (BIs.lk x l q).1).1
      have i0 : BI T pr ls h0 ⟨h0, fun _ => none, none⟩ := BI.start
      have bk : ∀ kk, kk < k + 1 → ∀ r, upb s.b kk v = some r → s.b r ≠ none := fun kk hk r q => by
        have := itr_back i0 (n := k) (v := v) (by rw [← hs]; exact e) (k := kk) (by omega) (r := r)
        rw [← hs] at this
        exact this q
      have hv : v < k + 1 := by
        have h3 := bk 0 (by omega) v rfl
        cases e3 : s.b v with
        | none => exact (h3 e3).elim
        | some l =>
          obtain ⟨q1, q2, _⟩ := BIs.lk v l e3
          have := (hl l q1).2
          omega
      obtain ⟨y, p, u1, u2, u3, u5, u4⟩ := upb_ring hb hv bk
      obtain ⟨cs, c1, c2⟩ := upb_bk u4
      obtain ⟨p', rfl⟩ : ∃ p', p = p' + 1 := ⟨p - 1, by omega⟩
      have ch := c1.ch (A := T) (pr := pr)
      rw [c2] at ch
      have neg := NGs p' y _ ch
      have kept := Ch.kept (g := fun v => rk T (π v)) (A := T) (pr := pr) (b := s.b) (fun v l q => by
        obtain ⟨q1, q2, _⟩ := BIs.lk v l q
        refine ⟨q2, ?_⟩
        have := hπ l q1
        rw [rk_add] at this
        exact this) ch
      unfold wle wlt madd at *
      dsimp only at *
      omega
  have still : (rnd T pr ls (itr T pr ls ⟨h0, fun _ => none, none⟩ k)).mv = none := by
    have : s = rnd T pr ls (itr T pr ls ⟨h0, fun _ => none, none⟩ k) := hs
    rw [← this]; exact no
  obtain ⟨g1, g2⟩ := rnd_still still
  have e : s.h = (itr T pr ls ⟨h0, fun _ => none, none⟩ k).h := by
    have : s = rnd T pr ls (itr T pr ls ⟨h0, fun _ => none, none⟩ k) := hs
    rw [this]; exact g1
  refine ⟨fun l hl' a ha => ?_, ?_, ?_⟩
  · rw [e] at ha ⊢
    obtain ⟨b, h3, h4⟩ := g2 l hl' a ha
    exact ⟨b, h3, by rw [rk_add]; exact h4⟩
  · rw [hs]; exact itr_fall _ _ _
  · rw [hs]; exact Ach.itr _
theorem big_of {T : Sg} (hq : 1 ≤ T.q) : ∀ (L : List Mo), ∃ B : Mo, ∀ m ∈ L, wle (rk T m) (rk T B)
  | [] => ⟨(0, 0), fun m h => by cases h⟩
  | x :: L => by
    obtain ⟨B, hB⟩ := big_of hq L
    have e : ∀ c : Int, 0 ≤ c → rk T (madd B (c, 0)) = madd (rk T B) (c * T.q, 0) := fun c _ => by
      rw [rk_add]
      congr 1
      unfold rk
      dsimp only
      refine Prod.ext (by dsimp only; omega) (by dsimp only; split <;> rfl)
    have c0 : ((rk T x).1.natAbs + (rk T B).1.natAbs + 1 : Int) ≤ ((rk T x).1.natAbs + (rk T B).1.natAbs + 1 : Int) * T.q := by
      have := Int.mul_le_mul_of_nonneg_left hq (show (0 : Int) ≤ ((rk T x).1.natAbs + (rk T B).1.natAbs + 1 : Int) by omega)
      omega
    refine ⟨madd B (((rk T x).1.natAbs + (rk T B).1.natAbs + 1 : Int), 0), fun m hm => ?_⟩
    rw [e _ (by omega)]
    rcases List.mem_cons.mp hm with rfl | hm
    · unfold wle madd
      dsimp only
      omega
    · have := hB m hm
      unfold wle madd at *
      dsimp only
      omega
end MV

namespace MV
def okH (T : Sg) (G : List Arc) (h : HS) (k : Nat) : Bool := match G[k]? with
  | some a => (match h a.tl, h a.hd with
    | some x, some y => decide (rk T (mtake (madd x a.price) y) = (0, 0))
    | _, _ => false)
  | none => false
theorem okH_of {T : Sg} {G : List Arc} {h : HS} {k : Nat} (e : okH T G h k = true) : ∃ a x y, G[k]? = some a ∧ h a.tl = some x ∧ h a.hd = some y ∧ rk T (mtake (madd x a.price) y) = (0, 0) := by
  unfold okH at e
  cases e1 : G[k]? with
  | none => rw [e1] at e; cases e
  | some a =>
    rw [e1] at e
    dsimp only at e
    cases e2 : h a.tl with
    | none => rw [e2] at e; cases e
    | some x =>
      rw [e2] at e
      cases e3 : h a.hd with
      | none => rw [e3] at e; cases e
      | some y =>
        rw [e3] at e
        exact ⟨a, x, y, rfl, e2, e3, of_decide_eq_true e⟩
theorem okH_mk {T : Sg} {G : List Arc} {h : HS} {k : Nat} {a : Arc} {x y : Mo} (h1 : G[k]? = some a) (h2 : h a.tl = some x) (h3 : h a.hd = some y) (h4 : rk T (mtake (madd x a.price) y) = (0, 0)) : okH T G h k = true := by
  unfold okH
  rw [h1]
  dsimp only
  rw [h2, h3]
  exact decide_eq_true h4
theorem prL_fw {G : List Arc} {l : Li} {a : Arc} (h : G[l.k]? = some a) (f : l.fw = true) : prL G l = a.price := by unfold prL; rw [h]; dsimp only; rw [if_pos f]
theorem prL_bw {G : List Arc} {l : Li} {a : Arc} (h : G[l.k]? = some a) (f : l.fw = false) : prL G l = mneg a.price := by unfold prL; rw [h]; dsimp only; rw [if_neg (by rw [f]; exact Bool.false_ne_true)]
structure HtI (A T : Sg) (G : List Arc) (st : Nat) (ms : List Mo) (h : HS) : Prop where
  kp : ∀ l, Lnk A G ms l → ∀ a, h l.tl = some a → ∃ b, h l.hd = some b ∧ wle (rk T b) (rk T (madd a (prL G l)))
  pu : ∃ π : Nat → Mo, ∀ l, Lnk A G ms l → h l.tl = none → h l.hd = none → wle (rk T (π l.hd)) (rk T (madd (π l.tl) (prL G l)))
  z : ∃ a, h st = some a ∧ rk T a = (0, 0)
section
variable {A T : Sg} {G : List Arc} {st : Nat} {ms : List Mo} {h : HS}
theorem HtI.pot (I : HtI A T G st ms h) (hq : 1 ≤ T.q) : ∃ π, PotL T (prL G) (Lnk A G ms) π := by
  obtain ⟨π0, hπ⟩ := I.pu
  obtain ⟨B, hB⟩ := big_of hq ((leftL A G ms).map fun l => mtake (mtake ((h l.hd).getD (0, 0)) (prL G l)) (π0 l.tl))
  refine ⟨fun v => match h v with
    | some a => a
    | none => madd (π0 v) B, fun l hl => ?_⟩
  have hb := hB _ (List.mem_map_of_mem (mem_leftL.mpr hl))
  dsimp only
  cases e : h l.tl with
  | some a =>
    obtain ⟨b, e2, h2⟩ := I.kp l hl a e
    rw [e2]
    exact h2
  | none =>
    cases e2 : h l.hd with
    | some b =>
      rw [e2] at hb
      dsimp only [Option.getD] at hb ⊢
      rw [rk_take, rk_take] at hb
      rw [rk_add, rk_add]
      unfold wle madd mtake at *
      dsimp only at *
      omega
    | none =>
      have := hπ l hl e e2
      dsimp only
      rw [rk_add] at this ⊢
      rw [rk_add, rk_add]
      unfold wle madd at *
      dsimp only at *
      omega
theorem puL_link {ok : Nat → Bool} {x : Mo} {P : List Li} {u v : Nat} (W : Wy (LnkO A G ms ok) u P v) {l : Li} (hl : Lnk A G (puL x ms P) l) : Lnk A G ms l ∨ ok l.k = true := by
  by_cases q : l.k ∈ P.map (·.k)
  · obtain ⟨m, hm, e⟩ := List.mem_map.mp q
    have := (W.all m hm).2
    rw [e] at this
    exact .inr this
  · obtain ⟨a, m, h1, h2, h3⟩ := hl
    rw [puL_off q] at h2
    exact .inl ⟨a, m, h1, h2, h3⟩
theorem HtI.push (I : HtI A T G st ms h) {x : Mo} {P : List Li} {u v : Nat} (W : Wy (LnkO A G ms (okH T G h)) u P v) : HtI A T G st (puL x ms P) h := by
  refine ⟨fun l hl a ha => ?_, ?_, I.z⟩
  · rcases puL_link W hl with h1 | h1
    · exact I.kp l h1 a ha
    · obtain ⟨b, p, q, g1, g2, g3, g4⟩ := okH_of h1
      obtain ⟨b', m, k1, k2, k3⟩ := hl
      rw [g1] at k1
      cases k1
      rw [rk_take, rk_add] at g4
      rcases k3 with ⟨f, e1, e2, -⟩ | ⟨f, e1, e2, -⟩
      · rw [e1, g2] at ha
        cases ha
        refine ⟨q, by rw [e2]; exact g3, ?_⟩
        rw [prL_fw g1 f, rk_add]
        have k := congrArg Prod.fst g4
        have k' := congrArg Prod.snd g4
        unfold wle madd mtake at *
        dsimp only at *
        omega
      · rw [e1, g3] at ha
        cases ha
        refine ⟨p, by rw [e2]; exact g2, ?_⟩
        rw [prL_bw g1 f, rk_add, rk_neg]
        have k := congrArg Prod.fst g4
        have k' := congrArg Prod.snd g4
        unfold wle madd mtake mneg at *
        dsimp only at *
        omega
  · obtain ⟨π, hπ⟩ := I.pu
    refine ⟨π, fun l hl h1 h2 => ?_⟩
    rcases puL_link W hl with h3 | h3
    · exact hπ l h3 h1 h2
    · obtain ⟨b, p, q, g1, g2, g3, g4⟩ := okH_of h3
      obtain ⟨b', m, k1, k2, k3⟩ := hl
      rw [g1] at k1
      cases k1
      rcases k3 with ⟨f, e1, e2, -⟩ | ⟨f, e1, e2, -⟩
      · rw [e1, g2] at h1; cases h1
      · rw [e1, g3] at h1; cases h1
def flat1 (st : Nat) : HS := fun v => if v = st then some (0, 0) else none
theorem flat1_root {st r : Nat} {a : Mo} (h : flat1 st r = some a) : r = st ∧ a = (0, 0) := by
  unfold flat1 at h
  split at h
  · rename_i q
    cases h
    exact ⟨q, rfl⟩
  · cases h
theorem HtI.of {π : Nat → Mo} {s : HS} {K : Nat} (p : PotL T (prL G) (Lnk A G ms) π) (k : ∀ l ∈ leftL A G ms, ∀ a, s l.tl = some a → ∃ b, s l.hd = some b ∧ wle (rk T b) (rk T (madd a (prL G l)))) (f : Fall T s (flat1 st)) (ac : Ach (prL G) (leftL A G ms) (flat1 st) s K) : HtI A T G st ms s := by
  refine ⟨fun l hl a ha => k l (mem_leftL.mpr hl) a ha, ⟨π, fun l hl _ _ => p l hl⟩, ?_⟩
  obtain ⟨b, h1, h2⟩ := f st (0, 0) (if_pos rfl)
  obtain ⟨r, P, a0, g1, g2, g3, g4⟩ := ac st b h1
  obtain ⟨rfl, rfl⟩ := flat1_root g1
  have W : Wy (Lnk A G ms) r P r := g2.imp fun l hl => mem_leftL.mp hl
  have := p.way W
  rw [zero_madd] at g4
  subst g4
  refine ⟨_, h1, ?_⟩
  rw [rk_add] at this
  rw [rk_zero] at h2
  unfold wle madd at *
  dsimp only at *
  exact Prod.ext (by dsimp only; omega) (by dsimp only; omega)
theorem HtI.way (I : HtI A T G st ms h) : ∀ {P : List Li} {u v : Nat} {a : Mo}, Wy (Lnk A G ms) u P v → h u = some a → ∃ b, h v = some b ∧ (wlt (rk T b) (rk T (madd a (psum (prL G) P))) ∨ (rk T b = rk T (madd a (psum (prL G) P)) ∧ Wy (LnkO A G ms (okH T G h)) u P v))
  | [], u, v, a, w, e => by
    have w' : u = v := w
    subst w'
    refine ⟨a, e, .inr ⟨?_, w⟩⟩
    show rk T a = rk T (madd a (0, 0))
    rw [madd_zero]
  | l :: P, u, v, a, ⟨w1, w2, w3⟩, e => by
    rw [← w2] at e
    obtain ⟨b1, e1, h1⟩ := I.kp l w1 a e
    obtain ⟨b, e2, h2⟩ := I.way w3 e1
    refine ⟨b, e2, ?_⟩
    rw [psum_cons]
    by_cases q : rk T b1 = rk T (madd a (prL G l))
    · rw [rk_add] at h2 q
      rw [rk_add, rk_add]
      rw [q, madd_assoc] at h2
      rcases h2 with h2 | ⟨h2, h3⟩
      · exact .inl h2
      · refine .inr ⟨h2, ⟨w1, ?_⟩, w2, h3⟩
        obtain ⟨c, m, k1, k2, k3⟩ := w1
        rcases k3 with ⟨f, f1, f2, -⟩ | ⟨f, f1, f2, -⟩
        · refine okH_mk k1 (x := a) (y := b1) (by rw [← f1]; exact e) (by rw [← f2]; exact e1) ?_
          rw [prL_fw k1 f] at q
          rw [rk_take, rk_add, q]
          unfold mtake
          exact Prod.ext (by dsimp only; omega) (by dsimp only; omega)
        · refine okH_mk k1 (x := b1) (y := a) (by rw [← f2]; exact e1) (by rw [← f1]; exact e) ?_
          rw [prL_bw k1 f, rk_neg] at q
          rw [rk_take, rk_add, q]
          unfold mtake madd mneg
          exact Prod.ext (by dsimp only; omega) (by dsimp only; omega)
    · left
      have ne : wlt (rk T b1) (rk T (madd a (prL G l))) := by
        rcases h1 with h1 | ⟨h1, h1'⟩
        · exact .inl h1
        · refine .inr ⟨h1, ?_⟩
          by_cases z : (rk T b1).2 < (rk T (madd a (prL G l))).2
          · exact z
          · exact (q (Prod.ext h1 (by omega))).elim
      rw [rk_add] at ne h2
      rw [rk_add, rk_add]
      rcases h2 with h2 | ⟨h2, -⟩
      · unfold wlt madd at *
        dsimp only at *
        omega
      · rw [h2]
        unfold wlt madd at *
        dsimp only at *
        omega
theorem HtI.rise (I : HtI A T G st ms h) {gl N : Nat} {cm : List (Nat × Option Li)} {lv : Nat → Nat} (R : RchOk (LnkO A G ms (okH T G h)) st gl N cm lv) (hg : gl ∉ cm.map (·.1)) {a : Mo} (ha : h gl = some a) {P : List Li} (W : Wy (Lnk A G ms) st P gl) : wlt (rk T a) (rk T (psum (prL G) P)) := by
  obtain ⟨a0, z1, z2⟩ := I.z
  obtain ⟨b, e, h1⟩ := I.way W z1
  rw [ha] at e
  cases e
  rw [rk_add, z2, zero_madd] at h1
  rcases h1 with h1 | ⟨-, h1⟩
  · exact h1
  · exfalso
    have stm : st ∈ cm.map (·.1) := List.mem_map.mpr ⟨(st, none), List.mem_of_getElem? R.c.hd, rfl⟩
    have : ∀ {P : List Li} {u v : Nat}, Wy (LnkO A G ms (okH T G h)) u P v → u ∈ cm.map (·.1) → v ∈ cm.map (·.1) := fun {P} => by
      induction P with
      | nil => intro u v w hu; have w : u = v := w; subst w; exact hu
      | cons l P ih =>
        rintro u v ⟨w1, w2, w3⟩ hu
        exact ih w3 (R.n hg l w1 (by rw [w2]; exact hu))
    exact hg (this h1 stm)
end
def sumsV (G : List Arc) : Nat → List Mo
  | 0 => [(0, 0)]
  | K + 1 => sumsV G K ++ (sumsV G K).flatMap fun x => G.flatMap fun a => [madd x a.price, madd x (mneg a.price)]
theorem sumsV_up {G : List Arc} {K j : Nat} {x : Mo} (h : x ∈ sumsV G K) : x ∈ sumsV G (K + j) := by
  induction j with
  | zero => exact h
  | succ j ih => exact List.mem_append_left _ ih
theorem sumsV_fold {G : List Arc} : ∀ {P : List Li} {K : Nat} {x : Mo}, x ∈ sumsV G K → (∀ l ∈ P, ∃ a, G[l.k]? = some a) → P.foldl (fun x l => madd x (prL G l)) x ∈ sumsV G (K + P.length)
  | [], _, _, h, _ => h
  | l :: P, K, x, h, g => by
    obtain ⟨a, ha⟩ := g l (by simp)
    have : madd x (prL G l) ∈ sumsV G (K + 1) := by
      refine List.mem_append_right _ (List.mem_flatMap.mpr ⟨x, h, List.mem_flatMap.mpr ⟨a, List.mem_of_getElem? ha, ?_⟩⟩)
      cases f : l.fw with
      | true => rw [prL_fw ha f]; simp
      | false => rw [prL_bw ha f]; simp
    have := sumsV_fold (P := P) this fun m hm => g m (by simp [hm])
    rw [List.length_cons, show K + (P.length + 1) = K + 1 + P.length by omega]
    exact this
def cntV (T : Sg) (V : List Mo) : Option Mo → Nat
  | none => 0
  | some a => 1 + (V.filter fun v => decide (wlt (rk T a) (rk T v))).length
theorem filter_lt {α : Type} {p q : α → Bool} : ∀ {l : List α}, (∀ x ∈ l, q x = true → p x = true) → (∃ x ∈ l, p x = true ∧ q x = false) → (l.filter q).length < (l.filter p).length
  | [], _, h => by obtain ⟨x, h, _⟩ := h; cases h
  | y :: l, h1, h2 => by
    have le : (l.filter q).length ≤ (l.filter p).length := by
      clear h2
      induction l with
      | nil => exact Nat.le_refl _
      | cons z l ih =>
        have i := ih fun x hx => h1 x (by
          rcases List.mem_cons.mp hx with e | e
          · simp [e]
          · simp [e])
        have hz := h1 z (by simp)
        cases ez : q z with
        | true => rw [List.filter_cons_of_pos ez, List.filter_cons_of_pos (hz ez)]; simpa using i
        | false =>
          rw [List.filter_cons_of_neg (by rw [ez]; exact Bool.false_ne_true)]
          cases ep : p z with
          | true => rw [List.filter_cons_of_pos ep, List.length_cons]; omega
          | false => rw [List.filter_cons_of_neg (by rw [ep]; exact Bool.false_ne_true)]; exact i
    have hy := h1 y (by simp)
    obtain ⟨x, hx, h3, h4⟩ := h2
    rcases List.mem_cons.mp hx with e | e
    · subst e
      rw [List.filter_cons_of_pos h3, List.filter_cons_of_neg (by rw [h4]; exact Bool.false_ne_true), List.length_cons]
      omega
    · have i := filter_lt (p := p) (q := q) (l := l) (fun z hz => h1 z (by simp [hz])) ⟨x, e, h3, h4⟩
      cases ey : q y with
      | true => rw [List.filter_cons_of_pos ey, List.filter_cons_of_pos (hy ey), List.length_cons, List.length_cons]; omega
      | false =>
        rw [List.filter_cons_of_neg (by rw [ey]; exact Bool.false_ne_true)]
        cases ep : p y with
        | true => rw [List.filter_cons_of_pos ep, List.length_cons]; omega
        | false => rw [List.filter_cons_of_neg (by rw [ep]; exact Bool.false_ne_true)]; exact i
theorem cntV_lt {T : Sg} {V : List Mo} {a b : Mo} (h : wlt (rk T a) (rk T b)) (hb : b ∈ V) : cntV T V (some b) < cntV T V (some a) := by
  show 1 + (V.filter fun v => decide (wlt (rk T b) (rk T v))).length < 1 + (V.filter fun v => decide (wlt (rk T a) (rk T v))).length
  have := filter_lt (l := V) (p := fun v => decide (wlt (rk T a) (rk T v))) (q := fun v => decide (wlt (rk T b) (rk T v))) (fun v _ hv => decide_eq_true (wlt_trans h (of_decide_eq_true hv))) ⟨b, hb, decide_eq_true h, decide_eq_false fun z => wlt_irrefl z⟩
  omega
end MV

namespace Prf
theorem pert {A : Sg} (hq : 1 ≤ A.q) (L : List Mo) : ∃ A' : Sg, A'.ah = false ∧ ∀ m ∈ L, (wlt (0, 0) (rk A m) ↔ 0 < rI A' m) ∧ (wle (0, 0) (rk A m) ↔ 0 ≤ rI A' m) := by
  cases e : A.ah with
  | false => exact ⟨A, e, fun m _ => ⟨wlt0_rI e, wle0_rI e⟩⟩
  | true =>
    obtain ⟨B, hB⟩ : ∃ B : Int, 1 ≤ B ∧ ∀ m ∈ L, (m.2.natAbs : Int) < B := by
      induction L with
      | nil => exact ⟨1, by omega, fun m h => by cases h⟩
      | cons x L ih =>
        obtain ⟨B, h1, h2⟩ := ih
        refine ⟨B + x.2.natAbs, by omega, fun m hm => ?_⟩
        rcases List.mem_cons.mp hm with rfl | hm
        · omega
        · have := h2 m hm; omega
    refine ⟨⟨A.p * B + 1, A.q * B, false⟩, rfl, fun m hm => ?_⟩
    have hm2 := hB.2 m hm
    have er : rI ⟨A.p * B + 1, A.q * B, false⟩ m = (m.1 * A.q + m.2 * A.p) * B + m.2 := by
      unfold MV.rI rk
      dsimp only
      grind
    have ek : rk A m = (m.1 * A.q + m.2 * A.p, m.2) := by
      unfold rk
      rw [if_pos e]
    rw [er, ek]
    generalize m.1 * A.q + m.2 * A.p = X at *
    have c1 : 1 ≤ X → B ≤ X * B := fun h => by
      have := Int.mul_le_mul_of_nonneg_right h (show 0 ≤ B by omega)
      omega
    have c2 : X ≤ -1 → X * B ≤ -B := fun h => by
      have := Int.mul_le_mul_of_nonneg_right h (show 0 ≤ B by omega)
      omega
    have c3 : X = 0 → X * B = 0 := fun h => by rw [h, Int.zero_mul]
    generalize X * B = Y at *
    unfold wlt wle
    dsimp only
    constructor <;> constructor <;> intro h <;> omega
theorem needM_dot {f : Nat → Bool} : ∀ {xs : List Mo} {k : Nat}, needM f k xs = dotM (ind f) k xs
  | [], _ => rfl
  | x :: xs, k => by
    show (if f k then madd x (needM f (k + 1) xs) else needM f (k + 1) xs) = madd (msc (ind f k) x) (dotM (ind f) (k + 1) xs)
    rw [needM_dot]
    unfold ind
    cases f k with
    | true => rw [if_pos rfl, if_pos rfl, msc_one]
    | false => rw [if_neg Bool.false_ne_true, if_neg Bool.false_ne_true, msc_zero, zero_madd]
theorem dotM_neg {f : Nat → Bool} {A : Sg} : ∀ {xs : List Mo} {k : Nat}, rI A (dotM (ind fun v => !f v) k xs) = rI A (dotM (fun _ => 1) k xs) - rI A (dotM (ind f) k xs)
  | [], _ => by show rI A (0, 0) = rI A (0, 0) - rI A (0, 0); rw [rI_zero]; rfl
  | x :: xs, k => by
    have ih := dotM_neg (f := f) (A := A) (xs := xs) (k := k + 1)
    show rI A (madd (msc (ind (fun v => !f v) k) x) (dotM (ind fun v => !f v) (k + 1) xs)) = rI A (madd (msc 1 x) (dotM (fun _ => 1) (k + 1) xs)) - rI A (madd (msc (ind f k) x) (dotM (ind f) (k + 1) xs))
    rw [rI_add, rI_add, rI_add, ih, rI_msc, rI_msc, rI_msc]
    have e : ind (fun v => !f v) k = 1 - ind f k := by unfold ind; cases e : f k <;> simp [e]
    rw [e, Int.sub_mul]
    omega
theorem best_int {A : Sg} (ha : A.ah = false) {n : Nat} {arcs : List Arc} {lacks base m0 ms : List Mo} {F : Mo} {f : Nat → Bool} (hn : lacks.length = n) (hA : ∀ a ∈ arcs, a.tl < n ∧ a.hd < n) (hl : ms.length = (arcs ++ endsF A n 0 lacks).length) (B : BdL A (arcs ++ endsF A n 0 lacks) ms)
    (hb : base.length = arcs.length) (Bb : BdL A arcs base) (hF : ∀ φ : Nat → Int, exW φ (arcs ++ endsF A n 0 lacks) ms = madd (exW φ arcs m0) (msc (φ (n + 1) - φ n) F)) (hL : ∀ φ : Nat → Int, dotM φ 0 lacks = mtake (exW φ arcs base) (exW φ arcs m0))
    (f0 : f n = false) (f1 : f (n + 1) = true) (cl : ∀ l, Lnk A (arcs ++ endsF A n 0 lacks) ms l → f l.tl = false → f l.hd = false) :
    ∀ (j : Nat) (a : Arc) (m r : Mo), (endsF A n 0 lacks)[j]? = some a → ms[arcs.length + j]? = some m → a.room = some r → rI A r ≤ rI A m := by
  obtain ⟨m1, m2, rfl, hl1⟩ : ∃ m1 m2, ms = m1 ++ m2 ∧ m1.length = arcs.length := ⟨ms.take arcs.length, ms.drop arcs.length, (List.take_append_drop _ _).symm, by rw [List.length_take, hl, List.length_append]; omega⟩
  have hl2 : m2.length = (endsF A n 0 lacks).length := by rw [List.length_append, List.length_append] at hl; omega
  have i1 : ∀ (j : Nat) (a : Arc) (m : Mo), arcs[j]? = some a → m1[j]? = some m → (arcs ++ endsF A n 0 lacks)[j]? = some a ∧ (m1 ++ m2)[j]? = some m := fun j a m h1 h2 => by
    rw [List.getElem?_append_left (List.getElem?_eq_some_iff.mp h1).1, List.getElem?_append_left (List.getElem?_eq_some_iff.mp h2).1]
    exact ⟨h1, h2⟩
  have i2 : ∀ (j : Nat), (arcs ++ endsF A n 0 lacks)[arcs.length + j]? = (endsF A n 0 lacks)[j]? ∧ (m1 ++ m2)[arcs.length + j]? = m2[j]? := fun j => by
    rw [List.getElem?_append_right (by omega), List.getElem?_append_right (by omega), hl1]
    exact ⟨by congr 1; omega, by congr 1; omega⟩
  have bd : ∀ (j : Nat) (a : Arc) (m : Mo), (arcs ++ endsF A n 0 lacks)[j]? = some a → (m1 ++ m2)[j]? = some m → 0 ≤ rI A m ∧ ∀ r, a.room = some r → rI A m ≤ rI A r := fun j a m h1 h2 => by
    obtain ⟨b1, b2⟩ := B j a m h1 h2
    exact ⟨(wle0_rI ha).mp b1, fun r hr => (wle_rI ha).mp (b2 r hr)⟩
  have cut : ∀ (j : Nat) (a : Arc) (m : Mo), (arcs ++ endsF A n 0 lacks)[j]? = some a → (m1 ++ m2)[j]? = some m → (inB false f a = true → ∃ r, a.room = some r ∧ rI A m = rI A r) ∧ (inB true f a = true → rI A m = 0) := fun j a m h1 h2 => by
    obtain ⟨b1, b2⟩ := bd j a m h1 h2
    refine ⟨fun q => ?_, fun q => ?_⟩
    · unfold inB at q; rw [if_neg Bool.false_ne_true] at q
      simp at q
      by_cases w : fwdB A a m = true
      · have := cl ⟨a.tl, a.hd, j, true⟩ ⟨a, m, h1, h2, .inl ⟨rfl, rfl, rfl, w⟩⟩ q.2
        dsimp only at this
        rw [q.1] at this; cases this
      · unfold fwdB at w
        cases er : a.room with
        | none => rw [er] at w; exact (w rfl).elim
        | some r =>
          rw [er] at w
          dsimp only at w
          rw [decide_eq_true_iff, wlt0_rI ha, rI_take] at w
          have := b2 r er
          exact ⟨r, rfl, by omega⟩
    · unfold inB at q; rw [if_pos rfl] at q
      simp at q
      by_cases w : bwdB A m = true
      · have := cl ⟨a.hd, a.tl, j, false⟩ ⟨a, m, h1, h2, .inr ⟨rfl, rfl, rfl, w⟩⟩ q.2
        dsimp only at this
        rw [q.1] at this; cases this
      · unfold bwdB at w
        rw [decide_eq_true_iff, wlt0_rI ha] at w
        omega
  obtain ⟨e1, ⟨e2, e2'⟩, ⟨e3, e3'⟩, -⟩ := ends_sum ha f0 f1 (xs := lacks) (k := 0) (ms := m2) (by omega) hl2 fun j a m h1 h2 => bd (arcs.length + j) a m (by rw [(i2 j).1]; exact h1) (by rw [(i2 j).2]; exact h2)
  have e1 := e1 fun j a m h1 h2 => cut (arcs.length + j) a m (by rw [(i2 j).1]; exact h1) (by rw [(i2 j).2]; exact h2)
  have c1 := cut_arcs (A := A) (f := f) hl1 fun j a m h1 h2 => cut j a m (i1 j a m h1 h2).1 (i1 j a m h1 h2).2
  have F1 : rI A F + rI A (exW (ind f) arcs m0) = rI A (capM false f arcs) + cS A f 0 lacks := by
    have := congrArg (rI A) (hF (ind f))
    rw [exW_app hl1, rI_add, c1, e1, rI_add, rI_msc] at this
    have z0 : ind f n = 0 := by unfold ind; rw [f0]; rfl
    have z1 : ind f (n + 1) = 1 := by unfold ind; rw [f1]; rfl
    rw [z0, z1] at this
    omega
  have F2 : rI A F = rI A (exW (ind (fun v => v == n + 1)) (endsF A n 0 lacks) m2) := by
    have := congrArg (rI A) (hF (ind (fun v => v == n + 1)))
    have cn : ∀ xs : List Mo, exW (ind (fun v => v == n + 1)) arcs xs = (0, 0) := fun xs => exW_const (fun a h => by
      obtain ⟨h1, h2⟩ := hA a h
      unfold ind
      rw [if_neg (by simp; omega), if_neg (by simp; omega)])
    rw [exW_app hl1, rI_add, rI_add, rI_msc, cn, cn, rI_zero] at this
    have e1 : ind (fun v => v == n + 1) n = 0 := by unfold ind; rw [if_neg (by simp)]
    have e2 : ind (fun v => v == n + 1) (n + 1) = 1 := by unfold ind; rw [if_pos (by simp)]
    rw [e1, e2] at this
    omega
  have F3 : rI A F = rI A (exW (ind (fun v => v != n)) (endsF A n 0 lacks) m2) := by
    have := congrArg (rI A) (hF (ind (fun v => v != n)))
    have cn : ∀ xs : List Mo, exW (ind (fun v => v != n)) arcs xs = (0, 0) := fun xs => exW_const (fun a h => by
      obtain ⟨h1, h2⟩ := hA a h
      unfold ind
      rw [if_pos (by simp; omega), if_pos (by simp; omega)])
    rw [exW_app hl1, rI_add, rI_add, rI_msc, cn, cn, rI_zero] at this
    have e1 : ind (fun v => v != n) n = 0 := by unfold ind; rw [if_neg (by simp)]
    have e2 : ind (fun v => v != n) (n + 1) = 1 := by unfold ind; rw [if_pos (by simp)]
    rw [e1, e2] at this
    omega
  have op : opnB false f arcs = false := by
    unfold opnB
    rw [List.any_eq_false]
    intro a h q
    obtain ⟨j, hj⟩ := List.mem_iff_getElem?.mp h
    have hjl := (List.getElem?_eq_some_iff.mp hj).1
    have hm : m1[j]? = some m1[j] := List.getElem?_eq_getElem (by omega)
    rw [Bool.and_eq_true] at q
    obtain ⟨r, h1, _⟩ := (cut j a _ (i1 j a _ hj hm).1 (i1 j a _ hj hm).2).1 q.1
    rw [h1] at q
    exact Bool.false_ne_true q.2
  have d1 := (dual_arcs (A := A) (f := f) (as := arcs) (ms := base) (fun j a m h1 h2 => by
    obtain ⟨b1, b2⟩ := Bb j a m h1 h2
    exact ⟨(wle0_rI ha).mp b1, fun r hr => (wle_rI ha).mp (b2 r hr)⟩) hb).1 op
  have p1 := pos_cS (A := A) (f := f) (xs := lacks) (k := 0)
  have p2 := neg_cS (A := A) (f := f) (xs := lacks) (k := 0)
  have L1 := congrArg (rI A) (hL (ind f))
  have L2 := congrArg (rI A) (hL (fun _ => 1))
  rw [exW_const (fun _ _ => rfl), exW_const (fun _ _ => rfl), rI_take, rI_zero] at L2
  rw [rI_take] at L1
  rw [needM_dot] at p1 p2
  rw [dotM_neg] at p2
  intro j a m r h1 h2 h3
  by_cases w : rI A r ≤ rI A m
  · exact w
  · exfalso
    by_cases q : a.hd = n + 1
    · have := e2' ⟨j, a, m, r, h1, by rw [← (i2 j).2]; exact h2, h3, q, by omega⟩
      omega
    · have := e3' ⟨j, a, m, r, h1, by rw [← (i2 j).2]; exact h2, h3, q, by omega⟩
      omega
theorem end1_eq {A A' : Sg} {n k : Nat} {x : Mo} (h1 : wlt (rk A x) (0, 0) ↔ wlt (rk A' x) (0, 0)) (h2 : wlt (0, 0) (rk A x) ↔ wlt (0, 0) (rk A' x)) : end1 A n k x = end1 A' n k x := by
  unfold end1
  by_cases q : wlt (rk A x) (0, 0)
  · rw [if_pos q, if_pos (h1.mp q)]
  · rw [if_neg q, if_neg fun z => q (h1.mpr z)]
    by_cases q2 : wlt (0, 0) (rk A x)
    · rw [if_pos q2, if_pos (h2.mp q2)]
    · rw [if_neg q2, if_neg fun z => q2 (h2.mpr z)]
theorem endsF_eq {A A' : Sg} {n : Nat} : ∀ {xs : List Mo} {k : Nat}, (∀ x ∈ xs, (wlt (rk A x) (0, 0) ↔ wlt (rk A' x) (0, 0)) ∧ (wlt (0, 0) (rk A x) ↔ wlt (0, 0) (rk A' x))) → endsF A n k xs = endsF A' n k xs
  | [], _, _ => rfl
  | x :: xs, k, h => by
    show end1 A n k x ++ endsF A n (k + 1) xs = end1 A' n k x ++ endsF A' n (k + 1) xs
    rw [end1_eq (h x (by simp)).1 (h x (by simp)).2, endsF_eq fun y hy => h y (by simp [hy])]
theorem wlt_neg {A : Sg} {x : Mo} : wlt (rk A x) (0, 0) ↔ wlt (0, 0) (rk A (mneg x)) := by
  rw [rk_neg]; unfold wlt mneg; dsimp only; omega
theorem wle_take {A : Sg} {x y : Mo} : wle (rk A x) (rk A y) ↔ wle (0, 0) (rk A (mtake y x)) := by
  rw [rk_take]; unfold wle mtake; dsimp only; omega
theorem best_full {A : Sg} (hq : 1 ≤ A.q) {n : Nat} {arcs : List Arc} {lacks base m0 ms : List Mo} {F : Mo} {f : Nat → Bool} (hn : lacks.length = n) (hA : ∀ a ∈ arcs, a.tl < n ∧ a.hd < n) (hl : ms.length = (arcs ++ endsF A n 0 lacks).length) (B : BdL A (arcs ++ endsF A n 0 lacks) ms)
    (hb : base.length = arcs.length) (Bb : BdL A arcs base) (hF : ∀ φ : Nat → Int, exW φ (arcs ++ endsF A n 0 lacks) ms = madd (exW φ arcs m0) (msc (φ (n + 1) - φ n) F)) (hL : ∀ φ : Nat → Int, dotM φ 0 lacks = mtake (exW φ arcs base) (exW φ arcs m0))
    (f0 : f n = false) (f1 : f (n + 1) = true) (cl : ∀ l, Lnk A (arcs ++ endsF A n 0 lacks) ms l → f l.tl = false → f l.hd = false) :
    ∀ (j : Nat) (a : Arc) (m r : Mo), (endsF A n 0 lacks)[j]? = some a → ms[arcs.length + j]? = some m → a.room = some r → rk A m = rk A r := by
  obtain ⟨G, hG⟩ : ∃ G, G = arcs ++ endsF A n 0 lacks := ⟨_, rfl⟩
  obtain ⟨A', ha', hp⟩ := pert hq (lacks ++ lacks.map mneg ++ ms ++ base ++ G.flatMap fun a => (ms.map fun m => mtake (a.room.getD (0, 0)) m) ++ (base.map fun m => mtake (a.room.getD (0, 0)) m))
  have pl : ∀ x ∈ lacks, (wlt (rk A x) (0, 0) ↔ wlt (rk A' x) (0, 0)) ∧ (wlt (0, 0) (rk A x) ↔ wlt (0, 0) (rk A' x)) := fun x hx => by
    have h1 := (hp x (by simp [hx])).1
    have h2 := (hp (mneg x) (by simp; exact .inr (.inl ⟨x.1, x.2, hx, rfl⟩))).1
    rw [wlt_neg, h2, wlt_neg (A := A'), wlt0_rI ha', h1, wlt0_rI ha']
    exact ⟨Iff.rfl, Iff.rfl⟩
  have pm : ∀ m ∈ ms, (wlt (0, 0) (rk A m) ↔ 0 < rI A' m) ∧ (wle (0, 0) (rk A m) ↔ 0 ≤ rI A' m) := fun m hm => hp m (by simp [hm])
  have pb : ∀ m ∈ base, (wle (0, 0) (rk A m) ↔ 0 ≤ rI A' m) := fun m hm => (hp m (by simp [hm])).2
  have pr : ∀ a ∈ G, ∀ r, a.room = some r → ∀ m, m ∈ ms ∨ m ∈ base → (wlt (0, 0) (rk A (mtake r m)) ↔ 0 < rI A' (mtake r m)) ∧ (wle (0, 0) (rk A (mtake r m)) ↔ 0 ≤ rI A' (mtake r m)) := fun a h r hr m hm => by
    refine hp _ (List.mem_append_right _ (List.mem_flatMap.mpr ⟨a, h, ?_⟩))
    rw [hr]
    rcases hm with hm | hm
    · exact List.mem_append_left _ (List.mem_map.mpr ⟨m, hm, rfl⟩)
    · exact List.mem_append_right _ (List.mem_map.mpr ⟨m, hm, rfl⟩)
  have eE : endsF A n 0 lacks = endsF A' n 0 lacks := endsF_eq pl
  have gE := hG
  rw [eE] at gE
  have B' : BdL A' G ms := fun k a m h1 h2 => by
    rw [hG] at h1
    obtain ⟨b1, b2⟩ := B k a m h1 h2
    have hm := List.mem_of_getElem? h2
    refine ⟨(wle0_rI ha').mpr ((pm m hm).2.mp b1), fun r hr => ?_⟩
    rw [wle_take, wle0_rI ha']
    exact (pr a (by rw [hG]; exact List.mem_of_getElem? h1) r hr m (.inl hm)).2.mp (wle_take.mp (b2 r hr))
  have Bb' : BdL A' arcs base := fun k a m h1 h2 => by
    obtain ⟨b1, b2⟩ := Bb k a m h1 h2
    have hm := List.mem_of_getElem? h2
    refine ⟨(wle0_rI ha').mpr ((pb m hm).mp b1), fun r hr => ?_⟩
    rw [wle_take, wle0_rI ha']
    exact (pr a (by rw [hG]; exact List.mem_append_left _ (List.mem_of_getElem? h1)) r hr m (.inr hm)).2.mp (wle_take.mp (b2 r hr))
  have cl' : ∀ l, Lnk A' G ms l → f l.tl = false → f l.hd = false := fun l ⟨a, m, h1, h2, h3⟩ => by
    refine cl l ⟨a, m, by rw [← hG]; exact h1, h2, ?_⟩
    have hm := List.mem_of_getElem? h2
    have hag := List.mem_of_getElem? h1
    rcases h3 with ⟨q1, q2, q3, q4⟩ | ⟨q1, q2, q3, q4⟩
    · refine .inl ⟨q1, q2, q3, ?_⟩
      unfold fwdB at q4 ⊢
      cases er : a.room with
      | none => rfl
      | some r =>
        rw [er] at q4
        dsimp only at q4 ⊢
        rw [decide_eq_true_iff, wlt0_rI ha'] at q4
        exact decide_eq_true ((pr a hag r er m (.inl hm)).1.mpr q4)
    · refine .inr ⟨q1, q2, q3, ?_⟩
      unfold bwdB at q4 ⊢
      rw [decide_eq_true_iff, wlt0_rI ha'] at q4
      exact decide_eq_true ((pm m hm).1.mpr q4)
  intro j a m r h1 h2 h3
  have fin := best_int (A := A') ha' (n := n) (arcs := arcs) (lacks := lacks) (base := base) (m0 := m0) (ms := ms) (F := F) (f := f) hn hA (by rw [← eE]; exact hl) (by rw [← gE]; exact B') hb Bb' (by rw [← eE]; exact hF) hL f0 f1 (by rw [← gE]; exact cl') j a m r (by rw [← eE]; exact h1) h2 h3
  have hag : a ∈ G := by rw [hG]; exact List.mem_append_right _ (List.mem_of_getElem? h1)
  have hm := List.mem_of_getElem? h2
  have g1 : G[arcs.length + j]? = some a := by
    rw [hG, List.getElem?_append_right (by omega)]
    rw [show arcs.length + j - arcs.length = j by omega]; exact h1
  rw [hG] at g1
  have b := (B _ a m g1 h2).2 r h3
  have nl : ¬ wlt (0, 0) (rk A (mtake r m)) := fun z => by
    have := (pr a hag r h3 m (.inl hm)).1.mp z
    rw [rI_take] at this
    omega
  rw [rk_take] at nl
  unfold wlt wle mtake at *
  dsimp only at *
  exact Prod.ext (by omega) (by omega)
theorem ends_dot {A : Sg} {n : Nat} {φ : Nat → Int} (p0 : φ n = 0) (p1 : φ (n + 1) = 0) : ∀ {xs : List Mo} {k : Nat} {ms : List Mo}, ms.length = (endsF A n k xs).length → (∀ (j : Nat) (a : Arc) (m r : Mo), (endsF A n k xs)[j]? = some a → ms[j]? = some m → a.room = some r → rk A m = rk A r) → rk A (exW φ (endsF A n k xs) ms) = rk A (mneg (dotM φ k xs))
  | [], k, ms, h, _ => by
    obtain rfl : ms = [] := List.eq_nil_of_length_eq_zero h
    rfl
  | x :: xs, k, ms, h, g => by
    have eE : endsF A n k (x :: xs) = end1 A n k x ++ endsF A n (k + 1) xs := rfl
    have eD : dotM φ k (x :: xs) = madd (msc (φ k) x) (dotM φ (k + 1) xs) := rfl
    rw [eE] at h g ⊢
    rw [eD, rk_neg, rk_add]
    by_cases q : wlt (rk A x) (0, 0)
    · have e : end1 A n k x = [⟨n, k, some (mneg x), (0, 0)⟩] := by unfold end1; rw [if_pos q]
      rw [e] at h g ⊢
      cases ms with
      | nil => simp at h
      | cons m ms =>
        have ih := ends_dot p0 p1 (xs := xs) (k := k + 1) (ms := ms) (by simpa using h) fun j a m r h1 h2 h3 => g (j + 1) a m r (by simpa using h1) (by simpa using h2) h3
        have g0 := g 0 _ m _ rfl rfl rfl
        show rk A (madd (msc (φ k - φ n) m) (exW φ (endsF A n (k + 1) xs) ms)) = _
        rw [rk_add, ih, rk_neg, rk_msc, rk_msc, g0, rk_neg, p0, Int.sub_zero, msc_neg]
        unfold mneg madd msc
        exact Prod.ext (by dsimp only; grind) (by dsimp only; grind)
    · by_cases q2 : wlt (0, 0) (rk A x)
      · have e : end1 A n k x = [⟨k, n + 1, some x, (0, 0)⟩] := by unfold end1; rw [if_neg q, if_pos q2]
        rw [e] at h g ⊢
        cases ms with
        | nil => simp at h
        | cons m ms =>
          have ih := ends_dot p0 p1 (xs := xs) (k := k + 1) (ms := ms) (by simpa using h) fun j a m r h1 h2 h3 => g (j + 1) a m r (by simpa using h1) (by simpa using h2) h3
          have g0 := g 0 _ m _ rfl rfl rfl
          show rk A (madd (msc (φ (n + 1) - φ k) m) (exW φ (endsF A n (k + 1) xs) ms)) = _
          rw [rk_add, ih, rk_neg, rk_msc, rk_msc, g0, p1]
          unfold mneg madd msc
          exact Prod.ext (by dsimp only; grind) (by dsimp only; grind)
      · have e : end1 A n k x = [] := by unfold end1; rw [if_neg q, if_neg q2]
        rw [e, List.nil_append] at h g ⊢
        have ih := ends_dot p0 p1 (xs := xs) (k := k + 1) (ms := ms) h g
        have z : rk A x = (0, 0) := by
          unfold wlt at q q2
          dsimp only at q q2
          exact Prod.ext (by dsimp only; omega) (by dsimp only; omega)
        rw [ih, rk_neg, rk_msc, z]
        unfold mneg madd msc
        exact Prod.ext (by simp) (by simp)
end Prf

namespace Prf
theorem eqG_pD {x m : Int × Int} {M : Mem} {Q : DK} (q : Q (.bl (decide (x = m))) M) : oEq (pD x) (pD m) M Q := by
  have e : deq (pD x) (pD m) = decide (x = m) := by
    obtain ⟨a, b⟩ := x
    obtain ⟨c, d⟩ := m
    by_cases h1 : a = c <;> by_cases h2 : b = d <;> simp [pD, deq, deqL, h1, h2]
  exact ⟨_, _, see_fine fineG_pD, see_fine fineG_pD, by rw [eqv_deq 20 fineG_pD fineG_pD, e]; exact q⟩
def gainA (a : Arc) (h : Nat → Mo) : Mo := mtake (madd a.price (h a.tl)) (h a.hd)
structure FiOk (T : Sg) (n : Nat) (arcs : List Arc) (needs m0 lacks : List Mo) (h : Nat → Mo) : Prop where
  hm : m0.length = arcs.length
  hn : lacks.length = n
  bal : ∀ φ : Nat → Int, dotM φ 0 lacks = mtake (dotM φ 0 needs) (exW φ arcs m0)
  ld : ∀ (k : Nat) (a : Arc) (m : Mo), arcs[k]? = some a → m0[k]? = some m → (m = (0, 0) ∧ wle (0, 0) (rk T (gainA a h))) ∨ (a.room = some m ∧ wlt (rk T (gainA a h)) (0, 0))
theorem mtake_z {a : Mo} : mtake a (0, 0) = a := by unfold mtake; exact Prod.ext (by dsimp only; omega) (by dsimp only; omega)
section
variable {M : Mem} {Q : DK} {X : XM}
theorem l_first {pn pa n : Nat} {arcs : List Arc} {needs : List Mo} {t : Rat} {ah : Bool} (ht : Se2 t) (hn : needs.length = n) (hn1 : n ≤ 1000) (hl : arcs.length ≤ 1000) (gn : M[pn]? = some (.lst (needs.map pD))) (ga : M[pa]? = some (.lst (arcs.map arcD))) (hA : ArcsOk n arcs) (hπ : ∃ π, PotL (sg t ah) (prL arcs) (fun l => l ∈ openL arcs) π)
    (k : ∀ M' x y m0 lacks h, Kp [] M M' → M.length ≤ x → M.length ≤ y → x ≠ y → M'[x]? = some (.lst (m0.map pD)) → M'[y]? = some (.lst (lacks.map pD)) → FiOk (sg t ah) n arcs needs m0 lacks h → Q (.tup [.ref x, .ref y]) M') : w_first_loads [.ref pn, .ref pa, qD t, .bl ah] M Q X := by
  unfold w_first_loads wOf
  rw [show startE N_first_loads [.ref pn, .ref pa, qD t, .bl ah] = [some (.ref pn), some (.ref pa), some (qD t), some (.bl ah), none, none, none, none, none, none, none, none, none, none, none] from rfl]
  unfold m_first_loads
  have ltn := mlt gn
  have lta := mlt ga
  walk_at "sx"
  refine x_set (x_lc (x_iseqV rfl gn ?_))
  refine lc_ix (fun j acc M' => acc = (List.range j).map (fun _ => pD (0, 0)) ∧ Kp [] M M') (fun _ _ _ h => h.2.at_ _ _ (by simp) gn) ?_ ?_ (by rw [List.length_map]; omega) mnew ⟨rfl, .app⟩
  · rintro j d acc M' K' hd hM ⟨rfl, k'⟩ hK
    refine x_cb (x_cons (x_c (x_cons (x_c (x_nil (o_tup (Nat.le_of_ble_eq_true rfl) ?_))))))
    refine hK _ _ hM ⟨by rw [List.range_succ, List.map_append]; rfl, ?_⟩
    exact k'.setNew (Nat.le_refl _)
  rintro acc M1 hM ⟨rfl, k1⟩
  rw [List.length_map, hn, ← flat_D] at hM
  dsimp only
  walk_at "sx"
  refine x_set (x_op (x_call (x_argsP (x_cons (x_var rfl (x_cons (x_call (x_argsP (x_cons (x_var rfl (x_nil (x_len rfl rfl ?_))))))))))))
  refine l_open_links (k1.at_ _ _ (by simp) ga) (by omega) fun M2 k2 g2 => ?_
  refine x_cons (x_var rfl (x_cons (x_var rfl (x_cons (x_var rfl (x_nil (x_len rfl rfl ?_)))))))
  have k12 := k1.trans k2
  have oll := openL_len arcs
  refine l_settled ht hn1 (k2.at_ _ _ (by simp) hM) g2 (k12.at_ _ _ (by simp) ga) (openL_ok hA) (by omega) fun M3 y1 y2 m s k3 ly1 ly2 hs hm he h0 a1 a2 => ?_
  have kk := k12.trans k3
  have known : ∀ v, v < n → ∃ a, s.h v = some a := fun v hv => by
    have f : Fall (sg t ah) s.h (flatN n) := by rw [hs]; exact itr_fall _ _ _
    obtain ⟨b, e, _⟩ := f v (0, 0) (if_pos hv)
    exact ⟨b, e⟩
  have kept : ∀ a ∈ arcs, a.room = none → wle (0, 0) (rk (sg t ah) (gainA a fun v => (s.h v).getD (0, 0))) := fun a ha er => by
    obtain ⟨j, hj⟩ := List.mem_iff_getElem?.mp ha
    obtain ⟨t1, t2⟩ := hA a ha
    obtain ⟨π, hπ⟩ := hπ
    have st := (bf_still (n := n) hs he h0 (by omega) (fun l hl => by
      obtain ⟨q1, q2, _⟩ := openL_ok hA l hl
      exact ⟨q1, q2⟩) hπ).1
    obtain ⟨x, hx⟩ := known a.tl t1
    obtain ⟨b, e, h2⟩ := st ⟨a.tl, a.hd, j, true⟩ (mem_openL.mpr ⟨a, hj, er, rfl, rfl, rfl⟩) x hx
    rw [prL_fw (l := ⟨a.tl, a.hd, j, true⟩) hj rfl] at h2
    unfold gainA
    dsimp only at e ⊢
    rw [hx, e, rk_take]
    dsimp only [Option.getD]
    rw [rk_add] at h2 ⊢
    unfold wle madd mtake at *
    dsimp only at *
    omega
  refine x_c (o_ixT (v := .ref y1) rfl ?_)
  have lkk := kk.len
  have lk12 := k12.len
  have ly1' : M.length ≤ y1 := by omega
  dsimp only
  walk_at "sx"
  refine x_set (x_cb (x_nil (o_lst (by simp) ?_)))
  have k4 : Kp [] M3 (M3 ++ [O.lst []]) := .app
  have g4 : (M3 ++ [O.lst []])[M3.length]? = some (.lst []) := mnew
  have h4 := k4.at_ _ _ (by simp) a1
  have lx : M.length ≤ M3.length := lkk
  have ly13 := mlt a1
  generalize hxx : M3.length = x at *
  generalize M3 ++ [O.lst []] = M4 at *
  dsimp only
  walk_at "sx"
  have kk4 := kk.trans k4
  refine x_set (x_cb (x_cons (x_var rfl (x_nil (o_listL (kk4.at_ _ _ (by simp) gn) ?_)))))
  have k5 : Kp [] M4 (M4 ++ [O.lst (needs.map pD)]) := .app
  have g5 : (M4 ++ [O.lst (needs.map pD)])[M4.length]? = some (.lst (needs.map pD)) := mnew
  have h5 := k5.at_ _ _ (by simp) h4
  have g4' := k5.at_ _ _ (by simp) g4
  have lx4 := mlt g4
  have xy : x ≠ M4.length := by omega
  have ly : M.length ≤ M4.length := kk4.len
  have ny : y1 ≠ M4.length := by omega
  have kk5 := kk4.trans k5
  generalize hyy : M4.length = y at *
  generalize M4 ++ [O.lst (needs.map pD)] = M5 at *
  dsimp only
  obtain ⟨hh, hhh⟩ : ∃ hh : Nat → Mo, hh = fun v => (s.h v).getD (0, 0) := ⟨_, rfl⟩
  rw [← hhh] at kept
  have hat : ∀ v, v < n → atI (hsD n s.h) (v : Int) = some (pD (hh v)) := fun v hv => by
    obtain ⟨a, e⟩ := known v hv
    rw [hs_at hv, hhh]
    dsimp only
    rw [e]; rfl
  with_reducible refine x_join (fun ρ M' => ∃ m0 lacks, (∃ o9 o10 o11 o12 o13 o14, ρ = [some (.ref pn), some (.ref pa), some (qD t), some (.bl ah), some (.ref M.length), none, some (.ref y1), some (.ref x), some (.ref y), o9, o10, o11, o12, o13, o14]) ∧ FiOk (sg t ah) n arcs needs m0 lacks hh ∧ Kp [] M M' ∧ M'[x]? = some (.lst (m0.map pD)) ∧ M'[y]? = some (.lst (lacks.map pD))) ?_ ?_
  rotate_left
  · rintro ρ M' ⟨m0, lacks, ⟨o9, o10, o11, o12, o13, o14, rfl⟩, fi, k', gx, gy⟩
    refine x_ret (x_cb (x_cons (x_var rfl (x_cons (x_var rfl (x_nil (o_tup (Nat.le_of_ble_eq_true rfl) ?_)))))))
    exact k M' x y m0 lacks hh k' lx ly xy gx gy fi
  intro K hK
  refine x_for (x_iseqV rfl (kk5.at_ _ _ (by simp) ga) ?_)
  refine for_inv (fun l ρ M' => ∃ rest done m0 lacks, l = rest.map arcD ∧ arcs = done ++ rest ∧ (∃ o9 o10 o11 o12 o13 o14, ρ = [some (.ref pn), some (.ref pa), some (qD t), some (.bl ah), some (.ref M.length), none, some (.ref y1), some (.ref x), some (.ref y), o9, o10, o11, o12, o13, o14]) ∧ FiOk (sg t ah) n done needs m0 lacks hh ∧ Kp [] M M' ∧ M'[y1]? = some (.lst (hsD n s.h)) ∧ M'[x]? = some (.lst (m0.map pD)) ∧ M'[y]? = some (.lst (lacks.map pD))) ?_ ?_ ?_ ⟨arcs, [], [], needs, rfl, rfl, ⟨_, _, _, _, _, _, rfl⟩, ⟨rfl, hn, fun φ => (mtake_z (a := dotM φ 0 needs)).symm, fun k a m h => by simp at h⟩, kk5, h5, g4', g5⟩
  · rintro l ρ M' ⟨_, _, _, _, _, _, _, _, k', _⟩
    exact k'.at_ _ _ (by simp) ga
  · rintro ρ M' ⟨rest, done, m0, lacks, h1, h2, h3, h4, h5, h6, h7, h8⟩
    obtain rfl : rest = [] := by cases rest with | nil => rfl | cons a b => cases h1
    rw [List.append_nil] at h2
    subst h2
    exact hK _ _ ⟨m0, lacks, h3, h4, h5, h7, h8⟩
  rintro d l ρ M' K3 ⟨rest, done, m0, lacks, h1, h2, ⟨o9, o10, o11, o12, o13, o14, rfl⟩, fi, k', hy1, hx', hy'⟩ hK3
  cases rest with
  | nil => cases h1
  | cons a rest =>
    rw [List.map_cons] at h1
    injection h1 with h1 h1'
    subst h1 h1'
    have e2 : arcs = (done ++ [a]) ++ rest := by rw [h2]; simp
    have ma : a ∈ arcs := by rw [h2]; simp
    obtain ⟨t1, t2⟩ := hA a ma
    have dl : done.length ≤ arcs.length := by rw [h2, List.length_append]; omega
    refine x_tp rfl (x_tc (x_nm (x_tc (x_nm (x_tc (x_nm (x_tc (x_nm (x_tn ?_)))))))))
    dsimp only
    walk_at "sx"
    refine x_set (x_call (x_argsP (x_cons (x_call (x_argsP (x_cons (x_var rfl (x_cons (x_op (x_var rfl (x_var rfl (o_ixL hy1 (hat a.tl t1) (x_nil (x_len rfl rfl ?_))))))))))))))
    refine add_S (x := a.price) ?_
    refine x_cons (x_op (x_var rfl (x_var rfl (o_ixL hy1 (hat a.hd t2) (x_nil (x_len rfl rfl ?_))))))
    refine take_S ?_
    have eg : mtake (madd a.price (hh a.tl)) (hh a.hd) = gainA a hh := rfl
    rw [eg]
    dsimp only
    with_reducible refine x_join (fun ρ M2 => M' = M2 ∧ ∃ m : Mo, ((m = (0, 0) ∧ wle (0, 0) (rk (sg t ah) (gainA a hh))) ∨ (a.room = some m ∧ wlt (rk (sg t ah) (gainA a hh)) (0, 0))) ∧ ρ = [some (.ref pn), some (.ref pa), some (qD t), some (.bl ah), some (.ref M.length), none, some (.ref y1), some (.ref x), some (.ref y), some (.int (a.tl : Nat)), some (.int (a.hd : Nat)), some (omD a.room), some (pD a.price), some (pD (gainA a hh)), some (pD m)]) ?_ ?_
    · intro K4 hK4
      refine x_set (x_ifE (x_b (x_op (x_call (x_argsP (x_cons (x_var rfl (x_cons (x_var rfl (x_cons (x_var rfl (x_nil (x_len rfl rfl ?_)))))))))))))
      refine rank_S ht.1 ht.2 (x_c (o_ltP ?_))
      have eb : ltP (rk (sg t ah) (gainA a hh)).1 (rk (sg t ah) (gainA a hh)).2 0 0 = decide (wlt (rk (sg t ah) (gainA a hh)) (0, 0)) := rfl
      rw [eb]
      refine if_d (fun q => ?_) (fun q => ?_)
      · refine x_var rfl ?_
        cases er : a.room with
        | none =>
          exfalso
          exact not_of_wle (kept a ma er) q
        | some r => exact hK4 _ _ ⟨rfl, r, .inr ⟨er, q⟩, by rw [er]; rfl⟩
      · refine x_cb (x_cons (x_c (x_cons (x_c (x_nil (o_tup (Nat.le_of_ble_eq_true rfl) ?_))))))
        exact hK4 _ _ ⟨rfl, (0, 0), .inl ⟨rfl, wle_of_not q⟩, rfl⟩
    rintro ρ M2 ⟨rfl, m, hm, rfl⟩
    walk_at "sx"
    refine x_drop (x_bm (x_var rfl (x_isL hx' (x_cons (x_var rfl (x_nil (o_app hx' (by rw [List.length_map, fi.hm]; omega) ?_)))))))
    have hx6 := msame (o' := O.lst (m0.map pD ++ [pD m])) hx'
    have hy6 : (M'.set x (O.lst (m0.map pD ++ [pD m])))[y]? = some (.lst (lacks.map pD)) := by rw [List.getElem?_set_ne xy]; exact hy'
    have hh6 : (M'.set x (O.lst (m0.map pD ++ [pD m])))[y1]? = some (.lst (hsD n s.h)) := by rw [List.getElem?_set_ne (by omega)]; exact hy1
    have k6 : Kp [] M (M'.set x (O.lst (m0.map pD ++ [pD m]))) := k'.setNew lx
    generalize M'.set x (O.lst (m0.map pD ++ [pD m])) = M6 at *
    obtain ⟨u, hu⟩ : ∃ u, lacks[a.hd]? = some u := ⟨_, List.getElem?_eq_getElem (by rw [fi.hn]; exact t2)⟩
    dsimp only
    walk_at "sx"
    refine x_setIx (x_call (x_argsP (x_cons (x_op (x_var rfl (x_var rfl (o_ixL hy6 (ms_at hu) (x_cons (x_var rfl (x_nil (x_len rfl rfl ?_)))))))))))
    refine take_S (x := u) (y := m) ?_
    refine x_var rfl (x_var rfl (o_setL hy6 (ixN_n (by rw [List.length_map, fi.hn]; exact t2)) ?_))
    rw [← List.map_set]
    have l7 : (lacks.set a.hd (mtake u m)).length = n := by rw [List.length_set]; exact fi.hn
    have hy7 := msame (o' := O.lst ((lacks.set a.hd (mtake u m)).map pD)) hy6
    have hx7 : (M6.set y (O.lst ((lacks.set a.hd (mtake u m)).map pD)))[x]? = some (.lst (m0.map pD ++ [pD m])) := by rw [List.getElem?_set_ne (Ne.symm xy)]; exact hx6
    have hh7 : (M6.set y (O.lst ((lacks.set a.hd (mtake u m)).map pD)))[y1]? = some (.lst (hsD n s.h)) := by rw [List.getElem?_set_ne (Ne.symm ny)]; exact hh6
    have k7 : Kp [] M (M6.set y (O.lst ((lacks.set a.hd (mtake u m)).map pD))) := k6.setNew ly
    have b7 : ∀ φ : Nat → Int, dotM φ 0 (lacks.set a.hd (mtake u m)) = madd (dotM φ 0 lacks) (msc (φ a.hd) (mneg m)) := fun φ => by
      rw [← mneg_add, dotM_set hu, Nat.zero_add]
    generalize lacks.set a.hd (mtake u m) = lacks1 at *
    generalize M6.set y (O.lst (lacks1.map pD)) = M7 at *
    obtain ⟨w, hw⟩ : ∃ w, lacks1[a.tl]? = some w := ⟨_, List.getElem?_eq_getElem (by rw [l7]; exact t1)⟩
    dsimp only
    refine x_setIx (x_call (x_argsP (x_cons (x_op (x_var rfl (x_var rfl (o_ixL hy7 (ms_at hw) (x_cons (x_var rfl (x_nil (x_len rfl rfl ?_)))))))))))
    refine add_S (x := w) (y := m) ?_
    refine x_var rfl (x_var rfl (o_setL hy7 (ixN_n (by rw [List.length_map, l7]; exact t1)) ?_))
    rw [← List.map_set]
    refine hK3 _ _ ⟨rest, done ++ [a], m0 ++ [m], lacks1.set a.tl (madd w m), rfl, e2, ⟨_, _, _, _, _, _, rfl⟩, ⟨?_, by rw [List.length_set]; exact l7, fun φ => ?_, fun k c z h1 h2 => ?_⟩, k7.setNew ly, ?_, ?_, msame hy7⟩
    · rw [List.length_append, List.length_append, fi.hm]; rfl
    · rw [dotM_set hw, b7, fi.bal, Nat.zero_add, exW_app fi.hm]
      show madd (madd (mtake (dotM φ 0 needs) (exW φ done m0)) (msc (φ a.hd) (mneg m))) (msc (φ a.tl) m) = mtake (dotM φ 0 needs) (madd (exW φ done m0) (madd (msc (φ a.hd - φ a.tl) m) (0, 0)))
      unfold mtake madd msc mneg
      exact Prod.ext (by dsimp only; grind) (by dsimp only; grind)
    · by_cases q : k < done.length
      · rw [List.getElem?_append_left q] at h1
        rw [List.getElem?_append_left (by rw [fi.hm]; exact q)] at h2
        exact fi.ld k c z h1 h2
      · rw [List.getElem?_append_right (by omega)] at h1
        rw [List.getElem?_append_right (by rw [fi.hm]; omega), fi.hm] at h2
        have hk : k - done.length = 0 := by
          have := (List.getElem?_eq_some_iff.mp h1).1
          simp at this; omega
        rw [hk] at h1 h2
        cases h1
        cases h2
        exact hm
    · rw [List.getElem?_set_ne (Ne.symm ny)]; exact hh7
    · rw [List.getElem?_set_ne (Ne.symm xy), hx7, List.map_append]; rfl
def tgB (T : Sg) (G : List Arc) (h : HS) (l : Li) : Bool := match h l.tl, h l.hd with
  | some x, some y => decide (rk T (mtake (madd x (prL G l)) y) = (0, 0))
  | _, _ => false
theorem tgB_ok {A T : Sg} {G : List Arc} {h : HS} {ms : List Mo} {l : Li} (hl : Lnk A G ms l) : tgB T G h l = okH T G h l.k := by
  obtain ⟨a, m, h1, h2, h3⟩ := hl
  unfold tgB okH
  rw [h1]
  dsimp only
  rcases h3 with ⟨f, e1, e2, -⟩ | ⟨f, e1, e2, -⟩
  · rw [e1, e2, prL_fw h1 f]
    all_goals rfl
  · rw [e1, e2, prL_bw h1 f]
    cases h a.tl with
    | none => cases h a.hd <;> rfl
    | some x =>
      cases h a.hd with
      | none => rfl
      | some y =>
        dsimp only
        rw [decide_eq_decide, rk_take, rk_take, rk_add, rk_add, rk_neg]
        unfold mtake madd mneg
        constructor
        · intro h
          have k := congrArg Prod.fst h
          have k' := congrArg Prod.snd h
          dsimp only at k k'
          exact Prod.ext (by dsimp only; omega) (by dsimp only; omega)
        · intro h
          have k := congrArg Prod.fst h
          have k' := congrArg Prod.snd h
          dsimp only at k k'
          exact Prod.ext (by dsimp only; omega) (by dsimp only; omega)
theorem tight_L {A T : Sg} {G : List Arc} {h : HS} {ms : List Mo} : (fun l => l ∈ (leftL A G ms).filter (tgB T G h)) = LnkO A G ms (okH T G h) := by
  funext l
  refine propext ?_
  rw [List.mem_filter, mem_leftL]
  constructor
  · rintro ⟨h1, h2⟩
    exact ⟨h1, by rw [← tgB_ok h1]; exact h2⟩
  · rintro ⟨h1, h2⟩
    exact ⟨h1, by rw [tgB_ok h1]; exact h2⟩
theorem l_tight {pl ph pa N : Nat} {G : List Arc} {ls : List Li} {h : HS} {t : Rat} {ah : Bool} (ht : Se2 t) (hll : ls.length ≤ 100000) (gl : M[pl]? = some (.lst (ls.map liD))) (gh : M[ph]? = some (.lst (hsD N h))) (ga : M[pa]? = some (.lst (G.map arcD))) (hl : ∀ l ∈ ls, LiOk N G l)
    (k : ∀ M' y, Kp [] M M' → M.length ≤ y → M'[y]? = some (.lst ((ls.filter (tgB (sg t ah) G h)).map liD)) → Q (.ref y) M') : w_tight_links [.ref pl, .ref ph, .ref pa, qD t, .bl ah] M Q X := by
  unfold w_tight_links wOf
  rw [show startE N_tight_links [.ref pl, .ref ph, .ref pa, qD t, .bl ah] = [some (.ref pl), some (.ref ph), some (.ref pa), some (qD t), some (.bl ah), none, none, none, none, none] from rfl]
  unfold m_tight_links
  walk_at "sx"
  refine x_set (x_cb (x_nil (o_lst (by simp) ?_)))
  have k1 : Kp [] M (M ++ [O.lst []]) := .app
  have g1 : (M ++ [O.lst []])[M.length]? = some (.lst []) := mnew
  have ly : M.length ≤ M.length := Nat.le_refl _
  have ltl := mlt gl
  generalize hy : M.length = y at *
  generalize M ++ [O.lst []] = M1 at *
  dsimp only
  walk_at "sx"
  refine x_for (x_iseqV rfl (k1.at_ _ _ (by simp) gl) ?_)
  refine for_inv (fun l ρ M' => ∃ rest done, l = rest.map liD ∧ ls = done ++ rest ∧ (∃ o6 o7 o8 o9, ρ = [some (.ref pl), some (.ref ph), some (.ref pa), some (qD t), some (.bl ah), some (.ref y), o6, o7, o8, o9]) ∧ Kp [] M M' ∧ M'[y]? = some (.lst ((done.filter (tgB (sg t ah) G h)).map liD))) ?_ ?_ ?_ ⟨ls, [], rfl, rfl, ⟨_, _, _, _, rfl⟩, k1, g1⟩
  · rintro l ρ M' ⟨_, _, _, _, _, k', _⟩
    exact k'.at_ _ _ (by simp) gl
  · rintro ρ M' ⟨rest, done, h1, h2, ⟨o6, o7, o8, o9, rfl⟩, k', g'⟩
    obtain rfl : rest = [] := by cases rest with | nil => rfl | cons a b => cases h1
    rw [List.append_nil] at h2
    subst h2
    dsimp only
    refine x_ret (x_var rfl ?_)
    exact k M' y k' ly g'
  rintro d l ρ M' K3 ⟨rest, done, h1, h2, ⟨o6, o7, o8, o9, rfl⟩, k', g'⟩ hK3
  cases rest with
  | nil => cases h1
  | cons lk rest =>
    rw [List.map_cons] at h1
    injection h1 with h1 h1'
    subst h1 h1'
    have e2 : ls = (done ++ [lk]) ++ rest := by rw [h2]; simp
    obtain ⟨t1, t2, a, t3⟩ := hl lk (by rw [h2]; simp)
    have dl : done.length ≤ ls.length := by rw [h2, List.length_append]; omega
    have fl : (done.filter (tgB (sg t ah) G h)).length ≤ done.length := List.length_filter_le _ _
    have gh' := k'.at_ _ _ (by simp) gh
    have ga' := k'.at_ _ _ (by simp) ga
    have no : tgB (sg t ah) G h lk = false → (done ++ [lk]).filter (tgB (sg t ah) G h) = done.filter (tgB (sg t ah) G h) := fun e => by
      rw [List.filter_append, List.filter_cons_of_neg (by rw [e]; exact Bool.false_ne_true)]; simp
    refine x_nm ?_
    walk_at "sx"
    refine x_par (x_cons (x_op (x_var rfl (x_op (x_var rfl (x_c (o_ixT (v := .int (lk.tl : Nat)) rfl (o_ixL gh' (hs_at t1) ?_))))))))
    refine x_cons (x_op (x_var rfl (x_op (x_var rfl (x_c (o_ixT (v := .int (lk.hd : Nat)) rfl (o_ixL gh' (hs_at t2) (x_nil ?_))))))))
    dsimp only
    walk_at "sx"
    refine x_ifS (x_or (x_b (x_op (x_var rfl (x_c (o_isN ?_))))))
    cases e1 : h lk.tl with
    | none =>
      refine if_t (if_t ?_)
      show K3 _ _
      exact hK3 _ _ ⟨rest, done ++ [lk], rfl, e2, ⟨_, _, _, _, rfl⟩, k', by rw [no (by unfold tgB; rw [e1])]; exact g'⟩
    | some x =>
      refine if_f (x_b (x_op (x_var rfl (x_c (o_isN ?_)))))
      cases e3 : h lk.hd with
      | none =>
        refine if_t ?_
        show K3 _ _
        exact hK3 _ _ ⟨rest, done ++ [lk], rfl, e2, ⟨_, _, _, _, rfl⟩, k', by rw [no (by unfold tgB; rw [e1, e3])]; exact g'⟩
      | some z =>
        have eb : tgB (sg t ah) G h lk = decide (rk (sg t ah) (mtake (madd x (prL G lk)) z) = (0, 0)) := by unfold tgB; rw [e1, e3]
        refine if_f (x_next ?_)
        dsimp only
        walk_at "sx"
        refine x_set (x_call (x_argsP (x_cons (x_call (x_argsP (x_cons (x_var rfl (x_cons (x_call (x_argsP (x_cons (x_var rfl (x_cons (x_var rfl (x_nil (x_len rfl rfl ?_))))))))))))))))
        refine step_price_S ga' t3 ?_
        refine x_nil (x_len rfl rfl (add_S (x := x) ?_))
        refine x_cons (x_var rfl (x_nil (x_len rfl rfl (take_S (y := z) ?_))))
        dsimp only
        refine x_ifS (x_b (x_op (x_call (x_argsP (x_cons (x_var rfl (x_cons (x_var rfl (x_cons (x_var rfl (x_nil (x_len rfl rfl ?_))))))))))))
        refine rank_S ht.1 ht.2 (x_c ?_)
        refine eqG_pD (m := (0, 0)) ?_
        rw [← eb]
        refine if_b (fun q => ?_) (fun q => ?_)
        · refine x_drop (x_bm (x_var rfl (x_isL g' (x_cons (x_var rfl (x_nil (o_app g' (by rw [List.length_map]; omega) ?_)))))))
          refine hK3 _ _ ⟨rest, done ++ [lk], rfl, e2, ⟨_, _, _, _, rfl⟩, k'.setNew (by omega), ?_⟩
          rw [msame g', List.filter_append, List.filter_cons_of_pos q, List.map_append]; rfl
        · exact x_next (hK3 _ _ ⟨rest, done ++ [lk], rfl, e2, ⟨_, _, _, _, rfl⟩, k', by rw [no q]; exact g'⟩)
end
end Prf

namespace Prf
structure FlI (A : Sg) (G arcs : List Arc) (m0 : List Mo) (n : Nat) (ms : List Mo) : Prop where
  len : ms.length = G.length
  b : BdL A G ms
  f : ∃ F : Mo, ∀ φ : Nat → Int, exW φ G ms = madd (exW φ arcs m0) (msc (φ (n + 1) - φ n) F)
theorem ends_room {A : Sg} {n k : Nat} {xs : List Mo} {a : Arc} (h : a ∈ endsF A n k xs) : ∃ r, a.room = some r ∧ wle (0, 0) (rk A r) ∧ a.price = (0, 0) := by
  obtain ⟨j, x, _, h2⟩ := endsF_mem h
  rcases h2 with ⟨rfl, q⟩ | ⟨rfl, q⟩
  · exact ⟨mneg x, rfl, wle_of_lt (wlt_neg.mp q), rfl⟩
  · exact ⟨x, rfl, wle_of_lt q, rfl⟩
theorem FlI.start {A T : Sg} {n : Nat} {arcs : List Arc} {needs m0 lacks : List Mo} {h : Nat → Mo} (fi : FiOk T n arcs needs m0 lacks h) (hr : ∀ a ∈ arcs, ∀ r, a.room = some r → wle (0, 0) (rk A r)) : FlI A (arcs ++ endsF A n 0 lacks) arcs m0 n (m0 ++ List.replicate (endsF A n 0 lacks).length (0, 0)) := by
  refine ⟨by simp [fi.hm], fun k a m h1 h2 => ?_, (0, 0), fun φ => ?_⟩
  · by_cases q : k < arcs.length
    · rw [List.getElem?_append_left q] at h1
      rw [List.getElem?_append_left (by rw [fi.hm]; exact q)] at h2
      rcases fi.ld k a m h1 h2 with ⟨rfl, _⟩ | ⟨e, _⟩
      · rw [rk_zero]; exact ⟨wle_refl _, hr a (List.mem_of_getElem? h1)⟩
      · exact ⟨hr a (List.mem_of_getElem? h1) m e, fun r e' => by rw [e] at e'; cases e'; exact wle_refl _⟩
    · rw [List.getElem?_append_right (by omega)] at h1
      rw [List.getElem?_append_right (by rw [fi.hm]; omega)] at h2
      obtain rfl : m = (0, 0) := List.eq_of_mem_replicate (List.mem_of_getElem? h2)
      rw [rk_zero]
      obtain ⟨r, e1, e2, _⟩ := ends_room (List.mem_of_getElem? h1)
      exact ⟨wle_refl _, fun r' e => by rw [e1] at e; cases e; exact e2⟩
  · rw [exW_app fi.hm, exW_zero (ms := List.replicate _ _) fun m hm => List.eq_of_mem_replicate hm, msc_o]
theorem FlI.push {A : Sg} {G arcs : List Arc} {m0 : List Mo} {n : Nat} {ms : List Mo} {P : List Li} {x : Mo} (I : FlI A G arcs m0 n ms) (W : Wy (Lnk A G ms) n P (n + 1)) (nd : (P.map (·.k)).Nodup) (hp : ∃ l ∈ P, capL G ms l = some x) (hx : ∀ l ∈ P, ∀ c, capL G ms l = some c → wle (rk A x) (rk A c)) : FlI A G arcs m0 n (puL x ms P) := by
  obtain ⟨F, hF⟩ := I.f
  obtain ⟨l, hl, hc⟩ := hp
  refine ⟨by rw [puL_len]; exact I.len, puL_bd I.b W nd (wle_of_lt (cap_pos (W.all l hl) hc)) hx, madd F x, fun φ => ?_⟩
  rw [puL_ex rfl W, hF, msc_madd, madd_assoc]
theorem prL_app {arcs bs : List Arc} {l : Li} {a : Arc} (h : arcs[l.k]? = some a) : prL (arcs ++ bs) l = prL arcs l := by
  unfold prL
  rw [h, List.getElem?_append_left (List.getElem?_eq_some_iff.mp h).1, h]
theorem lnk_app {A : Sg} {arcs bs : List Arc} {ms : List Mo} {l : Li} (hl : Lnk A arcs (ms.take arcs.length) l) : Lnk A (arcs ++ bs) ms l ∧ prL (arcs ++ bs) l = prL arcs l := by
  obtain ⟨a, m, h1, h2, h3⟩ := hl
  have lt := (List.getElem?_eq_some_iff.mp h1).1
  rw [List.getElem?_take_of_lt lt] at h2
  exact ⟨⟨a, m, by rw [List.getElem?_append_left lt]; exact h1, h2, h3⟩, prL_app h1⟩
theorem pot_start {A T : Sg} (hq : 1 ≤ T.q) {n : Nat} {arcs : List Arc} {needs m0 lacks : List Mo} {h : Nat → Mo} (hA : ArcsOk n arcs) (fi : FiOk T n arcs needs m0 lacks h) : ∃ π, PotL T (prL (arcs ++ endsF A n 0 lacks)) (Lnk A (arcs ++ endsF A n 0 lacks) (m0 ++ List.replicate (endsF A n 0 lacks).length (0, 0))) π := by
  obtain ⟨B, hB⟩ := big_of hq ((List.range n).map h)
  obtain ⟨C, hC⟩ := big_of hq ((List.range n).map fun v => mneg (h v))
  refine ⟨fun v => if v = n then B else if v = n + 1 then mneg C else h v, fun l hl => ?_⟩
  obtain ⟨a, m, h1, h2, h3⟩ := hl
  dsimp only
  by_cases q : l.k < arcs.length
  · have g1 := h1
    rw [List.getElem?_append_left q] at h1
    rw [List.getElem?_append_left (by rw [fi.hm]; exact q)] at h2
    obtain ⟨t1, t2⟩ := hA a (List.mem_of_getElem? h1)
    have ld := fi.ld l.k a m h1 h2
    unfold gainA at ld
    rw [rk_take, rk_add] at ld
    rcases h3 with ⟨f, e1, e2, w⟩ | ⟨f, e1, e2, w⟩
    · rw [e1, e2, if_neg (by omega), if_neg (by omega), if_neg (by omega), if_neg (by omega), prL_fw g1 f, rk_add]
      rcases ld with ⟨rfl, ld⟩ | ⟨e, _⟩
      · unfold wle madd mtake at *
        dsimp only at *
        omega
      · exfalso
        unfold fwdB at w
        rw [e] at w
        have w := of_decide_eq_true w
        rw [rk_take] at w
        unfold wlt mtake at w
        dsimp only at w
        omega
    · rw [e1, e2, if_neg (by omega), if_neg (by omega), if_neg (by omega), if_neg (by omega), prL_bw g1 f, rk_add, rk_neg]
      rcases ld with ⟨rfl, _⟩ | ⟨_, ld⟩
      · exfalso
        unfold bwdB at w
        have w := of_decide_eq_true w
        rw [rk_zero] at w
        exact wlt_irrefl w
      · unfold wle wlt madd mtake mneg at *
        dsimp only at *
        omega
  · have g1 := h1
    rw [List.getElem?_append_right (by omega)] at h1
    rw [List.getElem?_append_right (by rw [fi.hm]; omega)] at h2
    obtain rfl : m = (0, 0) := List.eq_of_mem_replicate (List.mem_of_getElem? h2)
    rcases h3 with ⟨f, e1, e2, w⟩ | ⟨f, e1, e2, w⟩
    · rw [prL_fw g1 f]
      obtain ⟨j, x, hj, h4⟩ := endsF_mem (List.mem_of_getElem? h1)
      have hjl := (List.getElem?_eq_some_iff.mp hj).1
      rw [fi.hn] at hjl
      have b1 := hB (h j) (List.mem_map_of_mem (List.mem_range.mpr hjl))
      have c1 := hC (mneg (h j)) (List.mem_map.mpr ⟨j, List.mem_range.mpr hjl, rfl⟩)
      rw [Nat.zero_add] at h4
      rcases h4 with ⟨rfl, _⟩ | ⟨rfl, _⟩
      · dsimp only at e1 e2
        rw [e1, e2, if_pos rfl, if_neg (by omega), if_neg (by omega), madd_zero]
        exact b1
      · dsimp only at e1 e2
        rw [e1, e2, if_neg (by omega), if_pos rfl, if_neg (by omega), if_neg (by omega), madd_zero]
        rw [rk_neg] at c1 ⊢
        unfold wle mneg at *
        dsimp only at *
        omega
    · exfalso
      unfold bwdB at w
      have w := of_decide_eq_true w
      rw [rk_zero] at w
      exact wlt_irrefl w
structure BestOk (A T : Sg) (n : Nat) (arcs : List Arc) (needs ms : List Mo) (h : HS) : Prop where
  len : ms.length = arcs.length
  bd : BdL A arcs ms
  met : ∀ φ : Nat → Int, φ n = 0 → φ (n + 1) = 0 → rk A (exW φ arcs ms) = rk A (dotM φ 0 needs)
  known : ∀ v, v < n → ∃ a, h v = some a
  kept : ∀ l, Lnk A arcs ms l → ∀ a b, h l.tl = some a → h l.hd = some b → wle (rk T b) (rk T (madd a (prL arcs l)))
theorem best_end {A T : Sg} (hq : 1 ≤ A.q) {n : Nat} {arcs : List Arc} {needs m0 lacks base ms : List Mo} {hh : Nat → Mo} {h : HS} (hA : ArcsOk n arcs) (fi : FiOk T n arcs needs m0 lacks hh) (hb : base.length = arcs.length) (Bb : BdL A arcs base) (hbal : ∀ φ : Nat → Int, dotM φ 0 needs = exW φ arcs base)
    (fl : FlI A (arcs ++ endsF A n 0 lacks) arcs m0 n ms) (I : HtI A T (arcs ++ endsF A n 0 lacks) n ms h) (hg : h (n + 1) = none) :
    (ms.take arcs.length).length = arcs.length ∧ BdL A arcs (ms.take arcs.length) ∧ ∀ φ : Nat → Int, φ n = 0 → φ (n + 1) = 0 → rk A (exW φ arcs (ms.take arcs.length)) = rk A (dotM φ 0 needs) := by
  obtain ⟨F, hF⟩ := fl.f
  have hl := fl.len
  have l1 : (ms.take arcs.length).length = arcs.length := by rw [List.length_take, hl, List.length_append]; omega
  obtain ⟨a0, z1, z2⟩ := I.z
  have full := best_full (A := A) hq (n := n) (arcs := arcs) (lacks := lacks) (base := base) (m0 := m0) (ms := ms) (F := F) (f := fun v => (h v).isNone) fi.hn hA hl fl.b hb Bb hF (fun φ => by rw [fi.bal, hbal]) (by rw [z1]; rfl) (by rw [hg]; rfl) (fun l hlk e => by
    cases e1 : h l.tl with
    | none => rw [e1] at e; cases e
    | some a =>
      obtain ⟨b, e2, _⟩ := I.kp l hlk a e1
      rw [e2]; rfl)
  refine ⟨l1, fun k a m h1 h2 => ?_, fun φ p0 p1 => ?_⟩
  · have lt := (List.getElem?_eq_some_iff.mp h1).1
    rw [List.getElem?_take_of_lt lt] at h2
    exact fl.b k a m (by rw [List.getElem?_append_left lt]; exact h1) h2
  · have e1 : ms = ms.take arcs.length ++ ms.drop arcs.length := (List.take_append_drop _ _).symm
    have t := congrArg (rk A) (hF φ)
    rw [e1, exW_app l1, p0, p1, Int.sub_self, msc_zero, madd_zero, rk_add] at t
    have l2 : (ms.drop arcs.length).length = (endsF A n 0 lacks).length := by rw [List.length_drop, hl, List.length_append]; omega
    have ed := ends_dot (A := A) p0 p1 (xs := lacks) (k := 0) l2 fun j a m r h1 h2 h3 => full j a m r h1 (by rw [List.getElem?_drop] at h2; exact h2) h3
    rw [ed, rk_neg, fi.bal, rk_take] at t
    generalize rk A (exW φ arcs (ms.take arcs.length)) = x at *
    generalize rk A (dotM φ 0 needs) = y at *
    generalize rk A (exW φ arcs m0) = z at *
    have t1 := congrArg Prod.fst t
    have t2 := congrArg Prod.snd t
    unfold madd mneg mtake at t1 t2
    dsimp only at t1 t2
    exact Prod.ext (by omega) (by omega)
end Prf

namespace Prf
theorem cutG_to {α : Type} {l : List α} {n : Nat} (h : n ≤ l.length) : cutD l none (some (n : Int)) = l.take n := by
  have e1 : HT.sIx l.length 0 none = 0 := rfl
  have e2 : HT.sIx l.length l.length (some (n : Int)) = n := by
    unfold HT.sIx; simp only; rw [if_neg (by omega)]; simp; omega
  unfold cutD
  rw [e1, e2]; simp
theorem o_extG {n m : Nat} {ds es : List D} {M : Mem} {Q : DK} (e1 : M[n]? = some (.lst ds)) (e2 : M[m]? = some (.lst es)) (hl : ds.length + es.length ≤ 16000000) (q : Q .non (M.set n (.lst (ds ++ es)))) : omExtend (.ref n) [.ref m] M Q := by
  unfold omExtend; dsimp only; rw [e1, e2]; exact ⟨hl, q⟩
theorem o_addG {M : Mem} {Q : DK} {p q : Nat} {ds es : List D} (e1 : M[p]? = some (.lst ds)) (e2 : M[q]? = some (.lst es)) (hl : ds.length + es.length ≤ 1000000) (h : Q (.ref M.length) (M ++ [.lst (ds ++ es)])) : oAdd (.ref p) (.ref q) M Q := by
  unfold oAdd; dsimp only; rw [e1, e2]; exact ⟨by omega, h⟩
theorem flat1_D (n : Nat) : hsD (n + 2) (flat1 n) = List.replicate n D.non ++ [pD (0, 0), .non] := by
  apply List.ext_getElem?
  intro i
  unfold hsD flat1
  rw [List.getElem?_map]
  by_cases h1 : i < n
  · rw [List.getElem?_range (by omega), List.getElem?_append_left (by simp; omega), List.getElem?_replicate, if_pos h1, Option.map_some, if_neg (by omega)]; rfl
  · rw [List.getElem?_append_right (by simp; omega), List.length_replicate]
    by_cases h2 : i = n
    · subst h2
      rw [List.getElem?_range (by omega), Option.map_some, if_pos rfl, Nat.sub_self]; rfl
    · by_cases h3 : i = n + 1
      · subst h3
        rw [List.getElem?_range (by omega), Option.map_some, if_neg (by omega), show n + 1 - n = 1 by omega]; rfl
      · rw [List.getElem?_eq_none (by simp; omega), Option.map_none, List.getElem?_eq_none (by simp; omega)]
theorem leftL_nodes {A : Sg} {N : Nat} {G : List Arc} {ms : List Mo} (hG : ∀ a ∈ G, a.tl < N ∧ a.hd < N) : ∀ l ∈ leftL A G ms, LiOk N G l := fun l hl => by
  obtain ⟨a, m, h1, h2, h3⟩ := mem_leftL.mp hl
  obtain ⟨g1, g2⟩ := hG a (List.mem_of_getElem? h1)
  rcases h3 with ⟨_, e1, e2, _⟩ | ⟨_, e1, e2, _⟩
  · exact ⟨by omega, by omega, a, h1⟩
  · exact ⟨by omega, by omega, a, h1⟩
theorem leftL_pot {A T : Sg} {G : List Arc} {ms : List Mo} {π : Nat → Mo} (p : PotL T (prL G) (Lnk A G ms) π) : PotL T (prL G) (fun l => l ∈ leftL A G ms) π := fun l hl => p l (mem_leftL.mp hl)
section
variable {M : Mem} {Q : DK} {X : XM}
theorem l_heights {pf pa pm N i1 i2 i3 i4 i5 i6 i7 : Nat} {ρ : Ev} {s t : Rat} {sa ta : Bool} {G : List Arc} {ms : List Mo} {h0 : HS} (hs : Se2 s) (ht : Se2 t) (hN : N ≤ 1000) (hGl : G.length ≤ 3000) (hG : ∀ a ∈ G, a.tl < N ∧ a.hd < N) (hml : ms.length = G.length)
    (e1 : ρ[i1]? = some (some (.ref pf))) (e2 : ρ[i2]? = some (some (.ref pa))) (e3 : ρ[i3]? = some (some (.ref pm))) (e4 : ρ[i4]? = some (some (qD s))) (e5 : ρ[i5]? = some (some (.bl sa))) (e6 : ρ[i6]? = some (some (qD t))) (e7 : ρ[i7]? = some (some (.bl ta)))
    (gf : M[pf]? = some (.lst (hsD N h0))) (ga : M[pa]? = some (.lst (G.map arcD))) (gm : M[pm]? = some (.lst (ms.map pD))) (hπ : ∃ π, PotL (sg t ta) (prL G) (Lnk (sg s sa) G ms) π)
    (k : ∀ M' y h, Kp [] M M' → M.length ≤ y → M'[y]? = some (.lst (hsD N h)) → (0 < N → (∀ l ∈ leftL (sg s sa) G ms, ∀ a, h l.tl = some a → ∃ b, h l.hd = some b ∧ wle (rk (sg t ta) b) (rk (sg t ta) (madd a (prL G l))))) → Fall (sg t ta) h h0 → Ach (prL G) (leftL (sg s sa) G ms) h0 h (N * (2 * G.length)) → Q (.ref y) M') :
    mOp oIx (mCall w_settled 5 0 (fun ds _ => ds) (mArgsP (mCons (mVar i1) (mCons (mCall w_left_links 4 0 (fun ds _ => ds) (mArgsP (mCons (mVar i2) (mCons (mVar i3) (mCons (mVar i4) (mCons (mVar i5) mNil)))))) (mCons (mVar i2) (mCons (mVar i6) (mCons (mVar i7) mNil))))))) (mC (.int 0)) ρ M Q X := by
  refine x_op (x_call (x_argsP (x_cons (x_var e1 (x_cons (x_call (x_argsP (x_cons (x_var e2 (x_cons (x_var e3 (x_cons (x_var e4 (x_cons (x_var e5 (x_nil (x_len rfl rfl ?_)))))))))))))))))
  refine l_left hs (by omega) hml ga gm fun M3 y3 k3 l3 g3 => ?_
  refine x_cons (x_var e2 (x_cons (x_var e6 (x_cons (x_var e7 (x_nil (x_len rfl rfl ?_)))))))
  have hll : (leftL (sg s sa) G ms).length ≤ 2 * G.length := leftF_len
  refine l_settled ht (by omega) (k3.at_ _ _ (by simp) gf) g3 (k3.at_ _ _ (by simp) ga) (leftL_nodes hG) (by omega) fun M4 y1 y2 m st k4 ly1 ly2 hst hm he h0' a1 a2 => ?_
  refine x_c (o_ixT (v := .ref y1) rfl ?_)
  obtain ⟨π, hπ⟩ := hπ
  have lk3 := k3.len
  refine k M4 y1 st.h (k3.trans k4) (by omega) a1 (fun n0 => ?_) (by rw [hst]; exact itr_fall _ _ _) ?_
  · exact (bf_still (n := N) hst he h0' n0 (fun l hl => by
      obtain ⟨q1, q2, _⟩ := leftL_nodes hG l hl
      exact ⟨q1, q2⟩) (leftL_pot hπ)).1
  · have : Ach (prL G) (leftL (sg s sa) G ms) h0 st.h (m * (leftL (sg s sa) G ms).length) := by rw [hst]; exact Ach.itr m
    exact this.mono (Nat.mul_le_mul hm hll)
theorem l_best {it pn pa n : Nat} {s t : Rat} {sa ta : Bool} {arcs : List Arc} {needs base : List Mo} (hs : Se2 s) (ht : Se2 t) (hn : needs.length = n) (hn1 : n ≤ 900) (hl : arcs.length ≤ 1000) (git : M[it]? = some (.tab "push" tq_push)) (gn : M[pn]? = some (.lst (needs.map pD))) (ga : M[pa]? = some (.lst (arcs.map arcD))) (hA : ArcsOk n arcs)
    (hr : ∀ a ∈ arcs, ∀ r, a.room = some r → wle (0, 0) (rk (sg s sa) r)) (hπ : ∃ π, PotL (sg t ta) (prL arcs) (fun l => l ∈ openL arcs) π) (hb : base.length = arcs.length) (Bb : BdL (sg s sa) arcs base) (hbal : ∀ φ : Nat → Int, dotM φ 0 needs = exW φ arcs base)
    (k : ∀ M' x y ms h, Kp [] M M' → M.length ≤ x → M.length ≤ y → x ≠ y → M'[x]? = some (.lst (ms.map pD)) → M'[y]? = some (.lst (hsD n h)) → BestOk (sg s sa) (sg t ta) n arcs needs ms h → Q (.tup [.ref x, .ref y]) M') : w_best [.ref pn, .ref pa, qD s, qD t, .bl sa, .bl ta] M Q X := by
  unfold w_best wOf
  rw [show startE N_best [.ref pn, .ref pa, qD s, qD t, .bl sa, .bl ta] = [some (.ref pn), some (.ref pa), some (qD s), some (qD t), some (.bl sa), some (.bl ta), none, none, none, none, none, none, none, none, none, none, none] from rfl]
  unfold m_best
  have ltn := mlt gn
  have lta := mlt ga
  have lti := mlt git
  have hqs : 1 ≤ (sg s sa).q := by have := s.den_pos; show (1 : Int) ≤ (s.den : Int); omega
  have hqt : 1 ≤ (sg t ta).q := by have := t.den_pos; show (1 : Int) ≤ (t.den : Int); omega
  walk_at "sx"
  refine x_asg (x_call (x_argsP (x_cons (x_var rfl (x_cons (x_var rfl (x_cons (x_var rfl (x_cons (x_var rfl (x_nil (x_len rfl rfl ?_))))))))))))
  refine l_first ht hn (by omega) hl gn ga hA hπ fun M1 x y m0 lacks hh k1 lx ly xy gx gy fi => ?_
  refine x_tp rfl (x_tc (x_nm (x_tc (x_nm (x_tn ?_)))))
  dsimp only
  walk_at "sx"
  refine x_set (x_cb (x_cons (x_var rfl (x_nil (o_lenL (k1.at_ _ _ (by simp) gn) ?_)))))
  rw [List.length_map, hn]
  dsimp only
  walk_at "sx"
  refine x_set (x_op (x_var rfl (x_c (o_add ?_))))
  rw [show (n : Int) + 1 = ((n + 1 : Nat) : Int) by omega]
  dsimp only
  walk_at "sx"
  refine x_set (x_call (x_argsP (x_cons (x_var rfl (x_cons (x_var rfl (x_cons (x_var rfl (x_cons (x_var rfl (x_nil (x_len rfl rfl ?_))))))))))))
  refine l_ends (n := n) hs fi.hn (by omega) (by omega) (k1.at_ _ _ (by simp) ga) gy fun M2 pg k2 lg g2 => ?_
  obtain ⟨A, hA0⟩ : ∃ A, A = sg s sa := ⟨_, rfl⟩
  obtain ⟨T, hT0⟩ : ∃ T, T = sg t ta := ⟨_, rfl⟩
  rw [← hA0] at g2 hr Bb hqs k
  rw [← hT0] at hqt fi k
  have el := endsF_len (A := A) (n := n) (xs := lacks) (k := 0)
  rw [fi.hn] at el
  have nodes := grown_nodes (A := A) fi.hn hA
  have FL0 := FlI.start (A := A) fi hr
  have PT0 := pot_start (A := A) hqt hA fi
  have fin := fun ms h => best_end (ms := ms) (h := h) hqs hA fi hb Bb hbal
  obtain ⟨E, hE⟩ : ∃ E, E = endsF A n 0 lacks := ⟨_, rfl⟩
  obtain ⟨G, hG⟩ : ∃ G, G = arcs ++ endsF A n 0 lacks := ⟨_, rfl⟩
  rw [← hG] at g2 nodes FL0 PT0 fin
  rw [← hE] at FL0 PT0 el
  have hGl : G.length = arcs.length + E.length := by rw [hG, List.length_append, ← hE]
  have hGn : ∀ a ∈ G, a.tl < n + 2 ∧ a.hd < n + 2 := fun a h => ⟨(nodes a h).1, (nodes a h).2.1⟩
  have k12 := k1.trans k2
  have gx2 := k2.at_ _ _ (by simp) gx
  have lM1 := k1.len
  have lx1 := mlt gx
  have lg' : M1.length ≤ pg := lg
  dsimp only
  walk_at "sx"
  refine x_drop (x_bm (x_var rfl (x_isL gx2 (x_cons (x_lc (x_rng2 ?_))))))
  refine x_cons (x_cb (x_cons (x_var rfl (x_nil (o_lenL (k12.at_ _ _ (by simp) ga) ?_)))))
  refine x_cons (x_cb (x_cons (x_var rfl (x_nil (o_lenL g2 (x_nil ?_))))))
  rw [List.length_map, List.length_map]
  refine ⟨by omega, ?_⟩
  rw [show ((G.length : Int) - (arcs.length : Int)).toNat = E.length by omega]
  refine lc_ix (fun j acc M' => acc = List.replicate j (pD (0, 0)) ∧ Kp [] M2 M') (fun _ _ _ _ => trivial) ?_ ?_ (by simp [rangeD]; omega) mnew ⟨rfl, .app⟩
  · rintro j d acc M' K' hd hM ⟨rfl, k'⟩ hK
    refine x_cb (x_cons (x_c (x_cons (x_c (x_nil (o_tup (Nat.le_of_ble_eq_true rfl) ?_))))))
    refine hK _ _ hM ⟨by rw [List.replicate_succ']; rfl, ?_⟩
    exact k'.setNew (Nat.le_refl _)
  rintro acc M3 hM ⟨rfl, k3⟩
  rw [show (rangeD (arcs.length : Int) E.length).length = E.length by simp [rangeD]] at hM
  have gx3 := k3.at_ _ _ (by simp) gx2
  refine x_nil (o_extG gx3 hM (by rw [List.length_map, List.length_replicate, fi.hm]; omega) ?_)
  rw [show m0.map pD ++ List.replicate E.length (pD (0, 0)) = (m0 ++ List.replicate E.length ((0, 0) : Mo)).map pD by rw [List.map_append, List.map_replicate]]
  obtain ⟨ms0, hms0⟩ : ∃ ms0, ms0 = m0 ++ List.replicate E.length ((0, 0) : Mo) := ⟨_, rfl⟩
  rw [← hms0] at FL0 PT0 ⊢
  have g3 := k3.at_ _ _ (by simp) g2
  have npg : x ≠ pg := by omega
  have kM3 := k12.trans k3
  have gx4 := msame (o' := O.lst (ms0.map pD)) gx3
  have g4 : (M3.set x (.lst (ms0.map pD)))[pg]? = some (.lst (G.map arcD)) := by rw [List.getElem?_set_ne npg]; exact g3
  have k4 : Kp [] M (M3.set x (.lst (ms0.map pD))) := kM3.setNew lx
  generalize M3.set x (.lst (ms0.map pD)) = M4 at *
  dsimp only
  walk_at "sx"
  refine x_set (x_op (x_lc (x_iseqV rfl (k4.at_ _ _ (by simp) gn) ?_)))
  refine lc_ix (fun j acc M' => acc = List.replicate j D.non ∧ Kp [] M4 M') (fun _ _ _ h => h.2.at_ _ _ (by simp) (k4.at_ _ _ (by simp) gn)) ?_ ?_ (by rw [List.length_map]; omega) mnew ⟨rfl, .app⟩
  · rintro j d acc M' K' hd hM ⟨rfl, k'⟩ hK
    refine x_c (hK _ _ hM ⟨by rw [List.replicate_succ'], ?_⟩)
    exact k'.setNew (Nat.le_refl _)
  rintro acc M5 hM5 ⟨rfl, k5⟩
  rw [List.length_map, hn] at hM5
  refine x_cb (x_cons (x_cb (x_cons (x_c (x_cons (x_c (x_nil (o_tup (Nat.le_of_ble_eq_true rfl) ?_)))))))) 
  refine x_cons (x_c (x_nil (o_lst (Nat.le_of_ble_eq_true rfl) ?_)))
  rw [show D.tup [D.int 0, D.int 0] = pD (0, 0) from rfl]
  have k6 : Kp [] M5 (M5 ++ [O.lst [pD (0, 0), D.non]]) := .app
  have g6 : (M5 ++ [O.lst [pD (0, 0), D.non]])[M5.length]? = some (.lst [pD (0, 0), D.non]) := mnew
  have h6 := k6.at_ _ _ (by simp) hM5
  refine o_addG h6 g6 (by simp; omega) ?_
  rw [← flat1_D]
  have k7 : Kp [] M4 ((M5 ++ [O.lst [pD (0, 0), D.non]]) ++ [O.lst (hsD (n + 2) (flat1 n))]) := k5.trans (k6.trans .app)
  have gf7 : ((M5 ++ [O.lst [pD (0, 0), D.non]]) ++ [O.lst (hsD (n + 2) (flat1 n))])[(M5 ++ [O.lst [pD (0, 0), D.non]]).length]? = some (.lst (hsD (n + 2) (flat1 n))) := mnew
  have lpf : M4.length ≤ (M5 ++ [O.lst [pD (0, 0), D.non]]).length := by have := k5.len; simp; omega
  generalize (M5 ++ [O.lst [pD (0, 0), D.non]]).length = pf at *
  generalize (M5 ++ [O.lst [pD (0, 0), D.non]]) ++ [O.lst (hsD (n + 2) (flat1 n))] = M7 at *
  have lx4 := mlt gx4
  have lg4 := mlt g4
  have npf : x ≠ pf := by omega
  have k47 := k4.trans k7
  have gx7 := k7.at_ _ _ (by simp) gx4
  have g7 := k7.at_ _ _ (by simp) g4
  dsimp only
  -- what heights there are
  obtain ⟨V, hV⟩ : ∃ V, V = sumsV G ((n + 2) * (2 * G.length)) := ⟨_, rfl⟩
  have goal : ∀ {ms : List Mo} {h : HS}, Ach (prL G) (leftL A G ms) (flat1 n) h ((n + 2) * (2 * G.length)) → ∀ a, h (n + 1) = some a → ∃ P, Wy (Lnk A G ms) n P (n + 1) ∧ a = psum (prL G) P ∧ a ∈ V := fun {ms h} ac a e => by
    obtain ⟨r, P, a0, h1, h2, h3, h4⟩ := ac _ _ e
    obtain ⟨rfl, rfl⟩ := flat1_root h1
    rw [zero_madd] at h4
    have W : Wy (Lnk A G ms) r P (r + 1) := h2.imp fun l hl => mem_leftL.mp hl
    refine ⟨P, W, h4, ?_⟩
    rw [h4, hV]
    have := sumsV_fold (G := G) (P := P) (K := 0) (x := (0, 0)) (by simp [sumsV]) fun l hl => by
      obtain ⟨a, _, g, _⟩ := W.all l hl
      exact ⟨a, g⟩
    have := sumsV_up (j := (r + 2) * (2 * G.length) - (0 + P.length)) this
    rw [show 0 + P.length + ((r + 2) * (2 * G.length) - (0 + P.length)) = (r + 2) * (2 * G.length) by omega] at this
    exact this
  have heights : ∀ {M' : Mem} {ms : List Mo} {Q' : DK} {X' : XM} {ρ : Ev}, (∃ o14 o15 o16, ρ = [some (.ref pn), some (.ref pa), some (qD s), some (qD t), some (.bl sa), some (.bl ta), some (.ref x), some (.ref y), some (.int (n : Nat)), some (.int ((n + 1 : Nat) : Int)), some (.ref pg), none, some (.ref pf), none, o14, o15, o16]) → Kp [] M M' → M'[pg]? = some (.lst (G.map arcD)) → M'[x]? = some (.lst (ms.map pD)) → M'[pf]? = some (.lst (hsD (n + 2) (flat1 n))) → ms.length = G.length → (∃ π, PotL T (prL G) (Lnk A G ms) π) →
      (∀ M'' y1 h, Kp [] M' M'' → M''[y1]? = some (.lst (hsD (n + 2) h)) → y1 ≠ x → HtI A T G n ms h → (∀ a, h (n + 1) = some a → ∃ P, Wy (Lnk A G ms) n P (n + 1) ∧ a = psum (prL G) P ∧ a ∈ V) → Q' (.ref y1) M'') →
      mOp oIx (mCall w_settled 5 0 (fun ds _ => ds) (mArgsP (mCons (mVar 12) (mCons (mCall w_left_links 4 0 (fun ds _ => ds) (mArgsP (mCons (mVar 10) (mCons (mVar 6) (mCons (mVar 2) (mCons (mVar 4) mNil)))))) (mCons (mVar 10) (mCons (mVar 3) (mCons (mVar 5) mNil))))))) (mC (.int 0)) ρ M' Q' X' := by
    rintro M' ms Q' X' ρ ⟨o14, o15, o16, rfl⟩ kM hg hx hf hml ⟨π, hp⟩ kk
    have hp' := hp
    rw [hT0, hA0] at hp'
    refine l_heights (N := n + 2) (h0 := flat1 n) hs ht (by omega) (by omega) hGn hml rfl rfl rfl rfl rfl rfl rfl hf hg hx ⟨π, hp'⟩ fun M'' y1 h k1 l1 g1 st fa ac => ?_
    rw [← hA0, ← hT0] at st
    rw [← hT0] at fa
    rw [← hA0] at ac
    have lx' := mlt hx
    exact kk M'' y1 h k1 g1 (by omega) (HtI.of hp (st (by omega)) fa ac) (goal ac)
  walk_at "sx"
  refine x_set (heights ⟨_, _, _, rfl⟩ k47 g7 gx7 gf7 FL0.len PT0 fun M8 y1 h k8 gh8 nh8 I8 V8 => ?_)
  have k48 := k47.trans k8
  have gx8 := k8.at_ _ _ (by simp) gx7
  have g8 := k8.at_ _ _ (by simp) g7
  have gf8 := k8.at_ _ _ (by simp) gf7
  dsimp only
  obtain ⟨D, hD⟩ : ∃ D, D = (n + 2 + 2) * (G.length + 1) + 1 := ⟨_, rfl⟩
  with_reducible refine x_join (fun ρ M' => ∃ ms h y1 o15 o16, ρ = [some (.ref pn), some (.ref pa), some (qD s), some (qD t), some (.bl sa), some (.bl ta), some (.ref x), some (.ref y), some (.int (n : Nat)), some (.int ((n + 1 : Nat) : Int)), some (.ref pg), none, some (.ref pf), none, some (.ref y1), o15, o16] ∧ FlI A G arcs m0 n ms ∧ HtI A T G n ms h ∧ h (n + 1) = none ∧ Kp [] M M' ∧ M'[x]? = some (.lst (ms.map pD))) ?_ ?_
  · intro K hK
    refine x_while (fun q ρ M' => ∃ ms h y1 lv0, (∃ o15 o16, ρ = [some (.ref pn), some (.ref pa), some (qD s), some (qD t), some (.bl sa), some (.bl ta), some (.ref x), some (.ref y), some (.int (n : Nat)), some (.int ((n + 1 : Nat) : Int)), some (.ref pg), none, some (.ref pf), none, some (.ref y1), o15, o16]) ∧ q = cntV T V (h (n + 1)) * D + muL A (okH T G h) G (n + 1) (n + 2) lv0 ms ∧ PuI A (okH T G h) G n (n + 1) (n + 2) ms lv0 ∧ FlI A G arcs m0 n ms ∧ HtI A T G n ms h ∧ y1 ≠ x ∧ Kp [] M M' ∧ M'[pg]? = some (.lst (G.map arcD)) ∧ M'[x]? = some (.lst (ms.map pD)) ∧ M'[pf]? = some (.lst (hsD (n + 2) (flat1 n))) ∧ M'[y1]? = some (.lst (hsD (n + 2) h))) _ ⟨ms0, h, y1, fun _ => 0, ⟨_, _, rfl⟩, rfl, pui_start, FL0, I8, nh8, k48, g8, gx8, gf8, gh8⟩ ?_
    rintro q ρ M' ⟨ms, h, y1, lv0, ⟨o15, o16, rfl⟩, rfl, P, FL, I, nh, k', hg', hx', hf', hh'⟩
    refine x_b (x_op (x_op (x_var rfl (x_var rfl (o_ixL hh' (hs_at (by omega)) (x_c (o_isnN ?_)))))))
    cases eh : h (n + 1) with
    | none =>
      refine if_f ?_
      exact hK _ _ ⟨ms, h, y1, _, _, rfl, FL, I, eh, k', hx'⟩
    | some a =>
      refine if_t ?_
      refine ⟨_, fun _ _ h => h, ?_⟩
      walk_at "sx"
      refine x_set (x_call (x_argsP (x_cons (x_call (x_argsP (x_cons (x_var rfl (x_cons (x_var rfl (x_cons (x_var rfl (x_cons (x_var rfl (x_nil (x_len rfl rfl ?_)))))))))))))))
      refine l_left hs (by omega) FL.len hg' hx' fun M9 y9 k9 l9 g9 => ?_
      have hg9 := k9.at_ _ _ (by simp) hg'
      have hh9 := k9.at_ _ _ (by simp) hh'
      refine x_cons (x_var rfl (x_cons (x_var rfl (x_cons (x_var rfl (x_cons (x_var rfl (x_nil (x_len rfl rfl ?_)))))))))
      have hll : (leftL (sg s sa) G ms).length ≤ 2 * G.length := leftF_len
      refine l_tight ht (by omega) g9 hh9 hg9 (leftL_nodes hGn) fun M10 y10 k10 l10 g10 => ?_
      rw [← hA0, ← hT0] at g10
      dsimp only
      walk_at "sx"
      refine x_set (x_call (x_argsP (x_cons (x_var rfl (x_cons (x_var rfl (x_cons (x_var rfl (x_nil (x_len rfl rfl ?_))))))))))
      refine l_reached (N := n + 2) (by omega) (by omega) (by omega) (fun l hl => by
        have := (List.mem_filter.mp hl).1
        exact (leftL_nodes hGn l this).2.1) g10 fun M11 y11 cm lv k11 l11 g11 R => ?_
      rw [tight_L] at R
      have k911 := k9.trans (k10.trans k11)
      have kM11 := k'.trans k911
      have hg11 := k911.at_ _ _ (by simp) hg'
      have hx11 := k911.at_ _ _ (by simp) hx'
      have hf11 := k911.at_ _ _ (by simp) hf'
      have hh11 := k911.at_ _ _ (by simp) hh'
      have cpos : 1 ≤ cntV T V (some a) := Nat.le_add_right _ _
      dsimp only
      refine x_ifS (x_b (x_op (x_var rfl (x_var rfl ?_))))
      refine o_inD g11 (k := .inl ((n + 1 : Nat) : Int)) rfl ?_
      rw [cm_has R.c.nd]
      refine if_d (fun hgl => ?_) (fun hgl => ?_)
      · obtain ⟨S, s1, s2, s3, s4, s5⟩ := turn_dec R hgl P
        have W0 : Wy (Lnk A G ms) n S.reverse (n + 1) := s2.imp fun _ h => h.1
        have all : ∀ l ∈ S, Lnk A G ms l := fun l h => W0.all l (List.mem_reverse.mpr h)
        have ndS : (S.map (·.k)).Nodup := by
          have := List.pairwise_reverse.mpr (s3.imp fun h => Ne.symm h)
          rw [List.map_reverse, List.reverse_reverse] at this
          exact this
        have hne : ∃ l ∈ S, capL G ms l ≠ none := by
          cases e : S.reverse with
          | nil =>
            rw [e] at W0
            have W0 : n = n + 1 := W0
            omega
          | cons l P =>
            rw [e] at W0
            obtain ⟨w1, w2, _⟩ := W0
            refine ⟨l, List.mem_reverse.mp (by rw [e]; simp), ?_⟩
            obtain ⟨a, m, a1, a2, a3⟩ := w1
            unfold capL
            rcases a3 with ⟨f1, f2, f3, _⟩ | ⟨f1, f2, f3, _⟩
            · rw [if_pos f1, a1, Option.bind_some]
              have := (nodes a (List.mem_of_getElem? a1)).2.2.2 (by omega)
              cases er : a.room with
              | none => exact (this er).elim
              | some r => simp
            · rw [if_neg (by rw [f1]; decide)]; simp
        refine x_drop (x_call (x_argsP (x_cons (x_var rfl (x_cons (x_var rfl (x_cons (x_var rfl (x_cons (x_var rfl (x_cons (x_var rfl (x_cons (x_var rfl (x_nil (x_len rfl rfl ?_))))))))))))))))
        rw [hA0] at all
        refine l_push hs (by omega) (kM11.at_ _ _ (by simp) git) hg11 hx11 g11 R.c.nd s1 all ndS hne fun M12 z k12 g12 p1 p2 => ?_
        rw [← hA0] at p2 all
        have p1' : ∃ l ∈ S.reverse, capL G ms l = some z := by
          obtain ⟨l, h1, h2⟩ := p1
          exact ⟨l, List.mem_reverse.mpr h1, h2⟩
        obtain ⟨lv1, P1, d1⟩ := s5 z p1'
        have kM12 : Kp [] M M12 := ⟨Nat.le_trans kM11.len k12.len, fun i o hi h => k12.at_ i o (by
          have := mlt h
          simp
          omega) (kM11.at_ i o hi h)⟩
        refine ⟨_, ?_, puL z ms S.reverse, h, y1, lv1, ⟨_, _, rfl⟩, rfl, P1, FL.push W0 s3 p1' fun l h => p2 l (List.mem_reverse.mp h), I.push s2, nh, kM12, k12.at_ _ _ (by simp; omega) hg11, g12, k12.at_ _ _ (by simp; omega) hf11, k12.at_ _ _ (by simp; omega) hh11⟩
        rw [eh]
        omega
      · refine x_set (heights ⟨_, _, _, rfl⟩ kM11 hg11 hx11 hf11 FL.len (I.pot hqt) fun M12 y2 h2 k12 gh12 nh12 I12 V12 => ?_)
        refine ⟨_, ?_, ms, h2, y2, fun _ => 0, ⟨_, _, rfl⟩, rfl, pui_start, FL, I12, nh12, kM11.trans k12, k12.at_ _ _ (by simp) hg11, k12.at_ _ _ (by simp) hx11, k12.at_ _ _ (by simp) hf11, gh12⟩
        have mu := muL_le (A := A) (ok := okH T G h2) (as := G) (gl := n + 1) (N := n + 2) (lv := fun _ => 0) (ms := ms)
        have lt : cntV T V (h2 (n + 1)) + 1 ≤ cntV T V (some a) := by
          cases e2 : h2 (n + 1) with
          | none => exact cpos
          | some a2 =>
            obtain ⟨P2, w1, w2, w3⟩ := V12 a2 e2
            have := I.rise R hgl eh w1
            rw [← w2] at this
            exact cntV_lt this w3
        have mm := Nat.mul_le_mul_right D lt
        rw [Nat.add_mul, Nat.one_mul] at mm
        omega
  rintro ρ M9 ⟨ms, h, y1, o15, o16, rfl, FL, I, eh, k9, hx9⟩
  obtain ⟨f1, f2, f3⟩ := fin ms h FL I eh
  obtain ⟨π, hp⟩ := I.pot hqt
  have lx9 := mlt hx9
  walk_at "sx"
  refine x_set (x_sl (x_var rfl (x_noP (x_part (x_cb (x_cons (x_var rfl (x_nil (o_lenL (k9.at_ _ _ (by simp) ga) ?_)))))))))
  rw [List.length_map]
  refine o_slL hx9 ?_
  rw [cutG_to (by rw [List.length_map, FL.len, hGl]; omega), ← List.map_take]
  have k10 : Kp [] M (M9 ++ [O.lst ((ms.take arcs.length).map pD)]) := k9.trans .app
  have gx10 : (M9 ++ [O.lst ((ms.take arcs.length).map pD)])[M9.length]? = some (.lst ((ms.take arcs.length).map pD)) := mnew
  have lx10 : M.length ≤ M9.length := k9.len
  generalize M9.length = x2 at *
  generalize M9 ++ [O.lst ((ms.take arcs.length).map pD)] = M10 at *
  dsimp only
  walk_at "sx"
  refine x_set (x_lc (x_iseqV rfl (k10.at_ _ _ (by simp) gn) ?_))
  refine lc_ix (fun j acc M' => acc = (List.range j).map (fun _ => pD (0, 0)) ∧ Kp [] M10 M') (fun _ _ _ h => h.2.at_ _ _ (by simp) (k10.at_ _ _ (by simp) gn)) ?_ ?_ (by rw [List.length_map]; omega) mnew ⟨rfl, .app⟩
  · rintro j d acc M' K' hd hM ⟨rfl, k'⟩ hK
    refine x_cb (x_cons (x_c (x_cons (x_c (x_nil (o_tup (Nat.le_of_ble_eq_true rfl) ?_))))))
    refine hK _ _ hM ⟨by rw [List.range_succ, List.map_append]; rfl, ?_⟩
    exact k'.setNew (Nat.le_refl _)
  rintro acc M11 hM11 ⟨rfl, k11⟩
  rw [List.length_map, hn, ← flat_D] at hM11
  have gx11 := k11.at_ _ _ (by simp) gx10
  have kM11 := k10.trans k11
  dsimp only
  walk_at "sx"
  have pot2 : ∃ π, PotL (sg t ta) (prL arcs) (Lnk (sg s sa) arcs (ms.take arcs.length)) π := ⟨π, fun l hl => by
    rw [← hA0] at hl
    obtain ⟨q1, q2⟩ := lnk_app (bs := endsF A n 0 lacks) hl
    rw [← hG] at q1 q2
    have := hp l q1
    rw [q2, hT0] at this
    exact this⟩
  refine x_set (l_heights (N := n) (h0 := flatN n) hs ht (by omega) (by omega) hA f1 rfl rfl rfl rfl rfl rfl rfl hM11 (kM11.at_ _ _ (by simp) ga) gx11 pot2 fun M12 y2 h2 k12 l12 g12 st fa ac => ?_)
  dsimp only
  refine x_ret (x_cb (x_cons (x_var rfl (x_cons (x_var rfl (x_nil (o_tup (Nat.le_of_ble_eq_true rfl) ?_)))))))
  have lx11 := mlt gx11
  have lM11 := kM11.len
  refine k M12 x2 y2 (ms.take arcs.length) h2 (kM11.trans k12) lx10 (by omega) (by omega) (k12.at_ _ _ (by simp) gx11) g12 ⟨f1, f2, f3, fun v hv => ?_, fun l hl a b e1 e2 => ?_⟩
  · obtain ⟨b, e, _⟩ := fa v (0, 0) (if_pos hv)
    exact ⟨b, e⟩
  · rw [hA0] at hl
    have ll := mem_leftL.mpr hl
    have n0 : 0 < n := by
      have := (leftL_nodes hA l ll).1
      omega
    obtain ⟨b', e3, h3⟩ := st n0 l ll a e1
    rw [e2] at e3
    cases e3
    rw [hT0]
    exact h3
end
end Prf

namespace Prf
section
variable {M : Mem} {Q : DK} {X : XM}
theorem l_Lleft {pn pa pl n : Nat} {needs loads : List Mo} {arcs : List Arc} (hn : needs.length = n) (hl : loads.length = arcs.length) (hal : arcs.length ≤ 100000) (hA : ∀ a ∈ arcs, a.tl < n ∧ a.hd < n) (gn : M[pn]? = some (.lst (needs.map pD))) (ga : M[pa]? = some (.lst (arcs.map arcD))) (gl : M[pl]? = some (.lst (loads.map pD)))
    (k : ∀ M' y left, Kp [] M M' → M.length ≤ y → M'[y]? = some (.lst (left.map pD)) → left.length = n → (∀ φ : Nat → Int, dotM φ 0 left = mtake (dotM φ 0 needs) (exW φ arcs loads)) → Q (.ref y) M') : w_Lleft [.ref pn, .ref pa, .ref pl] M Q X := by
  unfold w_Lleft wOf
  rw [show startE N_Lleft [.ref pn, .ref pa, .ref pl] = [some (.ref pn), some (.ref pa), some (.ref pl), none, none, none, none, none, none, none] from rfl]
  unfold m_Lleft
  walk_at "sx"
  refine x_set (x_cb (x_cons (x_var rfl (x_nil (o_listL gn ?_)))))
  have k1 : Kp [] M (M ++ [O.lst (needs.map pD)]) := .app
  have g1 : (M ++ [O.lst (needs.map pD)])[M.length]? = some (.lst (needs.map pD)) := mnew
  have ly : M.length ≤ M.length := Nat.le_refl _
  generalize hy : M.length = y at *
  generalize M ++ [O.lst (needs.map pD)] = M1 at *
  dsimp only
  walk_at "sx"
  refine x_for (x_rng (x_cons (x_cb (x_cons (x_var rfl (x_nil (o_lenL (k1.at_ _ _ (by simp) ga) (x_nil ?_))))))))
  rw [List.length_map]
  refine ⟨by omega, ?_⟩
  rw [show ((arcs.length : Nat) : Int).toNat = arcs.length by omega]
  refine for_ix (fun i ρ M' => ∃ left : List Mo, left.length = n ∧ (∀ φ : Nat → Int, dotM φ 0 left = mtake (dotM φ 0 needs) (exW φ (arcs.take i) (loads.take i))) ∧ Kp [] M M' ∧ M'[y]? = some (.lst (left.map pD)) ∧ ∃ o4 o5 o6 o7 o8 o9, ρ = [some (.ref pn), some (.ref pa), some (.ref pl), some (.ref y), o4, o5, o6, o7, o8, o9]) (fun _ _ _ _ => trivial) ?_ ?_ ⟨needs, hn, fun φ => (mtake_z (a := dotM φ 0 needs)).symm, k1, g1, _, _, _, _, _, _, rfl⟩
  · rintro ρ M' ⟨left, h1, h2, k', g', o4, o5, o6, o7, o8, o9, rfl⟩
    rw [rng_len, List.take_length, ← hl, List.take_length] at h2
    dsimp only
    refine x_ret (x_var rfl ?_)
    exact k M' y left k' ly g' h1 h2
  · rintro i d ρ M' K' hd ⟨left, h1, h2, k', g', o4, o5, o6, o7, o8, o9, rfl⟩ hK'
    obtain ⟨rfl, hi⟩ := rng_at hd
    obtain ⟨a, ha⟩ : ∃ a, arcs[i]? = some a := ⟨_, List.getElem?_eq_getElem hi⟩
    obtain ⟨m, hm⟩ : ∃ m, loads[i]? = some m := ⟨_, List.getElem?_eq_getElem (by omega)⟩
    obtain ⟨t1, t2⟩ := hA a (List.mem_of_getElem? ha)
    refine x_nm ?_
    walk_at "sx"
    refine x_asg (x_op (x_var rfl (x_var rfl (o_ixL (k'.at_ _ _ (by simp) ga) (arc_at ha) ?_))))
    refine x_tp rfl (x_tc (x_nm (x_tc (x_nm (x_tc (x_nm (x_tc (x_nm (x_tn ?_)))))))))
    dsimp only
    walk_at "sx"
    refine x_set (x_op (x_var rfl (x_var rfl (o_ixL (k'.at_ _ _ (by simp) gl) (ms_at hm) ?_))))
    obtain ⟨u, hu⟩ : ∃ u, left[a.hd]? = some u := ⟨_, List.getElem?_eq_getElem (by omega)⟩
    dsimp only
    walk_at "sx"
    refine x_setIx (x_cb (x_cons (x_op (x_op (x_op (x_var rfl (x_var rfl (o_ixL g' (ms_at hu) (x_c (o_pD0 (x_op (x_var rfl (x_c (o_pD0 (o_sub (x_cons (x_op (x_op (x_op (x_var rfl (x_var rfl (o_ixL g' (ms_at hu) (x_c (o_pD1 (x_op (x_var rfl (x_c (o_pD1 (o_sub (x_nil (o_tup (Nat.le_of_ble_eq_true rfl) (x_var rfl (x_var rfl (o_setL g' (ixN_n (by rw [List.length_map]; omega)) ?_))))))))))))))))))))))))))))))))))
    have e1 : (left.map pD).set a.hd (D.tup [.int (u.1 - m.1), .int (u.2 - m.2)]) = (left.set a.hd (mtake u m)).map pD := by rw [List.map_set]; rfl
    rw [e1]
    have l1 : (left.set a.hd (mtake u m)).length = n := by rw [List.length_set]; exact h1
    have b1 : ∀ φ : Nat → Int, dotM φ 0 (left.set a.hd (mtake u m)) = madd (dotM φ 0 left) (msc (φ a.hd) (mneg m)) := fun φ => by
      rw [← mneg_add, dotM_set hu, Nat.zero_add]
    generalize left.set a.hd (mtake u m) = left1 at *
    have g2 := msame (o' := O.lst (left1.map pD)) g'
    have k2 : Kp [] M (M'.set y (.lst (left1.map pD))) := k'.setNew (by omega)
    generalize M'.set y (.lst (left1.map pD)) = M2 at *
    obtain ⟨w, hw⟩ : ∃ w, left1[a.tl]? = some w := ⟨_, List.getElem?_eq_getElem (by omega)⟩
    dsimp only
    refine x_setIx (x_cb (x_cons (x_op (x_op (x_op (x_var rfl (x_var rfl (o_ixL g2 (ms_at hw) (x_c (o_pD0 (x_op (x_var rfl (x_c (o_pD0 (o_add (x_cons (x_op (x_op (x_op (x_var rfl (x_var rfl (o_ixL g2 (ms_at hw) (x_c (o_pD1 (x_op (x_var rfl (x_c (o_pD1 (o_add (x_nil (o_tup (Nat.le_of_ble_eq_true rfl) (x_var rfl (x_var rfl (o_setL g2 (ixN_n (by rw [List.length_map]; omega)) ?_))))))))))))))))))))))))))))))))))
    have e2 : (left1.map pD).set a.tl (D.tup [.int (w.1 + m.1), .int (w.2 + m.2)]) = (left1.set a.tl (madd w m)).map pD := by rw [List.map_set]; rfl
    rw [e2]
    refine hK' _ _ ⟨left1.set a.tl (madd w m), by rw [List.length_set]; exact l1, fun φ => ?_, k2.setNew (by omega), msame g2, _, _, _, _, _, _, rfl⟩
    have t1' : arcs.take (i + 1) = arcs.take i ++ [a] := by rw [List.take_succ, ha]; rfl
    have t2' : loads.take (i + 1) = loads.take i ++ [m] := by rw [List.take_succ, hm]; rfl
    rw [dotM_set hw, b1, h2, Nat.zero_add, t1', t2', exW_app (by rw [List.length_take, List.length_take]; omega)]
    show madd (madd (mtake (dotM φ 0 needs) (exW φ (arcs.take i) (loads.take i))) (msc (φ a.hd) (mneg m))) (msc (φ a.tl) m) = mtake (dotM φ 0 needs) (madd (exW φ (arcs.take i) (loads.take i)) (madd (msc (φ a.hd - φ a.tl) m) (0, 0)))
    unfold mtake madd msc mneg
    exact Prod.ext (by dsimp only; grind) (by dsimp only; grind)
end
theorem dotM_off {n : Nat} : ∀ {xs : List Mo} {k : Nat}, n < k → dotM (ind fun v => v == n) k xs = (0, 0)
  | [], _, _ => rfl
  | x :: xs, k, h => by
    show madd (msc (ind (fun v => v == n) k) x) (dotM (ind fun v => v == n) (k + 1) xs) = _
    rw [dotM_off (by omega)]
    have : ind (fun v => v == n) k = 0 := by unfold ind; rw [if_neg (by simp; omega)]
    rw [this, msc_zero]; rfl
theorem dotM_one : ∀ {xs : List Mo} {k j : Nat} {x : Mo}, xs[j]? = some x → dotM (ind fun v => v == k + j) k xs = x
  | x :: xs, k, 0, _, h => by
    simp only [List.getElem?_cons_zero, Option.some.injEq] at h
    subst h
    show madd (msc (ind (fun v => v == k + 0) k) x) (dotM (ind fun v => v == k + 0) (k + 1) xs) = _
    rw [dotM_off (by omega)]
    have : ind (fun v => v == k + 0) k = 1 := by unfold ind; rw [if_pos (by simp)]
    rw [this, msc_one, madd_zero]
  | x :: xs, k, j + 1, y, h => by
    simp only [List.getElem?_cons_succ] at h
    show madd (msc (ind (fun v => v == k + (j + 1)) k) x) (dotM (ind fun v => v == k + (j + 1)) (k + 1) xs) = _
    have e : ind (fun v => v == k + (j + 1)) k = 0 := by unfold ind; rw [if_neg (by simp)]
    have i := dotM_one (xs := xs) (k := k + 1) (j := j) h
    rw [show k + 1 + j = k + (j + 1) by omega] at i
    rw [e, msc_zero, i, zero_madd]
end Prf

namespace Prf
theorem RmG.lex {b m : Int × Int} {s : Rat} {ah : Bool} (h : RmG b m) (k : StG b s) (hs : ah = true → s.num < b.2 * (s.den : Int)) : wle (0, 0) (rk (sg s ah) m) := by
  have h0 := h.ge (ah := ah) k
  have e : rk (sg s ah) m = (m.1 * (s.den : Int) + m.2 * s.num, if ah then m.2 else 0) := rfl
  have h0' : 0 ≤ m.1 * (s.den : Int) + m.2 * s.num := h0
  rw [e]
  by_cases q : 0 < m.1 * (s.den : Int) + m.2 * s.num
  · exact .inl q
  · refine .inr ⟨by omega, ?_⟩
    cases ah with
    | false => exact Int.le_refl _
    | true =>
      rw [if_pos rfl]
      have lt := hs rfl
      have h1 := Int.mul_nonneg h.h (show (0 : Int) ≤ (s.den : Int) by omega)
      have h2 : (m.1 + m.2 * b.2) * (s.den : Int) = m.1 * s.den + m.2 * (b.2 * s.den) := by grind
      have h3 : m.2 * (b.2 * s.den) - m.2 * s.num = m.2 * (b.2 * s.den - s.num) := by grind
      have h4 : 0 ≤ m.2 * (b.2 * (s.den : Int) - s.num) := by omega
      show (0 : Int) ≤ m.2
      by_cases z : 0 ≤ m.2
      · exact z
      · have h5 : m.2 * (b.2 * (s.den : Int) - s.num) < 0 := Int.mul_neg_of_neg_of_pos (by omega) (by omega)
        omega
theorem neG_pD {x m : Int × Int} {M : Mem} {Q : DK} (q : Q (.bl (!decide (x = m))) M) : oNe (pD x) (pD m) M Q := by
  have e : deq (pD x) (pD m) = decide (x = m) := by
    obtain ⟨a, b⟩ := x
    obtain ⟨c, d⟩ := m
    by_cases h1 : a = c <;> by_cases h2 : b = d <;> simp [pD, deq, deqL, h1, h2]
  exact ⟨_, _, see_fine fineG_pD, see_fine fineG_pD, by rw [eqv_deq 20 fineG_pD fineG_pD, e]; exact q⟩
theorem plG_facts {b b2 : Int × Int} {n : Nat} {arcs : List Arc} {base needs : List Mo} {s t : Rat} {sa ta : Bool} (P : PlG b b2 n arcs base needs) (hs : StG b s) (ht : StG b2 t) (h1 : sa = true → s.num < b.2 * (s.den : Int)) (h2 : ta = true → t.num < b2.2 * (t.den : Int)) :
    (∀ a ∈ arcs, ∀ r, a.room = some r → wle (0, 0) (rk (sg s sa) r)) ∧ (∃ π, PotL (sg t ta) (prL arcs) (fun l => l ∈ openL arcs) π) ∧ BdL (sg s sa) arcs base := by
  refine ⟨fun a h r hr => (P.rm a h r hr).lex hs h1, ⟨fun _ => (0, 0), fun l hl => ?_⟩, fun k a m g1 g2 => ?_⟩
  · obtain ⟨a, g1, g2, g3, g4, g5⟩ := mem_openL.mp hl
    have := ((P.pr a (List.mem_of_getElem? g1)).2.2 g2).lex ht h2
    rw [prL_fw g1 g5, zero_madd, rk_zero]
    exact this
  · obtain ⟨q1, q2⟩ := P.ld k a m g1 g2
    exact ⟨q1.lex hs h1, fun r hr => wle_take.mpr ((q2 r hr).lex hs h1)⟩
end Prf

namespace Prf
def costI (A T : Sg) : List Arc → List Mo → Int
  | a :: as, m :: ms => MV.rI A m * MV.rI T a.price + costI A T as ms
  | _, _ => 0
def costQ (s t : Rat) : List Arc → List Mo → Rat
  | a :: as, m :: ms => worthG m s * worthG a.price t + costQ s t as ms
  | _, _ => 0
theorem cost_QI {s t : Rat} {sa ta : Bool} : ∀ {as : List Arc} {ms : List Mo}, costQ s t as ms = ((costI (sg s sa) (sg t ta) as ms : Int) : Rat) / (((s.den : Int) : Rat) * ((t.den : Int) : Rat))
  | [], ms => by
    have : costI (sg s sa) (sg t ta) [] ms = 0 := by cases ms <;> rfl
    rw [this]
    have : costQ s t [] ms = 0 := by cases ms <;> rfl
    rw [this, Rat.intCast_zero, Rat.div_def, Rat.zero_mul]
  | _ :: _, [] => by
    show (0 : Rat) = ((0 : Int) : Rat) / _
    rw [Rat.intCast_zero, Rat.div_def, Rat.zero_mul]
  | a :: as, m :: ms => by
    have i := cost_QI (s := s) (t := t) (sa := sa) (ta := ta) (as := as) (ms := ms)
    show worthG m s * worthG a.price t + costQ s t as ms = ((MV.rI (sg s sa) m * MV.rI (sg t ta) a.price + costI (sg s sa) (sg t ta) as ms : Int) : Rat) / _
    have hs : ((s.den : Int) : Rat) ≠ 0 := by have := s.den_pos; exact_mod_cast (show (s.den : Int) ≠ 0 by omega)
    have ht : ((t.den : Int) : Rat) ≠ 0 := by have := t.den_pos; exact_mod_cast (show (t.den : Int) ≠ 0 by omega)
    rw [i, worthG_rI (ah := sa), worthG_rI (t := t) (ah := ta), Rat.intCast_add, Rat.intCast_mul]
    grind
theorem cost_lt {s t : Rat} {sa ta : Bool} {as bs : List Arc} {ms ns : List Mo} : costQ s t as ms < costQ s t bs ns ↔ costI (sg s sa) (sg t ta) as ms < costI (sg s sa) (sg t ta) bs ns := by
  rw [cost_QI (sa := sa) (ta := ta), cost_QI (sa := sa) (ta := ta)]
  have hs : (0 : Rat) < ((s.den : Int) : Rat) := by exact_mod_cast s.den_pos
  have ht : (0 : Rat) < ((t.den : Int) : Rat) := by exact_mod_cast t.den_pos
  have hd := Rat.mul_pos hs ht
  rw [Rat.div_lt_iff hd, Rat.div_mul_cancel (by grind)]
  exact_mod_cast Iff.rfl
theorem cost_red {A T : Sg} {φ : Nat → Int} : ∀ {as : List Arc} {ms ns : List Mo}, ms.length = as.length → ns.length = as.length → (∀ (k : Nat) (a : Arc) (m y : Mo), as[k]? = some a → ms[k]? = some m → ns[k]? = some y → MV.rI A m * (MV.rI T a.price + φ a.tl - φ a.hd) ≤ MV.rI A y * (MV.rI T a.price + φ a.tl - φ a.hd)) → costI A T as ms - MV.rI A (exW φ as ms) ≤ costI A T as ns - MV.rI A (exW φ as ns)
  | [], ms, ns, h1, h2, _ => by
    obtain rfl : ms = [] := List.eq_nil_of_length_eq_zero h1
    obtain rfl : ns = [] := List.eq_nil_of_length_eq_zero h2
    exact Int.le_refl _
  | a :: as, [], _, h1, _, _ => by simp at h1
  | a :: as, _ :: _, [], _, h2, _ => by simp at h2
  | a :: as, m :: ms, y :: ns, h1, h2, g => by
    have ih := cost_red (A := A) (T := T) (φ := φ) (as := as) (ms := ms) (ns := ns) (by simpa using h1) (by simpa using h2) fun k b p q e1 e2 e3 => g (k + 1) b p q (by simpa using e1) (by simpa using e2) (by simpa using e3)
    have g0 := g 0 a m y rfl rfl rfl
    show (MV.rI A m * MV.rI T a.price + costI A T as ms) - MV.rI A (madd (msc (φ a.hd - φ a.tl) m) (exW φ as ms)) ≤ (MV.rI A y * MV.rI T a.price + costI A T as ns) - MV.rI A (madd (msc (φ a.hd - φ a.tl) y) (exW φ as ns))
    rw [rI_add, rI_add, rI_msc, rI_msc]
    have e : ∀ x : Int, x * (MV.rI T a.price + φ a.tl - φ a.hd) = x * MV.rI T a.price - (φ a.hd - φ a.tl) * x := fun x => by grind
    rw [e, e] at g0
    omega
theorem best_least {s t : Rat} {n : Nat} {arcs : List Arc} {needs ms base : List Mo} {h : HS} (hA : ∀ a ∈ arcs, a.tl < n ∧ a.hd < n) (B : BestOk (sg s false) (sg t false) n arcs needs ms h) (hb : base.length = arcs.length) (Bb : BdL (sg s false) arcs base) (hbal : ∀ φ : Nat → Int, dotM φ 0 needs = exW φ arcs base) : costI (sg s false) (sg t false) arcs ms ≤ costI (sg s false) (sg t false) arcs base := by
  obtain ⟨φ, hφ⟩ : ∃ φ : Nat → Int, ∀ v, φ v = if v < n then MV.rI (sg t false) ((h v).getD (0, 0)) else 0 := ⟨_, fun _ => rfl⟩
  have r := cost_red (A := sg s false) (T := sg t false) (φ := φ) B.len hb fun k a m y e1 e2 e3 => ?_
  · have mt := B.met φ (by rw [hφ, if_neg (by omega)]) (by rw [hφ, if_neg (by omega)])
    rw [hbal] at mt
    have := congrArg Prod.fst mt
    have m1 : MV.rI (sg s false) (exW φ arcs ms) = MV.rI (sg s false) (exW φ arcs base) := this
    omega
  · obtain ⟨t1, t2⟩ := hA a (List.mem_of_getElem? e1)
    obtain ⟨lo, l1⟩ := B.known _ t1
    obtain ⟨hi, l2⟩ := B.known _ t2
    obtain ⟨b1, b2⟩ := B.bd k a m e1 e2
    obtain ⟨c1, c2⟩ := Bb k a y e1 e3
    rw [wle0_rI rfl] at b1 c1
    rw [hφ, hφ, if_pos t1, if_pos t2, l1, l2]
    dsimp only [Option.getD]
    have up : fwdB (sg s false) a m = true → 0 ≤ MV.rI (sg t false) a.price + MV.rI (sg t false) lo - MV.rI (sg t false) hi := fun f => by
      have := B.kept ⟨a.tl, a.hd, k, true⟩ ⟨a, m, e1, e2, .inl ⟨rfl, rfl, rfl, f⟩⟩ lo hi l1 l2
      rw [prL_fw (l := ⟨a.tl, a.hd, k, true⟩) e1 rfl, wle_rI rfl, rI_add] at this
      omega
    have dn : bwdB (sg s false) m = true → MV.rI (sg t false) a.price + MV.rI (sg t false) lo - MV.rI (sg t false) hi ≤ 0 := fun f => by
      have := B.kept ⟨a.hd, a.tl, k, false⟩ ⟨a, m, e1, e2, .inr ⟨rfl, rfl, rfl, f⟩⟩ hi lo l2 l1
      rw [prL_bw (l := ⟨a.hd, a.tl, k, false⟩) e1 rfl, wle_rI rfl, rI_add, rI_neg] at this
      omega
    generalize MV.rI (sg t false) a.price + MV.rI (sg t false) lo - MV.rI (sg t false) hi = c at *
    by_cases q : 0 < c
    · have z : ¬ bwdB (sg s false) m = true := fun f => by have := dn f; omega
      unfold bwdB at z
      rw [decide_eq_true_iff, wlt0_rI rfl] at z
      have z' : MV.rI (sg s false) m = 0 := by omega
      rw [z', Int.zero_mul]
      exact Int.mul_nonneg c1 (by omega)
    · by_cases q2 : c < 0
      · have z : ¬ fwdB (sg s false) a m = true := fun f => by have := up f; omega
        unfold fwdB at z
        cases er : a.room with
        | none => rw [er] at z; exact (z rfl).elim
        | some r =>
          rw [er] at z
          dsimp only at z
          rw [decide_eq_true_iff, wlt0_rI rfl, rI_take] at z
          have g1 := b2 r er
          have g2 := c2 r er
          rw [wle_rI rfl] at g1 g2
          have : MV.rI (sg s false) y ≤ MV.rI (sg s false) m := by omega
          exact Int.mul_le_mul_of_nonpos_right this (by omega)
      · obtain rfl : c = 0 := by omega
        rw [Int.mul_zero, Int.mul_zero]; exact Int.le_refl _
def sumM : List Mo → List Mo → List Mo
  | m :: ms, y :: ys => madd m y :: sumM ms ys
  | _, _ => []
theorem cost_sum {A T : Sg} : ∀ {as : List Arc} {ms ys : List Mo}, ms.length = as.length → ys.length = as.length → costI A T as (sumM ms ys) = costI A T as ms + costI A T as ys
  | [], ms, ys, h1, h2 => by
    obtain rfl : ms = [] := List.eq_nil_of_length_eq_zero h1
    obtain rfl : ys = [] := List.eq_nil_of_length_eq_zero h2
    rfl
  | a :: as, [], _, h1, _ => by simp at h1
  | a :: as, _ :: _, [], _, h2 => by simp at h2
  | a :: as, m :: ms, y :: ys, h1, h2 => by
    have ih := cost_sum (A := A) (T := T) (as := as) (ms := ms) (ys := ys) (by simpa using h1) (by simpa using h2)
    show MV.rI A (madd m y) * MV.rI T a.price + costI A T as (sumM ms ys) = (MV.rI A m * MV.rI T a.price + costI A T as ms) + (MV.rI A y * MV.rI T a.price + costI A T as ys)
    rw [ih, rI_add, Int.add_mul]
    omega
section
variable {M : Mem} {Q : DK} {X : XM}
theorem latS {a : Rat} {m : Mo} (hs : Se2 a) (h : Q (qD (worthG m a)) M) : w_Lat [pD m, qD a] M Q X := by
  have h1 := hs.1
  have h2 := hs.2
  unfold w_Lat wOf
  rw [show startE N_Lat [pD m, qD a] = [some (pD m), some (qD a)] from rfl]
  unfold m_Lat
  have pa := a.den_pos
  walk_at "ml"
  refine o_q1 ?_
  refine o_mul (mul_ok (by omega)) ?_
  walk_at "ml"
  refine o_q0 ?_
  refine o_mul (mul_ok (by omega)) ?_
  walk_at "ml"
  refine o_q1 ?_
  walk_at "ml"
  refine lfrac (by omega) (by omega) ?_
  rw [q_val]
  exact h
theorem costQ_snoc {s t : Rat} : ∀ {as : List Arc} {ms : List Mo} {a : Arc} {m : Mo}, ms.length = as.length → costQ s t (as ++ [a]) (ms ++ [m]) = costQ s t as ms + worthG m s * worthG a.price t
  | [], ms, a, m, h => by
    obtain rfl : ms = [] := List.eq_nil_of_length_eq_zero h
    show worthG m s * worthG a.price t + 0 = 0 + worthG m s * worthG a.price t
    grind
  | b :: as, [], _, _, h => by simp at h
  | b :: as, x :: ms, a, m, h => by
    show worthG x s * worthG b.price t + costQ s t (as ++ [a]) (ms ++ [m]) = worthG x s * worthG b.price t + costQ s t as ms + _
    rw [costQ_snoc (by simpa using h)]
    grind
theorem DD_cost {s t : Rat} : ∀ {as : List Arc} {ms : List Mo}, DD (s.den * t.den) (costQ s t as ms)
  | [], ms => by
    have : costQ s t [] ms = 0 := by cases ms <;> rfl
    rw [this]; exact DD.z
  | _ :: _, [] => DD.z
  | a :: as, m :: ms => DD.add (Nat.mul_pos s.den_pos t.den_pos) (DD.mul s.den_pos t.den_pos DD_worthG DD_worthG) DD_cost
theorem l_Lprice {pa pl : Nat} {arcs : List Arc} {ms : List Mo} {s t : Rat} (hs : Se2 s) (hds : s.den ≤ 5) (hdt : t.den ≤ 5) (htn : t.num.natAbs ≤ 1000000000) (hal : arcs.length ≤ 100000) (hl : ms.length = arcs.length) (hp : ∀ a ∈ arcs, a.price.1.natAbs ≤ 1000 ∧ a.price.2.natAbs ≤ 10) (ga : M[pa]? = some (.lst (arcs.map arcD))) (gl : M[pl]? = some (.lst (ms.map pD)))
    (k : Q (qD (costQ s t arcs ms)) M) : w_Lprice [.ref pa, .ref pl, qD s, qD t] M Q X := by
  have ht : Se2 t := ⟨by omega, by omega⟩
  unfold w_Lprice wOf
  rw [show startE N_Lprice [.ref pa, .ref pl, qD s, qD t] = [some (.ref pa), some (.ref pl), some (qD s), some (qD t), none, none] from rfl]
  unfold m_Lprice
  have dw : ∀ {q : Rat} {m : Mo}, q.den ≤ 5 → (worthG m q).den < 2 ^ 32 := fun {q m} h => by
    have := DD.le q.den_pos (DD_worthG (t := q) (m := m)); omega
  have d25 : s.den * t.den ≤ 5 * 5 := Nat.mul_le_mul hds hdt
  have dc : ∀ {as : List Arc} {ns : List Mo}, (costQ s t as ns).den < 2 ^ 32 := fun {as ns} => by
    have := DD.le (Nat.mul_pos s.den_pos t.den_pos) (DD_cost (s := s) (t := t) (as := as) (ms := ns)); omega
  walk_at "sx"
  refine x_set (x_cb (x_cons (x_c (x_cons (x_c (x_nil (o_tup (Nat.le_of_ble_eq_true rfl) ?_)))))))
  rw [show D.tup [.int 0, .int 1] = qD (costQ s t (arcs.take 0) (ms.take 0)) from rfl]
  dsimp only
  walk_at "sx"
  refine x_for (x_rng (x_cons (x_cb (x_cons (x_var rfl (x_nil (o_lenL ga (x_nil ?_))))))))
  rw [List.length_map]
  refine ⟨by omega, ?_⟩
  rw [show ((arcs.length : Nat) : Int).toNat = arcs.length by omega]
  refine for_ix (fun i ρ M' => M = M' ∧ ∃ o5, ρ = [some (.ref pa), some (.ref pl), some (qD s), some (qD t), some (qD (costQ s t (arcs.take i) (ms.take i))), o5]) (fun _ _ _ _ => trivial) ?_ ?_ ⟨rfl, _, rfl⟩
  · rintro ρ M' ⟨rfl, o5, rfl⟩
    rw [rng_len, List.take_length, ← hl, List.take_length]
    dsimp only
    refine x_ret (x_var rfl ?_)
    exact k
  · rintro i d ρ M' K' hd ⟨rfl, o5, rfl⟩ hK'
    obtain ⟨rfl, hi⟩ := rng_at hd
    obtain ⟨a, ha⟩ : ∃ a, arcs[i]? = some a := ⟨_, List.getElem?_eq_getElem hi⟩
    obtain ⟨m, hm⟩ : ∃ m, ms[i]? = some m := ⟨_, List.getElem?_eq_getElem (by omega)⟩
    obtain ⟨p1, p2⟩ := hp a (List.mem_of_getElem? ha)
    refine x_nm ?_
    refine x_set (x_call (x_argsP (x_cons (x_var rfl (x_cons (x_call (x_argsP (x_cons (x_call (x_argsP (x_cons (x_op (x_var rfl (x_var rfl (o_ixL gl (ms_at hm) (x_cons (x_var rfl (x_nil (x_len rfl rfl ?_)))))))))))))))))))
    refine latS hs ?_
    refine x_cons (x_call (x_argsP (x_cons (x_op (x_op (x_var rfl (x_var rfl (o_ixL ga (arc_at ha) (x_c (o_ixT (v := pD a.price) rfl (x_cons (x_var rfl (x_nil (x_len rfl rfl ?_))))))))))))))
    refine latS ht ?_
    refine x_nil (x_len rfl rfl ?_)
    have pn : (worthG a.price t).num.natAbs < 2 ^ 64 := by
      have e : worthG a.price t = ((a.price.1 * (t.den : Int) + a.price.2 * t.num : Int) : Rat) / ((t.den : Int) : Rat) := (q_val _ _ _).symm
      have b := (num_leG (x := a.price.1 * (t.den : Int) + a.price.2 * t.num) (y := (t.den : Int)) (by have := t.den_pos; omega)).1
      rw [← e] at b
      have c1 : (a.price.1 * (t.den : Int)).natAbs ≤ 1000 * 5 := by rw [Int.natAbs_mul]; exact Nat.mul_le_mul p1 (by omega)
      have c2 : (a.price.2 * t.num).natAbs ≤ 10 * 1000000000 := by rw [Int.natAbs_mul]; exact Nat.mul_le_mul p2 htn
      omega
    refine ltimes (dw hds) (dw hdt) pn ?_
    refine x_nil (x_len rfl rfl ?_)
    have dp : (worthG m s * worthG a.price t).den < 2 ^ 32 := by
      have := DD.le (Nat.mul_pos s.den_pos t.den_pos) (DD.mul s.den_pos t.den_pos (DD_worthG (t := s) (m := m)) (DD_worthG (t := t) (m := a.price))); omega
    refine lplus dc dp ?_
    have t1 : arcs.take (i + 1) = arcs.take i ++ [a] := by rw [List.take_succ, ha]; rfl
    have t2 : ms.take (i + 1) = ms.take i ++ [m] := by rw [List.take_succ, hm]; rfl
    refine hK' _ _ ⟨rfl, some (.int (i : Nat)), ?_⟩
    rw [t1, t2, costQ_snoc (by rw [List.length_take, List.length_take]; omega)]
    rfl
end
theorem PlG.add {b b2 : Int × Int} {n : Nat} {arcs : List Arc} {base needs : List Mo} (P : PlG b b2 n arcs base needs) {a : Arc} {r : Mo} (ht : a.tl < n) (hh : a.hd < n) (er : a.room = some r) (hr : RmG b r) (hp : a.price.1.natAbs ≤ 1000 ∧ a.price.2.natAbs ≤ 10) (h0 : RmG b (0, 0)) : PlG b b2 n (arcs ++ [a]) (base ++ [(0, 0)]) needs := by
  refine ⟨P.hn, by rw [List.length_append, List.length_append, P.hb]; rfl, fun c hc => ?_, fun c hc => ?_, fun c hc => ?_, fun k c w h1 h2 => ?_, fun φ => ?_, fun z hz => ?_⟩
  · rcases List.mem_append.mp hc with hc | hc
    · exact P.nd c hc
    · rw [List.mem_singleton.mp hc]; exact ⟨ht, hh⟩
  · rcases List.mem_append.mp hc with hc | hc
    · exact P.rm c hc
    · rw [List.mem_singleton.mp hc]; exact fun r' h => by rw [er] at h; cases h; exact hr
  · rcases List.mem_append.mp hc with hc | hc
    · exact P.pr c hc
    · rw [List.mem_singleton.mp hc]; exact ⟨hp.1, hp.2, fun h => by rw [er] at h; cases h⟩
  · by_cases q : k < arcs.length
    · rw [List.getElem?_append_left q] at h1
      rw [List.getElem?_append_left (by rw [P.hb]; exact q)] at h2
      exact P.ld k c w h1 h2
    · rw [List.getElem?_append_right (by omega)] at h1
      rw [List.getElem?_append_right (by rw [P.hb]; omega), P.hb] at h2
      have hk : k - arcs.length = 0 := by
        have := (List.getElem?_eq_some_iff.mp h1).1
        simp at this; omega
      rw [hk] at h1 h2
      cases h1
      cases h2
      exact ⟨h0, fun r' h => by rw [er] at h; cases h; rw [mtake_z]; exact hr⟩
  · rw [P.bal, exW_app P.hb]
    show _ = madd (exW φ arcs base) (madd (msc (φ a.hd - φ a.tl) (0, 0)) (0, 0))
    rw [msc_o, madd_zero, madd_zero]
  · have := P.sm z hz
    rw [List.length_append]
    simp only [List.length_cons, List.length_nil]
    omega
end Prf

namespace Prf
theorem rm0G {b : Int × Int} : RmG b (0, 0) := ⟨by decide, by decide, by simp, by simp⟩
theorem half_qG : D.tup [.int 1, .int 2] = qD ((1 : Rat) / 2) := by
  unfold qD
  rw [show ((1 : Rat) / 2).num = 1 from by decide +kernel, show ((1 : Rat) / 2).den = 2 from by decide +kernel]
  rfl
theorem sumM_len : ∀ {ms ys : List Mo}, ms.length = ys.length → (sumM ms ys).length = ms.length
  | [], [], _ => rfl
  | [], _ :: _, h => by simp at h
  | _ :: _, [], h => by simp at h
  | m :: ms, y :: ys, h => by
    show (sumM ms ys).length + 1 = ms.length + 1
    rw [sumM_len (by simpa using h)]
theorem sumM_at : ∀ {ms ys : List Mo} {i : Nat} {m y : Mo}, ms[i]? = some m → ys[i]? = some y → (sumM ms ys)[i]? = some (madd m y)
  | m :: ms, y :: ys, 0, _, _, h1, h2 => by
    cases h1; cases h2; rfl
  | m :: ms, y :: ys, i + 1, p, q, h1, h2 => by
    show (sumM ms ys)[i]? = _
    exact sumM_at (by simpa using h1) (by simpa using h2)
  | [], _, _, _, _, h1, _ => by simp at h1
  | _ :: _, [], _, _, _, _, h2 => by simp at h2
theorem law_holds : ∀ ns : List Int, ns.length ≤ 63 → w_law [.kl (ns.map .int)] (tabsM tlL) (fun d _ => d = .bl true) (fun _ _ => False) := by
  intro ns _
  unfold w_law wOf
  rw [show startE N_law [.kl (ns.map .int)] = [some (.kl (ns.map .int)), none, none, none, none, none, none, none, none, none, none, none, none, none, none, none, none, none, none] from rfl]
  unfold m_law
  obtain ⟨M0, hM0⟩ : ∃ M0, M0 = tabsM tlL := ⟨_, rfl⟩
  have gt0 : M0[0]? = some (.tab "push" tq_push) := by rw [hM0]; rfl
  have lt0 : M0.length = 1 := by rw [hM0]; rfl
  rw [← hM0]
  walk_at "sx"
  refine x_set (x_call (x_argsP (x_cons (x_var rfl (x_nil (x_len rfl rfl ?_))))))
  refine lfeed fun M1 k1 F1 => ?_
  rw [lt0] at F1 ⊢
  have gt1 := k1.at_ _ _ (by simp) gt0
  dsimp only
  walk_at "sx"
  refine x_set (x_cb (x_cons (x_un (x_c (o_neg (x_cons (x_c (x_nil (o_tup (Nat.le_of_ble_eq_true rfl) ?_)))))))))
  rw [show D.tup [.int (-1), .int 3] = pD (-1, 3) from rfl]
  dsimp only
  walk_at "sx"
  refine x_asg (x_call (x_argsP (x_cons (x_var rfl (x_cons (x_var rfl (x_cons (x_var rfl (x_nil (x_len rfl rfl ?_)))))))))) 
  refine l_some_plain F1 (by decide) (by decide) fun M2 n arcs base needs x y z k2 F2 n1 n2 hal P lx ly lz xy xz yz gx gy gz => ?_
  have gt2 := k2.at_ _ _ (by simp) gt1
  have lt1 := F1.lt
  have lt2 := F2.lt
  refine x_tp rfl (x_tc (x_nm (x_tc (x_nm (x_tc (x_nm (x_tn ?_)))))))
  dsimp only
  with_reducible refine x_join (fun ρ M' => ∃ (arcs : List Arc) (base : List Mo), arcs.length ≤ 12 ∧ PlG (-1, 3) (-1, 3) n arcs base needs ∧ M'[x]? = some (.lst (needs.map pD)) ∧ M'[y]? = some (.lst (arcs.map arcD)) ∧ M'[z]? = some (.lst (base.map pD)) ∧ Feed M' 3 2 ∧ M'[0]? = some (.tab "push" tq_push) ∧ ∃ o6 o7 o8 o9 o10, ρ = [some (.kl (ns.map .int)), some (.ref 3), some (pD (-1, 3)), some (.ref x), some (.ref y), some (.ref z), o6, o7, o8, o9, o10, none, none, none, none, none, none, none, none]) ?_ ?_
  · intro K hK
    obtain ⟨c, hc⟩ : ∃ c, c = arcs.length := ⟨_, rfl⟩
    refine x_for (x_rng (x_cons (x_cb (x_cons (x_var rfl (x_nil (o_lenL gy (x_nil ?_))))))))
    rw [List.length_map, ← hc]
    refine ⟨by omega, ?_⟩
    rw [show ((c : Nat) : Int).toNat = c by omega]
    refine for_ix (fun i ρ M' => ∃ (arcs : List Arc) (base : List Mo), arcs.length ≤ c + i ∧ c ≤ arcs.length ∧ PlG (-1, 3) (-1, 3) n arcs base needs ∧ M'[x]? = some (.lst (needs.map pD)) ∧ M'[y]? = some (.lst (arcs.map arcD)) ∧ M'[z]? = some (.lst (base.map pD)) ∧ Feed M' 3 2 ∧ M'[0]? = some (.tab "push" tq_push) ∧ ∃ o6 o7 o8 o9 o10, ρ = [some (.kl (ns.map .int)), some (.ref 3), some (pD (-1, 3)), some (.ref x), some (.ref y), some (.ref z), o6, o7, o8, o9, o10, none, none, none, none, none, none, none, none]) (fun _ _ _ _ => trivial) ?_ ?_ ⟨arcs, base, by omega, by omega, P, gx, gy, gz, F2, gt2, _, _, _, _, _, rfl⟩
    · rintro ρ M' ⟨arcs', base', h1, h2, h3⟩
      rw [rng_len] at h1
      exact hK _ _ ⟨arcs', base', by omega, h3⟩
    · rintro i d ρ M' K' hd ⟨arcs, base, h1, h2, P, gx, gy, gz, F, gt, o6, o7, o8, o9, o10, rfl⟩ hK'
      obtain ⟨rfl, hi⟩ := rng_at hd
      obtain ⟨a, ha⟩ : ∃ a, arcs[i]? = some a := ⟨_, List.getElem?_eq_getElem (by omega)⟩
      obtain ⟨t1, t2⟩ := P.nd a (List.mem_of_getElem? ha)
      refine x_nm ?_
      walk_at "sx"
      refine x_asg (x_op (x_var rfl (x_var rfl (o_ixL gy (arc_at ha) ?_))))
      refine x_tp rfl (x_tc (x_nm (x_tc (x_nm (x_tc (x_nm (x_tc (x_nm (x_tn ?_)))))))))
      dsimp only
      refine x_ifS (x_b (x_op (x_call (x_argsP (x_cons (x_var rfl (x_cons (x_c (x_nil (x_len rfl rfl ?_))))))))))
      refine ldraw F (by decide) (by decide) fun q M3 q0 q1 k3 F3 => x_c (o_eqI ?_)
      have gx3 := k3.at_ _ _ (by simp; omega) gx
      have gy3 := k3.at_ _ _ (by simp; omega) gy
      have gz3 := k3.at_ _ _ (by simp; omega) gz
      have gt3 := k3.at_ _ _ (by simp) gt
      refine if_d (fun _ => ?_) (fun _ => x_next (hK' _ _ ⟨arcs, base, by omega, h2, P, gx3, gy3, gz3, F3, gt3, _, _, _, _, _, rfl⟩))
      walk_at "sx"
      refine x_drop (x_bm (x_var rfl (x_isL gy3 (x_cons (x_cb (x_cons (x_var rfl (x_cons (x_var rfl ?_))))))))) 
      refine x_cons (x_call (x_argsP (x_cons (x_var rfl (x_cons (x_c (x_cons (x_var rfl (x_nil (x_len rfl rfl ?_))))))))))
      refine lroomG F3 (by decide) (by decide) (by decide) fun r M4 r1 r2 hr k4 F4 => ?_
      refine x_cons (x_call (x_argsP (x_cons (x_var rfl (x_cons (x_c (x_nil (x_len rfl rfl ?_))))))))
      refine lmove F4 (by decide) (by decide) fun u v M5 u0 u1 v0 v1 k5 F5 => ?_
      have k35 := k4.trans k5
      have gx5 := k35.at_ _ _ (by simp; omega) gx3
      have gy5 := k35.at_ _ _ (by simp; omega) gy3
      have gz5 := k35.at_ _ _ (by simp; omega) gz3
      have gt5 := k35.at_ _ _ (by simp) gt3
      refine x_nil (o_tup (Nat.le_of_ble_eq_true rfl) (x_nil (o_app gy5 (by rw [List.length_map]; omega) ?_)))
      rw [show D.tup [.int (a.tl : Nat), .int (a.hd : Nat), pD r, .tup [.int u, .int v]] = arcD ⟨a.tl, a.hd, some r, (u, v)⟩ from rfl]
      have gy6 := msame (o' := O.lst (arcs.map arcD ++ [arcD ⟨a.tl, a.hd, some r, (u, v)⟩])) gy5
      have gx6 : (M5.set y (O.lst (arcs.map arcD ++ [arcD ⟨a.tl, a.hd, some r, (u, v)⟩])))[x]? = some (.lst (needs.map pD)) := by rw [List.getElem?_set_ne (Ne.symm xy)]; exact gx5
      have gz6 : (M5.set y (O.lst (arcs.map arcD ++ [arcD ⟨a.tl, a.hd, some r, (u, v)⟩])))[z]? = some (.lst (base.map pD)) := by rw [List.getElem?_set_ne yz]; exact gz5
      have gt6 : (M5.set y (O.lst (arcs.map arcD ++ [arcD ⟨a.tl, a.hd, some r, (u, v)⟩])))[0]? = some (.tab "push" tq_push) := by rw [List.getElem?_set_ne (by omega)]; exact gt5
      have F6 : Feed (M5.set y (O.lst (arcs.map arcD ++ [arcD ⟨a.tl, a.hd, some r, (u, v)⟩]))) 3 2 := F5.kp (S := [y]) (Kp.set (by simp)) (by simp; omega) (by simp; omega)
      generalize M5.set y (O.lst (arcs.map arcD ++ [arcD ⟨a.tl, a.hd, some r, (u, v)⟩])) = M6 at *
      dsimp only
      refine x_drop (x_bm (x_var rfl (x_isL gz6 (x_cons (x_cb (x_cons (x_c (x_cons (x_c (x_nil (o_tup (Nat.le_of_ble_eq_true rfl) (x_nil (o_app gz6 (by rw [List.length_map, P.hb]; omega) ?_)))))))))))))
      refine hK' _ _ ⟨arcs ++ [⟨a.tl, a.hd, some r, (u, v)⟩], base ++ [(0, 0)], by rw [List.length_append]; simp only [List.length_cons, List.length_nil]; omega, by rw [List.length_append]; omega, P.add t1 t2 rfl hr ⟨by dsimp only; omega, by dsimp only; omega⟩ rm0G, ?_, ?_, ?_, F6.kp (S := [z]) (Kp.set (by simp)) (by simp; omega) (by simp; omega), by rw [List.getElem?_set_ne (by omega)]; exact gt6, _, _, _, _, _, rfl⟩
      · rw [List.getElem?_set_ne (Ne.symm xz)]; exact gx6
      · rw [List.getElem?_set_ne (Ne.symm yz), gy6, List.map_append]; rfl
      · rw [msame gz6, List.map_append]; rfl
  rintro ρ M3 ⟨arcs, base, hal, P, gx3, gy3, gz3, F3, gt3, o6, o7, o8, o9, o10, rfl⟩
  have hA := P.nd
  have hn := P.hn
  have hpr : ∀ a ∈ arcs, a.price.1.natAbs ≤ 1000 ∧ a.price.2.natAbs ≤ 10 := fun a h => ⟨(P.pr a h).1, (P.pr a h).2.1⟩
  with_reducible refine x_join (fun ρ M' => True) ?_ ?_
  rotate_left
  · rintro ρ M' _
    exact x_ret (x_c rfl)
  intro K hK
  refine x_for (x_rng (x_cons (x_c (x_nil ⟨by decide, ?_⟩))))
  refine for_ix (fun i ρ M' => M'[x]? = some (.lst (needs.map pD)) ∧ M'[y]? = some (.lst (arcs.map arcD)) ∧ M'[z]? = some (.lst (base.map pD)) ∧ Feed M' 3 2 ∧ M'[0]? = some (.tab "push" tq_push) ∧ ∃ o6 o11 o12 o13 o14 o15 o16 o17 o18, ρ = [some (.kl (ns.map .int)), some (.ref 3), some (pD (-1, 3)), some (.ref x), some (.ref y), some (.ref z), o6, o7, o8, o9, o10, o11, o12, o13, o14, o15, o16, o17, o18]) (fun _ _ _ _ => trivial) (fun ρ M' _ => hK _ _ trivial) ?_ ⟨gx3, gy3, gz3, F3, gt3, _, _, _, _, _, _, _, _, _, rfl⟩
  rintro i d ρ M4 K' hd ⟨gx4, gy4, gz4, F4, gt4, p6, p11, p12, p13, p14, p15, p16, p17, p18, rfl⟩ hK'
  obtain ⟨rfl, hi⟩ := rng_at hd
  refine x_nm ?_
  walk_at "sx"
  refine x_set (x_call (x_argsP (x_cons (x_var rfl (x_cons (x_var rfl (x_nil (x_len rfl rfl ?_))))))))
  refine lsettingG (pr := (-1, 3)) F4 (by decide) (by decide) fun M5 s k5 F5 hs => ?_
  dsimp only
  walk_at "sx"
  refine x_set (x_call (x_argsP (x_cons (x_var rfl (x_cons (x_var rfl (x_nil (x_len rfl rfl ?_))))))))
  refine lsettingG (pr := (-1, 3)) F5 (by decide) (by decide) fun M6 t k6 F6 ht => ?_
  have k46 := k5.trans k6
  have gx6 := k46.at_ _ _ (by simp; omega) gx4
  have gy6 := k46.at_ _ _ (by simp; omega) gy4
  have gz6 := k46.at_ _ _ (by simp; omega) gz4
  have gt6 := k46.at_ _ _ (by simp) gt4
  obtain ⟨q1, q2, q3⟩ := plG_facts (sa := false) (ta := false) P hs ht (fun e => by cases e) (fun e => by cases e)
  dsimp only
  walk_at "sx"
  refine x_set (x_op (x_call (x_argsP (x_cons (x_cb (x_cons (x_var rfl (x_nil (o_listL gx6 ?_)))))))))
  have k7 : Kp [] M6 (M6 ++ [O.lst (needs.map pD)]) := .app
  have gx7 := k7.at_ _ _ (by simp) gx6
  have gy7 := k7.at_ _ _ (by simp) gy6
  have gz7 := k7.at_ _ _ (by simp) gz6
  have gt7 := k7.at_ _ _ (by simp) gt6
  have hx7 : (M6 ++ [O.lst (needs.map pD)])[M6.length]? = some (.lst (needs.map pD)) := mnew
  have F7 := F6.kp k7 (by simp) (by simp)
  generalize M6.length = hx at *
  generalize M6 ++ [O.lst (needs.map pD)] = M7 at *
  refine x_cons (x_cb (x_cons (x_var rfl (x_nil (o_listL gy7 ?_)))))
  have k8 : Kp [] M7 (M7 ++ [O.lst (arcs.map arcD)]) := .app
  have gx8 := k8.at_ _ _ (by simp) gx7
  have gy8 := k8.at_ _ _ (by simp) gy7
  have gz8 := k8.at_ _ _ (by simp) gz7
  have gt8 := k8.at_ _ _ (by simp) gt7
  have hx8 := k8.at_ _ _ (by simp) hx7
  have hy8 : (M7 ++ [O.lst (arcs.map arcD)])[M7.length]? = some (.lst (arcs.map arcD)) := mnew
  have F8 := F7.kp k8 (by simp) (by simp)
  generalize M7.length = hy at *
  generalize M7 ++ [O.lst (arcs.map arcD)] = M8 at *
  refine x_cons (x_var rfl (x_cons (x_var rfl (x_nil (x_len rfl rfl ?_)))))
  refine l_best (it := 0) (sa := false) (ta := false) hs.se ht.se hn (by omega) (by omega) gt8 hx8 hy8 hA q1 q2 P.hb q3 P.bal fun M9 u v ms h k9 lu lv uv gu gv B => ?_
  refine x_c (o_ixT (v := .ref u) rfl ?_)
  have gx9 := k9.at_ _ _ (by simp) gx8
  have gy9 := k9.at_ _ _ (by simp) gy8
  have gz9 := k9.at_ _ _ (by simp) gz8
  have gt9 := k9.at_ _ _ (by simp) gt8
  have F9 := F8.kp k9 (by simp) (by simp)
  have ds : s.den ≤ 5 := hs.d
  have dt : t.den ≤ 5 := ht.d
  have d25 : s.den * t.den ≤ 5 * 5 := Nat.mul_le_mul ds dt
  have dc : ∀ {ns : List Mo}, (costQ s t arcs ns).den < 2 ^ 32 := fun {ns} => by
    have := DD.le (Nat.mul_pos s.den_pos t.den_pos) (DD_cost (s := s) (t := t) (as := arcs) (ms := ns)); omega
  dsimp only
  walk_at "sx"
  refine x_set (x_call (x_argsP (x_cons (x_var rfl (x_cons (x_var rfl (x_cons (x_var rfl (x_cons (x_var rfl (x_nil (x_len rfl rfl ?_))))))))))))
  refine l_Lprice hs.se ds dt ht.n (by omega) B.len hpr gy9 gu ?_
  dsimp only
  walk_at "sx"
  refine x_ifS (x_tru (x_call (x_argsP (x_cons (x_call (x_argsP (x_cons (x_var rfl (x_cons (x_var rfl (x_cons (x_var rfl (x_cons (x_var rfl (x_nil (x_len rfl rfl ?_))))))))))))))))
  refine l_Lprice hs.se ds dt ht.n (by omega) P.hb hpr gy9 gz9 ?_
  refine x_cons (x_var rfl (x_nil (x_len rfl rfl ?_)))
  refine llt dc dc (o_truB ?_)
  have least := best_least hA B P.hb q3 P.bal
  refine if_d (fun q => ?_) (fun _ => x_next ?_)
  · have := (cost_lt (sa := false) (ta := false)).mp q
    omega
  dsimp only
  with_reducible refine x_join (fun ρ M' => Kp [] M9 M' ∧ ∃ o16, ρ = [some (.kl (ns.map .int)), some (.ref 3), some (pD (-1, 3)), some (.ref x), some (.ref y), some (.ref z), p6, o7, o8, o9, o10, some (.int (i : Nat)), some (qD s), some (qD t), some (.ref u), some (qD (costQ s t arcs ms)), o16, p17, p18]) ?_ ?_
  · intro K2 hK2
    refine x_for (x_iseq (x_call (x_argsP (x_cons (x_var rfl (x_cons (x_var rfl (x_cons (x_var rfl (x_nil (x_len rfl rfl ?_)))))))))))
    refine l_Lleft hn B.len (by omega) hA gx9 gy9 gu fun M10 w left k10 lw g10 hl2 bal => ?_
    refine iseqL g10 ?_
    have zero : ∀ v ∈ left, worthG v s = 0 := fun v hv => by
      obtain ⟨j, hj⟩ := List.mem_iff_getElem?.mp hv
      have hjl := (List.getElem?_eq_some_iff.mp hj).1
      have e := dotM_one (xs := left) (k := 0) hj
      have b := bal (ind fun v => v == 0 + j)
      rw [e] at b
      have mt := B.met (ind fun v => v == 0 + j) (by unfold ind; rw [if_neg (by simp; omega)]) (by unfold ind; rw [if_neg (by simp; omega)])
      have z : MV.rI (sg s false) v = 0 := by
        have m1 := congrArg Prod.fst mt
        have m2 : MV.rI (sg s false) (exW (ind fun v => v == 0 + j) arcs ms) = MV.rI (sg s false) (dotM (ind fun v => v == 0 + j) 0 needs) := m1
        rw [b, rI_take]
        omega
      rw [worthG_rI (ah := false), z, Rat.intCast_zero, Rat.div_def, Rat.zero_mul]
    refine for_inv (fun l ρ M' => ∃ rest : List Mo, l = rest.map pD ∧ (∀ v ∈ rest, v ∈ left) ∧ M10 = M' ∧ ∃ o16, ρ = [some (.kl (ns.map .int)), some (.ref 3), some (pD (-1, 3)), some (.ref x), some (.ref y), some (.ref z), p6, o7, o8, o9, o10, some (.int (i : Nat)), some (qD s), some (qD t), some (.ref u), some (qD (costQ s t arcs ms)), o16, p17, p18]) ?_ ?_ ?_ ⟨left, rfl, (fun _ h => h), rfl, _, rfl⟩
    · rintro l ρ M' ⟨_, _, _, rfl, _⟩
      exact g10
    · rintro ρ M' ⟨_, _, _, rfl, h3⟩
      exact hK2 _ _ ⟨k10, h3⟩
    · rintro d l ρ M' K3 ⟨rest, h3, h4, rfl, o16, rfl⟩ hK3
      cases rest with
      | nil => cases h3
      | cons mv rest =>
        rw [List.map_cons] at h3
        injection h3 with h3 h3'
        subst h3 h3'
        refine x_nm ?_
        refine x_ifS (x_b (x_op (x_call (x_argsP (x_cons (x_var rfl (x_cons (x_var rfl (x_nil (x_len rfl rfl ?_))))))))))
        refine latS hs.se ?_
        refine x_cb (x_cons (x_c (x_cons (x_c (x_nil (o_tup (Nat.le_of_ble_eq_true rfl) ?_))))))
        rw [zero mv (h4 mv (by simp))]
        refine neG_pD (x := (0, 1)) (m := (0, 1)) ?_
        refine if_n (fun q => (q rfl).elim) (fun _ => x_next ?_)
        exact hK3 _ _ ⟨rest, rfl, fun v hv => h4 v (by simp [hv]), rfl, _, rfl⟩
  rintro ρ M10 ⟨k10, o16, rfl⟩
  have gx10 := k10.at_ _ _ (by simp) gx9
  have gy10 := k10.at_ _ _ (by simp) gy9
  have gz10 := k10.at_ _ _ (by simp) gz9
  have gt10 := k10.at_ _ _ (by simp) gt9
  have gu10 := k10.at_ _ _ (by simp) gu
  have F10 := F9.kp k10 (by simp) (by simp)
  have lms : ms.length = base.length := by rw [B.len, P.hb]
  have lsum : (sumM ms base).length = arcs.length := by rw [sumM_len lms, B.len]
  walk_at "sx"
  refine x_set (x_lc (x_rng (x_cons (x_cb (x_cons (x_var rfl (x_nil (o_lenL gy10 (x_nil ?_)))))))))
  rw [List.length_map]
  refine ⟨by omega, ?_⟩
  rw [show ((arcs.length : Nat) : Int).toNat = arcs.length by omega]
  refine lc_ix (fun j acc M' => acc = ((sumM ms base).take j).map pD ∧ Kp [] M10 M') (fun _ _ _ _ => trivial) ?_ ?_ (by rw [rng_len]; omega) mnew ⟨rfl, .app⟩
  · rintro j d acc M' K2 hd hM ⟨rfl, k'⟩ hK2
    obtain ⟨rfl, hj⟩ := rng_at hd
    obtain ⟨m, hm⟩ : ∃ m, ms[j]? = some m := ⟨_, List.getElem?_eq_getElem (by have := B.len; omega)⟩
    obtain ⟨b, hb⟩ : ∃ b, base[j]? = some b := ⟨_, List.getElem?_eq_getElem (by have := P.hb; omega)⟩
    have gu' := k'.at_ _ _ (by simp) gu10
    have gz' := k'.at_ _ _ (by simp) gz10
    refine x_cb (x_cons (x_op (x_op (x_op (x_var rfl (x_var rfl (o_ixL gu' (ms_at hm) (x_c (o_pD0 (x_op (x_op (x_var rfl (x_var rfl (o_ixL gz' (ms_at hb) (x_c (o_pD0 (o_add ?_)))))))))))))))))
    refine x_cons (x_op (x_op (x_op (x_var rfl (x_var rfl (o_ixL gu' (ms_at hm) (x_c (o_pD1 (x_op (x_op (x_var rfl (x_var rfl (o_ixL gz' (ms_at hb) (x_c (o_pD1 (o_add (x_nil (o_tup (Nat.le_of_ble_eq_true rfl) ?_))))))))))))))))))
    refine hK2 _ _ hM ⟨?_, k'.setNew (Nat.le_refl _)⟩
    rw [List.take_succ, sumM_at hm hb, List.map_append]; rfl
  rintro acc M11 hM ⟨rfl, k11⟩
  rw [rng_len, ← lsum, List.take_length] at hM
  have gy11 := k11.at_ _ _ (by simp) gy10
  dsimp only
  walk_at "sx"
  refine x_set (x_call (x_argsP (x_cons (x_call (x_argsP (x_cons (x_var rfl (x_cons (x_var rfl (x_cons (x_var rfl (x_cons (x_var rfl (x_nil (x_len rfl rfl ?_)))))))))))))))
  refine l_Lprice hs.se ds dt ht.n (by omega) lsum hpr gy11 hM ?_
  refine x_cons (x_cb (x_cons (x_c (x_cons (x_c (x_nil (o_tup (Nat.le_of_ble_eq_true rfl) ?_)))))))
  refine x_nil (x_len rfl rfl ?_)
  rw [half_qG]
  refine ltimes dc (by decide +kernel) (by decide +kernel) ?_
  dsimp only
  have dh : (costQ s t arcs (sumM ms base) * (1 / 2)).den < 2 ^ 32 := by
    have h2 : DD 2 ((1 / 2 : Rat)) := by unfold DD; decide +kernel
    have := DD.le (Nat.mul_pos (Nat.mul_pos s.den_pos t.den_pos) (by decide : 0 < 2)) (DD.mul (Nat.mul_pos s.den_pos t.den_pos) (by decide) (DD_cost (s := s) (t := t) (as := arcs) (ms := sumM ms base)) h2)
    omega
  refine x_ifS (x_tru (x_call (x_argsP (x_cons (x_var rfl (x_cons (x_var rfl (x_nil (x_len rfl rfl ?_)))))))))
  refine llt dh dc (o_truB ?_)
  refine if_d (fun q => ?_) (fun _ => x_next ?_)
  · exfalso
    have e : costQ s t arcs (sumM ms base) = costQ s t arcs ms + costQ s t arcs base := by
      rw [cost_QI (sa := false) (ta := false), cost_QI (sa := false) (ta := false) (ms := ms), cost_QI (sa := false) (ta := false) (ms := base), cost_sum B.len P.hb, Rat.intCast_add]
      grind
    have nl : ¬ costQ s t arcs base < costQ s t arcs ms := fun h => by
      have := (cost_lt (sa := false) (ta := false)).mp h
      omega
    rw [e] at q
    grind
  · have k411 := k10.trans k11
    exact hK' _ _ ⟨k411.at_ _ _ (by simp) gx9, k411.at_ _ _ (by simp) gy9, k411.at_ _ _ (by simp) gz9, F9.kp k411 (by simp) (by simp), k411.at_ _ _ (by simp) gt9, _, _, _, _, _, _, _, _, _, rfl⟩
end Prf

theorem PySem.Challenge.cw_dialweir_k38_whole_nothing_cheaper_on_a_holds : PySem.Challenge.rw_dialweir_k38_whole_nothing_cheaper_on_a.Holds :=
  Prf.cw_pre Prf.law_holds
